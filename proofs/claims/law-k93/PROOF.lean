import PyProof.Rows.All
import Wide.All
import OpenK.AllK
import Wide.FinOn
import HandS.ForMost
import HandS.Exc
import HandS.TryOnly
import HandS.ExcOwn
import HandS.WordsExc
import HandS.CallSlots
import HandS.Lambda
import HandS.ExcIs
import HandS.WordsDict
import HandS.IsInst
import HandS.SortInts
import HandS.SortKw
import HandS.Conv
import KE.DatumOrd
import HandS.Defaults
import HandS.SortRule
import HandS.Dict
import HandS.Iter
import HandS.Wide
import PyProof.NeKinds
import PyProof.EqAt
import HandS.EndTab
import HandS.DictSubView
import KE.SortData
import HandS.DictTup
import PyProof.Claim2Refuses
import PySem.Challenge.RW_pieceways_k93_whole_overlaps_by_the_rule
set_option Elab.async false
set_option linter.all false
set_option maxRecDepth 100000
set_option autoImplicit false
namespace DL
open PySem PySem.Spec PyProof.Rows L2

/-! ### data -/
/-- data: what a value is, without addresses; cel n: the object of the n-th cell -/
inductive D where
  | non | bl (b : Bool) | int (i : Int) | str (s : Str)
  | lst (l : List D) | tup (l : List D) | obj (c : Nat) (l : List D)
  | cel (n : Nat) | opq (k : Nat) (l : List D) | scr (l : List D) | ktp (l : List D)
/-- what a cell holds -/
inductive O where
  | lst (l : List D) | dk (l : List (Key × D)) | dt (l : List (List Key × D)) | obj (c : Nat) (l : List D)
/-- the cells -/
structure Cells where
  nx : Nat
  get : Nat → Option O
  wf : ∀ n, nx ≤ n → get n = none
inductive Res (α : Type) where
  | ok (a : α) (C : Cells) | err (c : Nat) (C : Cells) | no
/-- a statement's end -/
inductive SRes where
  | nxt (s : List (Option D)) (C : Cells) | ret (d : D) (C : Cells) | brk (s : List (Option D)) (C : Cells) | cnt (s : List (Option D)) (C : Cells)
  | err (c : Nat) (s : List (Option D)) (C : Cells) | no
abbrev Sl := List (Option D)
abbrev EF := Sl → Cells → Res D
abbrev AF := Sl → Cells → Res (List D)
abbrev TF := Sl → Cells → Res Bool
abbrev SF := Sl → Cells → SRes
abbrev Fn := List D → Cells → Res D

theorem Cells.ext' : ∀ {A B : Cells}, A.nx = B.nx → (∀ n, A.get n = B.get n) → A = B
  | ⟨n, g, w⟩, ⟨m, k, u⟩, h1, h2 => by
    have e1 : n = m := h1
    have e2 : g = k := funext h2
    subst e1; subst e2; rfl
/-- an object is changed (where one stands) -/
def Cells.set (C : Cells) (n : Nat) (o : O) : Cells := ⟨C.nx, fun m => if m = n then (C.get n).map (fun _ => o) else C.get m, fun m hm => by
  by_cases e : m = n
  · subst e; rw [if_pos rfl, C.wf _ hm]; rfl
  · rw [if_neg e]; exact C.wf m hm⟩
def Cells.new (C : Cells) (o : O) : Cells := ⟨C.nx + 1, fun m => if m = C.nx then some o else C.get m, fun m hm => by
  have : m ≠ C.nx := by omega
  rw [if_neg this]; exact C.wf m (by omega)⟩
def Cells.del (C : Cells) (n : Nat) : Cells := ⟨C.nx, fun m => if m = n then none else C.get m, fun m hm => by
  split
  · rfl
  · exact C.wf m hm⟩
def Cells.bump (C : Cells) (k : Nat) : Cells := ⟨C.nx + k, C.get, fun m hm => C.wf m (by omega)⟩
section
variable {C : Cells} {n m k : Nat} {o o' : O}
theorem Cells.lt (h : C.get n = some o) : n < C.nx := by
  by_cases q : n < C.nx
  · exact q
  · rw [C.wf n (by omega)] at h; cases h
@[simp] theorem get_bump : (C.bump k).get n = C.get n := rfl
@[simp] theorem nx_bump : (C.bump k).nx = C.nx + k := rfl
@[simp] theorem nx_set : (C.set n o).nx = C.nx := rfl
@[simp] theorem nx_new : (C.new o).nx = C.nx + 1 := rfl
@[simp] theorem nx_del : (C.del n).nx = C.nx := rfl
@[simp] theorem get_new : (C.new o).get C.nx = some o := if_pos rfl
theorem get_new_ne (h : n ≠ C.nx) : (C.new o).get n = C.get n := if_neg h
theorem get_new_old (h : C.get n = some o') : (C.new o).get n = some o' := by rw [get_new_ne (Nat.ne_of_lt (Cells.lt h))]; exact h
theorem get_set (h : C.get n = some o') : (C.set n o).get n = some o := by show (if n = n then (C.get n).map (fun _ => o) else C.get n) = _; rw [if_pos rfl, h]; rfl
theorem get_set_ne (h : m ≠ n) : (C.set n o).get m = C.get m := if_neg h
@[simp] theorem get_del : (C.del n).get n = none := if_pos rfl
theorem get_del_ne (h : m ≠ n) : (C.del n).get m = C.get m := if_neg h
@[simp] theorem bump_set : (C.bump k).set n o = (C.set n o).bump k := rfl
@[simp] theorem bump_bump {j : Nat} : (C.bump k).bump j = C.bump (k + j) := Cells.ext' (by simp; omega) fun _ => rfl
@[simp] theorem bump_del : (C.bump k).del n = (C.del n).bump k := rfl
@[simp] theorem bump_zero : C.bump 0 = C := rfl
@[simp] theorem set_set : (C.set n o).set n o' = C.set n o' := Cells.ext' rfl fun m => by
  show (if m = n then Option.map _ (if n = n then (C.get n).map (fun _ => o) else C.get n) else if m = n then _ else C.get m) = if m = n then _ else C.get m
  by_cases e : m = n
  · rw [if_pos e, if_pos e, if_pos rfl]; cases C.get n <;> rfl
  · rw [if_neg e, if_neg e, if_neg e]
@[simp] theorem new_set : (C.new o).set C.nx o' = C.new o' := Cells.ext' rfl fun m => by
  show (if m = C.nx then Option.map (fun _ => o') (if C.nx = C.nx then some o else C.get C.nx) else if m = C.nx then some o else C.get m) = if m = C.nx then some o' else C.get m
  by_cases e : m = C.nx
  · rw [if_pos e, if_pos e, if_pos rfl]; rfl
  · rw [if_neg e, if_neg e, if_neg e]
theorem new_set_old (h : n ≠ C.nx) : (C.new o).set n o' = (C.set n o').new o := Cells.ext' rfl fun m => by
  show (if m = n then Option.map (fun _ => o') (if n = C.nx then some o else C.get n) else if m = C.nx then some o else C.get m) = if m = C.nx then some o else if m = n then (C.get n).map (fun _ => o') else C.get m
  rw [if_neg h]
  by_cases e : m = n
  · subst e; rw [if_pos rfl, if_neg h, if_pos rfl]
  · rw [if_neg e, if_neg e]
@[simp] theorem new_del : (C.new o).del C.nx = C.bump 1 := Cells.ext' rfl fun m => by
  show (if m = C.nx then none else if m = C.nx then some o else C.get m) = C.get m
  by_cases e : m = C.nx
  · rw [if_pos e, e]; exact (C.wf _ (Nat.le_refl _)).symm
  · rw [if_neg e, if_neg e]
theorem set_comm (h : n ≠ m) : (C.set n o).set m o' = (C.set m o').set n o := Cells.ext' rfl fun q => by
  show (if q = m then Option.map (fun _ => o') (if m = n then _ else C.get m) else if q = n then _ else C.get q) = if q = n then Option.map (fun _ => o) (if n = m then _ else C.get n) else if q = m then _ else C.get q
  rw [if_neg h, if_neg (Ne.symm h)]
  by_cases e : q = m
  · subst e; rw [if_pos rfl, if_neg (Ne.symm h), if_pos rfl]
  · rw [if_neg e, if_neg e]
theorem set_same (h : C.get n = some o) : C.set n o = C := Cells.ext' rfl fun q => by
  show (if q = n then (C.get n).map (fun _ => o) else C.get q) = _
  by_cases e : q = n
  · subst e; rw [if_pos rfl, h]; rfl
  · rw [if_neg e]
end

/-! ### the tables: the classes' field names (by number), the names themselves -/
structure Tab where
  ncl : Nat
  fl : Nat → List Nat
  nm : Nat → Str
/-- the known part of the heap (never written), where the cells stand -/
structure Wd where
  F : Hp
  cm : Nat → Option Addr
/-- tb: the tables of code objects, with the names of what stands in them; W0: the world that all worlds go on from -/
structure Glo where
  K : PySem.W.Frag
  T : Tab
  cls : Nat → Addr
  oq : Nat → List V → Addr → HO
  tb : List (Addr × Str) := []
  W0 : Wd := ⟨fun _ => none, fun _ => none⟩
/-- the fields of an object by name -/
def flds (T : Tab) (c : Nat) (vs : List V) : List (Str × V) := ((T.fl c).map T.nm).zip vs

mutual
def RepV (G : Glo) (W : Wd) : D → V → Prop
  | .non, v => v = .non
  | .bl b, v => v = .bl b
  | .int i, v => v = .int i
  | .str s, v => v = .str s
  | .lst ds, v => ∃ a vs, v = .ref a ∧ W.F a = some (.lst vs) ∧ RepVs G W ds vs
  | .scr ds, v => ∃ a vs, v = .ref a ∧ SqL G.K W.F a vs ∧ RepVs G W ds vs
  | .tup ds, v => ∃ a vs, v = .ref a ∧ W.F a = some (.tup vs) ∧ RepVs G W ds vs
  | .ktp ds, v => ∃ a vs, v = .ref a ∧ SqT G.K W.F a vs ∧ RepVs G W ds vs
  | .obj c ds, v => ∃ a dx vs, v = .ref a ∧ W.F a = some (.ins (G.cls c) dx (flds G.T c vs)) ∧ RepVs G W ds vs ∧ ds.length = (G.T.fl c).length
  | .cel n, v => ∃ a, v = .ref a ∧ W.cm n = some a
  | .opq k ds, v => ∃ a vs, v = .ref a ∧ W.F a = some (G.oq k vs a) ∧ RepVs G W ds vs
def RepVs (G : Glo) (W : Wd) : List D → List V → Prop
  | [], vs => vs = []
  | d :: r, vs => ∃ v vr, vs = v :: vr ∧ RepV G W d v ∧ RepVs G W r vr
end

/-- a later world -/
structure Wd.le (W W' : Wd) : Prop where
  F : ∀ a o, W.F a = some o → W'.F a = some o
  cm : ∀ n a, W.cm n = some a → W'.cm n = some a
theorem Wd.le.refl {W : Wd} : W.le W := ⟨fun _ _ h => h, fun _ _ h => h⟩
theorem Wd.le.trans {W W1 W2 : Wd} (a : W.le W1) (b : W1.le W2) : W.le W2 := ⟨fun x o h => b.F x o (a.F x o h), fun n x h => b.cm n x (a.cm n x h)⟩

section
variable {K : PySem.W.Frag} {H H' : Hp} {a : Addr} {vs : List V}
theorem SqL.up (k : ∀ a o, H a = some o → H' a = some o) (h : SqL K H a vs) : SqL K H' a vs := by
  rcases h with (h | ⟨o, h⟩) | h
  · exact .inl (.inl (k _ _ h))
  · exact .inl (.inr ⟨o, k _ _ h⟩)
  · exact .inr h
theorem SqT.up (k : ∀ a o, H a = some o → H' a = some o) (h : SqT K H a vs) : SqT K H' a vs := by
  rcases h with (h | ⟨o, h⟩) | h
  · exact .inl (.inl (k _ _ h))
  · exact .inl (.inr ⟨o, k _ _ h⟩)
  · exact .inr h
end

section
variable {G : Glo} {W W' : Wd}
mutual
theorem RepV.up (k : W.le W') : ∀ {d : D} {v : V}, RepV G W d v → RepV G W' d v
  | .non, _, h => by unfold RepV at h ⊢; exact h
  | .bl _, _, h => by unfold RepV at h ⊢; exact h
  | .int _, _, h => by unfold RepV at h ⊢; exact h
  | .str _, _, h => by unfold RepV at h ⊢; exact h
  | .lst ds, _, h => by
    unfold RepV at h ⊢
    obtain ⟨a, vs, e, s, r⟩ := h
    exact ⟨a, vs, e, k.F _ _ s, RepVs.up k r⟩
  | .scr ds, _, h => by
    unfold RepV at h ⊢
    obtain ⟨a, vs, e, s, r⟩ := h
    exact ⟨a, vs, e, SqL.up k.F s, RepVs.up k r⟩
  | .tup ds, _, h => by
    unfold RepV at h ⊢
    obtain ⟨a, vs, e, s, r⟩ := h
    exact ⟨a, vs, e, k.F _ _ s, RepVs.up k r⟩
  | .ktp ds, _, h => by
    unfold RepV at h ⊢
    obtain ⟨a, vs, e, s, r⟩ := h
    exact ⟨a, vs, e, SqT.up k.F s, RepVs.up k r⟩
  | .obj c ds, _, h => by
    unfold RepV at h ⊢
    obtain ⟨a, dx, vs, e, s, r, l⟩ := h
    exact ⟨a, dx, vs, e, k.F _ _ s, RepVs.up k r, l⟩
  | .cel n, _, h => by
    unfold RepV at h ⊢
    obtain ⟨a, e, s⟩ := h
    exact ⟨a, e, k.cm _ _ s⟩
  | .opq c ds, _, h => by
    unfold RepV at h ⊢
    obtain ⟨a, vs, e, s, r⟩ := h
    exact ⟨a, vs, e, k.F _ _ s, RepVs.up k r⟩
theorem RepVs.up (k : W.le W') : ∀ {ds : List D} {vs : List V}, RepVs G W ds vs → RepVs G W' ds vs
  | [], _, h => by unfold RepVs at h ⊢; exact h
  | d :: r, _, h => by
    unfold RepVs at h ⊢
    obtain ⟨v, vr, e, s, t⟩ := h
    exact ⟨v, vr, e, RepV.up k s, RepVs.up k t⟩
end
theorem RepVs.nil : RepVs G W [] [] := by unfold RepVs; rfl
theorem RepVs.cons {d : D} {v : V} {ds : List D} {vs : List V} (h : RepV G W d v) (t : RepVs G W ds vs) : RepVs G W (d :: ds) (v :: vs) := by
  unfold RepVs; exact ⟨v, vs, rfl, h, t⟩
theorem RepVs.nil_inv {vs : List V} (h : RepVs G W [] vs) : vs = [] := by unfold RepVs at h; exact h
theorem RepVs.cons_inv {d : D} {ds : List D} {vs : List V} (h : RepVs G W (d :: ds) vs) : ∃ v vr, vs = v :: vr ∧ RepV G W d v ∧ RepVs G W ds vr := by
  unfold RepVs at h; exact h
theorem RepVs.length : ∀ {ds : List D} {vs : List V}, RepVs G W ds vs → ds.length = vs.length
  | [], _, h => by rw [h.nil_inv]; rfl
  | d :: r, _, h => by
    obtain ⟨v, vr, rfl, _, t⟩ := h.cons_inv
    simp [t.length]
theorem RepVs.get : ∀ {ds : List D} {vs : List V} {i : Nat} {d : D}, RepVs G W ds vs → ds[i]? = some d → ∃ v, vs[i]? = some v ∧ RepV G W d v
  | [], _, _, _, _, e => by simp at e
  | x :: r, _, 0, d, h, e => by
    obtain ⟨v, vr, rfl, s, t⟩ := h.cons_inv
    simp at e; subst e
    exact ⟨v, rfl, s⟩
  | x :: r, _, i + 1, d, h, e => by
    obtain ⟨v, vr, rfl, s, t⟩ := h.cons_inv
    obtain ⟨u, h1, h2⟩ := RepVs.get (i := i) (d := d) t (by simpa using e)
    exact ⟨u, by simpa using h1, h2⟩
theorem RepVs.get' : ∀ {ds : List D} {vs : List V} {i : Nat} {v : V}, RepVs G W ds vs → vs[i]? = some v → ∃ d, ds[i]? = some d ∧ RepV G W d v
  | [], _, _, _, h, e => by rw [h.nil_inv] at e; simp at e
  | x :: r, _, 0, v, h, e => by
    obtain ⟨u, vr, rfl, s, t⟩ := h.cons_inv
    simp at e; subst e
    exact ⟨x, rfl, s⟩
  | x :: r, _, i + 1, v, h, e => by
    obtain ⟨u, vr, rfl, s, t⟩ := h.cons_inv
    obtain ⟨d, h1, h2⟩ := RepVs.get' (i := i) (v := v) t (by simpa using e)
    exact ⟨d, by simpa using h1, h2⟩
theorem RepVs.append : ∀ {ds es : List D} {vs us : List V}, RepVs G W ds vs → RepVs G W es us → RepVs G W (ds ++ es) (vs ++ us)
  | [], _, _, _, h, q => by rw [h.nil_inv]; exact q
  | d :: r, _, _, _, h, q => by
    obtain ⟨v, vr, rfl, s, t⟩ := h.cons_inv
    exact .cons s (t.append q)
theorem RepVs.set : ∀ {ds : List D} {vs : List V} {d : D} {v : V} (i : Nat), RepVs G W ds vs → RepV G W d v → RepVs G W (ds.set i d) (vs.set i v)
  | [], _, _, _, _, h, _ => by rw [h.nil_inv]; exact .nil
  | x :: r, _, _, _, 0, h, q => by
    obtain ⟨v, vr, rfl, s, t⟩ := h.cons_inv
    exact .cons q t
  | x :: r, _, _, _, i + 1, h, q => by
    obtain ⟨v, vr, rfl, s, t⟩ := h.cons_inv
    exact .cons s (t.set i q)
theorem RepVs.take : ∀ {ds : List D} {vs : List V} (n : Nat), RepVs G W ds vs → RepVs G W (ds.take n) (vs.take n)
  | _, _, 0, _ => .nil
  | [], _, n + 1, h => by rw [h.nil_inv]; exact .nil
  | d :: r, _, n + 1, h => by
    obtain ⟨v, vr, rfl, s, t⟩ := h.cons_inv
    exact .cons s (t.take n)
theorem RepVs.drop : ∀ {ds : List D} {vs : List V} (n : Nat), RepVs G W ds vs → RepVs G W (ds.drop n) (vs.drop n)
  | _, _, 0, h => h
  | [], _, n + 1, h => by rw [h.nil_inv]; exact .nil
  | d :: r, _, n + 1, h => by
    obtain ⟨v, vr, rfl, s, t⟩ := h.cons_inv
    exact t.drop n
end

/-! ### the state -/
def RepKV {κ : Type} (G : Glo) (W : Wd) : List (κ × D) → List (κ × V) → Prop := Paired fun (p : κ × D) (q : κ × V) => p.1 = q.1 ∧ RepV G W p.2 q.2
def RepO (G : Glo) (W : Wd) : O → HO → Prop
  | .lst ds, h => ∃ vs, h = .lst vs ∧ RepVs G W ds vs
  | .dk ds, h => ∃ vs, h = .dK vs ∧ RepKV G W ds vs
  | .dt ds, h => ∃ vs, h = .dT vs ∧ RepKV G W ds vs
  | .obj c ds, h => ∃ dx vs, h = .ins (G.cls c) dx (flds G.T c vs) ∧ RepVs G W ds vs ∧ ds.length ≤ (G.T.fl c).length
theorem RepKV.up {κ : Type} {G : Glo} {W W' : Wd} (k : W.le W') {l : List (κ × D)} {m : List (κ × V)} (h : RepKV G W l m) : RepKV G W' l m :=
  Paired.mapP h fun _ _ q => ⟨q.1, q.2.up k⟩
theorem RepO.up {G : Glo} {W W' : Wd} (k : W.le W') : ∀ {o : O} {h : HO}, RepO G W o h → RepO G W' o h
  | .lst _, _, ⟨vs, e, r⟩ => ⟨vs, e, r.up k⟩
  | .dk _, _, ⟨vs, e, r⟩ => ⟨vs, e, RepKV.up k r⟩
  | .dt _, _, ⟨vs, e, r⟩ => ⟨vs, e, RepKV.up k r⟩
  | .obj _ _, _, ⟨dx, vs, e, r, l⟩ => ⟨dx, vs, e, r.up k, l⟩
/-- neither a table nor a thing known by a sentence, nor a tuple (a tuple may become known later) -/
def Pla (o : HO) : Prop := (∀ ps, o ≠ .tbl ps) ∧ (∀ φ, o ≠ .ext φ) ∧ ∀ xs, o ≠ .tup xs
theorem RepO.pla {G : Glo} {W : Wd} : ∀ {o : O} {h : HO}, RepO G W o h → Pla h
  | .lst _, _, ⟨_, e, _⟩ => by subst e; exact ⟨fun _ z => (nomatch z), fun _ z => (nomatch z), fun _ z => (nomatch z)⟩
  | .dk _, _, ⟨_, e, _⟩ => by subst e; exact ⟨fun _ z => (nomatch z), fun _ z => (nomatch z), fun _ z => (nomatch z)⟩
  | .dt _, _, ⟨_, e, _⟩ => by subst e; exact ⟨fun _ z => (nomatch z), fun _ z => (nomatch z), fun _ z => (nomatch z)⟩
  | .obj _ _, _, ⟨_, _, e, _, _⟩ => by subst e; exact ⟨fun _ z => (nomatch z), fun _ z => (nomatch z), fun _ z => (nomatch z)⟩
theorem pla_lst {xs : List V} : Pla (.lst xs) := ⟨fun _ z => (nomatch z), fun _ z => (nomatch z), fun _ z => (nomatch z)⟩
/-- the tables of code objects; each code object is known -/
def Tbs (T : List (Addr × Str)) (W : Wd) (H : Hp) : Prop := (∀ a ps, W.F a ≠ some (.tbl ps)) ∧ ∀ p ∈ T, ∃ ps : Array Value, H p.1 = some (.tbl ps) ∧ TriplesOk ps.toList ∧
  ∀ (pos : Pos) (cv : Value), codeAmong pos ps.toList = some cv → ∃ c, cv = .ref c ∧ W.F c = some (LamX.CodeO c p.2)
/-- the cells as they stand in the heap -/
structure StR (G : Glo) (W : Wd) (C : Cells) (H : Hp) : Prop where
  lnk : G.W0.le W
  tb : Tbs G.tb W H
  F : ∀ a o, W.F a = some o → H a = some o
  cells : ∀ n o, C.get n = some o → ∃ a ho, W.cm n = some a ∧ W.F a = none ∧ H a = some ho ∧ RepO G W o ho
  inj : ∀ n m a o o', C.get n = some o → C.get m = some o' → W.cm n = some a → W.cm m = some a → n = m
  nx : ∀ n, C.nx ≤ n → W.cm n = none
/-- the addresses that the state speaks of -/
def Own (W : Wd) (C : Cells) (a : Addr) : Prop := (∃ o, W.F a = some o) ∨ ∃ n o, C.get n = some o ∧ W.cm n = some a
/-- from one state to a later one: what is known stays known, what is neither known nor a cell is not touched -/
structure Step (W : Wd) (C : Cells) (H : Hp) (W' : Wd) (C' : Cells) (H' : Hp) : Prop where
  le : W.le W'
  nx : C.nx ≤ C'.nx
  fr : ∀ a o, H a = some o → Pla o → ¬ Own W C a → H' a = some o ∧ ¬ Own W' C' a
theorem Step.refl {W : Wd} {C : Cells} {H : Hp} : Step W C H W C H := ⟨.refl, Nat.le_refl _, fun _ _ h _ n => ⟨h, n⟩⟩
theorem Step.trans {W W1 W2 : Wd} {C C1 C2 : Cells} {H H1 H2 : Hp} (a : Step W C H W1 C1 H1) (b : Step W1 C1 H1 W2 C2 H2) : Step W C H W2 C2 H2 :=
  ⟨a.le.trans b.le, Nat.le_trans a.nx b.nx, fun x o h z n => let ⟨h1, n1⟩ := a.fr x o h z n; b.fr x o h1 z n1⟩
section
variable {T : List (Addr × Str)} {W W' : Wd} {H : Hp}
theorem Tbs.new {p : Addr} {o : HO} (t : Tbs T W H) (hp : H p = none) : Tbs T W (upd H p o) := ⟨t.1, fun q hq => by
  obtain ⟨ps, h1, h2, h3⟩ := t.2 q hq
  exact ⟨ps, by rw [upd_ne (ne_of_none h1 hp)]; exact h1, h2, h3⟩⟩
theorem Tbs.put {p : Addr} {o u : HO} (t : Tbs T W H) (hp : H p = some u) (hu : Pla u) : Tbs T W (upd H p o) := ⟨t.1, fun q hq => by
  obtain ⟨ps, h1, h2, h3⟩ := t.2 q hq
  exact ⟨ps, by rw [upd_ne (ne_of h1 hp (Ne.symm (hu.1 ps)))]; exact h1, h2, h3⟩⟩
theorem Tbs.cm (t : Tbs T W H) (h : W'.F = W.F) : Tbs T W' H := by
  unfold Tbs at t ⊢
  rw [h]; exact t
/-- one thing more is known: no table -/
theorem Tbs.kn {p : Addr} {o : HO} (t : Tbs T W H) (hp : H p = some o) (ho : ∀ ps, o ≠ .tbl ps) (le : W.le ⟨upd W.F p o, W.cm⟩) : Tbs T ⟨upd W.F p o, W.cm⟩ H := ⟨fun a ps z => by
  have z' : upd W.F p o a = some (.tbl ps) := z
  by_cases e : a = p
  · subst e; rw [upd_same] at z'; exact ho ps (Option.some.inj z')
  · rw [upd_ne e] at z'; exact t.1 a ps z', fun q hq => by
  obtain ⟨ps, h1, h2, h3⟩ := t.2 q hq
  refine ⟨ps, h1, h2, fun pos cv e => ?_⟩
  obtain ⟨c, e1, e2⟩ := h3 pos cv e
  exact ⟨c, e1, le.F _ _ e2⟩⟩
end
/-- the slots -/
structure RepS (G : Glo) (W : Wd) (sl : Sl) (σ : L2.St) : Prop where
  len : sl.length = σ.length
  at_ : ∀ (i : Nat) (d : D), sl[i]? = some (some d) → ∃ v, σ[i]? = some (some v) ∧ RepV G W d v
theorem RepS.up {G : Glo} {W W' : Wd} {sl : Sl} {σ : L2.St} (k : W.le W') (h : RepS G W sl σ) : RepS G W' sl σ :=
  ⟨h.len, fun i d e => let ⟨v, h1, h2⟩ := h.at_ i d e; ⟨v, h1, h2.up k⟩⟩
theorem RepS.set {G : Glo} {W : Wd} {sl : Sl} {σ : L2.St} {d : D} {v : V} (h : RepS G W sl σ) (i : Nat) (r : RepV G W d v) : RepS G W (sl.set i (some d)) (σ.set i (some v)) := by
  refine ⟨by simp [h.len], fun j e hj => ?_⟩
  by_cases q : j = i
  · subst q
    have hlt : j < sl.length := by
      by_cases z : j < sl.length
      · exact z
      · rw [List.getElem?_eq_none (by simpa using z)] at hj; cases hj
    rw [List.getElem?_set_self hlt] at hj
    cases hj
    exact ⟨v, by rw [List.getElem?_set_self (by rw [← h.len]; exact hlt)], r⟩
  · rw [List.getElem?_set_ne (Ne.symm q)] at hj
    obtain ⟨u, h1, h2⟩ := h.at_ j e hj
    exact ⟨u, by rw [List.getElem?_set_ne (Ne.symm q)]; exact h1, h2⟩
theorem RepS.setN {G : Glo} {W : Wd} {sl : Sl} {σ : L2.St} {z : Option V} (h : RepS G W sl σ) (i : Nat) : RepS G W (sl.set i none) (σ.set i z) := by
  refine ⟨by simp [h.len], fun j e hj => ?_⟩
  by_cases q : j = i
  · subst q
    by_cases hlt : j < sl.length
    · rw [List.getElem?_set_self hlt] at hj; cases hj
    · rw [List.getElem?_eq_none (by simpa using hlt)] at hj; cases hj
  · rw [List.getElem?_set_ne (Ne.symm q)] at hj
    obtain ⟨u, h1, h2⟩ := h.at_ j e hj
    exact ⟨u, by rw [List.getElem?_set_ne (Ne.symm q)]; exact h1, h2⟩

/-! ### what is wanted behind a result -/
def Post {α β : Type} (G : Glo) (Wx : WX) (σ : L2.St) (R : Wd → α → β → Prop) (W : Wd) (C : Cells) (H : Hp) (r : Res α) (Q : β → Hp → Prop) : Prop :=
  match r with
  | .ok a C' => ∀ W' b H', Step W C H W' C' H' → StR G W' C' H' → R W' a b → Q b H'
  | .err c C' => ∀ W' H', Step W C H W' C' H' → StR G W' C' H' → Wx (.ref (G.cls c)) none σ H'
  | .no => False
def Res.bind {α β : Type} (r : Res α) (k : α → Cells → Res β) : Res β := match r with
  | .ok a C => k a C
  | .err c C => .err c C
  | .no => .no
section
variable {α β γ δ : Type} {G : Glo} {Wx : WX} {σ : L2.St} {R : Wd → α → β → Prop} {R' : Wd → γ → δ → Prop} {W W1 : Wd} {C C1 : Cells} {H H1 : Hp}
theorem Post.step {r : Res α} {Q : β → Hp → Prop} (s : Step W C H W1 C1 H1) (h : Post G Wx σ R W C H r Q) : Post G Wx σ R W1 C1 H1 r Q := by
  cases r with
  | ok a C' => exact fun W' b H' t => h W' b H' (s.trans t)
  | err c C' => exact fun W' H' t => h W' H' (s.trans t)
  | no => exact h
/-- one after another -/
theorem Post.bind {r : Res α} {k : α → Cells → Res γ} {Q : δ → Hp → Prop} {Q1 : β → Hp → Prop} (h : Post G Wx σ R' W C H (r.bind k) Q)
    (hk : ∀ a C1 W1 b H1, r = .ok a C1 → Step W C H W1 C1 H1 → StR G W1 C1 H1 → R W1 a b → Post G Wx σ R' W1 C1 H1 (k a C1) Q → Q1 b H1) : Post G Wx σ R W C H r Q1 := by
  cases r with
  | ok a C' => exact fun W' b H' t st rr => hk a C' W' b H' rfl t st rr (Post.step t h)
  | err c C' => exact h
  | no => exact h
theorem Post.map {r : Res α} {k : α → γ} {Q : δ → Hp → Prop} {Q1 : β → Hp → Prop} (h : Post G Wx σ R' W C H (r.bind fun a C => .ok (k a) C) Q)
    (hk : ∀ a W1 b H1, R W1 a b → (∀ b', R' W1 (k a) b' → Q b' H1) → Q1 b H1) : Post G Wx σ R W C H r Q1 :=
  h.bind fun a C1 W1 b H1 _ _ st rr q => hk a W1 b H1 rr fun b' r' => q W1 b' H1 .refl st r'
end

/-! ### the judgements -/
def tR {α β : Type} (G : Glo) (Wx : WX) (R : Wd → α → β → Prop) (f : Sl → Cells → Res α)   : L2.St → Hp → (β → Hp → Prop) → Prop := fun σ H Q =>
  ∃ W sl C, RepS G W sl σ ∧ StR G W C H ∧ Post G Wx σ R W C H (f sl C) Q
abbrev tD (G : Glo) (Wx : WX) (f : EF) : TE := tR G Wx (RepV G) f
abbrev tAr (G : Glo) (Wx : WX) (f : AF) : TA := tR G Wx (RepVs G) f
abbrev tTs (G : Glo) (Wx : WX) (f : TF) : TT := tR G Wx (fun _ a b => a = b) f
structure DE (X : Cx) (G : Glo) (Wx : WX) (e : Expr) (f : EF) : Prop where
  pe : PE X e (tD G Wx f)
structure DA (X : Cx) (G : Glo) (Wx : WX) (es : List Expr) (f : AF) : Prop where
  pa : PA X es (tAr G Wx f)
structure DT (X : Cx) (G : Glo) (Wx : WX) (e : Expr) (f : TF) : Prop where
  pt : PT X e (tTs G Wx f)
structure DW (X : Cx) (G : Glo) (Wx : WX) (e : Expr) (f : TF) : Prop where
  pw : PW X e (tTs G Wx f)
theorem PE.weak {X : Cx} {e : Expr} {t t' : TE} (h : PE X e t) (w : ∀ σ H Q, t' σ H Q → t σ H Q) : PE X e t' := ⟨fun pins s σ H Q I q => h.run pins s σ H Q I (w σ H Q q)⟩
theorem PT.weak {X : Cx} {e : Expr} {t t' : TT} (h : PT X e t) (w : ∀ σ H Q, t' σ H Q → t σ H Q) : PT X e t' := ⟨fun pins s σ H Q I q => h.run pins s σ H Q I (w σ H Q q)⟩
theorem PW.weak {X : Cx} {e : Expr} {t t' : TT} (h : PW X e t) (w : ∀ σ H Q, t' σ H Q → t σ H Q) : PW X e t' := ⟨fun wh pins s σ H Q I q => h.run wh pins s σ H Q I (w σ H Q q)⟩
theorem PA.weak {X : Cx} {es : List Expr} {t t' : TA} (h : PA X es t) (w : ∀ σ H Q, t' σ H Q → t σ H Q) : PA X es t' := ⟨fun pos pins s σ H Q I q => h.run pos pins s σ H Q I (w σ H Q q)⟩
theorem PS.weak {X : Cx} {st : Stmt} {t t' : TS} (h : PS X st t) (w : ∀ D σ H, t' D σ H → t D σ H) : PS X st t' := ⟨fun pins s σ H D I q => h.run pins s σ H D I (w D σ H q)⟩
theorem PSs.weak {X : Cx} {st : List Stmt} {t t' : TS} (h : PSs X st t) (w : ∀ D σ H, t' D σ H → t D σ H) : PSs X st t' := ⟨fun pins s σ H D I q => h.run pins s σ H D I (w D σ H q)⟩
/-- behind a statement -/
def SPost (G : Glo) (Wx : WX) (W : Wd) (C : Cells) (H : Hp) (r : SRes) (D : Ends) : Prop :=
  match r with
  | .nxt s C' => ∀ W' σ' H', Step W C H W' C' H' → StR G W' C' H' → RepS G W' s σ' → D.nx σ' H'
  | .brk s C' => ∀ W' σ' H', Step W C H W' C' H' → StR G W' C' H' → RepS G W' s σ' → D.bk σ' H'
  | .cnt s C' => ∀ W' σ' H', Step W C H W' C' H' → StR G W' C' H' → RepS G W' s σ' → D.ct σ' H'
  | .ret d C' => ∀ W' v H', Step W C H W' C' H' → StR G W' C' H' → RepV G W' d v → D.rt v H'
  | .err c s C' => ∀ W' σ' H', Step W C H W' C' H' → StR G W' C' H' → RepS G W' s σ' → Wx (.ref (G.cls c)) none σ' H'
  | .no => False
theorem SPost.step {G : Glo} {Wx : WX} {W W1 : Wd} {C C1 : Cells} {H H1 : Hp} {r : SRes} {D : Ends} (s : Step W C H W1 C1 H1) (h : SPost G Wx W C H r D) : SPost G Wx W1 C1 H1 r D := by
  cases r with
  | nxt a C' => exact fun W' b H' t => h W' b H' (s.trans t)
  | brk a C' => exact fun W' b H' t => h W' b H' (s.trans t)
  | cnt a C' => exact fun W' b H' t => h W' b H' (s.trans t)
  | ret a C' => exact fun W' b H' t => h W' b H' (s.trans t)
  | err c a C' => exact fun W' b H' t => h W' b H' (s.trans t)
  | no => exact h
def tSt (G : Glo) (Wx : WX) (g : SF) : TS := fun D σ H => ∃ W sl C, RepS G W sl σ ∧ StR G W C H ∧ SPost G Wx W C H (g sl C) D
structure DS (X : Cx) (G : Glo) (Wx : WX) (st : Stmt) (g : SF) : Prop where
  ps : PS X st (tSt G Wx g)
structure DSs (X : Cx) (G : Glo) (Wx : WX) (st : List Stmt) (g : SF) : Prop where
  ps : PSs X st (tSt G Wx g)
end DL

set_option Elab.async false
set_option linter.all false
set_option maxRecDepth 100000
set_option autoImplicit false
namespace DL
open PySem PySem.Spec PyProof.Rows L2
section
variable {G : Glo} {W : Wd} {d : D} {v : V}
/-! ### what stands for what -/
theorem RepV.non_ (h : RepV G W .non v) : v = .non := by unfold RepV at h; exact h
theorem RepV.bl_ {b : Bool} (h : RepV G W (.bl b) v) : v = .bl b := by unfold RepV at h; exact h
theorem RepV.int_ {i : Int} (h : RepV G W (.int i) v) : v = .int i := by unfold RepV at h; exact h
theorem RepV.str_ {s : Str} (h : RepV G W (.str s) v) : v = .str s := by unfold RepV at h; exact h
theorem RepV.lst_ {ds : List D} (h : RepV G W (.lst ds) v) : ∃ a vs, v = .ref a ∧ W.F a = some (.lst vs) ∧ RepVs G W ds vs := by unfold RepV at h; exact h
theorem RepV.scr_ {ds : List D} (h : RepV G W (.scr ds) v) : ∃ a vs, v = .ref a ∧ SqL G.K W.F a vs ∧ RepVs G W ds vs := by unfold RepV at h; exact h
theorem RepV.tup_ {ds : List D} (h : RepV G W (.tup ds) v) : ∃ a vs, v = .ref a ∧ W.F a = some (.tup vs) ∧ RepVs G W ds vs := by unfold RepV at h; exact h
theorem RepV.ktp_ {ds : List D} (h : RepV G W (.ktp ds) v) : ∃ a vs, v = .ref a ∧ SqT G.K W.F a vs ∧ RepVs G W ds vs := by unfold RepV at h; exact h
theorem RepV.obj_ {c : Nat} {ds : List D} (h : RepV G W (.obj c ds) v) : ∃ a dx vs, v = .ref a ∧ W.F a = some (.ins (G.cls c) dx (flds G.T c vs)) ∧ RepVs G W ds vs ∧ ds.length = (G.T.fl c).length := by unfold RepV at h; exact h
theorem RepV.cel_ {n : Nat} (h : RepV G W (.cel n) v) : ∃ a, v = .ref a ∧ W.cm n = some a := by unfold RepV at h; exact h
theorem RepV.opq_ {k : Nat} {ds : List D} (h : RepV G W (.opq k ds) v) : ∃ a vs, v = .ref a ∧ W.F a = some (G.oq k vs a) ∧ RepVs G W ds vs := by unfold RepV at h; exact h
theorem RepV.non : RepV G W .non .non := by unfold RepV; rfl
theorem RepV.bl {b : Bool} : RepV G W (.bl b) (.bl b) := by unfold RepV; rfl
theorem RepV.int {i : Int} : RepV G W (.int i) (.int i) := by unfold RepV; rfl
theorem RepV.str {s : Str} : RepV G W (.str s) (.str s) := by unfold RepV; rfl
theorem RepV.lst {ds : List D} {a : Addr} {vs : List V} (h : W.F a = some (.lst vs)) (r : RepVs G W ds vs) : RepV G W (.lst ds) (.ref a) := by unfold RepV; exact ⟨a, vs, rfl, h, r⟩
theorem RepV.scr {ds : List D} {a : Addr} {vs : List V} (h : SqL G.K W.F a vs) (r : RepVs G W ds vs) : RepV G W (.scr ds) (.ref a) := by unfold RepV; exact ⟨a, vs, rfl, h, r⟩
theorem RepV.tup {ds : List D} {a : Addr} {vs : List V} (h : W.F a = some (.tup vs)) (r : RepVs G W ds vs) : RepV G W (.tup ds) (.ref a) := by unfold RepV; exact ⟨a, vs, rfl, h, r⟩
theorem RepV.ktp {ds : List D} {a : Addr} {vs : List V} (h : SqT G.K W.F a vs) (r : RepVs G W ds vs) : RepV G W (.ktp ds) (.ref a) := by unfold RepV; exact ⟨a, vs, rfl, h, r⟩
theorem RepV.obj {c : Nat} {ds : List D} {a dx : Addr} {vs : List V} (h : W.F a = some (.ins (G.cls c) dx (flds G.T c vs))) (r : RepVs G W ds vs) (l : ds.length = (G.T.fl c).length) : RepV G W (.obj c ds) (.ref a) := by unfold RepV; exact ⟨a, dx, vs, rfl, h, r, l⟩
theorem RepV.cel {n : Nat} {a : Addr} (h : W.cm n = some a) : RepV G W (.cel n) (.ref a) := by unfold RepV; exact ⟨a, rfl, h⟩
theorem RepV.opq {k : Nat} {ds : List D} {a : Addr} {vs : List V} (h : W.F a = some (G.oq k vs a)) (r : RepVs G W ds vs) : RepV G W (.opq k ds) (.ref a) := by unfold RepV; exact ⟨a, vs, rfl, h, r⟩
end

/-! ### lists, tuples, objects read off data -/
/-- the items of a list: known, a cell's, the script's -/
def lstOf (C : Cells) : D → Option (List D)
  | .lst l => some l
  | .scr l => some l
  | .cel n => match C.get n with | some (.lst l) => some l | _ => none
  | _ => none
/-- .. but not the script's -/
def trkOf (C : Cells) : D → Option (List D)
  | .lst l => some l
  | .cel n => match C.get n with | some (.lst l) => some l | _ => none
  | _ => none
def tupOf : D → Option (List D)
  | .tup l => some l
  | _ => none
def seqOf (C : Cells) : D → Option (List D)
  | .tup l => some l
  | .ktp l => some l
  | d => lstOf C d
def objOf (C : Cells) : D → Option (Nat × List D)
  | .obj c l => some (c, l)
  | .cel n => match C.get n with | some (.obj c l) => some (c, l) | _ => none
  | _ => none
section
variable {G : Glo} {W : Wd} {C : Cells} {H : Hp} {d : D} {v : V} {l : List D}
theorem StR.cel_lst (st : StR G W C H) {n : Nat} (e : C.get n = some (.lst l)) : ∃ a vs, W.cm n = some a ∧ W.F a = none ∧ H a = some (.lst vs) ∧ RepVs G W l vs := by
  obtain ⟨a, ho, h1, h2, h3, vs, rfl, r⟩ := st.cells n _ e
  exact ⟨a, vs, h1, h2, h3, r⟩
theorem trkOf_ok (st : StR G W C H) (r : RepV G W d v) (e : trkOf C d = some l) : ∃ a vs, v = .ref a ∧ H a = some (.lst vs) ∧ RepVs G W l vs := by
  cases d with
  | lst ds =>
    obtain rfl := Option.some.inj e
    obtain ⟨a, vs, rfl, h, q⟩ := r.lst_
    exact ⟨a, vs, rfl, st.F _ _ h, q⟩
  | cel n =>
    obtain ⟨a, rfl, h⟩ := r.cel_
    have e' : (match C.get n with | some (.lst l) => some l | _ => none) = some l := e
    split at e'
    · rename_i l' h'
      cases e'
      obtain ⟨b, vs, h1, h2, h3, q⟩ := st.cel_lst h'
      rw [h] at h1; cases h1
      exact ⟨a, vs, rfl, h3, q⟩
    · cases e'
  | _ => cases e
theorem lstOf_ok (st : StR G W C H) (r : RepV G W d v) (e : lstOf C d = some l) : ∃ a vs, v = .ref a ∧ SqL G.K H a vs ∧ RepVs G W l vs := by
  cases d with
  | lst ds =>
    obtain ⟨a, vs, h1, h2, h3⟩ := trkOf_ok (l := l) st r e
    exact ⟨a, vs, h1, .of h2, h3⟩
  | cel n =>
    obtain ⟨a, vs, h1, h2, h3⟩ := trkOf_ok (l := l) st r e
    exact ⟨a, vs, h1, .of h2, h3⟩
  | scr ds =>
    obtain rfl := Option.some.inj e
    obtain ⟨a, vs, rfl, h, q⟩ := r.scr_
    exact ⟨a, vs, rfl, SqL.up st.F h, q⟩
  | _ => cases e
theorem tupOf_ok (st : StR G W C H) (r : RepV G W d v) (e : tupOf d = some l) : ∃ a vs, v = .ref a ∧ SqT G.K H a vs ∧ RepVs G W l vs := by
  cases d with
  | tup ds =>
    obtain rfl := Option.some.inj e
    obtain ⟨a, vs, rfl, h, q⟩ := r.tup_
    exact ⟨a, vs, rfl, .of (st.F _ _ h), q⟩
  | _ => cases e
theorem seqOf_ok (st : StR G W C H) (r : RepV G W d v) (e : seqOf C d = some l) : ∃ a vs, v = .ref a ∧ (SqL G.K H a vs ∨ SqT G.K H a vs) ∧ RepVs G W l vs := by
  cases d with
  | tup ds =>
    obtain ⟨a, vs, h1, h2, h3⟩ := tupOf_ok (l := l) st r e
    exact ⟨a, vs, h1, .inr h2, h3⟩
  | ktp ds =>
    cases Option.some.inj e
    obtain ⟨a, vs, rfl, h, q⟩ := r.ktp_
    exact ⟨a, vs, rfl, .inr (SqT.up st.F h), q⟩
  | _ =>
    obtain ⟨a, vs, h1, h2, h3⟩ := lstOf_ok (l := l) st r e
    exact ⟨a, vs, h1, .inl h2, h3⟩
theorem objOf_ok {c : Nat} (st : StR G W C H) (r : RepV G W d v) (e : objOf C d = some (c, l)) : ∃ a dx vs, v = .ref a ∧ H a = some (.ins (G.cls c) dx (flds G.T c vs)) ∧ RepVs G W l vs ∧ l.length ≤ (G.T.fl c).length := by
  cases d with
  | obj c' ds =>
    cases Option.some.inj e
    obtain ⟨a, dx, vs, rfl, h, q, z⟩ := r.obj_
    exact ⟨a, dx, vs, rfl, st.F _ _ h, q, Nat.le_of_eq z⟩
  | cel n =>
    obtain ⟨a, rfl, h⟩ := r.cel_
    have e' : (match C.get n with | some (.obj c l) => some (c, l) | _ => none) = some (c, l) := e
    split at e'
    · rename_i c' l' h'
      cases e'
      obtain ⟨b, ho, h1, h2, h3, dx, vs, rfl, q, z⟩ := st.cells n _ h'
      rw [h] at h1; cases h1
      exact ⟨a, dx, vs, rfl, h3, q, z⟩
    · cases e'
  | _ => cases e

/-! ### three moves: a new known thing, a new cell, a cell rewritten -/
theorem fr_fz {p : Addr} {o : HO} (st : StR G W C H) (hp : H p = none) (ho : ∀ ps, o ≠ .tbl ps := by exact fun _ z => (nomatch z)) : StR G ⟨upd W.F p o, W.cm⟩ C (upd H p o) ∧ Step W C H ⟨upd W.F p o, W.cm⟩ C (upd H p o) := by
  have np : ∀ a o', H a = some o' → a ≠ p := fun a o' h e => by rw [e, hp] at h; cases h
  have nf : ∀ a o', W.F a = some o' → a ≠ p := fun a o' h => np a o' (st.F a o' h)
  have le : W.le ⟨upd W.F p o, W.cm⟩ := ⟨fun a o' h => by show upd W.F p o a = _; rw [upd_ne (nf a o' h)]; exact h, fun _ _ h => h⟩
  refine ⟨⟨st.lnk.trans le, (st.tb.new hp).kn upd_same ho le, fun a o' h => ?_, fun n o' h => ?_, st.inj, st.nx⟩, le, Nat.le_refl _, fun a o' h _ n => ⟨by rw [upd_ne (np a o' h)]; exact h, fun q => n ?_⟩⟩
  · by_cases e : a = p
    · subst e
      have h' : upd W.F a o a = some o' := h
      rw [upd_same] at h' ⊢; exact h'
    · have h' : upd W.F p o a = some o' := h
      rw [upd_ne e] at h' ⊢; exact st.F a o' h'
  · obtain ⟨a, ho, h1, h2, h3, h4⟩ := st.cells n o' h
    have ne := np a _ h3
    exact ⟨a, ho, h1, by show upd W.F p o a = none; rw [upd_ne ne]; exact h2, by rw [upd_ne ne]; exact h3, h4.up le⟩
  · rcases q with ⟨o2, q⟩ | q
    · have q' : upd W.F p o a = some o2 := q
      rw [upd_ne (np a o' h)] at q'
      exact .inl ⟨o2, q'⟩
    · exact .inr q
theorem fr_new {p : Addr} {o : O} {ho : HO} (st : StR G W C H) (hp : H p = none) (r : RepO G W o ho) :
    StR G ⟨W.F, fun n => if n = C.nx then some p else W.cm n⟩ (C.new o) (upd H p ho) ∧ Step W C H ⟨W.F, fun n => if n = C.nx then some p else W.cm n⟩ (C.new o) (upd H p ho) := by
  have np : ∀ a o', H a = some o' → a ≠ p := fun a o' h e => by rw [e, hp] at h; cases h
  have le : W.le ⟨W.F, fun n => if n = C.nx then some p else W.cm n⟩ := ⟨fun _ _ h => h, fun n a h => by
    show (if n = C.nx then some p else W.cm n) = some a
    have : n ≠ C.nx := fun e => by rw [e, st.nx _ (Nat.le_refl _)] at h; cases h
    rw [if_neg this]; exact h⟩
  have pF : W.F p = none := by
    cases q : W.F p with
    | none => rfl
    | some u => have := st.F p u q; rw [hp] at this; cases this
  have old : ∀ n o', C.get n = some o' → n ≠ C.nx := fun n o' h => Nat.ne_of_lt (Cells.lt h)
  have got : ∀ n o', (C.new o).get n = some o' → (n = C.nx ∧ o' = o) ∨ (n ≠ C.nx ∧ C.get n = some o') := fun n o' h => by
    by_cases e : n = C.nx
    · subst e; rw [get_new] at h; cases h; exact .inl ⟨rfl, rfl⟩
    · rw [get_new_ne e] at h; exact .inr ⟨e, h⟩
  refine ⟨⟨st.lnk.trans le, (st.tb.new hp).cm rfl, fun a o' h => by rw [upd_ne (np a o' (st.F a o' h))]; exact st.F a o' h, fun n o' h => ?_, fun n m a o1 o2 h1 h2 h3 h4 => ?_, fun n hn => ?_⟩, le, Nat.le_succ _, fun a o' h _ n => ⟨by rw [upd_ne (np a o' h)]; exact h, fun q => n ?_⟩⟩
  · rcases got n o' h with ⟨rfl, rfl⟩ | ⟨e, h⟩
    · exact ⟨p, ho, if_pos rfl, pF, upd_same, r.up le⟩
    · obtain ⟨a, ho', h1, h2, h3, h4⟩ := st.cells n o' h
      exact ⟨a, ho', (if_neg e).trans h1, h2, by rw [upd_ne (np a _ h3)]; exact h3, h4.up le⟩
  · have h3' : (if n = C.nx then some p else W.cm n) = some a := h3
    have h4' : (if m = C.nx then some p else W.cm m) = some a := h4
    rcases got n o1 h1 with ⟨rfl, _⟩ | ⟨e, h1⟩
    · rcases got m o2 h2 with ⟨rfl, _⟩ | ⟨e2, h2⟩
      · rfl
      · rw [if_pos rfl] at h3'; rw [if_neg e2] at h4'
        cases h3'
        obtain ⟨b, ho', k1, _, k3, _⟩ := st.cells m o2 h2
        rw [h4'] at k1; cases k1
        rw [hp] at k3; cases k3
    · rcases got m o2 h2 with ⟨rfl, _⟩ | ⟨e2, h2⟩
      · rw [if_pos rfl] at h4'; rw [if_neg e] at h3'
        cases h4'
        obtain ⟨b, ho', k1, _, k3, _⟩ := st.cells n o1 h1
        rw [h3'] at k1; cases k1
        rw [hp] at k3; cases k3
      · rw [if_neg e] at h3'; rw [if_neg e2] at h4'
        exact st.inj n m a o1 o2 h1 h2 h3' h4'
  · have hn' : C.nx + 1 ≤ n := hn
    show (if n = C.nx then some p else W.cm n) = none
    rw [if_neg (by omega)]; exact st.nx n (by omega)
  · rcases q with q | ⟨m, o2, q1, q2⟩
    · exact .inl q
    · have q2' : (if m = C.nx then some p else W.cm m) = some a := q2
      rcases got m o2 q1 with ⟨rfl, _⟩ | ⟨e, q1⟩
      · rw [if_pos rfl] at q2'; cases q2'
        exact absurd rfl (np _ _ h)
      · rw [if_neg e] at q2'
        exact .inr ⟨m, o2, q1, q2'⟩
theorem fr_set {n : Nat} {a : Addr} {o' o : O} {ho : HO} (st : StR G W C H) (hn : C.get n = some o') (ha : W.cm n = some a) (r : RepO G W o ho) :
    StR G W (C.set n o) (upd H a ho) ∧ Step W C H W (C.set n o) (upd H a ho) := by
  obtain ⟨b, hb, h1, h2, h3, h4⟩ := st.cells n o' hn
  rw [ha] at h1; cases h1
  have got : ∀ m o2, (C.set n o).get m = some o2 → (m = n ∧ o2 = o) ∨ (m ≠ n ∧ C.get m = some o2) := fun m o2 h => by
    by_cases e : m = n
    · subst e; rw [get_set hn] at h; cases h; exact .inl ⟨rfl, rfl⟩
    · rw [get_set_ne e] at h; exact .inr ⟨e, h⟩
  have nF : ∀ x u, W.F x = some u → x ≠ a := fun x u h e => by rw [e, h2] at h; cases h
  refine ⟨⟨st.lnk, st.tb.put h3 h4.pla, fun x u h => by rw [upd_ne (nF x u h)]; exact st.F x u h, fun m o2 h => ?_, fun m k x o1 o2 k1 k2 k3 k4 => ?_, st.nx⟩, .refl, Nat.le_refl _, fun x u h _ q => ⟨?_, fun z => q ?_⟩⟩
  · rcases got m o2 h with ⟨rfl, rfl⟩ | ⟨e, h⟩
    · exact ⟨a, ho, ha, h2, upd_same, r⟩
    · obtain ⟨x, hx, k1, k2, k3, k4⟩ := st.cells m o2 h
      have : x ≠ a := fun e2 => e (st.inj m n a o2 o' h hn (e2 ▸ k1) ha)
      exact ⟨x, hx, k1, k2, by rw [upd_ne this]; exact k3, k4⟩
  · have g1 : ∃ o1, C.get m = some o1 := by rcases got m o1 k1 with ⟨rfl, _⟩ | ⟨_, k1⟩; exact ⟨_, hn⟩; exact ⟨_, k1⟩
    have g2 : ∃ o1, C.get k = some o1 := by rcases got k o2 k2 with ⟨rfl, _⟩ | ⟨_, k2⟩; exact ⟨_, hn⟩; exact ⟨_, k2⟩
    obtain ⟨_, g1⟩ := g1
    obtain ⟨_, g2⟩ := g2
    exact st.inj m k x _ _ g1 g2 k3 k4
  · have : x ≠ a := fun e => q (.inr ⟨n, o', hn, e ▸ ha⟩)
    rw [upd_ne this]; exact h
  · rcases z with z | ⟨m, o2, z1, z2⟩
    · exact .inl z
    · rcases got m o2 z1 with ⟨rfl, _⟩ | ⟨_, z1⟩
      · exact .inr ⟨m, o', hn, z2⟩
      · exact .inr ⟨m, o2, z1, z2⟩
/-- a cell's list becomes known: it is never written again -/
theorem fr_frz {n : Nat} {a : Addr} {o : O} {ho : HO} (st : StR G W C H) (hn : C.get n = some o) (ha : W.cm n = some a) (hh : H a = some ho) :
    StR G ⟨upd W.F a ho, W.cm⟩ (C.del n) H ∧ Step W C H ⟨upd W.F a ho, W.cm⟩ (C.del n) H := by
  obtain ⟨b, hb, h1, h2, h3, h4⟩ := st.cells n o hn
  rw [ha] at h1; cases h1
  rw [hh] at h3; cases h3
  have nF : ∀ x u, W.F x = some u → x ≠ a := fun x u h e => by rw [e, h2] at h; cases h
  have le : W.le ⟨upd W.F a ho, W.cm⟩ := ⟨fun x u h => by show upd W.F a ho x = _; rw [upd_ne (nF x u h)]; exact h, fun _ _ h => h⟩
  have got : ∀ m o2, (C.del n).get m = some o2 → m ≠ n ∧ C.get m = some o2 := fun m o2 h => by
    by_cases e : m = n
    · subst e; rw [get_del] at h; cases h
    · rw [get_del_ne e] at h; exact ⟨e, h⟩
  refine ⟨⟨st.lnk.trans le, st.tb.kn hh h4.pla.1 le, fun x u h => ?_, fun m o2 h => ?_, fun m k x o1 o2 k1 k2 k3 k4 => st.inj m k x _ _ (got m o1 k1).2 (got k o2 k2).2 k3 k4, st.nx⟩, le, Nat.le_refl _, fun x u h _ q => ⟨h, fun z => q ?_⟩⟩
  · have h' : upd W.F a ho x = some u := h
    by_cases e : x = a
    · subst e; rw [upd_same] at h'; cases h'; exact hh
    · rw [upd_ne e] at h'; exact st.F x u h'
  · obtain ⟨e, h⟩ := got m o2 h
    obtain ⟨x, hx, k1, k2, k3, k4⟩ := st.cells m o2 h
    have : x ≠ a := fun e2 => e (st.inj m n a o2 o h hn (e2 ▸ k1) ha)
    exact ⟨x, hx, k1, by show upd W.F a ho x = none; rw [upd_ne this]; exact k2, k3, k4.up le⟩
  · rcases z with ⟨u2, z⟩ | ⟨m, o2, z1, z2⟩
    · have z' : upd W.F a ho x = some u2 := z
      by_cases e : x = a
      · subst e; exact .inr ⟨n, o, hn, ha⟩
      · rw [upd_ne e] at z'; exact .inl ⟨u2, z'⟩
    · exact .inr ⟨m, o2, (got m o2 z1).2, z2⟩
end

/-! ### names, constants -/
def eC (d : D) : EF := fun _ C => .ok d C
def eVar (i : Nat) : EF := fun s C => match s[i]? with
  | some (some d) => .ok d C
  | _ => .no
section
variable {X : Cx} {G : Glo} {Wx : WX} {a b c e : Expr} {fa fb fc f : EF} {pos : Pos}
theorem de_weak {t : TE} (h : PE X e t) (w : ∀ σ H Q, tD G Wx f σ H Q → t σ H Q) : DE X G Wx e f := ⟨PE.weak h w⟩
theorem de_c {v : V} {d : D} (h : PE X e (tC v)) (r : ∀ W, RepV G W d v) : DE X G Wx e (eC d) :=
  de_weak h fun σ H Q ⟨W, sl, C, rs, st, q⟩ => q W v H .refl st (r W)
theorem de_int {i : Int} {j} : DE X G Wx (.Constant (.int i) j pos) (eC (.int i)) := de_c pe_int fun _ => .int
theorem de_bl {i : Bool} {j} : DE X G Wx (.Constant (.bool i) j pos) (eC (.bl i)) := de_c pe_bl fun _ => .bl
theorem de_non {j} : DE X G Wx (.Constant .none j pos) (eC .non) := de_c pe_non fun _ => .non
theorem de_str {x : Str} {j} : DE X G Wx (.Constant (.str x) j pos) (eC (.str x)) := de_c pe_str fun _ => .str
theorem de_glob {x : Str} {v : V} {u : Value} {d : D} (hg : Gl X x) (hm : X.mg x = some u) (r : RelV v u) (rd : ∀ W, RepV G W d v) (hd : (x == ("__debug__" : Str)) = false := by decide) : DE X G Wx (.Name x pos) (eC d) := de_c (pe_glob hg hm r hd) rd
theorem de_varP {i : Nat} (h : PE X e (tVar i)) : DE X G Wx e (eVar i) := de_weak h fun σ H Q ⟨W, sl, C, rs, st, q⟩ => by
  unfold eVar at q
  split at q
  · rename_i d h'
    obtain ⟨v, h1, h2⟩ := rs.at_ i d h'
    exact ⟨v, h1, q W v H .refl st h2⟩
  · exact q.elim
theorem dv (i : Nat) {x : Str} (hN : X.N[i]? = some x := by rfl) (hv : Vis X.env.scope x := by first | exact Or.inl rfl | exact Or.inr (Or.inl rfl) | exact Or.inr (Or.inr rfl)) (hd : (x == ("__debug__" : Str)) = false := by decide)
    (hcd : (x == ("__classdict__" : Str)) = false := by decide) : DE X G Wx (.Name x pos) (eVar i) := de_varP (pe_var hN hv hd hcd)

/-! ### two-place operations -/
def e2 (g : D → D → Cells → Res D) (fa fb : EF) : EF := fun s C => (fa s C).bind fun x C => (fb s C).bind fun y C => g x y C
/-- what a rule by values is worth on data -/
def Op2 (G : Glo) (r : R2) (g : D → D → Cells → Res D) : Prop := ∀ (Wx : WX) (σ : L2.St) (W : Wd) (C : Cells) (H : Hp) (x y : D) (v u : V) (Q : VK), StR G W C H → RepV G W x v → RepV G W y u → Post G Wx σ (RepV G) W C H (g x y C) Q → r v u H Q
theorem op2_use {r : R2} {g : D → D → Cells → Res D} {ta tb : TE} (hr : Op2 G r g) {σ : L2.St} {H : Hp} {Q : VK} (h : tD G Wx (e2 g fa fb) σ H Q) : tOp r (tD G Wx fa) (tD G Wx fb) σ H Q := by
  obtain ⟨W, sl, C, rs, st, q⟩ := h
  exact ⟨W, sl, C, rs, st, q.bind fun x C1 W1 v H1 _ t st1 rx q1 => ⟨W1, sl, C1, rs.up t.le, st1, q1.bind fun y C2 W2 u H2 _ t2 st2 ry q2 => hr Wx σ W2 C2 H2 x y v u Q st2 (rx.up t2.le) ry q2⟩⟩
theorem de_op {op : Operator} {r : R2} {g : D → D → Cells → Res D} (ho : OpR X (binaryOp op) r) (hr : Op2 G r g) (ha : DE X G Wx a fa) (hb : DE X G Wx b fb) : DE X G Wx (.BinOp a op b pos) (e2 g fa fb) :=
  de_weak (pe_op ho ha.pe hb.pe) fun _ _ _ h => op2_use (ta := tD G Wx fa) (tb := tD G Wx fb) hr h
theorem de_cmp {op : CmpOp} {r : R2} {g : D → D → Cells → Res D} (ho : OpR X (compareOp op) r) (hr : Op2 G r g) (hm : behindInMarks op b = false) (ha : DE X G Wx a fa) (hb : DE X G Wx b fb) : DE X G Wx (.Compare a [op] [b] pos) (e2 g fa fb) :=
  de_weak (pe_cmpR ho ha.pe hb.pe hm) fun _ _ _ h => op2_use (ta := tD G Wx fa) (tb := tD G Wx fb) hr h
/-- a value as a truth -/
def asB (f : EF) : TF := fun s C => (f s C).bind fun d C => match d with | .bl b => .ok b C | _ => .no
theorem asB_use {σ : L2.St} {H : Hp} {Q : Bool → Hp → Prop} {W : Wd} {C : Cells} {r : Res D} (h : Post G Wx σ (fun _ a b => a = b) W C H (r.bind fun d C => match d with | .bl b => .ok b C | _ => .no) Q) :
    Post G Wx σ (RepV G) W C H r fun x H' => ∃ k, x = .bl k ∧ Q k H' := by
  refine h.bind fun d C1 W1 v H1 _ t st rr q => ?_
  cases d with
  | bl b => exact ⟨b, rr.bl_, q W1 b H1 .refl st rfl⟩
  | _ => exact q.elim
theorem dt_cmp {op : CmpOp} {r : R2} {g : D → D → Cells → Res D} (ho : OpR X (compareOp op) r) (hr : Op2 G r g) (hm : behindInMarks op b = false) (ha : DE X G Wx a fa) (hb : DE X G Wx b fb) : DT X G Wx (.Compare a [op] [b] pos) (asB (e2 g fa fb)) :=
  ⟨PT.weak (pt_cmpR ho ha.pe hb.pe hm) fun σ H Q ⟨W, sl, C, rs, st, q⟩ => op2_use (ta := tD G Wx fa) (tb := tD G Wx fb) hr ⟨W, sl, C, rs, st, asB_use q⟩⟩
theorem dt_val (h : DE X G Wx e f) (he : ∀ whole, isTrue e X.env whole = (do let v ← whole; standAt e.pos; holding [v] (truthy v)) := by intro _; rfl) : DT X G Wx e (asB f) :=
  ⟨PT.weak (pt_val h.pe he) fun σ H Q ⟨W, sl, C, rs, st, q⟩ => ⟨W, sl, C, rs, st, asB_use q⟩⟩
end

end DL

set_option Elab.async false
set_option linter.all false
set_option maxRecDepth 100000
set_option autoImplicit false
namespace DL
open PySem PySem.Spec PyProof.Rows L2

/-! ### the operators on data -/
def mxl : Nat := 16777216
theorem mxl_eq : mxl = sizeLine := sizeLine_eq.symm
instance CMul.dec (i j : Int) : Decidable (CMul i j) := by unfold CMul; exact inferInstance
instance CDiv.dec (i j : Int) : Decidable (CDiv i j) := by unfold CDiv; exact inferInstance
instance CPow.dec (i j : Int) : Decidable (CPow i j) := by unfold CPow; exact inferInstance
/-- a known list is made -/
def dCatL (C : Cells) (x y : D) : Res D := match trkOf C x, trkOf C y with
  | some a, some b => if a.length + b.length ≤ mxl then .ok (.lst (a ++ b)) C else .no
  | _, _ => .no
def dAdd (x y : D) (C : Cells) : Res D := match x, y with
  | .int i, .int j => .ok (.int (i + j)) C
  | .int i, .bl j => .ok (.int (i + b2i j)) C
  | .str a, .str b => if a.length + b.length ≤ mxl then .ok (.str (a ++ b)) C else .no
  | .tup a, .tup b => if a ≠ [] ∧ b ≠ [] ∧ a.length + b.length ≤ mxl then .ok (.tup (a ++ b)) C else .no
  | .lst a, y => dCatL C (.lst a) y
  | .cel a, y => dCatL C (.cel a) y
  | _, _ => .no
def dSub (x y : D) (C : Cells) : Res D := match x, y with
  | .int i, .int j => .ok (.int (i - j)) C
  | _, _ => .no
def dMul (x y : D) (C : Cells) : Res D := match x, y with
  | .int i, .int j => if CMul i j then .ok (.int (i * j)) C else .no
  | x, .int k => match trkOf C x with
    | some l => if -(2 ^ 63) ≤ k ∧ k < 2 ^ 63 ∧ l.length * k.toNat ≤ mxl then .ok (.lst (List.replicate k.toNat l).flatten) C else .no
    | _ => .no
  | _, _ => .no
def dDiv (x y : D) (C : Cells) : Res D := match x, y with
  | .int i, .int j => if CDiv i j then .ok (.int (i / j)) C else .no
  | _, _ => .no
def dMod (x y : D) (C : Cells) : Res D := match x, y with
  | .int i, .int j => if 0 < j then .ok (.int (i % j)) C else .no
  | _, _ => .no
def dPow (x y : D) (C : Cells) : Res D := match x, y with
  | .int i, .int j => if CPow i j then .ok (.int (i ^ j.toNat)) C else .no
  | _, _ => .no
/-- ints, texts by their order -/
def dLt (x y : D) (C : Cells) : Res D := match x, y with
  | .int i, .int j => .ok (.bl (decide (i < j))) C
  | _, _ => .no
def dLe (x y : D) (C : Cells) : Res D := match x, y with
  | .int i, .int j => .ok (.bl (decide (i ≤ j))) C
  | _, _ => .no
def dGt (x y : D) (C : Cells) : Res D := match x, y with
  | .int i, .int j => .ok (.bl (decide (j < i))) C
  | _, _ => .no
def dGe (x y : D) (C : Cells) : Res D := match x, y with
  | .int i, .int j => .ok (.bl (decide (j ≤ i))) C
  | _, _ => .no
def isN : D → Bool
  | .non => true
  | _ => false
def dIsN (x y : D) (C : Cells) : Res D := match y with
  | .non => .ok (.bl (isN x)) C
  | _ => .no
def dNotN (x y : D) (C : Cells) : Res D := match y with
  | .non => .ok (.bl (!isN x)) C
  | _ => .no

/-! ### equality -/
mutual
def eqD : D → D → Bool
  | .non, .non => true
  | .bl a, .bl b => a == b
  | .bl a, .int j => (if a then 1 else 0) == j
  | .int i, .bl b => i == (if b then 1 else 0)
  | .int i, .int j => i == j
  | .str x, .str y => x == y
  | .lst xs, .lst ys => eqDs xs ys
  | .tup xs, .tup ys => eqDs xs ys
  | _, _ => false
def eqDs : List D → List D → Bool
  | [], [] => true
  | x :: xs, y :: ys => eqD x y && eqDs xs ys
  | [], _ :: _ => false
  | _ :: _, [] => false
end
/-- plain data, n deep at most -/
def plain : Nat → D → Bool
  | 0, _ => false
  | _ + 1, .non => true
  | _ + 1, .bl _ => true
  | _ + 1, .int _ => true
  | _ + 1, .str s => PyData.strOk s
  | n + 1, .lst l => l.all (plain n)
  | n + 1, .tup l => l.all (plain n)
  | _ + 1, _ => false
mutual
def toP : D → PyData
  | .non => .none
  | .bl b => .bool b
  | .int i => .int i
  | .str s => .str s
  | .lst l => .list (toPs l)
  | .tup l => .tuple (toPs l)
  | _ => .none
def toPs : List D → List PyData
  | [] => []
  | d :: r => toP d :: toPs r
end
/-- a cell's list, the script, as a list -/
def vw (C : Cells) (d : D) : D := match lstOf C d with
  | some l => .lst l
  | none => d
def dEq (x y : D) (C : Cells) : Res D := if plain 30 (vw C x) && plain 30 (vw C y) then .ok (.bl (eqD (vw C x) (vw C y))) C else .no
def dNe (x y : D) (C : Cells) : Res D := if plain 30 (vw C x) && plain 30 (vw C y) then .ok (.bl (!eqD (vw C x) (vw C y))) C else .no

mutual
theorem eqv_toP : ∀ (n : Nat) (x y : D), plain n x = true → plain n y = true → PyData.eqv (toP x) (toP y) = eqD x y
  | 0, x, _, h, _ => by unfold plain at h; cases h
  | n + 1, x, y, h1, h2 => by
    cases x with
    | non => cases y <;> simp [plain] at h2 <;> simp [toP, PyData.eqv, eqD]
    | bl b => cases y <;> simp [plain] at h2 <;> simp [toP, PyData.eqv, eqD]
    | int b => cases y <;> simp [plain] at h2 <;> simp [toP, PyData.eqv, eqD]
    | str b => cases y <;> simp [plain] at h2 <;> simp [toP, PyData.eqv, eqD]
    | lst l =>
      cases y with
      | lst m => simp only [toP, PyData.eqv, eqD]; exact eqvs_toP n l m (by simpa [plain] using h1) (by simpa [plain] using h2)
      | _ => simp [plain] at h2 <;> simp [toP, PyData.eqv, eqD]
    | tup l =>
      cases y with
      | tup m => simp only [toP, PyData.eqv, eqD]; exact eqvs_toP n l m (by simpa [plain] using h1) (by simpa [plain] using h2)
      | _ => simp [plain] at h2 <;> simp [toP, PyData.eqv, eqD]
    | _ => simp [plain] at h1
theorem eqvs_toP : ∀ (n : Nat) (xs ys : List D), (∀ x ∈ xs, plain n x = true) → (∀ y ∈ ys, plain n y = true) → PyData.eqvAll (toPs xs) (toPs ys) = eqDs xs ys
  | _, [], [], _, _ => by simp [toPs, PyData.eqvAll, eqDs]
  | _, [], _ :: _, _, _ => by simp [toPs, PyData.eqvAll, eqDs]
  | _, _ :: _, [], _, _ => by simp [toPs, PyData.eqvAll, eqDs]
  | n, x :: xs, y :: ys, h1, h2 => by
    simp only [toPs, PyData.eqvAll, eqDs]
    rw [eqv_toP n x y (h1 x List.mem_cons_self) (h2 y List.mem_cons_self), eqvs_toP n xs ys (fun z hz => h1 z (List.mem_cons_of_mem _ hz)) (fun z hz => h2 z (List.mem_cons_of_mem _ hz))]
end
theorem depthAll_le {n : Nat} : ∀ {l : List PyData}, (∀ d ∈ l, PyData.depth d ≤ n) → PyData.depthAll l ≤ n
  | [], _ => by simp [PyData.depthAll]
  | d :: r, h => by
    have a := h d List.mem_cons_self
    have b := depthAll_le fun x hx => h x (List.mem_cons_of_mem d hx)
    simp only [PyData.depthAll]
    omega

mutual
theorem canLay_toP : ∀ (n : Nat) (x : D), plain n x = true → PyData.canLay0 (toP x) = true ∧ PyData.depth (toP x) ≤ n
  | 0, x, h => by unfold plain at h; cases h
  | n + 1, x, h => by
    cases x with
    | non => simp [toP, PyData.canLay0, PyData.depth]
    | bl b => simp [toP, PyData.canLay0, PyData.depth]
    | int b => simp [toP, PyData.canLay0, PyData.depth]
    | str b => simp only [toP, PyData.canLay0, PyData.depth]; exact ⟨by simpa [plain] using h, Nat.zero_le _⟩
    | lst l =>
      obtain ⟨a, b⟩ := canLays_toP n l (by simpa [plain] using h)
      simp only [toP, PyData.canLay0, PyData.depth]
      exact ⟨a, Nat.succ_le_succ b⟩
    | tup l =>
      obtain ⟨a, b⟩ := canLays_toP n l (by simpa [plain] using h)
      simp only [toP, PyData.canLay0, PyData.depth]
      exact ⟨a, Nat.succ_le_succ b⟩
    | _ => simp [plain] at h
theorem canLays_toP : ∀ (n : Nat) (xs : List D), (∀ x ∈ xs, plain n x = true) → PyData.canLayAll0 (toPs xs) = true ∧ PyData.depthAll (toPs xs) ≤ n
  | n, [], _ => by simp [toPs, PyData.canLayAll0, PyData.depthAll]
  | n, x :: xs, h => by
    obtain ⟨a1, b1⟩ := canLay_toP n x (h x List.mem_cons_self)
    obtain ⟨a2, b2⟩ := canLays_toP n xs fun z hz => h z (List.mem_cons_of_mem _ hz)
    simp only [toPs, PyData.canLayAll0, PyData.depthAll, a1, a2, Bool.and_self, true_and]
    omega
end
theorem shaped_toP {n : Nat} {x : D} (hn : n ≤ 64) (h : plain n x = true) : SeqAt.shaped (toP x) = true := by
  obtain ⟨a, b⟩ := canLay_toP n x h
  unfold SeqAt.shaped
  rw [a, decide_eq_true (Nat.le_trans b hn)]; rfl
section
variable {G : Glo} {W : Wd} {C : Cells} {H : Hp}
mutual
theorem dp_of (k : ∀ a o, W.F a = some o → H a = some o) : ∀ (n : Nat) (d : D) (v : V), plain n d = true → RepV G W d v → Dp G.K H v (toP d)
  | 0, d, _, h, _ => by unfold plain at h; cases h
  | n + 1, d, v, h, r => by
    cases d with
    | non => rw [r.non_]; exact .non
    | bl b => rw [r.bl_]; exact .bl b
    | int b => rw [r.int_]; exact .int b
    | str b => rw [r.str_]; exact .str b
    | lst l =>
      obtain ⟨a, vs, rfl, e, q⟩ := r.lst_
      exact .lst (.of (k _ _ e)) (dps_of k n l vs (by simpa [plain] using h) q)
    | tup l =>
      obtain ⟨a, vs, rfl, e, q⟩ := r.tup_
      exact .tup (.of (k _ _ e)) (dps_of k n l vs (by simpa [plain] using h) q)
    | _ => simp [plain] at h
theorem dps_of (k : ∀ a o, W.F a = some o → H a = some o) : ∀ (n : Nat) (ds : List D) (vs : List V), (∀ d ∈ ds, plain n d = true) → RepVs G W ds vs → DpAll G.K H vs (toPs ds)
  | n, [], _, _, r => by rw [r.nil_inv]; exact .nil
  | n, d :: ds, _, h, r => by
    obtain ⟨v, vr, rfl, s, t⟩ := r.cons_inv
    exact .cons (dp_of k n d v (h d List.mem_cons_self) s) (dps_of k n ds vr (fun z hz => h z (List.mem_cons_of_mem _ hz)) t)
end
theorem dp_vw (st : StR G W C H) {d : D} {v : V} (r : RepV G W d v) {n : Nat} (h : plain n (vw C d) = true) : Dp G.K H v (toP (vw C d)) := by
  cases e : lstOf C d with
  | some l =>
    have hv : vw C d = .lst l := by unfold vw; rw [e]
    rw [hv] at h ⊢
    obtain ⟨a, vs, rfl, s, q⟩ := lstOf_ok st r e
    cases n with
    | zero => unfold plain at h; cases h
    | succ n => exact .lst s (dps_of st.F n l vs (by simpa [plain] using h) q)
  | none =>
    have hv : vw C d = d := by unfold vw; rw [e]
    rw [hv] at h ⊢
    exact dp_of st.F n d v h r
theorem o2_eq : Op2 G (rEqD G.K) dEq := fun Wx σ W C H x y v u Q st rx ry q => by
  unfold dEq at q
  split at q
  · rename_i h
    obtain ⟨h1, h2⟩ := Bool.and_eq_true_iff.mp h
    refine ⟨toP (vw C x), toP (vw C y), dp_vw st rx h1, dp_vw st ry h2, shaped_toP (by decide) h1, shaped_toP (by decide) h2, ?_⟩
    rw [eqv_toP 30 _ _ h1 h2]
    exact q W _ H .refl st .bl
  · exact q.elim
theorem o2_ne : Op2 G (rNeD G.K) dNe := fun Wx σ W C H x y v u Q st rx ry q => by
  unfold dNe at q
  split at q
  · rename_i h
    obtain ⟨h1, h2⟩ := Bool.and_eq_true_iff.mp h
    refine ⟨toP (vw C x), toP (vw C y), dp_vw st rx h1, dp_vw st ry h2, shaped_toP (by decide) h1, shaped_toP (by decide) h2, ?_⟩
    rw [eqv_toP 30 _ _ h1 h2]
    exact q W _ H .refl st .bl
  · exact q.elim

/-! ### the operators' rules -/
def rStrCat : R2 := fun x y H Q => ∃ i j, x = .str i ∧ y = .str j ∧ i.length + j.length ≤ sizeLine ∧ Q (.str (i ++ j)) H
def rAddIB : R2 := fun x y H Q => ∃ i k, x = .int i ∧ y = .bl k ∧ Q (.int (i + b2i k)) H
def rAdd5 (K : PySem.W.Frag) : R2 := fun x y H Q => (rI0 fun i j => .int (i + j)) x y H Q ∨ rAddIB x y H Q ∨ rStrCat x y H Q ∨ rCatT K x y H Q ∨ rCat x y H Q
theorem op_add5 {X : Cx} : OpR X (binaryOp .Add) (rAdd5 X.K) := OpR.or op_add (OpR.or op_add_ib (OpR.or op_add_str (OpR.or op_catT op_cat)))
/-- a new known list -/
theorem new_lst {Wx : WX} {σ : L2.St} {l : List D} {vs : List V} {Q : VK} (st : StR G W C H) (r : RepVs G W l vs) (q : Post G Wx σ (RepV G) W C H (.ok (.lst l) C) Q) : ∀ p, H p = none → Q (.ref p) (upd H p (.lst vs)) := fun p hp => by
  obtain ⟨s1, s2⟩ := fr_fz (o := .lst vs) st hp
  exact q _ _ _ s2 s1 (.lst (by show upd W.F p _ p = _; exact upd_same) (r.up s2.le))
theorem new_tup {Wx : WX} {σ : L2.St} {l : List D} {vs : List V} {Q : VK} (st : StR G W C H) (r : RepVs G W l vs) (q : Post G Wx σ (RepV G) W C H (.ok (.tup l) C) Q) : ∀ p, H p = none → Q (.ref p) (upd H p (.tup vs)) := fun p hp => by
  obtain ⟨s1, s2⟩ := fr_fz (o := .tup vs) st hp
  exact q _ _ _ s2 s1 (.tup (by show upd W.F p _ p = _; exact upd_same) (r.up s2.le))
theorem o2_catL {Wx : WX} {σ : L2.St} {x y : D} {v u : V} {Q : VK} (st : StR G W C H) (rx : RepV G W x v) (ry : RepV G W y u) (q : Post G Wx σ (RepV G) W C H (dCatL C x y) Q) : rCat v u H Q := by
  unfold dCatL at q
  split at q
  · rename_i a b e1 e2
    split at q
    · rename_i hz
      obtain ⟨p1, vs, rfl, h1, r1⟩ := trkOf_ok st rx e1
      obtain ⟨p2, us, rfl, h2, r2⟩ := trkOf_ok st ry e2
      refine ⟨p1, p2, vs, us, rfl, rfl, h1, h2, ?_, new_lst st (r1.append r2) q⟩
      rw [← r1.length, ← r2.length, ← mxl_eq]; exact hz
    · exact q.elim
  · exact q.elim
theorem o2_add : Op2 G (rAdd5 G.K) dAdd := fun Wx σ W C H x y v u Q st rx ry q => by
  unfold dAdd at q
  split at q
  · exact .inl ⟨_, _, rx.int_, ry.int_, q W _ H .refl st .int⟩
  · exact .inr (.inl ⟨_, _, rx.int_, ry.bl_, q W _ H .refl st .int⟩)
  · split at q
    · rename_i hz
      exact .inr (.inr (.inl ⟨_, _, rx.str_, ry.str_, by rw [← mxl_eq]; exact hz, q W _ H .refl st .str⟩))
    · exact q.elim
  · split at q
    · rename_i a b hz
      obtain ⟨p1, vs, rfl, h1, r1⟩ := tupOf_ok st rx (l := a) rfl
      obtain ⟨p2, us, rfl, h2, r2⟩ := tupOf_ok st ry (l := b) rfl
      have n1 : vs ≠ [] := fun e => hz.1 (by have := r1.length; rw [e] at this; exact List.length_eq_zero_iff.mp this)
      have n2 : us ≠ [] := fun e => hz.2.1 (by have := r2.length; rw [e] at this; exact List.length_eq_zero_iff.mp this)
      exact .inr (.inr (.inr (.inl ⟨p1, p2, vs, us, rfl, rfl, h1, h2, n1, by rw [← r1.length, ← r2.length, ← mxl_eq]; exact hz.2.2, fun e => absurd e n2, fun _ => new_tup st (r1.append r2) q⟩)))
    · exact q.elim
  · exact .inr (.inr (.inr (.inr (o2_catL st rx ry q))))
  · exact .inr (.inr (.inr (.inr (o2_catL st rx ry q))))
  · exact q.elim
theorem o2_sub : Op2 G (rI0 fun i j => .int (i - j)) dSub := fun Wx σ W C H x y v u Q st rx ry q => by
  unfold dSub at q
  split at q
  · exact ⟨_, _, rx.int_, ry.int_, q W _ H .refl st .int⟩
  · exact q.elim
def rMul2 : R2 := fun x y H Q => (rI CMul fun i j => .int (i * j)) x y H Q ∨ rRep x y H Q
theorem op_mul2 {X : Cx} : OpR X (binaryOp .Mult) rMul2 := OpR.or op_mul op_rep
theorem RepVs.flat {l : List D} {vs : List V} (r : RepVs G W l vs) : ∀ k : Nat, RepVs G W (List.replicate k l).flatten (List.replicate k vs).flatten
  | 0 => .nil
  | k + 1 => by
    rw [List.replicate_succ, List.flatten_cons, List.replicate_succ, List.flatten_cons]
    exact r.append (r.flat k)
theorem o2_mul : Op2 G rMul2 dMul := fun Wx σ W C H x y v u Q st rx ry q => by
  unfold dMul at q
  split at q
  · split at q
    · rename_i hc
      exact .inl ⟨_, _, rx.int_, ry.int_, hc, q W _ H .refl st .int⟩
    · exact q.elim
  · rename_i k hn
    split at q
    · rename_i l e
      split at q
      · rename_i hz
        obtain ⟨p, vs, rfl, h1, r1⟩ := trkOf_ok st rx e
        exact .inr ⟨p, k, vs, rfl, ry.int_, h1, hz.1, hz.2.1, by rw [← r1.length, ← mxl_eq]; exact hz.2.2, new_lst st (r1.flat _) q⟩
      · exact q.elim
    · exact q.elim
  · exact q.elim
theorem o2_div : Op2 G (rI CDiv fun i j => .int (i / j)) dDiv := fun Wx σ W C H x y v u Q st rx ry q => by
  unfold dDiv at q
  split at q
  · split at q
    · rename_i hc
      exact ⟨_, _, rx.int_, ry.int_, hc, q W _ H .refl st .int⟩
    · exact q.elim
  · exact q.elim
theorem o2_mod : Op2 G (rI (fun _ j => 0 < j) fun i j => .int (i % j)) dMod := fun Wx σ W C H x y v u Q st rx ry q => by
  unfold dMod at q
  split at q
  · split at q
    · rename_i hc
      exact ⟨_, _, rx.int_, ry.int_, hc, q W _ H .refl st .int⟩
    · exact q.elim
  · exact q.elim
theorem o2_pow : Op2 G (rI CPow fun i j => .int (i ^ j.toNat)) dPow := fun Wx σ W C H x y v u Q st rx ry q => by
  unfold dPow at q
  split at q
  · split at q
    · rename_i hc
      exact ⟨_, _, rx.int_, ry.int_, hc, q W _ H .refl st .int⟩
    · exact q.elim
  · exact q.elim
theorem o2_lt : Op2 G (rI0 fun i j => .bl (decide (i < j))) dLt := fun Wx σ W C H x y v u Q st rx ry q => by
  unfold dLt at q
  split at q
  · exact ⟨_, _, rx.int_, ry.int_, q W _ H .refl st .bl⟩
  · exact q.elim
theorem o2_le : Op2 G (rI0 fun i j => .bl (decide (i ≤ j))) dLe := fun Wx σ W C H x y v u Q st rx ry q => by
  unfold dLe at q
  split at q
  · exact ⟨_, _, rx.int_, ry.int_, q W _ H .refl st .bl⟩
  · exact q.elim
theorem o2_gt : Op2 G (rI0 fun i j => .bl (decide (j < i))) dGt := fun Wx σ W C H x y v u Q st rx ry q => by
  unfold dGt at q
  split at q
  · exact ⟨_, _, rx.int_, ry.int_, q W _ H .refl st .bl⟩
  · exact q.elim
theorem o2_ge : Op2 G (rI0 fun i j => .bl (decide (j ≤ i))) dGe := fun Wx σ W C H x y v u Q st rx ry q => by
  unfold dGe at q
  split at q
  · exact ⟨_, _, rx.int_, ry.int_, q W _ H .refl st .bl⟩
  · exact q.elim
theorem isN_ok {d : D} {v : V} (r : RepV G W d v) : decide (v = .non) = isN d := by
  cases d with
  | non => rw [r.non_]; rfl
  | bl b => rw [r.bl_]; rfl
  | int b => rw [r.int_]; rfl
  | str b => rw [r.str_]; rfl
  | lst l => obtain ⟨_, _, rfl, _⟩ := r.lst_; rfl
  | tup l => obtain ⟨_, _, rfl, _⟩ := r.tup_; rfl
  | scr l => obtain ⟨_, _, rfl, _⟩ := r.scr_; rfl
  | ktp l => obtain ⟨_, _, rfl, _⟩ := r.ktp_; rfl
  | obj c l => obtain ⟨_, _, _, rfl, _⟩ := r.obj_; rfl
  | cel n => obtain ⟨_, rfl, _⟩ := r.cel_; rfl
  | opq k l => obtain ⟨_, _, rfl, _⟩ := r.opq_; rfl
theorem o2_isN : Op2 G (fun x y H Q => y = .non ∧ Q (.bl (decide (x = .non))) H) dIsN := fun Wx σ W C H x y v u Q st rx ry q => by
  unfold dIsN at q
  split at q
  · exact ⟨ry.non_, by rw [isN_ok rx]; exact q W _ H .refl st .bl⟩
  · exact q.elim
theorem o2_notN : Op2 G (fun x y H Q => y = .non ∧ Q (.bl (!decide (x = .non))) H) dNotN := fun Wx σ W C H x y v u Q st rx ry q => by
  unfold dNotN at q
  split at q
  · exact ⟨ry.non_, by rw [isN_ok rx]; exact q W _ H .refl st .bl⟩
  · exact q.elim
end
end DL

set_option Elab.async false
set_option linter.all false
set_option maxRecDepth 100000
set_option autoImplicit false
namespace DL
open PySem PySem.Spec PyProof.Rows L2
section
variable {X : Cx} {G : Glo} {Wx : WX} {a b c e : Expr} {fa fb fc f : EF} {pos : Pos}

/-! ### tests: and, or, not -/
def tAndF (f g : TF) : TF := fun s C => (f s C).bind fun b C => if b = true then g s C else .ok false C
def tOrF (f g : TF) : TF := fun s C => (f s C).bind fun b C => if b = true then .ok true C else g s C
def tNotF (f : TF) : TF := fun s C => (f s C).bind fun b C => .ok (!b) C
variable {ta tb : TF} {rest : List Expr}
theorem dw_and1 (ha : DT X G Wx a ta) : DW X G Wx (.BoolOp .And [a] pos) ta := ⟨pw_and1 ha.pt⟩
theorem dw_or1 (ha : DT X G Wx a ta) : DW X G Wx (.BoolOp .Or [a] pos) ta := ⟨pw_or1 ha.pt⟩
theorem dw_and (ha : DT X G Wx a ta) (hb : DW X G Wx (.BoolOp .And (b :: rest) pos) tb) : DW X G Wx (.BoolOp .And (a :: b :: rest) pos) (tAndF ta tb) :=
  ⟨PW.weak (pw_and ha.pt hb.pw) fun σ H Q ⟨W, sl, C, rs, st, q⟩ => ⟨W, sl, C, rs, st, q.bind fun x C1 W1 v H1 _ t st1 rx q1 => by
    subst rx
    cases x with
    | true => exact ⟨W1, sl, C1, rs.up t.le, st1, q1⟩
    | false => exact q1 W1 false H1 .refl st1 rfl⟩⟩
theorem dw_or (ha : DT X G Wx a ta) (hb : DW X G Wx (.BoolOp .Or (b :: rest) pos) tb) : DW X G Wx (.BoolOp .Or (a :: b :: rest) pos) (tOrF ta tb) :=
  ⟨PW.weak (pw_or ha.pt hb.pw) fun σ H Q ⟨W, sl, C, rs, st, q⟩ => ⟨W, sl, C, rs, st, q.bind fun x C1 W1 v H1 _ t st1 rx q1 => by
    subst rx
    cases x with
    | false => exact ⟨W1, sl, C1, rs.up t.le, st1, q1⟩
    | true => exact q1 W1 true H1 .refl st1 rfl⟩⟩
theorem dw_pt (h : DW X G Wx e ta) : DT X G Wx e ta := ⟨h.pw.pt⟩
theorem dt_not (ha : DT X G Wx a ta) : DT X G Wx (.UnaryOp .Not a pos) (tNotF ta) :=
  ⟨PT.weak (pt_not ha.pt) fun σ H Q ⟨W, sl, C, rs, st, q⟩ => ⟨W, sl, C, rs, st, q.bind fun x C1 W1 v H1 _ t st1 rx q1 => by
    subst rx
    exact q1 W1 _ H1 .refl st1 rfl⟩⟩
/-- .. as values (all truths) -/
def eAndF (f g : EF) : EF := fun s C => (f s C).bind fun d C => match d with | .bl true => g s C | .bl false => .ok (.bl false) C | _ => .no
def eOrF (f g : EF) : EF := fun s C => (f s C).bind fun d C => match d with | .bl true => .ok (.bl true) C | .bl false => g s C | _ => .no
def eNotF (f : EF) : EF := fun s C => (f s C).bind fun d C => match d with | .bl b => .ok (.bl (!b)) C | _ => .no
theorem de_one {op} (h : DE X G Wx a fa) : DE X G Wx (.BoolOp op [a] pos) fa := ⟨pe_one h.pe⟩
theorem de_and (ha : DE X G Wx a fa) (hb : DE X G Wx (.BoolOp .And (b :: rest) pos) fb) : DE X G Wx (.BoolOp .And (a :: b :: rest) pos) (eAndF fa fb) :=
  ⟨PE.weak (pe_and ha.pe hb.pe) fun σ H Q ⟨W, sl, C, rs, st, q⟩ => ⟨W, sl, C, rs, st, q.bind fun x C1 W1 v H1 _ t st1 rx q1 => by
    split at q1
    · exact ⟨true, rx.bl_, W1, sl, C1, rs.up t.le, st1, q1⟩
    · exact ⟨false, rx.bl_, q1 W1 _ H1 .refl st1 .bl⟩
    · exact q1.elim⟩⟩
theorem de_or (ha : DE X G Wx a fa) (hb : DE X G Wx (.BoolOp .Or (b :: rest) pos) fb) : DE X G Wx (.BoolOp .Or (a :: b :: rest) pos) (eOrF fa fb) :=
  ⟨PE.weak (pe_or ha.pe hb.pe) fun σ H Q ⟨W, sl, C, rs, st, q⟩ => ⟨W, sl, C, rs, st, q.bind fun x C1 W1 v H1 _ t st1 rx q1 => by
    split at q1
    · exact ⟨true, rx.bl_, q1 W1 _ H1 .refl st1 .bl⟩
    · exact ⟨false, rx.bl_, W1, sl, C1, rs.up t.le, st1, q1⟩
    · exact q1.elim⟩⟩
theorem de_not (ha : DE X G Wx a fa) : DE X G Wx (.UnaryOp .Not a pos) (eNotF fa) :=
  ⟨PE.weak (pe_not ha.pe) fun σ H Q ⟨W, sl, C, rs, st, q⟩ => ⟨W, sl, C, rs, st, q.bind fun x C1 W1 v H1 _ t st1 rx q1 => by
    split at q1
    · exact ⟨_, rx.bl_, q1 W1 _ H1 .refl st1 .bl⟩
    · exact q1.elim⟩⟩
def eIf (t : TF) (f g : EF) : EF := fun s C => (t s C).bind fun b C => if b = true then f s C else g s C
theorem de_ifExp {tc : TF} (hc : DT X G Wx c tc) (ha : DE X G Wx a fa) (hb : DE X G Wx b fb) : DE X G Wx (.IfExp c a b pos) (eIf tc fa fb) :=
  ⟨PE.weak (pe_ifExp hc.pt ha.pe hb.pe) fun σ H Q ⟨W, sl, C, rs, st, q⟩ => ⟨W, sl, C, rs, st, q.bind fun x C1 W1 v H1 _ t st1 rx q1 => by
    subst rx
    cases x with
    | true => exact ⟨W1, sl, C1, rs.up t.le, st1, q1⟩
    | false => exact ⟨W1, sl, C1, rs.up t.le, st1, q1⟩⟩⟩
/-- -a -/
def eNeg (f : EF) : EF := fun s C => (f s C).bind fun d C => match d with | .int i => .ok (.int (-i)) C | _ => .no
theorem de_neg (ha : DE X G Wx a fa) : DE X G Wx (.UnaryOp .USub a pos) (eNeg fa) :=
  ⟨PE.weak (pe_un un_neg ha.pe) fun σ H Q ⟨W, sl, C, rs, st, q⟩ => ⟨W, sl, C, rs, st, q.bind fun x C1 W1 v H1 _ t st1 rx q1 => by
    split at q1
    · exact ⟨_, rx.int_, q1 W1 _ H1 .refl st1 .int⟩
    · exact q1.elim⟩⟩

/-! ### chains a < b < c -/
def e3 (g g' : D → D → Cells → Res D) (fa fb fc : EF) : EF := fun s C => (fa s C).bind fun x C => (fb s C).bind fun y C => (g x y C).bind fun z C =>
  match z with | .bl true => (fc s C).bind fun w C => g' y w C | .bl false => .ok (.bl false) C | _ => .no
theorem chain_use {r r' : R2} {g g' : D → D → Cells → Res D} (hr : Op2 G r g) (hr' : Op2 G r' g') {σ : L2.St} {H : Hp} {Q : VK} {W : Wd} {sl : Sl} {C : Cells} (rs : RepS G W sl σ) (st : StR G W C H)
    (q : Post G Wx σ (RepV G) W C H (e3 g g' fa fb fc sl C) Q) : tChain r r' (tD G Wx fa) (tD G Wx fb) (tD G Wx fc) σ H Q := by
  refine ⟨W, sl, C, rs, st, q.bind fun x C1 W1 v H1 _ t st1 rx q1 => ⟨W1, sl, C1, rs.up t.le, st1, q1.bind fun y C2 W2 u H2 _ t2 st2 ry q2 => ?_⟩⟩
  refine hr Wx σ W2 C2 H2 x y v u _ st2 (rx.up t2.le) ry (q2.bind fun z C3 W3 zv H3 _ t3 st3 rz q3 => ?_)
  split at q3
  · refine ⟨true, rz.bl_, ?_⟩
    rw [if_pos rfl]
    exact ⟨W3, sl, C3, rs.up ((t.trans t2).trans t3).le, st3, q3.bind fun w' C4 W4 wv H4 _ t4 st4 rw' q4 => hr' Wx σ W4 C4 H4 y w' u wv Q st4 (ry.up (t3.trans t4).le) rw' q4⟩
  · refine ⟨false, rz.bl_, ?_⟩
    rw [if_neg Bool.false_ne_true]
    exact q3 W3 _ H3 .refl st3 .bl
  · exact q3.elim
theorem de_chain {op op' : CmpOp} {r r' : R2} {g g' : D → D → Cells → Res D} (ho : OpR X (compareOp op) r) (hr : Op2 G r g) (ho' : OpR X (compareOp op') r') (hr' : Op2 G r' g') (ha : DE X G Wx a fa) (hb : DE X G Wx b fb) (hc : DE X G Wx c fc)
    (hm : lastMarks [op, op'] [b, c] = false := by with_unfolding_all rfl) : DE X G Wx (.Compare a [op, op'] [b, c] pos) (e3 g g' fa fb fc) :=
  ⟨PE.weak (pe_chain ho ho' ha.pe hb.pe hc.pe hm) fun σ H Q ⟨W, sl, C, rs, st, q⟩ => chain_use hr hr' rs st q⟩
theorem dt_chain {op op' : CmpOp} {r r' : R2} {g g' : D → D → Cells → Res D} (ho : OpR X (compareOp op) r) (hr : Op2 G r g) (ho' : OpR X (compareOp op') r') (hr' : Op2 G r' g') (ha : DE X G Wx a fa) (hb : DE X G Wx b fb) (hc : DE X G Wx c fc)
    (hm : lastMarks [op, op'] [b, c] = false := by with_unfolding_all rfl) : DT X G Wx (.Compare a [op, op'] [b, c] pos) (asB (e3 g g' fa fb fc)) :=
  ⟨PT.weak (pt_chain ho ho' ha.pe hb.pe hc.pe hm) fun σ H Q ⟨W, sl, C, rs, st, q⟩ => chain_use hr hr' rs st (asB_use q)⟩

/-! ### arguments, tuples, lists -/
def aNil : AF := fun _ C => .ok [] C
def aCons (f : EF) (g : AF) : AF := fun s C => (f s C).bind fun x C => (g s C).bind fun xs C => .ok (x :: xs) C
variable {es : List Expr} {af : AF}
theorem da_nil : DA X G Wx [] aNil := ⟨PA.weak pa_nil fun σ H Q ⟨W, sl, C, rs, st, q⟩ => q W [] H .refl st .nil⟩
theorem da_cons (ha : DE X G Wx e f) (hr : DA X G Wx es af) (hs : starEach (e :: es) X.env = (false, eval e X.env) :: starEach es X.env := by rfl) : DA X G Wx (e :: es) (aCons f af) :=
  ⟨PA.weak (pa_cons ha.pe hr.pa hs) fun σ H Q ⟨W, sl, C, rs, st, q⟩ => ⟨W, sl, C, rs, st, q.bind fun x C1 W1 v H1 _ t st1 rx q1 => ⟨W1, sl, C1, rs.up t.le, st1, q1.bind fun xs C2 W2 vs H2 _ t2 st2 rxs q2 =>
    q2 W2 (v :: vs) H2 .refl st2 (.cons (rx.up t2.le) rxs)⟩⟩⟩
/-- a written tuple; a written list, known; a new cell with a list -/
def eTup (g : AF) : EF := fun s C => (g s C).bind fun xs C => if xs.length ≤ mxl then .ok (.tup xs) C else .no
def eLst (g : AF) : EF := fun s C => (g s C).bind fun xs C => if xs.length ≤ mxl then .ok (.lst xs) C else .no
def newL (xs : List D) (C : Cells) : Res D := .ok (.cel C.nx) (C.new (.lst xs))
def eLstC (g : AF) : EF := fun s C => (g s C).bind fun xs C => if xs.length ≤ mxl then newL xs C else .no
theorem new_cel {σ : L2.St} {l : List D} {vs : List V} {Q : VK} {W : Wd} {C : Cells} {H : Hp} (st : StR G W C H) (r : RepVs G W l vs) (q : Post G Wx σ (RepV G) W C H (newL l C) Q) : ∀ p, H p = none → Q (.ref p) (upd H p (.lst vs)) := fun p hp => by
  obtain ⟨s1, s2⟩ := fr_new (o := .lst l) (ho := .lst vs) st hp ⟨vs, rfl, r⟩
  exact q _ _ _ s2 s1 (.cel (if_pos rfl))
theorem de_tup {k} (h : DA X G Wx es af) : DE X G Wx (.Tuple es k pos) (eTup af) :=
  ⟨PE.weak (pe_tup h.pa) fun σ H Q ⟨W, sl, C, rs, st, q⟩ => ⟨W, sl, C, rs, st, q.bind fun xs C1 W1 vs H1 _ t st1 rx q1 => by
    split at q1
    · rename_i hz
      exact ⟨by rw [← rx.length, ← mxl_eq]; exact hz, new_tup st1 rx q1⟩
    · exact q1.elim⟩⟩
theorem de_lst (h : DA X G Wx es af) : DE X G Wx (.List es pos) (eLst af) :=
  ⟨PE.weak (pe_lst h.pa) fun σ H Q ⟨W, sl, C, rs, st, q⟩ => ⟨W, sl, C, rs, st, q.bind fun xs C1 W1 vs H1 _ t st1 rx q1 => by
    split at q1
    · rename_i hz
      exact ⟨by rw [← rx.length, ← mxl_eq]; exact hz, new_lst st1 rx q1⟩
    · exact q1.elim⟩⟩
theorem de_lstC (h : DA X G Wx es af) : DE X G Wx (.List es pos) (eLstC af) :=
  ⟨PE.weak (pe_lst h.pa) fun σ H Q ⟨W, sl, C, rs, st, q⟩ => ⟨W, sl, C, rs, st, q.bind fun xs C1 W1 vs H1 _ t st1 rx q1 => by
    split at q1
    · rename_i hz
      exact ⟨by rw [← rx.length, ← mxl_eq]; exact hz, new_cel st1 rx q1⟩
    · exact q1.elim⟩⟩

/-! ### indices -/
def dIx (x y : D) (C : Cells) : Res D := match y with
  | .int i => (match x with
    | .str z => (match (if z.length ≤ mxl then atI z.cps.toList i else none) with
      | some c => .ok (.str ⟨#[c]⟩) C
      | none => .no)
    | x => match seqOf C x with
      | some l => (match atI l i with
        | some d => .ok d C
        | none => .no)
      | none => .no)
  | _ => .no
theorem RepVs.atI {W : Wd} {l : List D} {vs : List V} {i : Int} {d : D} (r : RepVs G W l vs) (h : atI l i = some d) : ∃ v, atI vs i = some v ∧ RepV G W d v := by
  unfold L2.atI at h ⊢
  rw [← r.length]
  cases e : ixN l.length i with
  | none => rw [e] at h; cases h
  | some j =>
    rw [e] at h
    exact r.get h
theorem o2_ix : Op2 G (rIx G.K) dIx := fun Wx σ W C H x y v u Q st rx ry q => by
  unfold dIx at q
  split at q
  · rename_i i
    split at q
    · rename_i z
      split at q
      · rename_i c e
        split at e
        · rename_i hz
          exact .inr (.inr ⟨z, i, c, rx.str_, ry.int_, by rw [← mxl_eq]; exact hz, e, q W _ H .refl st .str⟩)
        · cases e
      · exact q.elim
    · split at q
      · rename_i l e
        split at q
        · rename_i d e2
          obtain ⟨p, vs, rfl, h1, r1⟩ := seqOf_ok st rx e
          obtain ⟨w, h2, r2⟩ := r1.atI e2
          rcases h1 with h1 | h1
          · exact .inl ⟨p, vs, i, w, rfl, ry.int_, h1, h2, q W w H .refl st r2⟩
          · exact .inr (.inl ⟨p, vs, i, w, rfl, ry.int_, h1, h2, q W w H .refl st r2⟩)
        · exact q.elim
      · exact q.elim
  · exact q.elim
theorem de_ix (hk : X.K = G.K) (ha : DE X G Wx a fa) (hb : DE X G Wx b fb) (hs : PlainIx b := by intro _ _; rfl) : DE X G Wx (.Subscript a b pos) (e2 dIx fa fb) :=
  ⟨PE.weak (pe_ix ix_seq ha.pe hb.pe hs) fun σ H Q h => by rw [hk]; exact op2_use (ta := tD G Wx fa) (tb := tD G Wx fb) o2_ix h⟩

/-! ### slices -/
abbrev OF := Sl → Cells → Res (Option Int)
structure DO (X : Cx) (G : Glo) (Wx : WX) (e : Option Expr) (f : OF) : Prop where
  po : PO X e (tR G Wx (fun _ a b => a = b) f)
theorem PO.weak {X : Cx} {e : Option Expr} {t t' : TO} (h : PO X e t) (w : ∀ σ H Q, t' σ H Q → t σ H Q) : PO X e t' := ⟨fun pins s σ H Q I q => h.run pins s σ H Q I (w σ H Q q)⟩
def oNone : OF := fun _ C => .ok none C
def oSome (f : EF) : OF := fun s C => (f s C).bind fun d C => match d with | .int i => .ok (some i) C | _ => .no
theorem do_none : DO X G Wx none oNone := ⟨PO.weak po_none fun σ H Q ⟨W, sl, C, rs, st, q⟩ => q W none H .refl st rfl⟩
theorem do_some (h : DE X G Wx e f) : DO X G Wx (some e) (oSome f) := ⟨PO.weak (po_some h.pe) fun σ H Q ⟨W, sl, C, rs, st, q⟩ => ⟨W, sl, C, rs, st, q.bind fun d C1 W1 v H1 _ t st1 rd q1 => by
    split at q1
    · exact ⟨_, rd.int_, q1 W1 _ H1 .refl st1 rfl⟩
    · exact q1.elim⟩⟩
/-- the items of xs[lo:hi] -/
def cutD (xs : List D) (lo hi : Option Int) : List D := (xs.drop (HT.sIx xs.length 0 lo)).take (HT.sIx xs.length xs.length hi - HT.sIx xs.length 0 lo)
theorem RepVs.cut {W : Wd} {l : List D} {vs : List V} (r : RepVs G W l vs) (lo hi : Option Int) : RepVs G W (cutD l lo hi) (cutV vs lo hi) := by
  unfold cutD cutV
  rw [← r.length]
  exact (r.drop _).take _
def dSl (x : D) (lo hi : Option Int) (C : Cells) : Res D := match x with
  | .str z => if z.length ≤ mxl then .ok (.str (cutS z lo hi)) C else .no
  | x => match lstOf C x with
    | some l => .ok (.lst (cutD l lo hi)) C
    | none => .no
def dSlC (x : D) (lo hi : Option Int) (C : Cells) : Res D := match lstOf C x with
    | some l => newL (cutD l lo hi) C
    | none => .no
def eSlG (g : D → Option Int → Option Int → Cells → Res D) (f : EF) (lo hi : OF) : EF := fun s C => (f s C).bind fun x C => (lo s C).bind fun l C => (hi s C).bind fun h C => g x l h C
abbrev rSl2 (K : PySem.W.Frag) : V → Option Int → Option Int → Hp → VK → Prop := fun x lo hi H Q => rSlL K x lo hi H Q ∨ rSlS x lo hi H Q
variable {lo hi : Option Expr} {fl fh : OF} {p2 : Pos}
theorem de_slG {g : D → Option Int → Option Int → Cells → Res D} (hk : X.K = G.K) (hg : ∀ (σ : L2.St) (W : Wd) (C : Cells) (H : Hp) (x : D) (v : V) (l h : Option Int) (Q : VK), StR G W C H → RepV G W x v → Post G Wx σ (RepV G) W C H (g x l h C) Q → rSl2 G.K v l h H Q)
    (he : DE X G Wx e f) (hl : DO X G Wx lo fl) (hh : DO X G Wx hi fh) : DE X G Wx (.Subscript e (.Slice lo hi none p2) pos) (eSlG g f fl fh) :=
  ⟨PE.weak (pe_slice (SlR.or sl_list sl_str) he.pe hl.po hh.po) fun σ H Q ⟨W, sl, C, rs, st, q⟩ => ⟨W, sl, C, rs, st, q.bind fun x C1 W1 v H1 _ t st1 rx q1 => ⟨W1, sl, C1, rs.up t.le, st1, q1.bind fun l C2 W2 l' H2 _ t2 st2 rl q2 => ⟨W2, sl, C2, rs.up (t.trans t2).le, st2, q2.bind fun h C3 W3 h' H3 _ t3 st3 rh q3 => by
    subst rl; subst rh
    rw [hk]
    exact hg σ W3 C3 H3 x v l h Q st3 (rx.up (t2.trans t3).le) q3⟩⟩⟩⟩
theorem de_sl (hk : X.K = G.K) (he : DE X G Wx e f) (hl : DO X G Wx lo fl) (hh : DO X G Wx hi fh) : DE X G Wx (.Subscript e (.Slice lo hi none p2) pos) (eSlG dSl f fl fh) :=
  de_slG hk (fun σ W C H x v l h Q st rx q => by
    unfold dSl at q
    split at q
    · split at q
      · rename_i hz
        exact .inr ⟨_, rx.str_, by rw [← mxl_eq]; exact hz, q W _ H .refl st .str⟩
      · exact q.elim
    · split at q
      · rename_i l' e
        obtain ⟨p, vs, rfl, h1, r1⟩ := lstOf_ok st rx e
        exact .inl ⟨p, vs, rfl, h1, new_lst st (r1.cut l h) q⟩
      · exact q.elim) he hl hh
theorem de_slC (hk : X.K = G.K) (he : DE X G Wx e f) (hl : DO X G Wx lo fl) (hh : DO X G Wx hi fh) : DE X G Wx (.Subscript e (.Slice lo hi none p2) pos) (eSlG dSlC f fl fh) :=
  de_slG hk (fun σ W C H x v l h Q st rx q => by
    unfold dSlC at q
    split at q
    · rename_i l' e
      obtain ⟨p, vs, rfl, h1, r1⟩ := lstOf_ok st rx e
      exact .inl ⟨p, vs, rfl, h1, new_cel st (r1.cut l h) q⟩
    · exact q.elim) he hl hh

/-! ### built-ins by name -/
def eA (g : List D → Cells → Res D) (af : AF) : EF := fun s C => (af s C).bind fun xs C => g xs C
def OpA (G : Glo) (r : List V → Hp → VK → Prop) (g : List D → Cells → Res D) : Prop := ∀ (Wx : WX) (σ : L2.St) (W : Wd) (C : Cells) (H : Hp) (xs : List D) (vs : List V) (Q : VK), StR G W C H → RepVs G W xs vs → Post G Wx σ (RepV G) W C H (g xs C) Q → r vs H Q
variable {x : Str} {p : Pos} {id T : String} {r : List V → Hp → VK → Prop} {g : List D → Cells → Res D}
theorem de_callB (hc : CallR X (.builtin id) r) (hr : OpA G r g) (hg : Gl X x) (hm : X.mg x = none) (hv : bootBuiltins x = some (.builtin id)) (ha : DA X G Wx (e :: es) af) (hn : x ≠ "__name__" := by decide) (hdb : (x == ("__debug__" : Str)) = false := by decide)
    (he : starEach (e :: es) X.env = (false, eval e X.env) :: starEach es X.env := by rfl) (hpl : (backTo pos (starEach es X.env)).any (·.1) = false := by rfl) : DE X G Wx (.Call (.Name x p) (e :: es) [] pos) (eA g af) :=
  ⟨PE.weak (pe_callB hc hg hm hv ha.pa hn hdb he hpl) fun σ H Q ⟨W, sl, C, rs, st, q⟩ => ⟨W, sl, C, rs, st, q.bind fun xs C1 W1 vs H1 _ t st1 rx q1 => hr Wx σ W1 C1 H1 xs vs Q st1 rx q1⟩⟩
theorem de_callT (hc : CallR X (.type T) r) (hr : OpA G r g) (hg : Gl X x) (hm : X.mg x = none) (hv : bootBuiltins x = some (.type T)) (ha : DA X G Wx (e :: es) af) (hn : x ≠ "__name__" := by decide) (hdb : (x == ("__debug__" : Str)) = false := by decide)
    (he : starEach (e :: es) X.env = (false, eval e X.env) :: starEach es X.env := by rfl) (hpl : (backTo pos (starEach es X.env)).any (·.1) = false := by rfl) : DE X G Wx (.Call (.Name x p) (e :: es) [] pos) (eA g af) :=
  ⟨PE.weak (pe_callTy hc hg hm hv ha.pa hn hdb he hpl) fun σ H Q ⟨W, sl, C, rs, st, q⟩ => ⟨W, sl, C, rs, st, q.bind fun xs C1 W1 vs H1 _ t st1 rx q1 => hr Wx σ W1 C1 H1 xs vs Q st1 rx q1⟩⟩
end
section
variable {G : Glo} {X : Cx}
theorem RepVs.one {W : Wd} {d : D} {vs : List V} (h : RepVs G W [d] vs) : ∃ v, vs = [v] ∧ RepV G W d v := by
  obtain ⟨v, vr, rfl, h1, h2⟩ := h.cons_inv
  exact ⟨v, by rw [h2.nil_inv], h1⟩
theorem RepVs.two {W : Wd} {d e : D} {vs : List V} (h : RepVs G W [d, e] vs) : ∃ v u, vs = [v, u] ∧ RepV G W d v ∧ RepV G W e u := by
  obtain ⟨v, vr, rfl, h1, h2⟩ := h.cons_inv
  obtain ⟨u, rfl, h3⟩ := h2.one
  exact ⟨v, u, rfl, h1, h3⟩
/-- len -/
def bLen (xs : List D) (C : Cells) : Res D := match xs with
  | [.str z] => if z.length ≤ mxl then .ok (.int z.length) C else .no
  | [.cel n] => (match C.get n with | some (.lst l) => .ok (.int l.length) C | some (.dk l) => .ok (.int l.length) C | _ => .no)
  | [d] => (match seqOf C d with | some l => .ok (.int l.length) C | none => .no)
  | _ => .no
def rLenS (K : PySem.W.Frag) : List V → Hp → VK → Prop := fun xs H Q => ∃ p ys, xs = [.ref p] ∧ (SqL K H p ys ∨ SqT K H p ys) ∧ Q (.int ys.length) H
def rLenZ : List V → Hp → VK → Prop := fun xs H Q => ∃ z, xs = [.str z] ∧ z.length ≤ sizeLine ∧ Q (.int z.length) H
def rLenD : List V → Hp → VK → Prop := fun xs H Q => ∃ a kvs, xs = [V.ref a] ∧ H a = some (.dK kvs) ∧ Q (.int kvs.length) H
def rLen3 (K : PySem.W.Frag) : List V → Hp → VK → Prop := fun xs H Q => rLenS K xs H Q ∨ rLenZ xs H Q ∨ rLenD xs H Q
theorem c_len : CallR X (.builtin "len") (rLen3 X.K) := CallR.or call_len_seq (CallR.or call_len_str call_lenD)
theorem Paired.len' {α β : Type} {F : α → β → Prop} : ∀ {l : List α} {m : List β}, Paired F l m → l.length = m.length
  | _, _, .nil => rfl
  | _, _, .cons _ t => by simp [Paired.len' t]
theorem oa_len : OpA G (rLen3 G.K) bLen := fun Wx σ W C H xs vs Q st rx q => by
  unfold bLen at q
  split at q
  · split at q
    · rename_i hz
      obtain ⟨v, rfl, r⟩ := rx.one
      exact .inr (.inl ⟨_, by rw [r.str_], by rw [← mxl_eq]; exact hz, q W _ H .refl st .int⟩)
    · exact q.elim
  · rename_i n
    obtain ⟨v, rfl, r⟩ := rx.one
    split at q
    · rename_i l e
      obtain ⟨a, us, rfl, h1, h2⟩ := trkOf_ok (l := l) st r (by simp only [trkOf, e])
      exact .inl ⟨a, us, rfl, .inl (.of h1), by rw [← h2.length]; exact q W _ H .refl st .int⟩
    · rename_i l e
      obtain ⟨a, rfl, h⟩ := r.cel_
      obtain ⟨b, ho, h1, h2, h3, us, rfl, h4⟩ := st.cells n _ e
      rw [h] at h1; cases h1
      exact .inr (.inr ⟨a, us, rfl, h3, by rw [← Paired.len' h4]; exact q W _ H .refl st .int⟩)
    · exact q.elim
  · rename_i d _ _
    obtain ⟨v, rfl, r⟩ := rx.one
    split at q
    · rename_i l e
      obtain ⟨a, us, rfl, h1, h2⟩ := seqOf_ok st r e
      exact .inl ⟨a, us, rfl, h1, by rw [← h2.length]; exact q W _ H .refl st .int⟩
    · exact q.elim
  · exact q.elim
/-- int(n), int(truth) -/
def bInt (xs : List D) (C : Cells) : Res D := match xs with
  | [.int i] => .ok (.int i) C
  | [.bl b] => .ok (.int (if b then 1 else 0)) C
  | _ => .no
theorem oa_int : OpA G (fun xs H Q => (∃ i, xs = [.int i] ∧ Q (.int i) H) ∨ ∃ k, xs = [.bl k] ∧ Q (.int (if k then 1 else 0)) H) bInt := fun Wx σ W C H xs vs Q st rx q => by
  unfold bInt at q
  split at q
  · obtain ⟨v, rfl, r⟩ := rx.one
    exact .inl ⟨_, by rw [r.int_], q W _ H .refl st .int⟩
  · obtain ⟨v, rfl, r⟩ := rx.one
    exact .inr ⟨_, by rw [r.bl_], q W _ H .refl st .int⟩
  · exact q.elim
/-- min, max of two ints -/
def bMin2 (xs : List D) (C : Cells) : Res D := match xs with
  | [.int i, .int j] => .ok (.int (if j < i then j else i)) C
  | _ => .no
def bMax2 (xs : List D) (C : Cells) : Res D := match xs with
  | [.int i, .int j] => .ok (.int (if j > i then j else i)) C
  | _ => .no
theorem oa_min2 : OpA G (fun xs H Q => ∃ i j, xs = [.int i, .int j] ∧ Q (.int (if j < i then j else i)) H) bMin2 := fun Wx σ W C H xs vs Q st rx q => by
  unfold bMin2 at q
  split at q
  · obtain ⟨v, u, rfl, r1, r2⟩ := rx.two
    exact ⟨_, _, by rw [r1.int_, r2.int_], q W _ H .refl st .int⟩
  · exact q.elim
theorem oa_max2 : OpA G (fun xs H Q => ∃ i j, xs = [.int i, .int j] ∧ Q (.int (if j > i then j else i)) H) bMax2 := fun Wx σ W C H xs vs Q st rx q => by
  unfold bMax2 at q
  split at q
  · obtain ⟨v, u, rfl, r1, r2⟩ := rx.two
    exact ⟨_, _, by rw [r1.int_, r2.int_], q W _ H .refl st .int⟩
  · exact q.elim
/-- lists of ints, of truths -/
def asInts : List D → Option (List Int)
  | [] => some []
  | .int i :: r => (asInts r).map (i :: ·)
  | _ => none
def asBls : List D → Option (List Bool)
  | [] => some []
  | .bl i :: r => (asBls r).map (i :: ·)
  | _ => none
theorem asInts_ok {W : Wd} : ∀ {l : List D} {vs : List V} {ns : List Int}, RepVs G W l vs → asInts l = some ns → vs = ns.map V.int
  | [], _, _, r, e => by cases e; rw [r.nil_inv]; rfl
  | d :: l, _, _, r, e => by
    obtain ⟨v, vr, rfl, h1, h2⟩ := r.cons_inv
    cases d with
    | int i =>
      unfold asInts at e
      cases q : asInts l with
      | none => rw [q] at e; cases e
      | some ms =>
        rw [q] at e; cases e
        rw [h1.int_, asInts_ok h2 q]; rfl
    | _ => cases e
theorem asBls_ok {W : Wd} : ∀ {l : List D} {vs : List V} {ns : List Bool}, RepVs G W l vs → asBls l = some ns → vs = ns.map V.bl
  | [], _, _, r, e => by cases e; rw [r.nil_inv]; rfl
  | d :: l, _, _, r, e => by
    obtain ⟨v, vr, rfl, h1, h2⟩ := r.cons_inv
    cases d with
    | bl i =>
      unfold asBls at e
      cases q : asBls l with
      | none => rw [q] at e; cases e
      | some ms =>
        rw [q] at e; cases e
        rw [h1.bl_, asBls_ok h2 q]; rfl
    | _ => cases e
@[simp] theorem asInts_map : ∀ ns : List Int, asInts (ns.map D.int) = some ns
  | [] => rfl
  | n :: r => by simp [asInts, asInts_map r]
@[simp] theorem asBls_map : ∀ ns : List Bool, asBls (ns.map D.bl) = some ns
  | [] => rfl
  | n :: r => by simp [asBls, asBls_map r]
def bAll (xs : List D) (C : Cells) : Res D := match xs with
  | [d] => (match (lstOf C d).bind asBls with | some bs => .ok (.bl (bs.all id)) C | none => .no)
  | _ => .no
def bAny (xs : List D) (C : Cells) : Res D := match xs with
  | [d] => (match (lstOf C d).bind asBls with | some bs => .ok (.bl (bs.any id)) C | none => .no)
  | _ => .no
def bSum (xs : List D) (C : Cells) : Res D := match xs with
  | [d] => (match (lstOf C d).bind asInts with | some ns => .ok (.int ns.sum) C | none => .no)
  | _ => .no
theorem lst_bind {α : Type} {W : Wd} {C : Cells} {H : Hp} {d : D} {v : V} {k : List D → Option α} {z : α} (st : StR G W C H) (r : RepV G W d v) (h : (lstOf C d).bind k = some z) : ∃ a vs l, v = .ref a ∧ SqL G.K H a vs ∧ RepVs G W l vs ∧ k l = some z := by
  cases e : lstOf C d with
  | none => rw [e] at h; cases h
  | some l =>
    rw [e] at h
    obtain ⟨a, vs, h1, h2, h3⟩ := lstOf_ok st r e
    exact ⟨a, vs, l, h1, h2, h3, h⟩
theorem oa_all : OpA G (rAll G.K) bAll := fun Wx σ W C H xs vs Q st rx q => by
  unfold bAll at q
  split at q
  · obtain ⟨v, rfl, r⟩ := rx.one
    split at q
    · rename_i bs e
      obtain ⟨a, us, l, rfl, h1, h2, h3⟩ := lst_bind st r e
      exact ⟨a, bs, rfl, by rw [← asBls_ok h2 h3]; exact h1, q W _ H .refl st .bl⟩
    · exact q.elim
  · exact q.elim
theorem oa_any : OpA G (rAny G.K) bAny := fun Wx σ W C H xs vs Q st rx q => by
  unfold bAny at q
  split at q
  · obtain ⟨v, rfl, r⟩ := rx.one
    split at q
    · rename_i bs e
      obtain ⟨a, us, l, rfl, h1, h2, h3⟩ := lst_bind st r e
      exact ⟨a, bs, rfl, by rw [← asBls_ok h2 h3]; exact h1, q W _ H .refl st .bl⟩
    · exact q.elim
  · exact q.elim
theorem oa_sum : OpA G (rSum G.K) bSum := fun Wx σ W C H xs vs Q st rx q => by
  unfold bSum at q
  split at q
  · obtain ⟨v, rfl, r⟩ := rx.one
    split at q
    · rename_i bs e
      obtain ⟨a, us, l, rfl, h1, h2, h3⟩ := lst_bind st r e
      exact ⟨a, bs, rfl, by rw [← asInts_ok h2 h3]; exact h1, q W _ H .refl st .int⟩
    · exact q.elim
  · exact q.elim
/-- the least, the greatest of ints -/
def minL : List Int → Int
  | [] => 0
  | [i] => i
  | i :: r => let m := minL r; if i ≤ m then i else m
def maxL : List Int → Int
  | [] => 0
  | [i] => i
  | i :: r => let m := maxL r; if m ≤ i then i else m
theorem minL_ok : ∀ {l : List Int}, l ≠ [] → minL l ∈ l ∧ ∀ y ∈ l, minL l ≤ y
  | [], h => absurd rfl h
  | [i], _ => by simp [minL]
  | i :: j :: r, _ => by
    obtain ⟨h1, h2⟩ := minL_ok (l := j :: r) (by simp)
    have e : minL (i :: j :: r) = if i ≤ minL (j :: r) then i else minL (j :: r) := rfl
    rw [e]
    split
    · rename_i h
      exact ⟨List.mem_cons_self, fun y hy => by rcases List.mem_cons.mp hy with rfl | hy; exact Int.le_refl _; exact Int.le_trans h (h2 y hy)⟩
    · rename_i h
      exact ⟨List.mem_cons_of_mem _ h1, fun y hy => by rcases List.mem_cons.mp hy with rfl | hy; omega; exact h2 y hy⟩
theorem maxL_ok : ∀ {l : List Int}, l ≠ [] → maxL l ∈ l ∧ ∀ y ∈ l, y ≤ maxL l
  | [], h => absurd rfl h
  | [i], _ => by simp [maxL]
  | i :: j :: r, _ => by
    obtain ⟨h1, h2⟩ := maxL_ok (l := j :: r) (by simp)
    have e : maxL (i :: j :: r) = if maxL (j :: r) ≤ i then i else maxL (j :: r) := rfl
    rw [e]
    split
    · rename_i h
      exact ⟨List.mem_cons_self, fun y hy => by rcases List.mem_cons.mp hy with rfl | hy; exact Int.le_refl _; exact Int.le_trans (h2 y hy) h⟩
    · rename_i h
      exact ⟨List.mem_cons_of_mem _ h1, fun y hy => by rcases List.mem_cons.mp hy with rfl | hy; omega; exact h2 y hy⟩
def bMin (xs : List D) (C : Cells) : Res D := match xs with
  | [d] => (match (lstOf C d).bind asInts with | some (i :: ns) => .ok (.int (minL (i :: ns))) C | _ => .no)
  | _ => .no
def bMax (xs : List D) (C : Cells) : Res D := match xs with
  | [d] => (match (lstOf C d).bind asInts with | some (i :: ns) => .ok (.int (maxL (i :: ns))) C | _ => .no)
  | _ => .no
theorem oa_min : OpA G (rMin G.K) bMin := fun Wx σ W C H xs vs Q st rx q => by
  unfold bMin at q
  split at q
  · obtain ⟨v, rfl, r⟩ := rx.one
    split at q
    · rename_i i bs e
      obtain ⟨a, us, l, rfl, h1, h2, h3⟩ := lst_bind st r e
      refine ⟨a, i :: bs, rfl, by rw [← asInts_ok h2 h3]; exact h1, by simp, fun m hm hy => ?_⟩
      obtain ⟨k1, k2⟩ := minL_ok (l := i :: bs) (by simp)
      have e : m = minL (i :: bs) := Int.le_antisymm (hy _ k1) (k2 _ hm)
      rw [e]; exact q W _ H .refl st .int
    · exact q.elim
  · exact q.elim
theorem oa_max : OpA G (rMax G.K) bMax := fun Wx σ W C H xs vs Q st rx q => by
  unfold bMax at q
  split at q
  · obtain ⟨v, rfl, r⟩ := rx.one
    split at q
    · rename_i i bs e
      obtain ⟨a, us, l, rfl, h1, h2, h3⟩ := lst_bind st r e
      refine ⟨a, i :: bs, rfl, by rw [← asInts_ok h2 h3]; exact h1, by simp, fun m hm hy => ?_⟩
      obtain ⟨k1, k2⟩ := maxL_ok (l := i :: bs) (by simp)
      have e : m = maxL (i :: bs) := Int.le_antisymm (k2 _ hm) (hy _ k1)
      rw [e]; exact q W _ H .refl st .int
    · exact q.elim
  · exact q.elim
/-- list(xs): known; a cell -/
def bList (xs : List D) (C : Cells) : Res D := match xs with
  | [d] => (match seqOf C d with | some l => .ok (.lst l) C | none => .no)
  | _ => .no
def bListC (xs : List D) (C : Cells) : Res D := match xs with
  | [d] => (match seqOf C d with | some l => newL l C | none => .no)
  | _ => .no
theorem oa_list : OpA G (fun xs H Q => ∃ p ys, xs = [.ref p] ∧ (SqL G.K H p ys ∨ SqT G.K H p ys) ∧ ∀ l, H l = none → Q (.ref l) (upd H l (.lst ys))) bList := fun Wx σ W C H xs vs Q st rx q => by
  unfold bList at q
  split at q
  · obtain ⟨v, rfl, r⟩ := rx.one
    split at q
    · rename_i l e
      obtain ⟨a, us, rfl, h1, h2⟩ := seqOf_ok st r e
      exact ⟨a, us, rfl, h1, new_lst st h2 q⟩
    · exact q.elim
  · exact q.elim
theorem oa_listC : OpA G (fun xs H Q => ∃ p ys, xs = [.ref p] ∧ (SqL G.K H p ys ∨ SqT G.K H p ys) ∧ ∀ l, H l = none → Q (.ref l) (upd H l (.lst ys))) bListC := fun Wx σ W C H xs vs Q st rx q => by
  unfold bListC at q
  split at q
  · obtain ⟨v, rfl, r⟩ := rx.one
    split at q
    · rename_i l e
      obtain ⟨a, us, rfl, h1, h2⟩ := seqOf_ok st r e
      exact ⟨a, us, rfl, h1, new_cel st h2 q⟩
    · exact q.elim
  · exact q.elim
end
end DL

set_option Elab.async false
set_option linter.all false
set_option maxRecDepth 100000
set_option autoImplicit false
namespace DL
open PySem PySem.Spec PyProof.Rows L2

/-! ### statements -/
def sNil : SF := fun s C => .nxt s C
def sSeq (f g : SF) : SF := fun s C => match f s C with
  | .nxt s C => g s C
  | r => r
def sPass : SF := fun s C => .nxt s C
def sBrk : SF := fun s C => .brk s C
def sCnt : SF := fun s C => .cnt s C
def Res.toS (r : Res D) (s : Sl) (k : D → Cells → SRes) : SRes := match r with
  | .ok d C => k d C
  | .err c C => .err c s C
  | .no => .no
def Res.toSB (r : Res Bool) (s : Sl) (k : Bool → Cells → SRes) : SRes := match r with
  | .ok d C => k d C
  | .err c C => .err c s C
  | .no => .no
def sRet (f : EF) : SF := fun s C => (f s C).toS s fun d C => .ret d C
def sRetN : SF := fun _ C => .ret .non C
def sDrop (f : EF) : SF := fun s C => (f s C).toS s fun _ C => .nxt s C
def sSet (i : Nat) (f : EF) : SF := fun s C => (f s C).toS s fun d C => .nxt (s.set i (some d)) C
def sIf (t : TF) (f g : SF) : SF := fun s C => (t s C).toSB s fun b C => if b = true then f s C else g s C
section
variable {X : Cx} {G : Glo} {Wx : WX} {e c : Expr} {f : EF} {st : Stmt} {rest : List Stmt} {g h : SF} {pos : Pos}
/-- an expression ahead of what follows in a statement -/
theorem SPost.toS {W : Wd} {C : Cells} {H : Hp} {sl : Sl} {σ : L2.St} {r : Res D} {k : D → Cells → SRes} {Dn : Ends} {Q : VK} (rs : RepS G W sl σ) (q : SPost G Wx W C H (r.toS sl k) Dn)
    (hk : ∀ d C1 W1 v H1, Step W C H W1 C1 H1 → StR G W1 C1 H1 → RepV G W1 d v → SPost G Wx W1 C1 H1 (k d C1) Dn → Q v H1) : Post G Wx σ (RepV G) W C H r Q := by
  cases r with
  | ok d C' => exact fun W' v H' t st' rr => hk d C' W' v H' t st' rr (SPost.step t q)
  | err c C' => exact fun W' H' t st' => q W' σ H' t st' (rs.up t.le)
  | no => exact q
theorem SPost.toSB {W : Wd} {C : Cells} {H : Hp} {sl : Sl} {σ : L2.St} {r : Res Bool} {k : Bool → Cells → SRes} {Dn : Ends} {Q : Bool → Hp → Prop} (rs : RepS G W sl σ) (q : SPost G Wx W C H (r.toSB sl k) Dn)
    (hk : ∀ d C1 W1 H1, Step W C H W1 C1 H1 → StR G W1 C1 H1 → SPost G Wx W1 C1 H1 (k d C1) Dn → Q d H1) : Post G Wx σ (fun _ a b => a = b) W C H r Q := by
  cases r with
  | ok d C' => exact fun W' v H' t st' rr => rr ▸ hk d C' W' H' t st' (SPost.step t q)
  | err c C' => exact fun W' H' t st' => q W' σ H' t st' (rs.up t.le)
  | no => exact q
theorem dss_nil : DSs X G Wx [] sNil := ⟨PSs.weak pss_nil fun D σ H ⟨W, sl, C, rs, st, q⟩ => q W σ H .refl st rs⟩
theorem seq_use {g h : SF} {Dn : Ends} {σ : L2.St} {H : Hp} (x : tSt G Wx (sSeq g h) Dn σ H) : tSt G Wx g { Dn with nx := tSt G Wx h Dn } σ H := by
  obtain ⟨W, sl, C, rs, st, q⟩ := x
  refine ⟨W, sl, C, rs, st, ?_⟩
  unfold sSeq at q
  cases e : g sl C with
  | nxt s' C' => rw [e] at q; exact fun W' σ' H' t st' rs' => ⟨W', s', C', rs', st', SPost.step t q⟩
  | ret d C' => rw [e] at q; exact q
  | brk s' C' => rw [e] at q; exact q
  | cnt s' C' => rw [e] at q; exact q
  | err c s' C' => rw [e] at q; exact q
  | no => rw [e] at q; exact q
theorem dss_cons (h1 : DS X G Wx st g) (h2 : DSs X G Wx rest h) : DSs X G Wx (st :: rest) (sSeq g h) := ⟨PSs.weak (pss_cons h1.ps h2.ps) fun D σ H x => seq_use x⟩
theorem dss_one (h1 : DS X G Wx st g) : DSs X G Wx [st] g := ⟨pss_one h1.ps⟩
theorem ds_pass : DS X G Wx (.Pass pos) sPass := ⟨PS.weak ps_pass fun D σ H ⟨W, sl, C, rs, st, q⟩ => q W σ H .refl st rs⟩
theorem ds_break : DS X G Wx (.Break pos) sBrk := ⟨PS.weak ps_break fun D σ H ⟨W, sl, C, rs, st, q⟩ => q W σ H .refl st rs⟩
theorem ds_continue : DS X G Wx (.Continue pos) sCnt := ⟨PS.weak ps_continue fun D σ H ⟨W, sl, C, rs, st, q⟩ => q W σ H .refl st rs⟩
theorem ds_doc {x j pos'} : DS X G Wx (.Expr (.Constant (.str x) j pos) pos') sPass := ⟨PS.weak ps_doc fun D σ H ⟨W, sl, C, rs, st, q⟩ => q W σ H .refl st rs⟩
theorem ds_ret (he : DE X G Wx e f) : DS X G Wx (.Return (some e) pos) (sRet f) := ⟨PS.weak (ps_ret he.pe) fun D σ H ⟨W, sl, C, rs, st, q⟩ => ⟨W, sl, C, rs, st, SPost.toS rs q fun d C1 W1 v H1 _ st1 rr q1 => q1 W1 v H1 .refl st1 rr⟩⟩
theorem ds_retN : DS X G Wx (.Return none pos) sRetN := ⟨PS.weak ps_retN fun D σ H ⟨W, sl, C, rs, st, q⟩ => q W .non H .refl st .non⟩
theorem ds_expr (he : DE X G Wx e f) (hs : swapsWith e none pos.line X.env = pure false := by rfl) : DS X G Wx (.Expr e pos) (sDrop f) := ⟨PS.weak (ps_expr he.pe hs) fun D σ H ⟨W, sl, C, rs, st, q⟩ => ⟨W, sl, C, rs, st, SPost.toS rs q fun d C1 W1 v H1 t st1 rr q1 => q1 W1 σ H1 .refl st1 (rs.up t.le)⟩⟩
theorem ds_set {i : Nat} {x : Str} {pos' : Pos} (hN : X.N.Nodup) (hi : X.N[i]? = some x) (hx : Loc X.env.scope x) (he : DE X G Wx e f) (hs : swapsWith e (some (.Name x pos')) pos.line X.env = pure false := by rfl) (hf : X.fn x = true ∨ X.env.scope.names.lookup x = some .local := by first | exact .inl rfl | exact .inr rfl | assumption) :
    DS X G Wx (.Assign [.Name x pos'] e pos) (sSet i f) := ⟨PS.weak (ps_set hN hi hx he.pe hs hf) fun D σ H ⟨W, sl, C, rs, st, q⟩ => ⟨W, sl, C, rs, st, SPost.toS rs q fun d C1 W1 v H1 t st1 rr q1 => q1 W1 _ H1 .refl st1 ((rs.up t.le).set i rr)⟩⟩
theorem ds_if {tc : TF} {a b : List Stmt} (hc : DT X G Wx c tc) (ha : DSs X G Wx a g) (hb : DSs X G Wx b h) : DS X G Wx (.If c a b pos) (sIf tc g h) := ⟨PS.weak (ps_if hc.pt ha.ps hb.ps) fun D σ H ⟨W, sl, C, rs, st, q⟩ => ⟨W, sl, C, rs, st, SPost.toSB rs q fun d C1 W1 H1 t st1 q1 => by
    cases d with
    | true => exact ⟨W1, sl, C1, rs.up t.le, st1, q1⟩
    | false => exact ⟨W1, sl, C1, rs.up t.le, st1, q1⟩⟩⟩
theorem ds_never : DS X G Wx st (fun _ _ => .no) := ⟨PS.weak ps_never fun D σ H ⟨_, _, _, _, _, q⟩ => q⟩

/-! ### while -/
def whileF (t : TF) (b : SF) : Nat → SF
  | 0, _, _ => .no
  | n + 1, s, C => (t s C).toSB s fun k C => if k = true then (match b s C with
    | .nxt s C => whileF t b n s C
    | .cnt s C => whileF t b n s C
    | .brk s C => .nxt s C
    | r => r) else .nxt s C
def wFuel : Nat := 1000000
def sWhile (t : TF) (b : SF) : SF := fun s C => whileF t b wFuel s C
theorem ds_while {tc : TF} {body : List Stmt} (hp : PassesOwn (model X.prog X.w) X.A X.env X.xe) (hc : DT X G Wx c tc) (hb : DSs X G Wx body g) : DS X G Wx (.While c body [] pos) (sWhile tc g) := ⟨PS.weak (ps_while hp hc.pt hb.ps) fun D σ H ⟨W, sl, C, rs, st, q⟩ => by
  refine ⟨fun m σ H => ∃ W sl C, RepS G W sl σ ∧ StR G W C H ∧ SPost G Wx W C H (whileF tc g m sl C) D, ⟨wFuel, W, sl, C, rs, st, q⟩, ?_⟩
  rintro m σ H ⟨W, sl, C, rs, st, q⟩
  cases m with
  | zero => exact q.elim
  | succ m =>
    refine ⟨W, sl, C, rs, st, SPost.toSB rs q fun d C1 W1 H1 t st1 q1 => ?_⟩
    cases d with
    | false => rw [if_neg Bool.false_ne_true] at q1 ⊢; exact q1 W1 σ H1 .refl st1 (rs.up t.le)
    | true =>
      rw [if_pos rfl] at q1 ⊢
      refine ⟨fun σ H => ∃ W sl C, RepS G W sl σ ∧ StR G W C H ∧ SPost G Wx W C H (whileF tc g m sl C) D, fun σ' H' n => ⟨m, Nat.lt_succ_self _, n⟩, W1, sl, C1, rs.up t.le, st1, ?_⟩
      cases e : g sl C1 with
      | nxt s' C' => rw [e] at q1; exact fun W' σ' H' t st' rs' => ⟨W', s', C', rs', st', SPost.step t q1⟩
      | cnt s' C' => rw [e] at q1; exact fun W' σ' H' t st' rs' => ⟨W', s', C', rs', st', SPost.step t q1⟩
      | ret d C' => rw [e] at q1; exact q1
      | brk s' C' => rw [e] at q1; exact q1
      | err c s' C' => rw [e] at q1; exact q1
      | no => rw [e] at q1; exact q1⟩

end

/-! ### targets -/
abbrev GF := D → Sl → Cells → Option Sl
abbrev GFs := List D → Sl → Cells → Option Sl
/-- a target's reading on data; tch: the slots that it changes -/
def GOk (G : Glo) (t : TG) (f : GF) (tch : List Nat) : Prop := ∀ (d : D) (v : V) (sl sl' : Sl) (σ : L2.St) (W : Wd) (C : Cells) (H : Hp) (Q : L2.St → Hp → Prop), StR G W C H → RepV G W d v → RepS G W sl σ → f d sl C = some sl' →
  (∀ σ', RepS G W sl' σ' → (∀ vs, (∀ i ∈ tch, i ∈ vs) → wipe σ' vs = wipe σ vs) → Q σ' H) → t v σ H Q
def GOks (G : Glo) (t : TGs) (f : GFs) (tch : List Nat) : Prop := ∀ (ds : List D) (us : List V) (sl sl' : Sl) (σ : L2.St) (W : Wd) (C : Cells) (H : Hp) (Q : L2.St → Hp → Prop), StR G W C H → RepVs G W ds us → RepS G W sl σ → f ds sl C = some sl' →
  (∀ σ', RepS G W sl' σ' → (∀ vs, (∀ i ∈ tch, i ∈ vs) → wipe σ' vs = wipe σ vs) → Q σ' H) → t us σ H Q
def gfName (i : Nat) : GF := fun d s _ => some (s.set i (some d))
def gfNil : GFs := fun l s _ => match l with | [] => some s | _ => none
def gfCons (f : GF) (g : GFs) : GFs := fun l s C => match l with
  | d :: r => (f d s C).bind fun s => g r s C
  | _ => none
def gfTup (n : Nat) (g : GFs) : GF := fun d s C => match d with
  | .tup l => if l.length = n then g l s C else none
  | _ => none
theorem wipe_set {σ : L2.St} {z : Option V} {i : Nat} : ∀ {vs : List Nat}, i ∈ vs → wipe (σ.set i z) vs = wipe σ vs
  | [], h => by cases h
  | v :: vs, h => by
    unfold wipe
    by_cases hi : i ∈ vs
    · rw [wipe_set hi]
    · have e : i = v := by
        rcases List.mem_cons.mp h with e | e
        · exact e
        · exact absurd e hi
      subst e
      clear h hi
      have aux : ∀ (us : List Nat), (wipe (σ.set i z) us).set i none = (wipe σ us).set i none := fun us => by
        induction us with
        | nil => unfold wipe; rw [List.set_set]
        | cons u us ih =>
          unfold wipe
          by_cases q : u = i
          · subst q; rw [List.set_set, List.set_set]; exact ih
          · rw [List.set_comm _ _ q, List.set_comm _ _ q, ih]
      exact aux vs
section
variable {G : Glo}
theorem g_name {i : Nat} : GOk G (gName i) (gfName i) [i] := fun d v sl sl' σ W C H Q st rv rs e q => by
  cases e
  exact q _ (rs.set i rv) fun vs h => wipe_set (h i (by simp))
theorem g_nil : GOks G gNil gfNil [] := fun ds us sl sl' σ W C H Q st rv rs e q => by
  cases ds with
  | nil => cases e; rw [rv.nil_inv]; exact ⟨rfl, q _ rs fun _ _ => rfl⟩
  | cons _ _ => cases e
theorem g_cons {t : TG} {u : TGs} {f : GF} {g : GFs} {a b : List Nat} (h1 : GOk G t f a) (h2 : GOks G u g b) : GOks G (gCons t u) (gfCons f g) (a ++ b) := fun ds us sl sl' σ W C H Q st rv rs e q => by
  cases ds with
  | nil => cases e
  | cons d r =>
    obtain ⟨v, vr, rfl, k1, k2⟩ := rv.cons_inv
    have e' : (f d sl C).bind (fun s => g r s C) = some sl' := e
    cases e1 : f d sl C with
    | none => rw [e1] at e'; cases e'
    | some s1 =>
      rw [e1] at e'
      exact ⟨v, vr, rfl, h1 d v sl s1 σ W C H _ st k1 rs e1 fun σ1 rs1 w1 => h2 r vr s1 sl' σ1 W C H Q st k2 rs1 e' fun σ2 rs2 w2 => q σ2 rs2 fun vs hv =>
        (w2 vs fun i hi => hv i (List.mem_append_right _ hi)).trans (w1 vs fun i hi => hv i (List.mem_append_left _ hi))⟩
theorem g_tup {u : TGs} {g : GFs} {n : Nat} {b : List Nat} (h : GOks G u g b) : GOk G (gTup G.K n u) (gfTup n g) b := fun d v sl sl' σ W C H Q st rv rs e q => by
  cases d with
  | tup l =>
    have e' : (if l.length = n then g l sl C else none) = some sl' := e
    split at e'
    · rename_i hl
      obtain ⟨a, vs, rfl, h1, h2⟩ := tupOf_ok st rv (l := l) rfl
      exact ⟨a, vs, rfl, h1, by rw [← h2.length]; exact hl, h l vs sl sl' σ W C H Q st h2 rs e' q⟩
    · cases e'
  | _ => cases e
end
/-- target = value -/
def sAsg (f : EF) (g : GF) : SF := fun s C => (f s C).toS s fun d C => match g d s C with | some s => .nxt s C | none => .no
section
variable {X : Cx} {G : Glo} {Wx : WX} {e c : Expr} {f : EF} {st : Stmt} {rest : List Stmt} {g h : SF} {pos : Pos}
theorem ds_asg {tg : Expr} {t : TG} {gf : GF} {tch : List Nat} (he : DE X G Wx e f) (hg : PG X tg t) (go : GOk G t gf tch) (hs : swapsWithSole [tg] e pos.line X.env = pure false := by rfl) (hw : swappedStores [tg] e X.env = pure none := by rfl)
    (h1 : (assignEach [tg] X.env).map (·.2) = [assign tg X.env] := by rfl) : DS X G Wx (.Assign [tg] e pos) (sAsg f gf) :=
  ⟨PS.weak (ps_asg he.pe hg hs hw h1) fun D σ H ⟨W, sl, C, rs, st, q⟩ => ⟨W, sl, C, rs, st, SPost.toS rs q fun d C1 W1 v H1 tt st1 rr q1 => by
    split at q1
    · rename_i s' e
      exact go d v sl s' σ W1 C1 H1 _ st1 rr (rs.up tt.le) e fun σ' rs' _ => q1 W1 σ' H1 .refl st1 rs'
    · exact q1.elim⟩⟩

/-! ### what is walked -/
abbrev IF := Sl → Cells → Res (List D)
/-- from this state on an iterator gives the items ds -/
structure Wlk (G : Glo) (J : It) (W : Wd) (C : Cells) (H : Hp) (ds : List D) : Prop where
  item : ∀ (i : Nat) (d : D), ds[i]? = some d → ∀ W' C' H', Step W C H W' C' H' → StR G W' C' H' → J.go i H' ∧ ∀ x H2, J.yld i H' x H2 → ∃ W2, Step W' C' H' W2 C' H2 ∧ StR G W2 C' H2 ∧ RepV G W2 d x
  stop : ∀ W' C' H', Step W C H W' C' H' → StR G W' C' H' → J.stop ds.length H'
def IPost (G : Glo) (Wx : WX) (σ : L2.St) (W : Wd) (C : Cells) (H : Hp) (r : Res (List D)) (R : It → Hp → Prop) : Prop :=
  match r with
  | .ok ds C' => ∀ W' J H', Step W C H W' C' H' → StR G W' C' H' → Wlk G J W' C' H' ds → R J H'
  | .err c C' => ∀ W' H', Step W C H W' C' H' → StR G W' C' H' → Wx (.ref (G.cls c)) none σ H'
  | .no => False
theorem IPost.step {σ : L2.St} {W W1 : Wd} {C C1 : Cells} {H H1 : Hp} {r : Res (List D)} {R : It → Hp → Prop} (s : Step W C H W1 C1 H1) (h : IPost G Wx σ W C H r R) : IPost G Wx σ W1 C1 H1 r R := by
  cases r with
  | ok a C' => exact fun W' J H' t => h W' J H' (s.trans t)
  | err c C' => exact fun W' H' t => h W' H' (s.trans t)
  | no => exact h
theorem IPost.bind {α β : Type} {σ : L2.St} {R1 : Wd → α → β → Prop} {W : Wd} {C : Cells} {H : Hp} {r : Res α} {k : α → Cells → Res (List D)} {R : It → Hp → Prop} {Q : β → Hp → Prop} (h : IPost G Wx σ W C H (r.bind k) R)
    (hk : ∀ a C1 W1 b H1, Step W C H W1 C1 H1 → StR G W1 C1 H1 → R1 W1 a b → IPost G Wx σ W1 C1 H1 (k a C1) R → Q b H1) : Post G Wx σ R1 W C H r Q := by
  cases r with
  | ok a C' => exact fun W' b H' t st rr => hk a C' W' b H' t st rr (IPost.step t h)
  | err c C' => exact h
  | no => exact h
def IOk (G : Glo) (Wx : WX) (wi : TI) (f : IF) : Prop := ∀ (σ : L2.St) (H : Hp) (R : It → Hp → Prop) (W : Wd) (sl : Sl) (C : Cells), RepS G W sl σ → StR G W C H → IPost G Wx σ W C H (f sl C) R → wi σ H R
/-- a known list, the script; a tuple; a range -/
def iLst (f : EF) : IF := fun s C => (f s C).bind fun d C => match d with | .lst l => .ok l C | .scr l => .ok l C | _ => .no
def iTpl (f : EF) : IF := fun s C => (f s C).bind fun d C => match d with | .tup l => .ok l C | .ktp l => .ok l C | _ => .no
def rngD (lo : Int) (n : Nat) : List D := (List.range n).map fun (i : Nat) => D.int (lo + i)
def iR1 (g : AF) : IF := fun s C => (g s C).bind fun xs C => match xs with
  | [.int j] => if -(2 ^ 62) ≤ j ∧ j < 2 ^ 62 then .ok (rngD 0 j.toNat) C else .no
  | _ => .no
def iR2 (g : AF) : IF := fun s C => (g s C).bind fun xs C => match xs with
  | [.int i, .int j] => if -(2 ^ 62) ≤ i ∧ i < 2 ^ 62 ∧ -(2 ^ 62) ≤ j ∧ j < 2 ^ 62 then .ok (rngD i (j - i).toNat) C else .no
  | _ => .no
theorem wlk_list {W : Wd} {C : Cells} {H : Hp} {a : Addr} {vs : List V} {l : List D} (h : SqL G.K W.F a vs) (r : RepVs G W l vs) : Wlk G (Itl G.K a) W C H l where
  item := fun i d e W' C' H' t st => by
    obtain ⟨v, h1, h2⟩ := r.get e
    have hs : SqL G.K H' a vs := SqL.up (fun x o q => st.F x o (t.le.F x o q)) h
    refine ⟨⟨vs, v, hs, h1⟩, fun x H2 y => ?_⟩
    obtain ⟨rfl, y⟩ := y
    have e2 := y vs hs
    rw [h1] at e2; cases e2
    exact ⟨W', .refl, st, h2.up t.le⟩
  stop := fun W' C' H' t st => ⟨vs, SqL.up (fun x o q => st.F x o (t.le.F x o q)) h, by rw [r.length]; exact Nat.le_refl _⟩
theorem wlk_tup {W : Wd} {C : Cells} {H : Hp} {a : Addr} {vs : List V} {l : List D} (h : SqT G.K W.F a vs) (r : RepVs G W l vs) : Wlk G (Itt G.K a) W C H l where
  item := fun i d e W' C' H' t st => by
    obtain ⟨v, h1, h2⟩ := r.get e
    have hs : SqT G.K H' a vs := SqT.up (fun x o q => st.F x o (t.le.F x o q)) h
    refine ⟨⟨vs, v, hs, h1⟩, fun x H2 y => ?_⟩
    obtain ⟨rfl, y⟩ := y
    have e2 := y vs hs
    rw [h1] at e2; cases e2
    exact ⟨W', .refl, st, h2.up t.le⟩
  stop := fun W' C' H' t st => ⟨vs, SqT.up (fun x o q => st.F x o (t.le.F x o q)) h, by rw [r.length]; exact Nat.le_refl _⟩
theorem wlk_rng {W : Wd} {C : Cells} {H : Hp} {lo : Int} {n : Nat} : Wlk G (Itr lo n) W C H (rngD lo n) where
  item := fun i d e W' C' H' t st => by
    unfold rngD at e
    rw [List.getElem?_map] at e
    have hi : i < n := by
      by_cases q : i < n
      · exact q
      · rw [List.getElem?_eq_none (by simpa using q)] at e; cases e
    rw [List.getElem?_range hi] at e
    cases e
    refine ⟨hi, fun x H2 y => ?_⟩
    obtain ⟨rfl, rfl⟩ := y
    exact ⟨W', .refl, st, .int⟩
  stop := fun W' C' H' t st => by
    show n ≤ (rngD lo n).length
    unfold rngD; rw [List.length_map, List.length_range]; exact Nat.le_refl _
theorem io_list (fo : EF) : IOk G Wx (iList G.K (tD G Wx fo)) (iLst fo) := fun σ H R W sl C rs st q => ⟨W, sl, C, rs, st, q.bind fun d C1 W1 v H1 t st1 rr q1 => by
  split at q1
  · obtain ⟨a, vs, rfl, h1, h2⟩ := rr.lst_
    exact ⟨a, rfl, ⟨vs, .of (st1.F _ _ h1)⟩, q1 W1 _ H1 .refl st1 (wlk_list (.of h1) h2)⟩
  · obtain ⟨a, vs, rfl, h1, h2⟩ := rr.scr_
    exact ⟨a, rfl, ⟨vs, SqL.up st1.F h1⟩, q1 W1 _ H1 .refl st1 (wlk_list h1 h2)⟩
  · exact q1.elim⟩
theorem io_tup (fo : EF) : IOk G Wx (iTup G.K (tD G Wx fo)) (iTpl fo) := fun σ H R W sl C rs st q => ⟨W, sl, C, rs, st, q.bind fun d C1 W1 v H1 t st1 rr q1 => by
  split at q1
  · obtain ⟨a, vs, rfl, h1, h2⟩ := rr.tup_
    exact ⟨a, rfl, ⟨vs, .of (st1.F _ _ h1)⟩, q1 W1 _ H1 .refl st1 (wlk_tup (.of h1) h2)⟩
  · obtain ⟨a, vs, rfl, h1, h2⟩ := rr.ktp_
    exact ⟨a, rfl, ⟨vs, SqT.up st1.F h1⟩, q1 W1 _ H1 .refl st1 (wlk_tup h1 h2)⟩
  · exact q1.elim⟩
theorem io_rng1 (fo : AF) : IOk G Wx (iRng1 (tAr G Wx fo)) (iR1 fo) := fun σ H R W sl C rs st q => ⟨W, sl, C, rs, st, q.bind fun xs C1 W1 vs H1 t st1 rr q1 => by
  split at q1
  · split at q1
    · rename_i h
      obtain ⟨v, rfl, h1⟩ := rr.one
      exact ⟨_, by rw [h1.int_], h.1, h.2, q1 W1 _ H1 .refl st1 wlk_rng⟩
    · exact q1.elim
  · exact q1.elim⟩
theorem io_rng2 (fo : AF) : IOk G Wx (iRng2 (tAr G Wx fo)) (iR2 fo) := fun σ H R W sl C rs st q => ⟨W, sl, C, rs, st, q.bind fun xs C1 W1 vs H1 t st1 rr q1 => by
  split at q1
  · split at q1
    · rename_i h
      obtain ⟨v, u, rfl, h1, h2⟩ := rr.two
      exact ⟨_, _, by rw [h1.int_, h2.int_], h, q1 W1 _ H1 .refl st1 wlk_rng⟩
    · exact q1.elim
  · exact q1.elim⟩

/-! ### for -/
def forF (tg : GF) (b : SF) : List D → SF
  | [], s, C => .nxt s C
  | d :: r, s, C => match tg d s C with
    | none => .no
    | some s => match b s C with
      | .nxt s C => forF tg b r s C
      | .cnt s C => forF tg b r s C
      | .brk s C => .nxt s C
      | x => x
def sFor (it : IF) (tg : GF) (b : SF) : SF := fun s C => match it s C with
  | .ok ds C => forF tg b ds s C
  | .err c C => .err c s C
  | .no => .no
theorem ds_for {tg iter : Expr} {body : List Stmt} {wi : TI} {t : TG} {gf : GF} {tch : List Nat} {fi : IF} (hp : PassesOwn (model X.prog X.w) X.A X.env X.xe) (hc : X.calm = true) (hi : PI X tg iter wi) (io : IOk G Wx wi fi) (hg : PG X tg t) (go : GOk G t gf tch) (hb : DSs X G Wx body g)
    (hs : ∀ x, foldedSetIterable iter X.env x = pure x := by intro _; rfl) : DS X G Wx (.For tg iter body [] pos) (sFor fi gf g) := ⟨PS.weak (ps_for hp hc hi hg hb.ps hs) fun D σ H ⟨W, sl, C, rs, st, q⟩ => by
  refine io σ H _ W sl C rs st ?_
  unfold sFor at q
  cases e : fi sl C with
  | no => rw [e] at q; exact q.elim
  | err c C1 => rw [e] at q; exact fun W' H' t' st' => q W' σ H' t' st' (rs.up t'.le)
  | ok ds C1 =>
    rw [e] at q
    intro W1 J H1 t1 st1 wk
    refine ⟨fun i m σ H => i ≤ ds.length ∧ m = ds.length - i ∧ ∃ W sl C, Step W1 C1 H1 W C H ∧ RepS G W sl σ ∧ StR G W C H ∧ SPost G Wx W C H (forF gf g (ds.drop i) sl C) D, ⟨ds.length, Nat.zero_le _, rfl, W1, sl, C1, .refl, rs.up t1.le, st1, by rw [List.drop_zero]; exact SPost.step t1 q⟩, ?_⟩
    rintro i m σ H ⟨hi, rfl, W, sl, C, t, rs, st, q⟩
    by_cases hlt : i < ds.length
    · have hd : ds[i]? = some ds[i] := List.getElem?_eq_getElem hlt
      have hdr : ds.drop i = ds[i] :: ds.drop (i + 1) := List.drop_eq_getElem_cons hlt
      obtain ⟨go_, y_⟩ := wk.item i _ hd W C H t st
      refine .inr ⟨go_, fun σ H => ∃ W sl C, Step W1 C1 H1 W C H ∧ RepS G W sl σ ∧ StR G W C H ∧ SPost G Wx W C H (forF gf g (ds.drop (i + 1)) sl C) D, fun σ' H' n => ⟨_, by omega, hlt, rfl, n⟩, fun x H' y => ?_⟩
      obtain ⟨W2, t2, st2, r2⟩ := y_ x H' y
      rw [hdr] at q
      unfold forF at q
      split at q
      · exact q.elim
      · rename_i s' e'
        refine go _ x sl s' σ W2 C H' _ st2 r2 (rs.up t2.le) e' fun σ' rs' _ => ⟨W2, s', C, rs', st2, ?_⟩
        have q := SPost.step t2 q
        cases eb : g s' C with
        | nxt s3 C3 => rw [eb] at q; exact fun W3 σ3 H3 t3 st3 rs3 => ⟨W3, s3, C3, (t.trans t2).trans t3, rs3, st3, SPost.step t3 q⟩
        | cnt s3 C3 => rw [eb] at q; exact fun W3 σ3 H3 t3 st3 rs3 => ⟨W3, s3, C3, (t.trans t2).trans t3, rs3, st3, SPost.step t3 q⟩
        | brk s3 C3 => rw [eb] at q; exact q
        | ret d C3 => rw [eb] at q; exact q
        | err c s3 C3 => rw [eb] at q; exact q
        | no => rw [eb] at q; exact q
    · have ei : i = ds.length := by omega
      subst ei
      rw [List.drop_length] at q
      exact .inl ⟨wk.stop W C H t st, q W σ H .refl st rs⟩⟩

/-! ### comprehensions -/
def W0 : WX := fun _ _ _ _ => False
structure DTs (X : Cx) (G : Glo) (Wx : WX) (ifs : List Expr) (f : TF) : Prop where
  pts : PTs X ifs (tTs G Wx f)
theorem PTs.weak {X : Cx} {es : List Expr} {t t' : TT} (h : PTs X es t) (w : ∀ σ H Q, t' σ H Q → t σ H Q) : PTs X es t' := ⟨fun pins s σ H Q I q => h.run pins s σ H Q I (w σ H Q q)⟩
def tYesF : TF := fun _ C => .ok true C
theorem dts_nil : DTs X G Wx [] tYesF := ⟨PTs.weak pts_nil fun σ H Q ⟨W, sl, C, rs, st, q⟩ => q W true H .refl st rfl⟩
theorem dts_one {t : TF} (h : DT X G Wx c t) : DTs X G Wx [c] t := ⟨pts_one h.pt⟩
def wipeD (sl : Sl) : List Nat → Sl
  | [] => sl
  | v :: vs => (wipeD sl vs).set v none
theorem RepS.wipe {W : Wd} {sl : Sl} {σ : L2.St} (h : RepS G W sl σ) : ∀ vs : List Nat, RepS G W (wipeD sl vs) (L2.wipe σ vs)
  | [] => h
  | v :: vs => (RepS.wipe h vs).setN v
def lcF (tg : GF) (t : TF) (f : EF) (vs : List Nat) : List D → Sl → Cells → Res (List D)
  | [], _, C => .ok [] C
  | d :: r, s, C => match tg d (wipeD s vs) C with
    | none => .no
    | some s' => match t s' C with
      | .ok true C => (match f s' C with
        | .ok y C => (match lcF tg t f vs r s C with
          | .ok ys C => .ok (y :: ys) C
          | _ => .no)
        | _ => .no)
      | .ok false C => lcF tg t f vs r s C
      | _ => .no
def lcG (it : IF) (tg : GF) (t : TF) (f : EF) (vs : List Nat) : AF := fun s C => (it s C).bind fun ds C => match lcF tg t f vs ds s C with
  | .ok ys C => if ds.length ≤ mxl then .ok ys C else .no
  | _ => .no
def eLc (it : IF) (tg : GF) (t : TF) (f : EF) (vs : List Nat) : EF := fun s C => (lcG it tg t f vs s C).bind fun ys C => .ok (.lst ys) C
def eLcC (it : IF) (tg : GF) (t : TF) (f : EF) (vs : List Nat) : EF := fun s C => (lcG it tg t f vs s C).bind newL
end
end DL

set_option Elab.async false
set_option linter.all false
set_option maxRecDepth 100000
set_option autoImplicit false
namespace DL
open PySem PySem.Spec PyProof.Rows L2
section
variable {G : Glo} {W W1 W2 : Wd} {C C1 C2 : Cells} {H H1 H2 : Hp} {p : Addr} {o : HO}
/-- something new that the state doesn't speak of -/
theorem fr_out (st : StR G W C H) (hp : H p = none) : StR G W C (upd H p o) ∧ Step W C H W C (upd H p o) ∧ ¬ Own W C p := by
  have np : ∀ a o', H a = some o' → a ≠ p := fun a o' h e => by rw [e, hp] at h; cases h
  refine ⟨⟨st.lnk, st.tb.new hp, fun a o' h => by rw [upd_ne (np a o' (st.F a o' h))]; exact st.F a o' h, fun n o' h => ?_, st.inj, st.nx⟩, ⟨.refl, Nat.le_refl _, fun a o' h _ n => ⟨by rw [upd_ne (np a o' h)]; exact h, n⟩⟩, ?_⟩
  · obtain ⟨a, ho, h1, h2, h3, h4⟩ := st.cells n o' h
    exact ⟨a, ho, h1, h2, by rw [upd_ne (np a _ h3)]; exact h3, h4⟩
  · rintro (⟨u, h⟩ | ⟨n, u, h1, h2⟩)
    · exact absurd rfl (np p u (st.F p u h))
    · obtain ⟨a, ho, k1, _, k3, _⟩ := st.cells n u h1
      rw [h2] at k1; cases k1
      exact absurd rfl (np p ho k3)
/-- .. changed -/
theorem fr_outset {u : HO} (st : StR G W C H) (n : ¬ Own W C p) (hp : H p = some u) (hu : Pla u) : StR G W C (upd H p o) := by
  have nF : ∀ a u, W.F a = some u → a ≠ p := fun a u h e => n (.inl ⟨u, e ▸ h⟩)
  refine ⟨st.lnk, st.tb.put hp hu, fun a o' h => by rw [upd_ne (nF a o' h)]; exact st.F a o' h, fun m o' h => ?_, st.inj, st.nx⟩
  obtain ⟨a, ho, h1, h2, h3, h4⟩ := st.cells m o' h
  have : a ≠ p := fun e => n (.inr ⟨m, o', h, e ▸ h1⟩)
  exact ⟨a, ho, h1, h2, by rw [upd_ne this]; exact h3, h4⟩
/-- all but p as in a step -/
structure StepX (p : Addr) (W : Wd) (C : Cells) (H : Hp) (W' : Wd) (C' : Cells) (H' : Hp) : Prop where
  le : W.le W'
  nx : C.nx ≤ C'.nx
  fr : ∀ a o, a ≠ p → H a = some o → Pla o → ¬ Own W C a → H' a = some o ∧ ¬ Own W' C' a
theorem Step.x (s : Step W C H W1 C1 H1) : StepX p W C H W1 C1 H1 := ⟨s.le, s.nx, fun a o _ => s.fr a o⟩
theorem StepX.trans (a : StepX p W C H W1 C1 H1) (b : StepX p W1 C1 H1 W2 C2 H2) : StepX p W C H W2 C2 H2 :=
  ⟨a.le.trans b.le, Nat.le_trans a.nx b.nx, fun x o q h z n => let ⟨h1, n1⟩ := a.fr x o q h z n; b.fr x o q h1 z n1⟩
theorem StepX.st (s : StepX p W C H W1 C1 H1) (hp : H p = none) : Step W C H W1 C1 H1 := ⟨s.le, s.nx, fun a o h => s.fr a o (fun e => by rw [e, hp] at h; cases h) h⟩
theorem stepX_set (n : ¬ Own W C p) : StepX p W C H W C (upd H p o) := ⟨.refl, Nat.le_refl _, fun a o' q h _ n => ⟨by rw [upd_ne q]; exact h, n⟩⟩
/-- what stood outside becomes known -/
theorem adopt (st : StR G W C H) (n : ¬ Own W C p) (hp : H p = some o) (ho : Pla o) : StR G ⟨upd W.F p o, W.cm⟩ C H ∧ StepX p W C H ⟨upd W.F p o, W.cm⟩ C H := by
  have nF : ∀ a u, W.F a = some u → a ≠ p := fun a u h e => n (.inl ⟨u, e ▸ h⟩)
  have le : W.le ⟨upd W.F p o, W.cm⟩ := ⟨fun a o' h => by show upd W.F p o a = _; rw [upd_ne (nF a o' h)]; exact h, fun _ _ h => h⟩
  refine ⟨⟨st.lnk.trans le, st.tb.kn hp ho.1 le, fun a o' h => ?_, fun m o' h => ?_, st.inj, st.nx⟩, le, Nat.le_refl _, fun a o' q h _ n2 => ⟨h, fun z => n2 ?_⟩⟩
  · have h' : upd W.F p o a = some o' := h
    by_cases e : a = p
    · subst e; rw [upd_same] at h'; cases h'; exact hp
    · rw [upd_ne e] at h'; exact st.F a o' h'
  · obtain ⟨a, ho, h1, h2, h3, h4⟩ := st.cells m o' h
    have : a ≠ p := fun e => n (.inr ⟨m, o', h, e ▸ h1⟩)
    exact ⟨a, ho, h1, by show upd W.F p o a = none; rw [upd_ne this]; exact h2, h3, h4.up le⟩
  · rcases z with ⟨u, z⟩ | z
    · have z' : upd W.F p o a = some u := z
      rw [upd_ne q] at z'; exact .inl ⟨u, z'⟩
    · exact .inr z
/-- .. a cell -/
theorem adoptC {x : O} (st : StR G W C H) (n : ¬ Own W C p) (hp : H p = some o) (r : RepO G W x o) : StR G ⟨W.F, fun n => if n = C.nx then some p else W.cm n⟩ (C.new x) H ∧ StepX p W C H ⟨W.F, fun n => if n = C.nx then some p else W.cm n⟩ (C.new x) H := by
  have le : W.le ⟨W.F, fun n => if n = C.nx then some p else W.cm n⟩ := ⟨fun _ _ h => h, fun n a h => by
    show (if n = C.nx then some p else W.cm n) = some a
    have : n ≠ C.nx := fun e => by rw [e, st.nx _ (Nat.le_refl _)] at h; cases h
    rw [if_neg this]; exact h⟩
  have pF : W.F p = none := by
    cases q : W.F p with
    | none => rfl
    | some u => exact absurd (.inl ⟨u, q⟩) n
  have got : ∀ n o', (C.new x).get n = some o' → (n = C.nx ∧ o' = x) ∨ (n ≠ C.nx ∧ C.get n = some o') := fun n o' h => by
    by_cases e : n = C.nx
    · subst e; rw [get_new] at h; cases h; exact .inl ⟨rfl, rfl⟩
    · rw [get_new_ne e] at h; exact .inr ⟨e, h⟩
  refine ⟨⟨st.lnk.trans le, st.tb.cm rfl, st.F, fun m o' h => ?_, fun i j a o1 o2 h1 h2 h3 h4 => ?_, fun m hm => ?_⟩, le, Nat.le_succ _, fun a o' q h _ n2 => ⟨h, fun z => n2 ?_⟩⟩
  · rcases got m o' h with ⟨rfl, rfl⟩ | ⟨e, h⟩
    · exact ⟨p, o, if_pos rfl, pF, hp, r.up le⟩
    · obtain ⟨a, ho', h1, h2, h3, h4⟩ := st.cells m o' h
      exact ⟨a, ho', (if_neg e).trans h1, h2, h3, h4.up le⟩
  · have h3' : (if i = C.nx then some p else W.cm i) = some a := h3
    have h4' : (if j = C.nx then some p else W.cm j) = some a := h4
    rcases got i o1 h1 with ⟨rfl, _⟩ | ⟨e, h1⟩
    · rcases got j o2 h2 with ⟨rfl, _⟩ | ⟨e2, h2⟩
      · rfl
      · rw [if_pos rfl] at h3'; rw [if_neg e2] at h4'
        cases h3'
        exact absurd (.inr ⟨j, o2, h2, h4'⟩) n
    · rcases got j o2 h2 with ⟨rfl, _⟩ | ⟨e2, h2⟩
      · rw [if_pos rfl] at h4'; rw [if_neg e] at h3'
        cases h4'
        exact absurd (.inr ⟨i, o1, h1, h3'⟩) n
      · rw [if_neg e] at h3'; rw [if_neg e2] at h4'
        exact st.inj i j a o1 o2 h1 h2 h3' h4'
  · have hm' : C.nx + 1 ≤ m := hm
    show (if m = C.nx then some p else W.cm m) = none
    rw [if_neg (by omega)]; exact st.nx m (by omega)
  · rcases z with z | ⟨m, o2, q1, q2⟩
    · exact .inl z
    · have q2' : (if m = C.nx then some p else W.cm m) = some a := q2
      rcases got m o2 q1 with ⟨rfl, _⟩ | ⟨e, q1⟩
      · rw [if_pos rfl] at q2'; cases q2'
        exact absurd rfl q
      · rw [if_neg e] at q2'
        exact .inr ⟨m, o2, q1, q2'⟩
end

section
variable {X : Cx} {G : Glo} {Wx : WX} {e c : Expr} {f : EF} {pos : Pos}
/-- what a list comprehension is wanted for: the list at D (outside of the state) is given to the end -/
theorem lc_use {wi : TI} {t : TG} {gf : GF} {tch vs : List Nat} {tt : TF} {fe : EF} {fi : IF} {fin : List D → Cells → Res D} (io : IOk G Wx wi fi) (go : GOk G t gf tch) (ht : ∀ i ∈ tch, i ∈ vs)
    (hfin : ∀ (σ : L2.St) (W : Wd) (C : Cells) (H : Hp) (l : List D) (us : List V) (Dp : Addr) (Q : VK), StR G W C H → ¬ Own W C Dp → H Dp = some (.lst us) → RepVs G W l us →
      (∀ W1 C1 H1, StepX Dp W C H W1 C1 H1 → H1 = H → ∀ d v, StR G W1 C1 H1 → RepV G W1 d v → fin l C = .ok d C1 → Q v H1) → Q (.ref Dp) H)
    {σ : L2.St} {H : Hp} {Q : VK} {W : Wd} {sl : Sl} {C : Cells} (rs : RepS G W sl σ) (st : StR G W C H)
    (q : Post G Wx σ (RepV G) W C H ((lcG fi gf tt fe vs sl C).bind fin) Q) : tLc wi t (tTs G W0 tt) (tD G W0 fe) vs σ H Q := by
  refine io σ H _ W sl C rs st ?_
  unfold lcG at q
  cases e : fi sl C with
  | no => rw [e] at q; exact q.elim
  | err c C1 => rw [e] at q; exact q
  | ok ds C1 =>
    rw [e] at q
    intro W1 J H1 t1 st1 wk Dp hD
    have q : Post G Wx σ (RepV G) W C H (Res.bind (match lcF gf tt fe vs ds sl C1 with | .ok ys C => if ds.length ≤ mxl then .ok ys C else .no | _ => .no) fin) Q := q
    cases e2 : lcF gf tt fe vs ds sl C1 with
    | no => rw [e2] at q; exact q.elim
    | err c C2 => rw [e2] at q; exact q.elim
    | ok ys Ce =>
      rw [e2] at q
      have q : Post G Wx σ (RepV G) W C H (Res.bind (if ds.length ≤ mxl then .ok ys Ce else .no) fin) Q := q
      split at q
      · rename_i hz
        have q : Post G Wx σ (RepV G) W C H (fin ys Ce) Q := q
        obtain ⟨st2, t2, n2⟩ := fr_out (o := .lst []) st1 hD
        refine ⟨fun i m H => i ≤ ds.length ∧ m = ds.length - i ∧ ∃ W C acc us rest, StepX Dp W1 C1 (upd H1 Dp (.lst [])) W C H ∧ StR G W C H ∧ ¬ Own W C Dp ∧ H Dp = some (.lst us) ∧ RepVs G W acc us ∧ acc.length ≤ i ∧ lcF gf tt fe vs (ds.drop i) sl C = .ok rest Ce ∧ ys = acc ++ rest,
          ⟨ds.length, Nat.zero_le _, rfl, W1, C1, [], [], ys, ⟨.refl, Nat.le_refl _, fun a o _ h _ n => ⟨h, n⟩⟩, st2, n2, upd_same, .nil, Nat.zero_le _, by rw [List.drop_zero]; exact e2, rfl⟩, ?_⟩
        rintro i m H2 ⟨hi, rfl, W2, C2, acc, us, rest, t3, st3, n3, hD3, racc, hacc, erest, eys⟩
        have wk2 : ∀ {W' C' H'}, StepX Dp W1 C1 (upd H1 Dp (.lst [])) W' C' H' → Step W1 C1 H1 W' C' H' := fun s => (t2.x.trans s).st hD
        by_cases hlt : i < ds.length
        · have hd : ds[i]? = some ds[i] := List.getElem?_eq_getElem hlt
          have hdr : ds.drop i = ds[i] :: ds.drop (i + 1) := List.drop_eq_getElem_cons hlt
          obtain ⟨go_, y_⟩ := wk.item i _ hd W2 C2 H2 (wk2 t3) st3
          refine .inr ⟨go_, fun H => ∃ W C acc us rest', StepX Dp W1 C1 (upd H1 Dp (.lst [])) W C H ∧ StR G W C H ∧ ¬ Own W C Dp ∧ H Dp = some (.lst us) ∧ RepVs G W acc us ∧ acc.length ≤ i + 1 ∧ lcF gf tt fe vs (ds.drop (i + 1)) sl C = .ok rest' Ce ∧ ys = acc ++ rest', fun H' n => ⟨_, ?_, hlt, rfl, n⟩, fun x H4 y => ?_⟩
          · omega
          obtain ⟨W4, t4, st4, r4⟩ := y_ x H4 y
          rw [hdr] at erest
          unfold lcF at erest
          cases eg : gf ds[i] (wipeD sl vs) C2 with
          | none => rw [eg] at erest; cases erest
          | some s' =>
            rw [eg] at erest
            have hD4 := (t4.fr Dp _ hD3 pla_lst n3).1
            have n4 := (t4.fr Dp _ hD3 pla_lst n3).2
            refine go _ x (wipeD sl vs) s' (L2.wipe σ vs) W4 C2 H4 _ st4 r4 ((rs.up (t1.le.trans (t3.le.trans t4.le))).wipe vs) eg fun σ' rs' hw => ⟨?_, W4, s', C2, rs', st4, ?_⟩
            · rw [hw vs ht]
              have ww : ∀ us : List Nat, L2.wipe (L2.wipe σ vs) us = L2.wipe (L2.wipe σ vs) us := fun _ => rfl
              have : ∀ (ks : List Nat), (∀ k ∈ ks, k ∈ vs) → L2.wipe (L2.wipe σ vs) ks = L2.wipe σ vs := fun ks => by
                induction ks with
                | nil => intro _; rfl
                | cons k ks ih =>
                  intro hk
                  show (L2.wipe (L2.wipe σ vs) ks).set k none = _
                  rw [ih fun z hz => hk z (List.mem_cons_of_mem _ hz)]
                  have gone : ∀ (ms : List Nat), k ∈ ms → (L2.wipe σ ms).set k none = L2.wipe σ ms := fun ms => by
                    induction ms with
                    | nil => intro h; cases h
                    | cons m ms ih2 =>
                      intro h
                      unfold L2.wipe
                      by_cases e : m = k
                      · subst e; rw [List.set_set]
                      · rcases List.mem_cons.mp h with z | z
                        · exact absurd z.symm e
                        · rw [List.set_comm _ _ e, ih2 z]
                  exact gone vs (hk k List.mem_cons_self)
              exact this vs fun _ h => h
            · cases et : tt s' C2 with
              | no => simp only [et] at erest; cases erest
              | err c C5 => simp only [et] at erest; cases erest
              | ok b C5 =>
                simp only [et] at erest
                intro W5 b' H5 t5 st5 eb
                subst eb
                have hD5 := (t5.fr Dp _ hD4 pla_lst n4).1
                have n5 := (t5.fr Dp _ hD4 pla_lst n4).2
                have tt5 := t3.trans (t4.trans t5).x
                cases b with
                | false =>
                  rw [if_neg Bool.false_ne_true]
                  exact ⟨W5, C5, acc, us, rest, tt5, st5, n5, hD5, racc.up (t4.trans t5).le, Nat.le_succ_of_le hacc, erest, eys⟩
                | true =>
                  rw [if_pos rfl]
                  refine ⟨W5, s', C5, rs'.up t5.le, st5, ?_⟩
                  cases ef : fe s' C5 with
                  | no => simp only [ef] at erest; cases erest
                  | err c C6 => simp only [ef] at erest; cases erest
                  | ok y C6 =>
                    simp only [ef] at erest
                    cases el : lcF gf tt fe vs (ds.drop (i + 1)) sl C6 with
                    | no => rw [el] at erest; cases erest
                    | err c C7 => rw [el] at erest; cases erest
                    | ok ys' C7 =>
                      rw [el] at erest
                      cases erest
                      intro W6 v6 H6 t6 st6 r6
                      have hD6 := (t6.fr Dp _ hD5 pla_lst n5).1
                      have n6 := (t6.fr Dp _ hD5 pla_lst n5).2
                      refine ⟨us, hD6, ?_, W6, C6, acc ++ [y], us ++ [v6], ys', (tt5.trans t6.x).trans (stepX_set n6), fr_outset st6 n6 hD6 pla_lst, n6, upd_same, (racc.up ((t4.trans t5).trans t6).le).append (.cons r6 .nil), ?_, el, by rw [eys]; simp⟩
                      · rw [← racc.length, ← mxl_eq]; omega
                      · rw [List.length_append, List.length_singleton]; omega
        · have ei : i = ds.length := by omega
          subst ei
          rw [List.drop_length] at erest
          cases erest
          rw [List.append_nil] at eys
          subst eys
          refine .inl ⟨wk.stop W2 _ H2 (wk2 t3) st3, hfin σ W2 _ H2 _ us Dp Q st3 n3 hD3 racc fun W5 C5 H5 t5 e5 d v st5 r5 ef => ?_⟩
          rw [ef] at q
          exact q W5 v H5 (t1.trans ((t2.x.trans (t3.trans t5)).st hD)) st5 r5
      · exact q.elim
theorem fin_lst : ∀ (σ : L2.St) (W : Wd) (C : Cells) (H : Hp) (l : List D) (us : List V) (Dp : Addr) (Q : VK), StR G W C H → ¬ Own W C Dp → H Dp = some (.lst us) → RepVs G W l us →
      (∀ W1 C1 H1, StepX Dp W C H W1 C1 H1 → H1 = H → ∀ d v, StR G W1 C1 H1 → RepV G W1 d v → (fun ys C => Res.ok (D.lst ys) C) l C = .ok d C1 → Q v H1) → Q (.ref Dp) H := fun σ W C H l us Dp Q st n hd r k => by
  obtain ⟨s1, s2⟩ := adopt st n hd pla_lst
  exact k _ C H s2 rfl (.lst l) _ s1 (.lst (by show upd W.F Dp _ Dp = _; exact upd_same) (r.up s2.le)) rfl
theorem fin_cel : ∀ (σ : L2.St) (W : Wd) (C : Cells) (H : Hp) (l : List D) (us : List V) (Dp : Addr) (Q : VK), StR G W C H → ¬ Own W C Dp → H Dp = some (.lst us) → RepVs G W l us →
      (∀ W1 C1 H1, StepX Dp W C H W1 C1 H1 → H1 = H → ∀ d v, StR G W1 C1 H1 → RepV G W1 d v → newL l C = .ok d C1 → Q v H1) → Q (.ref Dp) H := fun σ W C H l us Dp Q st n hd r k => by
  obtain ⟨s1, s2⟩ := adoptC (x := .lst l) st n hd ⟨us, rfl, r⟩
  exact k _ _ H s2 rfl (.cel C.nx) _ s1 (.cel (if_pos rfl)) rfl
section
variable {elt tg iter : Expr} {ifs : List Expr} {scope : Scope} {own : List (Str × Nat)} {wi : TI} {t : TG} {gf : GF} {tch : List Nat} {tt : TF} {fi : IF}
theorem de_lc (hc : X.calm = true) (hN : X.N.Nodup) (hi : PI X tg iter wi) (io : IOk G Wx wi fi) (ok : BlkOk X.N X.env.scope scope own) (go : GOk G t gf tch) (htc : ∀ i ∈ tch, i ∈ own.map (·.2))
    (hg : ∀ (s : Shared) (H : Hp) (C : Addr) (cl : List (Str × Addr)) (fp : List Addr), PG (X.blk s H scope (compEnvC scope cl C X.env) fp) tg t) (ht : ∀ (s : Shared) (H : Hp) (C : Addr) (cl : List (Str × Addr)) (fp : List Addr), DTs (X.blk s H scope (compEnvC scope cl C X.env) fp) G W0 ifs tt)
    (he : ∀ (s : Shared) (H : Hp) (C : Addr) (cl : List (Str × Addr)) (fp : List Addr), DE (X.blk s H scope (compEnvC scope cl C X.env) fp) G W0 elt f) (hs : ∀ x, foldedSetIterable iter X.env x = pure x := by intro _; rfl) :
    DE X G Wx (.ListComp elt [⟨tg, iter, ifs, 0⟩] scope pos) (eLc fi gf tt f (own.map (·.2))) :=
  ⟨PE.weak (pe_lc hc hN hi ok hg (fun s H C cl fp => (ht s H C cl fp).pts) (fun s H C cl fp => (he s H C cl fp).pe) hs) fun σ H Q ⟨W, sl, C, rs, st, q⟩ => lc_use io go htc fin_lst rs st q⟩
theorem de_lcC (hc : X.calm = true) (hN : X.N.Nodup) (hi : PI X tg iter wi) (io : IOk G Wx wi fi) (ok : BlkOk X.N X.env.scope scope own) (go : GOk G t gf tch) (htc : ∀ i ∈ tch, i ∈ own.map (·.2))
    (hg : ∀ (s : Shared) (H : Hp) (C : Addr) (cl : List (Str × Addr)) (fp : List Addr), PG (X.blk s H scope (compEnvC scope cl C X.env) fp) tg t) (ht : ∀ (s : Shared) (H : Hp) (C : Addr) (cl : List (Str × Addr)) (fp : List Addr), DTs (X.blk s H scope (compEnvC scope cl C X.env) fp) G W0 ifs tt)
    (he : ∀ (s : Shared) (H : Hp) (C : Addr) (cl : List (Str × Addr)) (fp : List Addr), DE (X.blk s H scope (compEnvC scope cl C X.env) fp) G W0 elt f) (hs : ∀ x, foldedSetIterable iter X.env x = pure x := by intro _; rfl) :
    DE X G Wx (.ListComp elt [⟨tg, iter, ifs, 0⟩] scope pos) (eLcC fi gf tt f (own.map (·.2))) :=
  ⟨PE.weak (pe_lc hc hN hi ok hg (fun s H C cl fp => (ht s H C cl fp).pts) (fun s H C cl fp => (he s H C cl fp).pe) hs) fun σ H Q ⟨W, sl, C, rs, st, q⟩ => lc_use io go htc fin_cel rs st q⟩
/-- name = [..] on one line -/
theorem ds_setLcG {fin : List D → Cells → Res D} (hfin : ∀ (σ : L2.St) (W : Wd) (C : Cells) (H : Hp) (l : List D) (us : List V) (Dp : Addr) (Q : VK), StR G W C H → ¬ Own W C Dp → H Dp = some (.lst us) → RepVs G W l us →
      (∀ W1 C1 H1, StepX Dp W C H W1 C1 H1 → H1 = H → ∀ d v, StR G W1 C1 H1 → RepV G W1 d v → fin l C = .ok d C1 → Q v H1) → Q (.ref Dp) H)
    {i : Nat} {y : Str} {py spos : Pos} (hc : X.calm = true) (hN : X.N.Nodup) (hy : X.N[i]? = some y) (hyl : X.env.scope.names.lookup y = some .local)
    (hsw : swapsWith (.ListComp elt [⟨tg, iter, ifs, 0⟩] scope pos) (some (.Name y py)) spos.line X.env = pure true) (hi : PI X tg iter wi) (io : IOk G Wx wi fi) (ok : BlkOk X.N X.env.scope scope own) (go : GOk G t gf tch) (htc : ∀ i ∈ tch, i ∈ own.map (·.2))
    (hg : ∀ (s : Shared) (H : Hp) (C : Addr) (cl : List (Str × Addr)) (fp : List Addr), PG (X.blk s H scope (compEnvC scope cl C X.env) fp) tg t) (ht : ∀ (s : Shared) (H : Hp) (C : Addr) (cl : List (Str × Addr)) (fp : List Addr), DTs (X.blk s H scope (compEnvC scope cl C X.env) fp) G W0 ifs tt)
    (he : ∀ (s : Shared) (H : Hp) (C : Addr) (cl : List (Str × Addr)) (fp : List Addr), DE (X.blk s H scope (compEnvC scope cl C X.env) fp) G W0 elt f) (hs : ∀ x, foldedSetIterable iter X.env x = pure x := by intro _; rfl) :
    DS X G Wx (.Assign [.Name y py] (.ListComp elt [⟨tg, iter, ifs, 0⟩] scope pos) spos) (sSet i fun s C => (lcG fi gf tt f (own.map (·.2)) s C).bind fin) :=
  ⟨PS.weak (ps_setLc hc hN hy hyl hsw hi ok hg (fun s H C cl fp => (ht s H C cl fp).pts) (fun s H C cl fp => (he s H C cl fp).pe) hs) fun D σ H ⟨W, sl, C, rs, st, q⟩ =>
    lc_use (Q := fun x H1 => gName i x σ H1 D.nx) io go htc hfin rs st (SPost.toS (Q := fun x H1 => gName i x σ H1 D.nx) rs q fun d C1 W1 v H1 t1 st1 rr q1 => q1 W1 _ H1 .refl st1 ((rs.up t1.le).set i rr))⟩
end
end
end DL

set_option Elab.async false
set_option linter.all false
set_option maxRecDepth 100000
set_option autoImplicit false
namespace DL
open PySem PySem.Spec PyProof.Rows L2

/-! ### a def's promise -/
/-- the promise of a def whose worth on data is F -/
def spD (G : Glo) (np : Nat) (F : Fn) : Sp := fun vs H Q E => vs.length = np ∧ ∃ W ds C, RepVs G W ds vs ∧ StR G W C H ∧ Post G (fun c d _ H => E c d H) [] (RepV G) W C H (F ds C) Q
/-- a def's body on data: n slots, np parameters -/
def callF (n np : Nat) (g : SF) : Fn := fun ds C => if ds.length = np then (match g (ds.map some ++ List.replicate (n - ds.length) none) C with
  | .nxt _ C => .ok .non C
  | .ret d C => .ok d C
  | .err c _ C => .err c C
  | _ => .no) else .no
def Arity (F : Fn) (np : Nat) : Prop := ∀ ds C, F ds C ≠ .no → ds.length = np
theorem arity_call {n np : Nat} {g : SF} : Arity (callF n np g) np := fun ds C h => by
  unfold callF at h
  split at h
  · assumption
  · exact absurd rfl h
section
variable {G : Glo} {P : Program} {w : World} {mg : Str → Option Value} {base : Heap}
theorem RepS.start {W : Wd} {ds : List D} {vs : List V} {N : List Str} (r : RepVs G W ds vs) : RepS G W (ds.map some ++ List.replicate (N.length - ds.length) none) (L2.start N vs) := by
  unfold L2.start
  refine ⟨by simp [r.length], fun i d e => ?_⟩
  by_cases hi : i < ds.length
  · rw [List.getElem?_append_left (by simpa using hi), List.getElem?_map] at e
    rw [List.getElem?_append_left (by simpa [← r.length] using hi), List.getElem?_map]
    cases q : ds[i]? with
    | none => rw [q] at e; cases e
    | some d' =>
      rw [q] at e
      cases e
      obtain ⟨v, h1, h2⟩ := r.get q
      exact ⟨v, by rw [h1]; rfl, h2⟩
  · rw [List.getElem?_append_right (by simpa using hi), List.getElem?_replicate] at e
    split at e <;> cases e
/-- THE RULE for a def: its body's worth on data -/
theorem fun_ok {x qual : Str} {st : Stmt} {f : Addr} {fd : FuncData} {N ps : List Str} {k n np : Nat} {g : SF} (F : Fun G.K x qual st f fd) (S : FnScope N ps (defScope st)) (hn : N.length = n) (hp : ps.length = np)
    (hbody : ∀ (cdv : Value) (A : Around) (outer : List Env) (s : Shared) (H : Hp) (E : XK), Room k (A.deeper (envOfC qual (defScope st) s.heap.objs.size f cdv)) →
      DSs (cxOf (L2.CX P w) P w G.K mg base N qual (defScope st) f cdv A outer s H E) G (fun c d _ H => E c d H) (defBody st) g) :
    FnOk P w G.K mg base (L2.CX P w) (k + 1) f fd ps (spD G np (callF n np g)) := by
  refine Fun.okX F S (fun vs H Q E h => h.1.trans hp.symm) fun cdv A outer s H vs Q E hr h => ⟨_, (hbody cdv A outer s H E hr).ps, ?_⟩
  obtain ⟨hl, W, ds, C, rv, st, q⟩ := h
  refine ⟨W, _, C, RepS.start (N := N) rv, st, ?_⟩
  unfold callF at q
  rw [if_pos (rv.length.trans hl), ← hn] at q
  cases e : g (ds.map some ++ List.replicate (N.length - ds.length) none) C with
  | nxt s' C' => rw [e] at q; exact fun W' σ' H' t st' _ => q W' .non H' t st' .non
  | ret d C' => rw [e] at q; exact fun W' v H' t st' r => q W' v H' t st' r
  | err c s' C' => rw [e] at q; exact fun W' σ' H' t st' _ => q W' H' t st'
  | brk s' C' => rw [e] at q; exact q.elim
  | cnt s' C' => rw [e] at q; exact q.elim
  | no => rw [e] at q; exact q.elim
/-- what a caller must know of a def -/
structure Callee (P : Program) (w : World) (G : Glo) (mg : Str → Option Value) (base : Heap) (k : Nat) (x : Str) (np : Nat) (dd : List D) (F : Fn) : Prop where
  ar : Arity F np
  ex : ∃ f fd ps ds dvs, ps.length = np ∧ FnOk P w G.K mg base (L2.CX P w) k f fd ps (spD G np F) ∧ mg x = some (.ref f) ∧ PySem.W.keepIn G.K (.ref f) = true ∧ Binds G.K fd ps ds ∧ Vals dvs ds ∧ ∀ W, RepVs G W dd dvs
/-- methods by the class: the number of parameters, the worth -/
abbrev MTab := Nat → Option (Nat × Fn)
structure MethOk (P : Program) (w : World) (G : Glo) (mg : Str → Option Value) (base : Heap) (k : Nat) (m : Str) (M : MTab) : Prop where
  ex : ∀ c np F, M c = some (np, F) → Arity F np ∧ Cls G.K (G.cls c) ∧ (∀ vs, (flds G.T c vs).lookup m = none) ∧ ∃ f fd ps, ps.length = np ∧ FnOk P w G.K mg base (L2.CX P w) k f fd ps (spD G np F) ∧ Meth G.K (G.cls c) m f ∧ Binds G.K fd ps []
/-- a class that is called -/
structure MakeOk (P : Program) (w : World) (G : Glo) (mg : Str → Option Value) (base : Heap) (k : Nat) (x : Str) (c np : Nat) (dd : List D) (F : Fn) : Prop where
  ar : Arity F np
  ex : ∃ f fd ps ds dvs, ps.length = np ∧ FnOk P w G.K mg base (L2.CX P w) k f fd ps (spD G np F) ∧ mg x = some (.ref (G.cls c)) ∧ Mk G.K (G.cls c) f ∧ Binds G.K fd ps ds ∧ Vals dvs ds ∧ ∀ W, RepVs G W dd dvs
end

def eCall (F : Fn) (dd : List D) (af : AF) : EF := fun s C => (af s C).bind fun xs C => F (xs ++ dd) C
def eMeth (M : MTab) (fo : EF) (af : AF) : EF := fun s C => (fo s C).bind fun x C => match objOf C x with
  | some (c, _) => (match M c with
    | some (_, F) => (af s C).bind fun xs C => F (x :: xs) C
    | none => .no)
  | none => .no
/-- a new instance, an object of its own; .. known from then on -/
def mkC (c : Nat) (F : Fn) (xs : List D) (C : Cells) : Res D := match F (.cel C.nx :: xs) (C.new (.obj c [])) with
  | .ok .non C' => .ok (.cel C.nx) C'
  | .err k C' => .err k C'
  | _ => .no
def mkF (T : Tab) (c : Nat) (F : Fn) (xs : List D) (C : Cells) : Res D := match F (.cel C.nx :: xs) (C.new (.obj c [])) with
  | .ok .non C' => (match C'.get C.nx with
    | some (.obj c' l) => if c' = c ∧ l.length = (T.fl c).length then .ok (.obj c l) (C'.del C.nx) else .no
    | _ => .no)
  | .err k C' => .err k C'
  | _ => .no
def eMake (mk : List D → Cells → Res D) (dd : List D) (af : AF) : EF := fun s C => (af s C).bind fun xs C => mk (xs ++ dd) C
section
variable {X : Cx} {G : Glo} {Wx : WX} {e o : Expr} {es : List Expr} {f : EF} {af : AF} {x m : Str} {p pos apos : Pos} {k np : Nat} {dd : List D} {F : Fn}
theorem spD_of {W : Wd} {C : Cells} {H : Hp} {ds : List D} {vs : List V} {σ : L2.St} {Q : VK} (ar : Arity F np) (rv : RepVs G W ds vs) (st : StR G W C H) (q : Post G Wx σ (RepV G) W C H (F ds C) Q) : spD G np F vs H Q (fun c d H => Wx c d σ H) := by
  have hn : F ds C ≠ .no := fun e => by rw [e] at q; exact q.elim
  refine ⟨by rw [← rv.length]; exact ar ds C hn, W, ds, C, rv, st, ?_⟩
  cases e : F ds C with
  | ok d C' => rw [e] at q; exact q
  | err c C' => rw [e] at q; exact q
  | no => exact absurd e hn
theorem de_call (hk : X.K = G.K) (cl : Callee X.prog X.w G X.mg X.base k x np dd F) (hr : Room k X.A) (hg : Gl X x) (tk : Takes X Wx) (ha : DA X G Wx (e :: es) af) (hdb : (x == ("__debug__" : Str)) = false := by decide)
    (he : starEach (e :: es) X.env = (false, eval e X.env) :: starEach es X.env := by rfl) (hpl : (backTo pos (starEach es X.env)).any (·.1) = false := by rfl) : DE X G Wx (.Call (.Name x p) (e :: es) [] pos) (eCall F dd af) := by
  obtain ⟨ar, f, fd, ps, ds, dvs, hp, ok, hm, kp, hb, hd, rd⟩ := cl
  refine ⟨PE.weak (pe_callSD (E := fun σ c d H => Wx c d σ H) (by rw [hk]; exact ok) hr hg hm (by rw [hk]; exact kp) (by rw [hk]; exact hb) hd (fun σ => passAt tk σ) ha.pa hdb he hpl) fun σ H Q ⟨W, sl, C, rs, st, q⟩ => ⟨W, sl, C, rs, st, q.bind fun xs C1 W1 vs H1 _ t st1 rx q1 => ?_⟩⟩
  exact spD_of ar (rx.append (rd W1)) st1 q1
/-- f() -/
theorem pe_call0SD {f : Addr} {fd : FuncData} {ps : List Str} {sp : Sp} {dvs : List V} {ds : List Value} {E : L2.St → XK} (ok : FnOk X.prog X.w X.K X.mg X.base (L2.CX X.prog X.w) k f fd ps sp) (hr : Room k X.A) (hg : Gl X x) (hm : X.mg x = some (.ref f)) (kp : PySem.W.keepIn X.K (.ref f) = true)
    (hb : Binds X.K fd ps ds) (hd : Vals dvs ds) (hx : ∀ σ, PassesAt (L2.CX X.prog X.w) X σ (E σ)) (hdb : (x == ("__debug__" : Str)) = false) : PE X (.Call (.Name x p) [] [] pos) (fun σ H Q => sp dvs H Q (E σ)) :=
  ⟨fun pins s σ H Q I q => wpAny_Call_Name_kw (ld_glob I hg hm (PySem.W.callWith_K0 I.kIn kp (run_fnSD (us := []) (vs := []) ok hr hb hd (hx σ) I .nil q)) hdb)⟩
theorem de_call0 (hk : X.K = G.K) (cl : Callee X.prog X.w G X.mg X.base k x np dd F) (hr : Room k X.A) (hg : Gl X x) (tk : Takes X Wx) (hdb : (x == ("__debug__" : Str)) = false := by decide) : DE X G Wx (.Call (.Name x p) [] [] pos) (eCall F dd aNil) := by
  obtain ⟨ar, f, fd, ps, ds, dvs, hp, ok, hm, kp, hb, hd, rd⟩ := cl
  refine ⟨PE.weak (pe_call0SD (E := fun σ c d H => Wx c d σ H) (by rw [hk]; exact ok) hr hg hm (by rw [hk]; exact kp) (by rw [hk]; exact hb) hd (fun σ => passAt tk σ) hdb) fun σ H Q ⟨W, sl, C, rs, st, q⟩ => ?_⟩
  exact spD_of ar (rd W) st q

/-! ### methods -/
/-- o.m(..), the method by the instance's class; A: how the arguments come -/
def tMethD (X : Cx) (Wx : WX) (k : Nat) (m : Str) (to : TE) (t : TA) : TE := fun σ H Q => to σ H fun x H1 => ∃ a Cl dx fs f fd ps sp, x = .ref a ∧ H1 a = some (.ins Cl dx fs) ∧ Cls X.K Cl ∧ fs.lookup m = none ∧
  FnOk X.prog X.w X.K X.mg X.base (L2.CX X.prog X.w) k f fd ps sp ∧ Meth X.K Cl m f ∧ Binds X.K fd ps [] ∧ t σ H1 fun vs H2 => sp (x :: vs) H2 Q (fun c d H => Wx c d σ H)
theorem pe_methD {pl : Sem Bool} {to : TE} {t : TA} (he : PE X o to) (hr : Room k X.A) (tk : Takes X Wx) (ha : PA X (e :: es) t)
    (hst : starEach (e :: es) X.env = (false, eval e X.env) :: starEach es X.env) (hpl : (backTo pos (starEach es X.env)).any (·.1) = false)
    (ht : eval (.Call (.Attribute o m apos) (e :: es) [] pos) X.env = (do
      let ov ← eval o X.env
      standAt apos.atName
      let (f, first) ← holding [ov] (getMethod ov m pl)
      callWith pos f first (backTo pos (starEach (e :: es) X.env)) (backToKw pos (keywordEach [] X.env)))) : PE X (.Call (.Attribute o m apos) (e :: es) [] pos) (tMethD X Wx k m to t) := by
  refine ⟨fun pins s σ H Q I h => PySem.W.methodCall_KW (pl := pl) (thn (he.run pins s σ H _ I h) fun u s1 hu => ?_) ht⟩
  obtain ⟨x, H1, I1, rx, a, Cl, dx, fs, f, fd, ps, sp, ex, ea, c, l, ok, hm, hb, q⟩ := hu
  subst ex
  obtain rfl : u = Value.ref a := rx
  refine getmeth_ok I1 ea c hm l (PySem.W.callWith_K (first := [.ref a]) (h₀ := X.base) I.ok.mod.kin hm.kp (thn (ha.run pos pins s1 σ H1 _ I1 q) fun us s2 h2 => ?_) hst hpl)
  obtain ⟨vs, H2, I2, r, q2⟩ := h2
  refine ⟨I2.kIn, run_fnSD (us := .ref a :: us) (vs := .ref a :: vs) (dvs := []) (E := fun σ c d H => Wx c d σ H) ok hr hb .nil (passAt tk σ) I2 (.cons rfl r) ?_⟩
  rw [List.append_nil]; exact q2
theorem pe_methD0 {pl : Sem Bool} {to : TE} (he : PE X o to) (hr : Room k X.A) (tk : Takes X Wx)
    (ht : eval (.Call (.Attribute o m apos) [] [] pos) X.env = (do
      let ov ← eval o X.env
      standAt apos.atName
      let (f, first) ← holding [ov] (getMethod ov m pl)
      callWith pos f first (backTo pos (starEach [] X.env)) (backToKw pos (keywordEach [] X.env)))) : PE X (.Call (.Attribute o m apos) [] [] pos) (tMethD X Wx k m to tNil) := by
  refine ⟨fun pins s σ H Q I h => PySem.W.methodCall_KW (pl := pl) (thn (he.run pins s σ H _ I h) fun u s1 hu => ?_) ht⟩
  obtain ⟨x, H1, I1, rx, a, Cl, dx, fs, f, fd, ps, sp, ex, ea, c, l, ok, hm, hb, q⟩ := hu
  subst ex
  obtain rfl : u = Value.ref a := rx
  refine getmeth_ok I1 ea c hm l (PySem.W.callWith_K0 (first := [.ref a]) I1.kIn hm.kp (run_fnSD (us := [.ref a]) (vs := [.ref a]) (dvs := []) (E := fun σ c d H => Wx c d σ H) ok hr hb .nil (passAt tk σ) I1 (.cons rfl .nil) ?_))
  exact q
theorem meth_use {M : MTab} (hk : X.K = G.K) (mo : MethOk X.prog X.w G X.mg X.base k m M) {t : TA} (ht : ∀ σ H Q, tAr G Wx af σ H Q → t σ H Q) {σ : L2.St} {H : Hp} {Q : VK} (h : tD G Wx (eMeth M f af) σ H Q) : tMethD X Wx k m (tD G Wx f) t σ H Q := by
  obtain ⟨W, sl, C, rs, st, q⟩ := h
  refine ⟨W, sl, C, rs, st, q.bind fun x C1 W1 v H1 _ t1 st1 rx q1 => ?_⟩
  split at q1
  · rename_i c l eo
    split at q1
    · rename_i np F eM
      obtain ⟨ar, cl, nl, f', fd, ps, hp, ok, hm, hb⟩ := mo.ex c np F eM
      obtain ⟨a, dx, vs, rfl, h1, h2, h3⟩ := objOf_ok st1 rx eo
      refine ⟨a, G.cls c, dx, _, f', fd, ps, _, rfl, h1, by rw [hk]; exact cl, nl vs, by rw [hk]; exact ok, by rw [hk]; exact hm, by rw [hk]; exact hb, ht _ _ _ ⟨W1, sl, C1, rs.up t1.le, st1, q1.bind fun xs C2 W2 us H2 _ t2 st2 rxs q2 => ?_⟩⟩
      exact spD_of ar (.cons (rx.up t2.le) rxs) st2 q2
    · exact q1.elim
  · exact q1.elim
theorem de_meth {pl : Sem Bool} {M : MTab} (hk : X.K = G.K) (mo : MethOk X.prog X.w G X.mg X.base k m M) (hr : Room k X.A) (tk : Takes X Wx) (he : DE X G Wx o f) (ha : DA X G Wx (e :: es) af)
    (hst : starEach (e :: es) X.env = (false, eval e X.env) :: starEach es X.env := by rfl) (hpl : (backTo pos (starEach es X.env)).any (·.1) = false := by rfl)
    (ht : eval (.Call (.Attribute o m apos) (e :: es) [] pos) X.env = (do
      let ov ← eval o X.env
      standAt apos.atName
      let (f, first) ← holding [ov] (getMethod ov m pl)
      callWith pos f first (backTo pos (starEach (e :: es) X.env)) (backToKw pos (keywordEach [] X.env))) := by rfl) : DE X G Wx (.Call (.Attribute o m apos) (e :: es) [] pos) (eMeth M f af) :=
  ⟨PE.weak (pe_methD he.pe hr tk ha.pa hst hpl ht) fun σ H Q h => meth_use hk mo (fun _ _ _ q => q) h⟩
theorem de_meth0 {pl : Sem Bool} {M : MTab} (hk : X.K = G.K) (mo : MethOk X.prog X.w G X.mg X.base k m M) (hr : Room k X.A) (tk : Takes X Wx) (he : DE X G Wx o f)
    (ht : eval (.Call (.Attribute o m apos) [] [] pos) X.env = (do
      let ov ← eval o X.env
      standAt apos.atName
      let (f, first) ← holding [ov] (getMethod ov m pl)
      callWith pos f first (backTo pos (starEach [] X.env)) (backToKw pos (keywordEach [] X.env))) := by rfl) : DE X G Wx (.Call (.Attribute o m apos) [] [] pos) (eMeth M f aNil) :=
  ⟨PE.weak (pe_methD0 he.pe hr tk ht) fun σ H Q h => meth_use hk mo (fun σ H Q ⟨W, sl, C, rs, st, q⟩ => q W [] H .refl st .nil) h⟩

/-! ### making an instance -/
theorem run_makeSD {pins : List (Addr × Obj)} {σ : L2.St} {H : Hp} {s : Shared} {Q : VK} {us : List Value} {vs : List V} {Cl f : Addr} {fd : FuncData} {ps : List Str} {sp : Sp} {ds : List Value} {dvs : List V} {E : XK} (M : Mk X.K Cl f) (ok : FnOk X.prog X.w X.K X.mg X.base (L2.CX X.prog X.w) k f fd ps sp) (hr : Room (k + 1) X.A)
    (hb : Binds X.K fd ps ds) (hd : Vals dvs ds) (hx : PassesAt (L2.CX X.prog X.w) X σ E) (I : Inv X pins σ H s) (r : Vals vs us)
    (h : ∀ x dx, H x = none → H dx = none → dx ≠ x → sp (.ref x :: (vs ++ dvs)) (upd (upd H dx (.own x)) x (.ins Cl dx [])) (fun v H2 => v = .non ∧ Q (.ref x) H2) E) : wpAny (model X.prog X.w) X.A (call (.ref Cl) us) (EP X pins σ Q) X.xe s := by
  have hq := h (s.heap.objs.size + 1) s.heap.objs.size (I.hok.fresh (Nat.le_succ _)) I.fresh (Nat.ne_of_lt (Nat.lt_succ_self _))
  have J := Inv.made (C := Cl) I
  have rr : Vals (V.ref (s.heap.objs.size + 1) :: (vs ++ dvs)) (Value.ref (s.heap.objs.size + 1) :: (us ++ ds)) := .cons rfl (r.append hd)
  have hl : (Value.ref (s.heap.objs.size + 1) :: us ++ ds).length = ps.length := (rr.length.symm.trans (ok.len _ _ _ _ hq))
  have run := ok.run (X.A.under (.builtin "type.__call__" ⟨.ref Cl :: us, []⟩)) X.stack _ _ ⟨Value.ref (s.heap.objs.size + 1) :: us, []⟩ _ _ _ E (hr.make Cl us []) (J.env0.make Cl us []) (hb _ (Value.ref (s.heap.objs.size + 1) :: us) J.kIn hl) rr hq
  refine wpAny_call (make_map (f := f) I.kIn M.makes M.init (beq_iff_eq.mp M.fn) (codeAny_mono run fun z s' hz => ?_))
  cases z with
  | error ex => exact hx pins _ _ ex s' J hz
  | ok fl =>
    cases fl with
    | ret u =>
      obtain ⟨v, H', J3, rv, ev, q3⟩ := J.after hz
      subst ev
      exact ⟨rv, ⟨V.ref (s.heap.objs.size + 1), H', J3, rfl, q3⟩⟩
    | _ => exact False.elim hz
theorem pe_makeSD {Cl f : Addr} {fd : FuncData} {ps : List Str} {sp : Sp} {ds : List Value} {dvs : List V} {E : L2.St → XK} {t : TA} (M : Mk X.K Cl f) (ok : FnOk X.prog X.w X.K X.mg X.base (L2.CX X.prog X.w) k f fd ps sp) (hr : Room (k + 1) X.A) (hg : Gl X x) (hm : X.mg x = some (.ref Cl))
    (hb : Binds X.K fd ps ds) (hd : Vals dvs ds) (hx : ∀ σ, PassesAt (L2.CX X.prog X.w) X σ (E σ)) (ha : PA X (e :: es) t) (hdb : (x == ("__debug__" : Str)) = false) (he : starEach (e :: es) X.env = (false, eval e X.env) :: starEach es X.env) (hpl : (backTo pos (starEach es X.env)).any (·.1) = false) :
    PE X (.Call (.Name x p) (e :: es) [] pos) (fun σ H Q => t σ H fun vs H1 => ∀ x dx, H1 x = none → H1 dx = none → dx ≠ x → sp (.ref x :: (vs ++ dvs)) (upd (upd H1 dx (.own x)) x (.ins Cl dx [])) (fun v H2 => v = .non ∧ Q (.ref x) H2) (E σ)) :=
  ⟨fun pins s σ H Q I h => wpAny_Call_Name_kw (ld_glob I hg hm (PySem.W.callWith_K (h₀ := X.base) I.ok.mod.kin M.kp (thn (ha.run pos pins s σ H _ I h) fun us s1 ⟨vs, H1, I1, r, q⟩ => ⟨I1.kIn, run_makeSD M ok hr hb hd (hx σ) I1 r q⟩) he hpl) hdb)⟩
theorem pe_make0SD {Cl f : Addr} {fd : FuncData} {ps : List Str} {sp : Sp} {ds : List Value} {dvs : List V} {E : L2.St → XK} (M : Mk X.K Cl f) (ok : FnOk X.prog X.w X.K X.mg X.base (L2.CX X.prog X.w) k f fd ps sp) (hr : Room (k + 1) X.A) (hg : Gl X x) (hm : X.mg x = some (.ref Cl))
    (hb : Binds X.K fd ps ds) (hd : Vals dvs ds) (hx : ∀ σ, PassesAt (L2.CX X.prog X.w) X σ (E σ)) (hdb : (x == ("__debug__" : Str)) = false) :
    PE X (.Call (.Name x p) [] [] pos) (fun σ H Q => ∀ x dx, H x = none → H dx = none → dx ≠ x → sp (.ref x :: ([] ++ dvs)) (upd (upd H dx (.own x)) x (.ins Cl dx [])) (fun v H2 => v = .non ∧ Q (.ref x) H2) (E σ)) :=
  ⟨fun pins s σ H Q I h => wpAny_Call_Name_kw (ld_glob I hg hm (PySem.W.callWith_K0 I.kIn M.kp (run_makeSD (us := []) M ok hr hb hd (hx σ) I .nil h)) hdb)⟩
/-- the new instance's two objects -/
theorem fr_make {c : Nat} {W : Wd} {C : Cells} {H : Hp} {y dx : Addr} (st : StR G W C H) (hy : H y = none) (hd : H dx = none) (ne : dx ≠ y) :
    ∃ W', StR G W' (C.new (.obj c [])) (upd (upd H dx (.own y)) y (.ins (G.cls c) dx [])) ∧ Step W C H W' (C.new (.obj c [])) (upd (upd H dx (.own y)) y (.ins (G.cls c) dx [])) ∧ W'.cm C.nx = some y := by
  obtain ⟨st1, t1, _⟩ := fr_out (o := .own y) st hd
  obtain ⟨st2, t2⟩ := fr_new (p := y) (o := .obj c []) (ho := .ins (G.cls c) dx []) st1 (by rw [upd_ne (Ne.symm ne)]; exact hy) ⟨dx, [], by unfold flds; simp, .nil, Nat.zero_le _⟩
  exact ⟨_, st2, t1.trans t2, if_pos rfl⟩
theorem make_use {c : Nat} {mk : List D → Cells → Res D} {W : Wd} {C : Cells} {H : Hp} {σ : L2.St} {Q : VK} {xs : List D} {vs : List V} {y dx : Addr} (ar : Arity F np) (st : StR G W C H) (rx : RepVs G W xs vs) (hy : H y = none) (hd : H dx = none) (ne : dx ≠ y)
    (q : Post G Wx σ (RepV G) W C H (mk xs C) Q) (hmk : mk = mkC c F ∨ mk = mkF G.T c F) : spD G np F (.ref y :: vs) (upd (upd H dx (.own y)) y (.ins (G.cls c) dx [])) (fun v H2 => v = .non ∧ Q (.ref y) H2) (fun c d H => Wx c d σ H) := by
  obtain ⟨W', st', t', cm'⟩ := fr_make (c := c) st hy hd ne
  refine spD_of (ds := .cel C.nx :: xs) ar (.cons (.cel cm') (rx.up t'.le)) st' ?_
  rcases hmk with rfl | rfl
  · unfold mkC at q
    cases ef : F (.cel C.nx :: xs) (C.new (.obj c [])) with
    | no => rw [ef] at q; exact q
    | err k' C' => rw [ef] at q; exact Post.step t' q
    | ok d C' =>
      rw [ef] at q
      cases d with
      | non => exact fun W2 v H2 t2 st2 r2 => ⟨r2.non_, q W2 _ H2 (t'.trans t2) st2 (.cel (t2.le.cm _ _ cm'))⟩
      | _ => exact q.elim
  · unfold mkF at q
    cases ef : F (.cel C.nx :: xs) (C.new (.obj c [])) with
    | no => rw [ef] at q; exact q
    | err k' C' => rw [ef] at q; exact Post.step t' q
    | ok d C' =>
      rw [ef] at q
      cases d with
      | non =>
        simp only at q
        split at q
        · rename_i c' l eg
          split at q
          · rename_i hc
            obtain ⟨rfl, hl⟩ := hc
            intro W2 v H2 t2 st2 r2
            obtain ⟨a, ho, h1, h2, h3, dx', us, rfl, h4, h5⟩ := st2.cells _ _ eg
            rw [t2.le.cm _ _ cm'] at h1
            cases h1
            obtain ⟨st3, t3⟩ := fr_frz st2 eg (t2.le.cm _ _ cm') h3
            exact ⟨r2.non_, q _ _ H2 ((t'.trans t2).trans t3) st3 (.obj (by show upd W2.F y _ y = _; exact upd_same) (h4.up t3.le) hl)⟩
          · exact q.elim
        · exact q.elim
      | _ => exact q.elim
theorem de_make {c : Nat} {mk : List D → Cells → Res D} (hk : X.K = G.K) (mo : MakeOk X.prog X.w G X.mg X.base k x c np dd F) (hmk : mk = mkC c F ∨ mk = mkF G.T c F) (hr : Room (k + 1) X.A) (hg : Gl X x) (tk : Takes X Wx) (ha : DA X G Wx (e :: es) af) (hdb : (x == ("__debug__" : Str)) = false := by decide)
    (he : starEach (e :: es) X.env = (false, eval e X.env) :: starEach es X.env := by rfl) (hpl : (backTo pos (starEach es X.env)).any (·.1) = false := by rfl) : DE X G Wx (.Call (.Name x p) (e :: es) [] pos) (eMake mk dd af) := by
  obtain ⟨ar, f, fd, ps, ds, dvs, hp, ok, hm, M, hb, hd, rd⟩ := mo
  refine ⟨PE.weak (pe_makeSD (E := fun σ c d H => Wx c d σ H) (by rw [hk]; exact M) (by rw [hk]; exact ok) hr hg hm (by rw [hk]; exact hb) hd (fun σ => passAt tk σ) ha.pa hdb he hpl) fun σ H Q ⟨W, sl, C, rs, st, q⟩ => ⟨W, sl, C, rs, st, q.bind fun xs C1 W1 vs H1 _ t st1 rx q1 => fun y dx hy hd' ne => ?_⟩⟩
  exact make_use ar st1 (rx.append (rd W1)) hy hd' ne q1 hmk
theorem de_make0 {c : Nat} {mk : List D → Cells → Res D} (hk : X.K = G.K) (mo : MakeOk X.prog X.w G X.mg X.base k x c np dd F) (hmk : mk = mkC c F ∨ mk = mkF G.T c F) (hr : Room (k + 1) X.A) (hg : Gl X x) (tk : Takes X Wx) (hdb : (x == ("__debug__" : Str)) = false := by decide) : DE X G Wx (.Call (.Name x p) [] [] pos) (eMake mk dd aNil) := by
  obtain ⟨ar, f, fd, ps, ds, dvs, hp, ok, hm, M, hb, hd, rd⟩ := mo
  refine ⟨PE.weak (pe_make0SD (E := fun σ c d H => Wx c d σ H) (by rw [hk]; exact M) (by rw [hk]; exact ok) hr hg hm (by rw [hk]; exact hb) hd (fun σ => passAt tk σ) hdb) fun σ H Q ⟨W, sl, C, rs, st, q⟩ => fun y dx hy hd' ne => ?_⟩
  exact make_use (xs := [] ++ dd) (vs := [] ++ dvs) ar st (by simpa using rd W) hy hd' ne q hmk
end
end DL

set_option Elab.async false
set_option linter.all false
set_option maxRecDepth 100000
set_option autoImplicit false
namespace DL
open PySem PySem.Spec PyProof.Rows L2

/-! ### fields -/
/-- what the text has of an own class -/
structure ClsX (K : PySem.W.Frag) (C : Addr) : Prop where
  cl : Cls K C
  ha : PySem.W.findIn K (.ref C) "__class__" = some (some (.builtin "object.__class__"))
  hn : PySem.W.specialIn K (.builtin "object.__class__") "__get__" = some (some (.builtin "getset_descriptor.__get__"))
  ht : PySem.W.takesIn K (.builtin "object.__class__") = some true
  hm : PySem.W.mroIn K C (.type "object") = some true
structure CF (G : Glo) : Prop where
  cls : ∀ c, c < G.T.ncl → ClsX G.K (G.cls c)
  na : ∀ c k, c < G.T.ncl → k ∈ G.T.fl c → NoAttr G.K (G.cls c) (G.T.nm k)
  nd : ∀ c, c < G.T.ncl → ((G.T.fl c).map G.T.nm).Nodup
  few : ∀ c, c < G.T.ncl → (G.T.fl c).length < 900
theorem zip_lookup : ∀ {ns : List Str} {vs : List V} {i : Nat} {n : Str}, ns.Nodup → ns[i]? = some n → (ns.zip vs).lookup n = vs[i]?
  | [], _, _, _, _, h => by simp at h
  | m :: ns, [], i, n, _, _ => by simp
  | m :: ns, v :: vs, 0, n, _, h => by
    simp at h; subst h
    simp [List.zip_cons_cons, List.lookup]
  | m :: ns, v :: vs, i + 1, n, nd, h => by
    have h' : ns[i]? = some n := by simpa using h
    have ne : ¬ n = m := fun e => (List.nodup_cons.mp nd).1 (e ▸ List.mem_of_getElem? h')
    have hb : (n == m) = false := beq_eq_false_iff_ne.mpr ne
    simp only [List.zip_cons_cons, List.lookup, hb]
    rw [zip_lookup (List.nodup_cons.mp nd).2 h']
    simp
theorem zip_put : ∀ {ns : List Str} {vs : List V} {i : Nat} {n : Str} {y : V}, ns.Nodup → ns[i]? = some n → i < vs.length → putF n y (ns.zip vs) = ns.zip (vs.set i y)
  | [], _, _, _, _, _, h, _ => by simp at h
  | m :: ns, [], i, n, _, _, _, h => by simp at h
  | m :: ns, v :: vs, 0, n, y, _, h, _ => by
    simp at h; subst h
    show (if m = m then _ else _) = _
    rw [if_pos rfl]; rfl
  | m :: ns, v :: vs, i + 1, n, y, nd, h, hl => by
    have h' : ns[i]? = some n := by simpa using h
    have ne : ¬ m = n := fun e => (List.nodup_cons.mp nd).1 (e ▸ List.mem_of_getElem? h')
    show (if m = n then _ else (m, v) :: putF n y (ns.zip vs)) = _
    rw [if_neg ne, zip_put (List.nodup_cons.mp nd).2 h' (by simpa using hl)]; rfl
theorem zip_add : ∀ {ns : List Str} {vs : List V} {n : Str} {y : V}, ns.Nodup → ns[vs.length]? = some n → putF n y (ns.zip vs) = ns.zip (vs ++ [y])
  | [], _, _, _, _, h => by simp at h
  | m :: ns, [], n, y, _, h => by
    simp at h; subst h
    have e : (m :: ns).zip ([] : List V) = [] := by simp
    rw [e]
    simp [putF, List.zip_cons_cons]
  | m :: ns, v :: vs, n, y, nd, h => by
    have h' : ns[vs.length]? = some n := by simpa using h
    have ne : ¬ m = n := fun e => (List.nodup_cons.mp nd).1 (e ▸ List.mem_of_getElem? h')
    show (if m = n then _ else (m, v) :: putF n y (ns.zip vs)) = _
    rw [if_neg ne, zip_add (List.nodup_cons.mp nd).2 h']; rfl
theorem idx_get {l : List Nat} {k : Nat} (h : k ∈ l) : l[l.idxOf k]? = some k := by
  have hl := List.idxOf_lt_length_of_mem h
  rw [List.getElem?_eq_getElem hl]
  simp
def fld (T : Tab) (k : Nat) (x : D) (C : Cells) : Res D := match objOf C x with
  | some (c, l) => if c < T.ncl ∧ k ∈ T.fl c then (match l[(T.fl c).idxOf k]? with
    | some d => .ok d C
    | none => .no) else .no
  | none => .no
def eFld (T : Tab) (k : Nat) (f : EF) : EF := fun s C => (f s C).bind fun x C => fld T k x C
section
variable {X : Cx} {G : Glo} {Wx : WX} {e o value : Expr} {es : List Expr} {f fo fv : EF} {af : AF} {x m : Str} {p pos pos' apos cpos : Pos}
theorem de_fld {k : Nat} (hk : X.K = G.K) (cf : CF G) (hx : G.T.nm k = x) (he : DE X G Wx e f) (hb : attributeBase e x X.env (eval e X.env) = eval e X.env := by rfl) : DE X G Wx (.Attribute e x pos) (eFld G.T k f) :=
  ⟨PE.weak (pe_fld he.pe hb) fun σ H Q ⟨W, sl, C, rs, st, q⟩ => ⟨W, sl, C, rs, st, q.bind fun y C1 W1 v H1 _ t st1 rx q1 => by
    unfold fld at q1
    split at q1
    · rename_i c l eo
      split at q1
      · rename_i hc
        split at q1
        · rename_i d ed
          obtain ⟨a, dx, vs, rfl, h1, h2, h3⟩ := objOf_ok st1 rx eo
          obtain ⟨w, h4, h5⟩ := h2.get ed
          subst hx
          refine ⟨a, G.cls c, dx, _, w, rfl, h1, by rw [hk]; exact (cf.cls c hc.1).cl, by rw [hk]; exact cf.na c k hc.1 hc.2, ?_, q1 W1 w H1 .refl st1 h5⟩
          unfold flds
          rw [zip_lookup (cf.nd c hc.1) (by rw [List.getElem?_map, idx_get hc.2]; rfl)]
          exact h4
        · exact q1.elim
      · exact q1.elim
    · exact q1.elim⟩⟩
/-- e.x = value: the value first -/
def setFld (T : Tab) (k : Nat) (x d : D) (C : Cells) : Option Cells := match x with
  | .cel n => (match C.get n with
    | some (.obj c l) => if c < T.ncl ∧ k ∈ T.fl c then (if (T.fl c).idxOf k < l.length then some (C.set n (.obj c (l.set ((T.fl c).idxOf k) d)))
        else if (T.fl c).idxOf k = l.length then some (C.set n (.obj c (l ++ [d]))) else none) else none
    | _ => none)
  | _ => none
def sFldF (T : Tab) (k : Nat) (fo fv : EF) : SF := fun s C => (fv s C).toS s fun d C => (fo s C).toS s fun x C => match setFld T k x d C with | some C => .nxt s C | none => .no
theorem ds_fld {k : Nat} (hk : X.K = G.K) (cf : CF G) (hx : G.T.nm k = x) (ho : DE X G Wx o fo) (hv : DE X G Wx value fv) (hs : swapsWith value (some (.Attribute o x pos')) pos.line X.env = pure false := by rfl) : DS X G Wx (.Assign [.Attribute o x pos'] value pos) (sFldF G.T k fo fv) :=
  ⟨PS.weak (ps_fld ho.pe hv.pe hs) fun Dn σ H ⟨W, sl, C, rs, st, q⟩ => ⟨W, sl, C, rs, st, SPost.toS rs q fun d C1 W1 v H1 t1 st1 rd q1 => ⟨W1, sl, C1, rs.up t1.le, st1, SPost.toS (rs.up t1.le) q1 fun y C2 W2 u H2 t2 st2 ry q2 => by
    split at q2
    · rename_i C3 ec
      unfold setFld at ec
      split at ec
      · rename_i n
        obtain ⟨a, rfl, hn⟩ := ry.cel_
        split at ec
        · rename_i c l eg
          split at ec
          · rename_i hc
            obtain ⟨b, ho, h1, h2, h3, dx, vs, rfl, h4, h5⟩ := st2.cells n _ eg
            rw [hn] at h1; cases h1
            subst hx
            have nd := cf.nd c hc.1
            have nm : ((G.T.fl c).map G.T.nm)[(G.T.fl c).idxOf k]? = some (G.T.nm k) := by rw [List.getElem?_map, idx_get hc.2]; rfl
            have few : (flds G.T c vs).length < 1000 := by
              have := cf.few c hc.1
              unfold flds; rw [List.length_zip, List.length_map]; omega
            have lt := List.idxOf_lt_length_of_mem hc.2
            refine ⟨a, G.cls c, dx, _, rfl, h3, by rw [hk]; exact (cf.cls c hc.1).cl, by rw [hk]; exact cf.na c k hc.1 hc.2, few, ?_⟩
            split at ec
            · rename_i hlt
              cases ec
              obtain ⟨st3, t3⟩ := fr_set (o := .obj c (l.set ((G.T.fl c).idxOf k) d)) (ho := .ins (G.cls c) dx (putF (G.T.nm k) v (flds G.T c vs))) st2 eg hn ⟨dx, vs.set ((G.T.fl c).idxOf k) v, by unfold flds; rw [zip_put nd nm (by rw [← h4.length]; exact hlt)], h4.set _ (rd.up t2.le), by rw [List.length_set]; exact h5⟩
              exact q2 _ _ _ t3 st3 ((rs.up (t1.trans t2).le).up t3.le)
            · split at ec
              · rename_i hnl heq
                cases ec
                obtain ⟨st3, t3⟩ := fr_set (o := .obj c (l ++ [d])) (ho := .ins (G.cls c) dx (putF (G.T.nm k) v (flds G.T c vs))) st2 eg hn ⟨dx, vs ++ [v], by unfold flds; rw [zip_add nd (by rw [← h4.length, ← heq]; exact nm)], h4.append (.cons (rd.up t2.le) .nil), by rw [List.length_append, List.length_singleton]; omega⟩
                exact q2 _ _ _ t3 st3 ((rs.up (t1.trans t2).le).up t3.le)
              · cases ec
          · cases ec
        · cases ec
      · cases ec
    · exact q2.elim⟩⟩⟩

/-! ### methods of built-in types -/
def eBm (ty : Cells → D → Bool) (g : D → List D → Cells → Res D) (fo : EF) (af : AF) : EF := fun s C => (fo s C).bind fun x C => if ty C x = true then (af s C).bind fun xs C => g x xs C else .no
def OpM (G : Glo) (r : V → List V → Hp → VK → Prop) (g : D → List D → Cells → Res D) : Prop := ∀ (Wx : WX) (σ : L2.St) (W : Wd) (C : Cells) (H : Hp) (x : D) (v : V) (xs : List D) (vs : List V) (Q : VK), StR G W C H → RepV G W x v → RepVs G W xs vs → Post G Wx σ (RepV G) W C H (g x xs C) Q → r v vs H Q
def TyM (G : Glo) (T : String) (ty : Cells → D → Bool) : Prop := ∀ (W : Wd) (C : Cells) (H : Hp) (x : D) (v : V), StR G W C H → RepV G W x v → ty C x = true → tyV G.K T v H
variable {T id : String} {r : V → List V → Hp → VK → Prop} {g : D → List D → Cells → Res D} {ty : Cells → D → Bool} {name : Str}
theorem de_bm (hk : X.K = G.K) (pa : PlainAttrs T) (slot : Slot T name id) (hty : typeOf (.builtin id) = pure (.type "method_descriptor")) (hm : MtR X id r) (om : OpM G r g) (tm : TyM G T ty) (ho : DE X G Wx o fo) (ha : DA X G Wx (e :: es) af)
    (hbase : attributeBase o name X.env (eval o X.env) = eval o X.env := by rfl)
    (hfew : ((backTo cpos (starEach (e :: es) X.env)).all (fun x => !x.1) && (backToKw cpos (keywordEach [] X.env)).all (fun x => x.1.isSome)
      && decide ((e :: es).length + ([] : List Keyword).length + (if ([] : List Keyword).isEmpty then 0 else 1) < 30)) = true := by rfl)
    (hline : (apos.endLine == cpos.line) = true := by rfl) (hs : starEach (e :: es) X.env = (false, eval e X.env) :: starEach es X.env := by rfl) (hplain : (backTo cpos (starEach es X.env)).any (·.1) = false := by rfl) : DE X G Wx (.Call (.Attribute o name apos) (e :: es) [] cpos) (eBm ty g fo af) :=
  ⟨PE.weak (pe_bm pa slot hty hm ho.pe ha.pa hbase hfew hline hs hplain) fun σ H Q ⟨W, sl, C, rs, st, q⟩ => ⟨W, sl, C, rs, st, q.bind fun y C1 W1 v H1 _ t st1 rx q1 => by
    split at q1
    · rename_i hy
      exact ⟨by rw [hk]; exact tm W1 C1 H1 y v st1 rx hy, W1, sl, C1, rs.up t.le, st1, q1.bind fun xs C2 W2 vs H2 _ t2 st2 rxs q2 => om Wx σ W2 C2 H2 y v xs vs Q st2 (rx.up t2.le) rxs q2⟩
    · exact q1.elim⟩⟩
theorem de_bm0 (hk : X.K = G.K) (pa : PlainAttrs T) (slot : Slot T name id) (hty : typeOf (.builtin id) = pure (.type "method_descriptor")) (hm : MtR X id r) (om : OpM G r g) (tm : TyM G T ty) (ho : DE X G Wx o fo)
    (hbase : attributeBase o name X.env (eval o X.env) = eval o X.env := by rfl) (hline : (apos.endLine == cpos.line) = true := by rfl) : DE X G Wx (.Call (.Attribute o name apos) [] [] cpos) (eBm ty g fo aNil) :=
  ⟨PE.weak (pe_bm0 pa slot hty hm ho.pe hbase hline) fun σ H Q ⟨W, sl, C, rs, st, q⟩ => ⟨W, sl, C, rs, st, q.bind fun y C1 W1 v H1 _ t st1 rx q1 => by
    split at q1
    · rename_i hy
      exact ⟨by rw [hk]; exact tm W1 C1 H1 y v st1 rx hy, om Wx σ W1 C1 H1 y v [] [] Q st1 rx .nil q1⟩
    · exact q1.elim⟩⟩
def tyL (C : Cells) (d : D) : Bool := (lstOf C d).isSome
theorem tm_list : TyM G "list" tyL := fun W C H x v st r h => by
  cases e : lstOf C x with
  | none => unfold tyL at h; rw [e] at h; cases h
  | some l =>
    obtain ⟨a, vs, rfl, h1, _⟩ := lstOf_ok st r e
    exact .inl ⟨rfl, vs, h1⟩
/-- the list methods that change: the receiver is a cell -/
def atL (C : Cells) (x : D) (k : Nat → List D → Res D) : Res D := match x with
  | .cel n => (match C.get n with | some (.lst l) => k n l | _ => .no)
  | _ => .no
def mAppend (x : D) (xs : List D) (C : Cells) : Res D := atL C x fun n l => match xs with
  | [y] => if l.length < mxl then .ok .non (C.set n (.lst (l ++ [y]))) else .no
  | _ => .no
def mExtend (x : D) (xs : List D) (C : Cells) : Res D := atL C x fun n l => match xs with
  | [y] => (match trkOf C y with | some l2 => if l.length + l2.length ≤ mxl then .ok .non (C.set n (.lst (l ++ l2))) else .no | none => .no)
  | _ => .no
def mClear (x : D) (xs : List D) (C : Cells) : Res D := atL C x fun n l => match xs with
  | [] => .ok .non (C.set n (.lst []))
  | _ => .no
def mPop (x : D) (xs : List D) (C : Cells) : Res D := atL C x fun n l => match xs with
  | [] => (match l[l.length - 1]? with | some d => .ok d (C.set n (.lst l.dropLast)) | none => .no)
  | _ => .no
theorem atL_ok {W : Wd} {C : Cells} {H : Hp} {σ : L2.St} {Q : VK} {y : D} {v : V} {k : Nat → List D → Res D} (st : StR G W C H) (r : RepV G W y v) (q : Post G Wx σ (RepV G) W C H (atL C y k) Q) :
    ∃ n l a vs, C.get n = some (.lst l) ∧ v = .ref a ∧ W.cm n = some a ∧ H a = some (.lst vs) ∧ RepVs G W l vs ∧ Post G Wx σ (RepV G) W C H (k n l) Q := by
  unfold atL at q
  split at q
  · rename_i n
    split at q
    · rename_i l e
      obtain ⟨a, rfl, h⟩ := r.cel_
      obtain ⟨b, vs, h1, h2, h3, h4⟩ := st.cel_lst e
      rw [h] at h1; cases h1
      exact ⟨n, l, a, vs, e, rfl, h, h3, h4, q⟩
    · exact q.elim
  · exact q.elim
theorem om_append : OpM G rAppend mAppend := fun Wx σ W C H x v xs vs Q st rx rxs q => by
  obtain ⟨n, l, a, us, e, rfl, h, h3, h4, q⟩ := atL_ok st rx q
  split at q
  · split at q
    · rename_i hz
      obtain ⟨u, rfl, hu⟩ := rxs.one
      refine ⟨a, us, u, rfl, rfl, h3, by rw [← h4.length, ← mxl_eq]; exact hz, ?_⟩
      obtain ⟨s1, s2⟩ := fr_set (o := .lst (l ++ [_])) (ho := .lst (us ++ [u])) st e h ⟨_, rfl, h4.append (.cons hu .nil)⟩
      exact q W _ _ s2 s1 .non
    · exact q.elim
  · exact q.elim
theorem om_extend : OpM G rExtend mExtend := fun Wx σ W C H x v xs vs Q st rx rxs q => by
  obtain ⟨n, l, a, us, e, rfl, h, h3, h4, q⟩ := atL_ok st rx q
  split at q
  · rename_i y
    split at q
    · rename_i l2 e2
      split at q
      · rename_i hz
        obtain ⟨u, rfl, hu⟩ := rxs.one
        obtain ⟨b, zs, rfl, k1, k2⟩ := trkOf_ok st hu e2
        refine ⟨a, b, us, zs, rfl, rfl, h3, k1, by rw [← h4.length, ← k2.length, ← mxl_eq]; exact hz, ?_⟩
        obtain ⟨s1, s2⟩ := fr_set (o := .lst (l ++ l2)) (ho := .lst (us ++ zs)) st e h ⟨_, rfl, h4.append k2⟩
        exact q W _ _ s2 s1 .non
      · exact q.elim
    · exact q.elim
  · exact q.elim
theorem om_clear : OpM G rClear mClear := fun Wx σ W C H x v xs vs Q st rx rxs q => by
  obtain ⟨n, l, a, us, e, rfl, h, h3, h4, q⟩ := atL_ok st rx q
  split at q
  · refine ⟨a, us, rfl, rxs.nil_inv, h3, ?_⟩
    obtain ⟨s1, s2⟩ := fr_set (o := .lst []) (ho := .lst []) st e h ⟨_, rfl, .nil⟩
    exact q W _ _ s2 s1 .non
  · exact q.elim
theorem RepVs.dropLast {W : Wd} {l : List D} {vs : List V} (r : RepVs G W l vs) : RepVs G W l.dropLast vs.dropLast := by
  rw [List.dropLast_eq_take, List.dropLast_eq_take, ← r.length]
  exact r.take _
theorem om_pop : OpM G rPop mPop := fun Wx σ W C H x v xs vs Q st rx rxs q => by
  obtain ⟨n, l, a, us, e, rfl, h, h3, h4, q⟩ := atL_ok st rx q
  split at q
  · split at q
    · rename_i d ed
      obtain ⟨u, k1, k2⟩ := h4.get ed
      refine ⟨a, us, u, rfl, rxs.nil_inv, h3, by rw [← h4.length]; exact k1, ?_⟩
      obtain ⟨s1, s2⟩ := fr_set (o := .lst l.dropLast) (ho := .lst us.dropLast) st e h ⟨_, rfl, h4.dropLast⟩
      exact q W _ _ s2 s1 (k2.up s2.le)
    · exact q.elim
  · exact q.elim

/-! ### o[i] = v, o a list -/
def setIx (x i d : D) (C : Cells) : Option Cells := match x, i with
  | .cel n, .int k => (match C.get n with | some (.lst l) => (match ixN l.length k with | some j => some (C.set n (.lst (l.set j d))) | none => none) | _ => none)
  | _, _ => none
def sIxF (fo fi fv : EF) : SF := fun s C => (fv s C).toS s fun d C => (fo s C).toS s fun x C => (fi s C).toS s fun i C => match setIx x i d C with | some C => .nxt s C | none => .no
variable {ei : Expr} {fi : EF}
theorem ds_setIx {ipos : Pos} (ho : DE X G Wx o fo) (hi : DE X G Wx ei fi) (hv : DE X G Wx value fv)
    (ha : ∀ v, assign (.Subscript o ei ipos) X.env v = (do
      let ov ← holding [v] (eval o X.env)
      let iv ← holding [v, ov] (eval ei X.env)
      standAt ipos
      holding [v, ov, iv] (setItem ov iv v)
      release [v, ov, iv] []) := by intro _; rfl)
    (hs : swapsWithSole [.Subscript o ei ipos] value pos.line X.env = pure false := by rfl) (hw : swappedStores [.Subscript o ei ipos] value X.env = pure none := by rfl)
    (h1 : (assignEach [.Subscript o ei ipos] X.env).map (·.2) = [assign (.Subscript o ei ipos) X.env] := by rfl) : DS X G Wx (.Assign [.Subscript o ei ipos] value pos) (sIxF fo fi fv) :=
  ⟨PS.weak (ps_asg hv.pe (pg_sub ho.pe hi.pe set_list ha) hs hw h1) fun Dn σ H ⟨W, sl, C, rs, st, q⟩ => ⟨W, sl, C, rs, st, SPost.toS rs q fun d C1 W1 v H1 t1 st1 rd q1 => ⟨W1, sl, C1, rs.up t1.le, st1, SPost.toS (rs.up t1.le) q1 fun y C2 W2 u H2 t2 st2 ry q2 => ⟨W2, sl, C2, rs.up (t1.trans t2).le, st2, SPost.toS (rs.up (t1.trans t2).le) q2 fun i C3 W3 w H3 t3 st3 ri q3 => by
    split at q3
    · rename_i C4 ec
      unfold setIx at ec
      split at ec
      · rename_i n k
        obtain ⟨a, rfl, hn⟩ := (ry.up t3.le).cel_
        split at ec
        · rename_i l eg
          split at ec
          · rename_i j ej
            cases ec
            obtain ⟨b, vs, k1, k2, k3, k4⟩ := st3.cel_lst eg
            rw [hn] at k1; cases k1
            refine ⟨a, vs, k, j, rfl, ri.int_, k3, by rw [← k4.length]; exact ej, ?_⟩
            obtain ⟨s1, s2⟩ := fr_set (o := .lst (l.set j d)) (ho := .lst (vs.set j v)) st3 eg hn ⟨_, rfl, k4.set j (rd.up (t2.trans t3).le)⟩
            exact q3 W3 σ _ s2 s1 ((rs.up ((t1.trans t2).trans t3).le).up s2.le)
          · cases ec
        · cases ec
      · cases ec
    · exact q3.elim⟩⟩⟩⟩

/-! ### what is a cell becomes known -/
def frz (f : EF) : EF := fun s C => (f s C).bind fun d C => match d with
  | .cel n => (match C.get n with
    | some (.lst l) => .ok (.lst l) (C.del n)
    | _ => .ok d C)
  | d => .ok d C
theorem de_frz (h : DE X G Wx e f) : DE X G Wx e (frz f) :=
  de_weak h.pe fun σ H Q ⟨W, sl, C, rs, st, q⟩ => ⟨W, sl, C, rs, st, q.bind fun d C1 W1 v H1 _ t st1 rd q1 => by
    split at q1
    · rename_i n
      split at q1
      · rename_i l eg
        obtain ⟨a, rfl, hn⟩ := rd.cel_
        obtain ⟨b, vs, k1, k2, k3, k4⟩ := st1.cel_lst eg
        rw [hn] at k1; cases k1
        obtain ⟨s1, s2⟩ := fr_frz st1 eg hn k3
        exact q1 _ _ H1 s2 s1 (.lst (by show upd W1.F a _ a = _; exact upd_same) (k4.up s2.le))
      · exact q1 W1 v H1 .refl st1 rd
    · exact q1 W1 v H1 .refl st1 rd⟩
/-- behind a statement the list at slot i becomes known -/
def sFrz (i : Nat) (g : SF) : SF := fun s C => match g s C with
  | .nxt s C => (match s[i]? with
    | some (some (.cel n)) => (match C.get n with
      | some (.lst l) => .nxt (s.set i (some (.lst l))) (C.del n)
      | _ => .nxt s C)
    | _ => .nxt s C)
  | r => r
theorem ds_frz {st : Stmt} {g : SF} (i : Nat) (h : DS X G Wx st g) : DS X G Wx st (sFrz i g) := ⟨PS.weak h.ps fun Dn σ H ⟨W, sl, C, rs, st, q⟩ => ⟨W, sl, C, rs, st, by
  unfold sFrz at q
  cases e : g sl C with
  | nxt s' C' =>
    rw [e] at q
    intro W' σ' H' t st' rs'
    have q : SPost G Wx W C H (match s'[i]? with
      | some (some (.cel n)) => (match C'.get n with
        | some (.lst l) => .nxt (s'.set i (some (.lst l))) (C'.del n)
        | _ => .nxt s' C')
      | _ => .nxt s' C') Dn := q
    split at q
    · rename_i n ei
      split at q
      · rename_i l eg
        obtain ⟨v, hv, rv⟩ := rs'.at_ i _ ei
        obtain ⟨a, rfl, hn⟩ := rv.cel_
        obtain ⟨b, vs, k1, k2, k3, k4⟩ := st'.cel_lst eg
        rw [hn] at k1; cases k1
        obtain ⟨s1, s2⟩ := fr_frz st' eg hn k3
        refine q _ σ' H' (t.trans s2) s1 ?_
        have hi : i < σ'.length := (List.getElem?_eq_some_iff.mp hv).1
        have := (rs'.up s2.le).set i (d := .lst l) (v := .ref a) (.lst (by show upd W'.F a _ a = _; exact upd_same) (k4.up s2.le))
        have es : σ'.set i (some (.ref a)) = σ' := by
          apply List.ext_getElem? ; intro j
          by_cases q : j = i
          · subst q; rw [List.getElem?_set_self hi, hv]
          · rw [List.getElem?_set_ne (Ne.symm q)]
        rw [es] at this
        exact this
      · exact q W' σ' H' t st' rs'
    · exact q W' σ' H' t st' rs'
  | ret d C' => rw [e] at q; exact q
  | brk s' C' => rw [e] at q; exact q
  | cnt s' C' => rw [e] at q; exact q
  | err c s' C' => rw [e] at q; exact q
  | no => rw [e] at q; exact q⟩⟩
end
end DL

set_option Elab.async false
set_option linter.all false
set_option maxRecDepth 100000
set_option autoImplicit false
namespace DL
open PySem PySem.Spec PyProof.Rows L2

/-! ### isinstance: kinds of values: 0 None, 1 bool, 2 int, 3 str, 4 list, 5 tuple, 6 dict, 10 + c an object of the class c -/
def kndO : O → Nat
  | .lst _ => 4
  | .dk _ => 6
  | .dt _ => 6
  | .obj c _ => 10 + c
def knd (C : Cells) : D → Option Nat
  | .non => some 0
  | .bl _ => some 1
  | .int _ => some 2
  | .str _ => some 3
  | .lst _ => some 4
  | .scr _ => none
  | .ktp _ => some 5
  | .tup _ => some 5
  | .obj c _ => some (10 + c)
  | .cel n => (C.get n).map kndO
  | .opq _ _ => none
def tyName : Nat → String
  | 0 => "NoneType" | 1 => "bool" | 2 => "int" | 3 => "str" | 4 => "list" | 5 => "tuple" | 6 => "dict" | _ => "ValueError"
def kvOf (G : Glo) (n : Nat) : Value := if n < 10 then .type (tyName n) else .ref (G.cls (n - 10))
/-- between built-in types -/
def isB : Nat → Nat → Option Bool
  | 2, 1 => some true
  | t, v => if 1 ≤ t ∧ t ≤ 6 ∧ v ≤ 6 then some (t == v) else none
abbrev ITab := List ((Nat × Nat) × Bool)
def isT (tb : ITab) (t v : Nat) : Option Bool := if t < 10 ∧ v < 10 then isB t v else tb.lookup (t, v)
def KitF (G : Glo) : ITab → Prop
  | [] => True
  | ((t, v), b) :: r => PySem.W.kitOne G.K (kvOf G v) (kvOf G t) = some b ∧ KitF G r
theorem KitF.get {G : Glo} : ∀ {tb : ITab} {t v : Nat} {b : Bool}, KitF G tb → tb.lookup (t, v) = some b → PySem.W.kitOne G.K (kvOf G v) (kvOf G t) = some b
  | [], _, _, _, _, h => by simp at h
  | ((t', v'), b') :: r, t, v, b, k, h => by
    by_cases e : (t, v) = (t', v')
    · obtain ⟨rfl, rfl⟩ := Prod.mk.inj e
      simp [List.lookup] at h
      rw [← h]; exact k.1
    · have hb : ((t, v) == (t', v')) = false := beq_eq_false_iff_ne.mpr e
      simp only [List.lookup, hb] at h
      exact KitF.get k.2 h
theorem isB_ok {K : PySem.W.Frag} : ∀ t v : Nat, t < 10 → v < 10 → ∀ b, isB t v = some b → PySem.W.kitOne K (.type (tyName v)) (.type (tyName t)) = some b := by
  have h : ∀ t : Fin 7, ∀ v : Fin 7, ∀ b, isB t.val v.val = some b → kitB (tyName v.val) (tyName t.val) = some b := by decide +kernel
  intro t v ht hv b e
  by_cases ht7 : t < 7
  · by_cases hv7 : v < 7
    · exact kit_ty (h ⟨t, ht7⟩ ⟨v, hv7⟩ b e)
    · unfold isB at e
      split at e
      · omega
      · rw [if_neg (by omega)] at e; cases e
  · unfold isB at e
    split at e
    · omega
    · rw [if_neg (by omega)] at e; cases e
theorem isT_ok {G : Glo} {tb : ITab} (k : KitF G tb) {t v : Nat} {b : Bool} (e : isT tb t v = some b) : PySem.W.kitOne G.K (kvOf G v) (kvOf G t) = some b := by
  unfold isT at e
  split at e
  · rename_i h
    unfold kvOf
    rw [if_pos h.1, if_pos h.2]
    exact isB_ok t v h.1 h.2 b e
  · exact k.get e
theorem tyX_ins {G : Glo} (cf : CF G) {c : Nat} {a dx : Addr} {fs : List (Str × V)} {H : Hp} (hc : c < G.T.ncl) (h : H a = some (.ins (G.cls c) dx fs)) : TyX G.K H (.ref a) (kvOf G (10 + c)) := by
  unfold kvOf
  rw [if_neg (by omega), Nat.add_sub_cancel_left]
  have x := cf.cls c hc
  exact .base (.ins h x.cl x.ha x.hn x.ht x.hm)
theorem knd_ok {G : Glo} {W : Wd} {C : Cells} {H : Hp} {d : D} {v : V} {n : Nat} (cf : CF G) (st : StR G W C H) (r : RepV G W d v) (h : knd C d = some n) (hn : n < 10 + G.T.ncl) : TyX G.K H v (kvOf G n) := by
  cases d with
  | non => cases h; rw [r.non_]; exact .base .non
  | bl b => cases h; rw [r.bl_]; exact .base (.bl _)
  | int b => cases h; rw [r.int_]; exact .base (.int _)
  | str b => cases h; rw [r.str_]; exact .base (.str _)
  | lst l => cases h; obtain ⟨a, vs, rfl, e, _⟩ := r.lst_; exact .base (.lst (st.F _ _ e))
  | scr l => cases h
  | tup l =>
    cases h
    obtain ⟨a, vs, rfl, e, _⟩ := r.tup_
    exact .base (.tup (st.F _ _ e))
  | ktp l =>
    cases h
    obtain ⟨a, vs, rfl, e, _⟩ := r.ktp_
    rcases SqT.up st.F e with (e | ⟨o, e⟩) | ⟨o, its, k, e, c, _⟩
    · exact .base (.tup e)
    · exact .fTuple e
    · exact .kTuple e c
  | obj c l =>
    cases h
    obtain ⟨a, dx, vs, rfl, e, _⟩ := r.obj_
    exact tyX_ins cf (by omega) (st.F _ _ e)
  | cel m =>
    have h' : (C.get m).map kndO = some n := h
    cases e : C.get m with
    | none => rw [e] at h'; cases h'
    | some o =>
      rw [e] at h'
      obtain ⟨a, rfl, ha⟩ := r.cel_
      obtain ⟨b, ho, h1, h2, h3, h4⟩ := st.cells m o e
      rw [ha] at h1; cases h1
      cases o with
      | lst l => cases h'; obtain ⟨vs, rfl, _⟩ := h4; exact .base (.lst h3)
      | dk l => cases h'; obtain ⟨vs, rfl, _⟩ := h4; exact .base (.dK h3)
      | dt l => cases h'; obtain ⟨vs, rfl, _⟩ := h4; exact .base (.dT h3)
      | obj c l =>
        cases h'
        obtain ⟨dx, vs, rfl, _⟩ := h4
        have hn' : 10 + c < 10 + G.T.ncl := hn
        exact tyX_ins cf (by omega) h3
  | opq k l => cases h
def eIsi (T : Tab) (tb : ITab) (t : Nat) (f : EF) : EF := fun s C => (f s C).bind fun x C => match knd C x with
  | some v => if v < 10 + T.ncl then (match isT tb t v with | some b => .ok (.bl b) C | none => .no) else .no
  | none => .no
section
variable {X : Cx} {G : Glo} {Wx : WX} {a b e o i value : Expr} {es : List Expr} {f fa fb fo fi fv : EF} {af : AF} {x m : Str} {p pos pos' p2 apos cpos : Pos} {tb : ITab}
/-- isinstance(x, T), T a built-in type or an own class by its name -/
theorem de_isi {t : Nat} {cv : V} (hk : X.K = G.K) (cf : CF G) (kf : KitF G tb) (hT : ClsV cv (kvOf G t)) (hc : PE X b (tC cv)) (ha : DE X G Wx a fa) (hg : Gl X "isinstance") (hm : X.mg "isinstance" = none)
    (hpl : (backTo pos (starEach [b] X.env)).any (·.1) = false := by rfl) (he : starEach [a, b] X.env = (false, eval a X.env) :: starEach [b] X.env := by rfl) (he2 : starEach [b] X.env = (false, eval b X.env) :: starEach [] X.env := by rfl) :
    DE X G Wx (.Call (.Name "isinstance" p) [a, b] [] pos) (eIsi G.T tb t fa) :=
  ⟨PE.weak (pe_callB call_isi hg hm (by decide +kernel) (pa_cons ha.pe (pa_cons hc pa_nil he2) he) (by decide) (by decide) he hpl) fun σ H Q ⟨W, sl, C, rs, st, q⟩ => ⟨W, sl, C, rs, st, q.bind fun y C1 W1 v H1 _ t1 st1 rx q1 => by
    split at q1
    · rename_i n en
      split at q1
      · rename_i hn
        split at q1
        · rename_i bb eb
          exact ⟨v, cv, _, _, bb, rfl, hT, by rw [hk]; exact knd_ok cf st1 rx en hn, by rw [hk]; exact isT_ok kf eb, q1 W1 _ H1 .refl st1 .bl⟩
        · exact q1.elim
      · exact q1.elim
    · exact q1.elim⟩⟩

/-! ### in, not in: a sign in a text, a flat thing in a list or tuple -/
def flatD : D → Bool
  | .non => true | .bl _ => true | .int _ => true | .str _ => true
  | _ => false
def eqF : D → D → Bool
  | .non, .non => true
  | .bl a, .bl b => a == b
  | .bl a, .int b => (if a then 1 else 0) == b
  | .int a, .bl b => a == (if b then 1 else 0)
  | .int a, .int b => a == b
  | .str a, .str b => a == b
  | _, _ => false
def inF (x : D) (l : List D) : Bool := l.any fun y => eqF y x
/-- a text of one sign -/
def sgn1 (s : Str) : Option Nat := match s.cps.toList with | [c] => some c | _ => none
theorem sgn1_ok {s : Str} {c : Nat} (h : sgn1 s = some c) : s = ⟨#[c]⟩ := by
  unfold sgn1 at h
  split at h
  · rename_i c' e
    cases h
    cases s with
    | mk a =>
      have e' : a.toList = [c] := e
      have : a = #[c] := by rw [← Array.toArray_toList (xs := a), e']
      rw [this]
  · cases h
def dInG (neg : Bool) (x y : D) (C : Cells) : Res D := match y with
  | .str z => (match x with
    | .str s => (match sgn1 s with
      | some c => .ok (.bl (if neg then !decide (c ∈ z.cps.toList) else decide (c ∈ z.cps.toList))) C
      | none => .no)
    | _ => .no)
  | y => match seqOf C y with
    | some l => if flatD x = true ∧ l.all flatD = true then .ok (.bl (if neg then !inF x l else inF x l)) C else .no
    | none => .no
def rSign (neg : Bool) : R2 := fun x y H Q => ∃ (c : Nat) (z : Str), x = .str ⟨#[c]⟩ ∧ y = .str z ∧ Q (.bl (if neg then !decide (c ∈ z.cps.toList) else decide (c ∈ z.cps.toList))) H
def rIn2 (K : PySem.W.Frag) (neg : Bool) : R2 := fun x y H Q => rSign neg x y H Q ∨ rIn K neg x y H Q
theorem op_in2 : OpR X (compareOp .In) (rIn2 X.K false) := OpR.or op_in_sign op_in_seq
theorem op_nin2 : OpR X (compareOp .NotIn) (rIn2 X.K true) := OpR.or op_notIn_sign op_notIn_seq
theorem flat_ok {W : Wd} {d : D} {v : V} (r : RepV G W d v) (h : flatD d = true) : flatV v = true := by
  cases d with
  | non => rw [r.non_]; rfl
  | bl b => rw [r.bl_]; rfl
  | int b => rw [r.int_]; rfl
  | str b => rw [r.str_]; rfl
  | _ => cases h
theorem eqF_ok {W : Wd} {d e : D} {v u : V} (r : RepV G W d v) (s : RepV G W e u) (h : flatD d = true) (h2 : flatD e = true) : eqV v u = eqF d e := by
  cases d with
  | non => rw [r.non_]; cases e with
    | non => rw [s.non_]; rfl
    | bl b => rw [s.bl_]; rfl
    | int b => rw [s.int_]; rfl
    | str b => rw [s.str_]; rfl
    | _ => cases h2
  | bl b => rw [r.bl_]; cases e with
    | non => rw [s.non_]; rfl
    | bl b => rw [s.bl_]; rfl
    | int b => rw [s.int_]; rfl
    | str b => rw [s.str_]; rfl
    | _ => cases h2
  | int b => rw [r.int_]; cases e with
    | non => rw [s.non_]; rfl
    | bl b => rw [s.bl_]; rfl
    | int b => rw [s.int_]; rfl
    | str b => rw [s.str_]; rfl
    | _ => cases h2
  | str b => rw [r.str_]; cases e with
    | non => rw [s.non_]; rfl
    | bl b => rw [s.bl_]; rfl
    | int b => rw [s.int_]; rfl
    | str b => rw [s.str_]; rfl
    | _ => cases h2
  | _ => cases h
theorem flats_ok {W : Wd} : ∀ {l : List D} {vs : List V}, RepVs G W l vs → l.all flatD = true → vs.all flatV = true
  | [], _, r, _ => by rw [r.nil_inv]; rfl
  | d :: l, _, r, h => by
    obtain ⟨v, vr, rfl, h1, h2⟩ := r.cons_inv
    rw [List.all_cons, Bool.and_eq_true] at h ⊢
    exact ⟨flat_ok h1 h.1, flats_ok h2 h.2⟩
theorem inF_ok {W : Wd} {x : D} {u : V} (rx : RepV G W x u) (hx : flatD x = true) : ∀ {l : List D} {vs : List V}, RepVs G W l vs → l.all flatD = true → inV u vs = inF x l
  | [], _, r, _ => by rw [r.nil_inv]; rfl
  | d :: l, _, r, h => by
    obtain ⟨v, vr, rfl, h1, h2⟩ := r.cons_inv
    rw [List.all_cons, Bool.and_eq_true] at h
    have := inF_ok rx hx h2 h.2
    unfold inV inF at this ⊢
    rw [List.any_cons, List.any_cons, eqF_ok h1 rx h.1 hx, this]
theorem o2_in {neg : Bool} : Op2 G (rIn2 G.K neg) (dInG neg) := fun Wx σ W C H x y v u Q st rx ry q => by
  unfold dInG at q
  split at q
  · split at q
    · split at q
      · rename_i c e
        exact .inl ⟨c, _, by rw [rx.str_, sgn1_ok e], ry.str_, q W _ H .refl st .bl⟩
      · exact q.elim
    · exact q.elim
  · split at q
    · rename_i l e
      split at q
      · rename_i hf
        obtain ⟨a, vs, rfl, h1, h2⟩ := seqOf_ok st ry e
        refine .inr ⟨a, vs, rfl, h1, flat_ok rx hf.1, flats_ok h2 hf.2, ?_⟩
        rw [inF_ok rx hf.1 h2 hf.2]
        exact q W _ H .refl st .bl
      · exact q.elim
    · exact q.elim

/-! ### sorted ints; max, min with a default -/
def sortI (l : List Int) : List Int := l.mergeSort (· ≤ ·)
theorem sortI_perm (l : List Int) : (sortI l).Perm l := List.mergeSort_perm _ _
theorem sortI_sorted (l : List Int) : (sortI l).Pairwise (· ≤ ·) := by
  have := List.pairwise_mergeSort (le := fun (a b : Int) => decide (a ≤ b)) (fun a b c h1 h2 => by simp only [decide_eq_true_eq] at *; omega) (fun a b => by simp only [Bool.or_eq_true, decide_eq_true_eq]; omega) l
  exact this.imp fun h => by simpa using h
theorem sorted_uniq : ∀ {l m : List Int}, l.Perm m → l.Pairwise (· ≤ ·) → m.Pairwise (· ≤ ·) → l = m := fun h h1 h2 => List.Perm.eq_of_pairwise (fun a b _ _ h1 h2 => Int.le_antisymm h1 h2) h1 h2 h
def bSortI (xs : List D) (C : Cells) : Res D := match xs with
  | [d] => (match (lstOf C d).bind asInts with | some ns => .ok (.lst ((sortI ns).map D.int)) C | none => .no)
  | _ => .no
theorem ints_rep {W : Wd} : ∀ ns : List Int, RepVs G W (ns.map D.int) (ns.map V.int)
  | [] => .nil
  | n :: r => .cons .int (ints_rep r)
theorem oa_sortI : OpA G (rSortedI G.K) bSortI := fun Wx σ W C H xs vs Q st rx q => by
  unfold bSortI at q
  split at q
  · obtain ⟨v, rfl, r⟩ := rx.one
    split at q
    · rename_i ns e
      obtain ⟨a, us, l, rfl, h1, h2, h3⟩ := lst_bind st r e
      refine ⟨a, ns, rfl, by rw [← asInts_ok h2 h3]; exact h1, fun ns' p hp hs hpn => ?_⟩
      obtain rfl : ns' = sortI ns := sorted_uniq (hp.trans (sortI_perm ns).symm) hs (sortI_sorted ns)
      exact new_lst st (ints_rep _) q p hpn
    · exact q.elim
  · exact q.elim
def rMaxD (K : PySem.W.Frag) : List V → List V → Hp → VK → Prop := fun vs zs H Q => ∃ (a : Addr) (ns : List Int) (z : V), vs = [V.ref a] ∧ zs = [z] ∧ SqL K H a (ns.map V.int) ∧ Q (match ns with | [] => z | n :: r => .int (PySem.W.maxOf n r)) H
def rMinD (K : PySem.W.Frag) : List V → List V → Hp → VK → Prop := fun vs zs H Q => ∃ (a : Addr) (ns : List Int) (z : V), vs = [V.ref a] ∧ zs = [z] ∧ SqL K H a (ns.map V.int) ∧ Q (match ns with | [] => z | n :: r => .int (PySem.W.minOf n r)) H
theorem cr_maxD (hc : X.calm = true) (hu : X.A.units + 64 < cLine) : CallRK X (.builtin "max") [Str.ofString "default"] (rMaxD X.K) := by
  intro pins s σ H xs zs us ws Q I r r2 h
  obtain ⟨a, ns, z, rfl, rfl, hs, q⟩ := h
  obtain ⟨its, rv, hl, _⟩ := I.list hs
  rw [Vals.ref1 r]
  obtain ⟨w, rfl, rw'⟩ := vals1 r2
  refine PySem.W.max_list_datum_default (xs := ns) (I.ok.hd hc) hl.isList (PySem.W.HoldAll.of_ints rv.ints) (by show X.A.units + 1 + 0 < cLine; omega) (fun e h' tk k => ?_) (fun y ys i v h' tk e hv hh k => ?_)
  · subst e
    exact ⟨z, H, I.kept k, rw', q⟩
  · subst e
    obtain ⟨t, rfl⟩ := PySem.W.int_of_holds hh
    exact ⟨.int (PySem.W.maxOf y ys), H, I.kept k, ⟨t, rfl⟩, q⟩
theorem cr_minD (hc : X.calm = true) (hu : X.A.units + 64 < cLine) : CallRK X (.builtin "min") [Str.ofString "default"] (rMinD X.K) := by
  intro pins s σ H xs zs us ws Q I r r2 h
  obtain ⟨a, ns, z, rfl, rfl, hs, q⟩ := h
  obtain ⟨its, rv, hl, _⟩ := I.list hs
  rw [Vals.ref1 r]
  obtain ⟨w, rfl, rw'⟩ := vals1 r2
  refine PySem.W.min_list_datum_default (xs := ns) (I.ok.hd hc) hl.isList (PySem.W.HoldAll.of_ints rv.ints) (by show X.A.units + 1 + 0 < cLine; omega) (fun e h' tk k => ?_) (fun y ys i v h' tk e hv hh k => ?_)
  · subst e
    exact ⟨z, H, I.kept k, rw', q⟩
  · subst e
    obtain ⟨t, rfl⟩ := PySem.W.int_of_holds hh
    exact ⟨.int (PySem.W.minOf y ys), H, I.kept k, ⟨t, rfl⟩, q⟩
def mxD (g : Int → List Int → Int) (x z : D) (C : Cells) : Res D := match (lstOf C x).bind asInts with
  | some [] => .ok z C
  | some (n :: r) => .ok (.int (g n r)) C
  | none => .no
theorem de_mxD {id : String} {r : List V → List V → Hp → VK → Prop} {g : Int → List Int → Int} {kn : Str} {kpos : Pos} (hk : X.K = G.K) (hc : CallRK X (.builtin id) [Str.ofString "default"] r)
    (hr : ∀ vs zs H Q, (∃ (a : Addr) (ns : List Int) (z : V), vs = [V.ref a] ∧ zs = [z] ∧ SqL X.K H a (ns.map V.int) ∧ Q (match ns with | [] => z | n :: r => .int (g n r)) H) → r vs zs H Q)
    (hg : Gl X x) (hm : X.mg x = none) (hv : bootBuiltins x = some (.builtin id)) (ha : DE X G Wx a fa) (hb : DE X G Wx b fb) (hn : x ≠ "__name__" := by decide) (hdb : (x == ("__debug__" : Str)) = false := by decide) (hs1 : starEach [a] X.env = (false, eval a X.env) :: starEach [] X.env := by rfl)
    (he : backTo pos (starEach [a] X.env) = (false, eval a X.env) :: backTo pos (starEach [] X.env) := by rfl) (hpl : (backTo pos (starEach [a] X.env)).any (·.1) = false := by rfl)
    (hall : (backToKw pos (keywordEach [⟨some kn, b, kpos⟩] X.env)).all (·.1.isSome) = true := by rfl) (hnone : (backToKw pos (keywordEach [⟨some kn, b, kpos⟩] X.env)).any (·.1.isNone) = false := by rfl) (hks : (backToKw pos (keywordEach [⟨some kn, b, kpos⟩] X.env)).filterMap (·.1) = [Str.ofString "default"] := by rfl) :
    DE X G Wx (.Call (.Name x p) [a] [⟨some kn, b, kpos⟩] pos) (e2 (mxD g) fa fb) :=
  ⟨PE.weak (pe_callBK hc hg hm hv (pa_cons ha.pe pa_nil hs1) (pk_cons hb.pe pk_nil) hn hdb he hpl hall hnone hks) fun σ H Q ⟨W, sl, C, rs, st, q⟩ => ⟨W, sl, C, rs, st, q.bind fun y C1 W1 v H1 _ t1 st1 rx q1 => ⟨W1, sl, C1, rs.up t1.le, st1, q1.bind fun z C2 W2 u H2 _ t2 st2 rz q2 => by
    refine hr _ _ _ _ ?_
    unfold mxD at q2
    split at q2
    · rename_i e
      obtain ⟨a, us, l, rfl, h1, h2, h3⟩ := lst_bind st2 (rx.up t2.le) e
      exact ⟨a, [], u, rfl, rfl, by rw [hk, ← asInts_ok h2 h3]; exact h1, q2 W2 u H2 .refl st2 rz⟩
    · rename_i n r e
      obtain ⟨a, us, l, rfl, h1, h2, h3⟩ := lst_bind st2 (rx.up t2.le) e
      exact ⟨a, n :: r, u, rfl, rfl, by rw [hk, ← asInts_ok h2 h3]; exact h1, q2 W2 _ H2 .refl st2 .int⟩
    · exact q2.elim⟩⟩⟩
end
end DL

set_option Elab.async false
set_option linter.all false
set_option maxRecDepth 100000
set_option autoImplicit false
namespace DL
open PySem PySem.Spec PyProof.Rows L2

/-! ### dicts -/
/-- a key: an int or a text; a tuple of such -/
def keyOf : D → Option Key
  | .int i => some (.inl i)
  | .str s => some (.inr s)
  | _ => none
def keyD : Key → D
  | .inl i => .int i
  | .inr s => .str s
def keysOf : List D → Option (List Key)
  | [] => some []
  | d :: r => match keyOf d, keysOf r with
    | some k, some ks => some (k :: ks)
    | _, _ => none
def lookD {κ : Type} [DecidableEq κ] (l : List (κ × D)) (k : κ) : Option D := (l.find? fun p => decide (p.1 = k)).map (·.2)
def putD {κ : Type} [DecidableEq κ] (l : List (κ × D)) (k : κ) (d : D) : List (κ × D) := if l.any (fun p => decide (p.1 = k)) then l.map fun p => if p.1 = k then (p.1, d) else p else l ++ [(k, d)]
def dropD {κ : Type} [DecidableEq κ] (l : List (κ × D)) (k : κ) : List (κ × D) := l.filter fun p => decide (p.1 ≠ k)
def RO (G : Glo) (W : Wd) : Option D → Option V → Prop
  | some d, some v => RepV G W d v
  | none, none => True
  | _, _ => False
section
variable {G : Glo} {W : Wd} {C : Cells} {H : Hp}
theorem keyOf_ok {d : D} {v : V} {k : Key} (r : RepV G W d v) (h : keyOf d = some k) : v = kV k := by
  cases d with
  | int i => cases h; exact r.int_
  | str s => cases h; exact r.str_
  | _ => cases h
theorem keyD_ok (k : Key) : RepV G W (keyD k) (kV k) := by
  cases k with
  | inl i => exact .int
  | inr s => exact .str
theorem keysOf_ok : ∀ {l : List D} {vs : List V} {ks : List Key}, RepVs G W l vs → keysOf l = some ks → vs = ks.map kV
  | [], _, _, r, h => by cases h; rw [r.nil_inv]; rfl
  | d :: l, _, ks, r, h => by
    obtain ⟨v, vr, rfl, h1, h2⟩ := r.cons_inv
    unfold keysOf at h
    split at h
    · rename_i k ks' e1 e2
      cases h
      rw [keyOf_ok h1 e1, keysOf_ok h2 e2]; rfl
    · cases h
variable {κ : Type} [DecidableEq κ]
theorem look_ok : ∀ {l : List (κ × D)} {m : List (κ × V)} (k : κ), RepKV G W l m → RO G W (lookD l k) (valV m k)
  | _, _, k, .nil => by simp [lookD, valV, RO]
  | _, _, k, .cons (a := p) (b := q) (l₁ := l) (l₂ := m) h t => by
    obtain ⟨e, r⟩ := h
    by_cases hk : p.1 = k
    · have h1 : lookD (p :: l) k = some p.2 := by simp [lookD, List.find?_cons, hk]
      have h2 : valV (q :: m) k = some q.2 := valV_pos (e ▸ hk)
      rw [h1, h2]; exact r
    · have h1 : lookD (p :: l) k = lookD l k := by simp [lookD, List.find?_cons, hk]
      have h2 : valV (q :: m) k = valV m k := valV_neg (e ▸ hk)
      rw [h1, h2]; exact look_ok k t
theorem look_some {l : List (κ × D)} {m : List (κ × V)} {k : κ} {d : D} (r : RepKV G W l m) (h : lookD l k = some d) : ∃ v, valV m k = some v ∧ RepV G W d v := by
  have q := look_ok k r
  rw [h] at q
  cases e : valV m k with
  | none => rw [e] at q; exact q.elim
  | some v => rw [e] at q; exact ⟨v, rfl, q⟩
theorem look_none {l : List (κ × D)} {m : List (κ × V)} {k : κ} (r : RepKV G W l m) (h : lookD l k = none) : valV m k = none := by
  have q := look_ok k r
  rw [h] at q
  cases e : valV m k with
  | none => rfl
  | some v => rw [e] at q; exact q.elim
theorem look_is {l : List (κ × D)} {m : List (κ × V)} {k : κ} (r : RepKV G W l m) : (valV m k).isSome = (lookD l k).isSome := by
  cases h : lookD l k with
  | none => rw [look_none r h]; rfl
  | some d => obtain ⟨v, e, _⟩ := look_some r h; rw [e]; rfl
theorem any_ok : ∀ {l : List (κ × D)} {m : List (κ × V)} (k : κ), RepKV G W l m → (m.any fun p => decide (p.1 = k)) = l.any fun p => decide (p.1 = k)
  | _, _, k, .nil => rfl
  | _, _, k, .cons h t => by rw [List.any_cons, List.any_cons, any_ok k t, h.1]
theorem repl_ok {d : D} {v : V} (r : RepV G W d v) : ∀ {l : List (κ × D)} {m : List (κ × V)} (k : κ), RepKV G W l m → RepKV G W (l.map fun p => if p.1 = k then (p.1, d) else p) (m.map fun p => if p.1 = k then (p.1, v) else p)
  | _, _, k, .nil => .nil
  | _, _, k, .cons (a := p) (b := q) h t => by
    have hd : (if p.1 = k then (p.1, d) else p).1 = (if q.1 = k then (q.1, v) else q).1 ∧ RepV G W (if p.1 = k then (p.1, d) else p).2 (if q.1 = k then (q.1, v) else q).2 := by
      by_cases hk : p.1 = k
      · rw [if_pos hk, if_pos (h.1 ▸ hk)]; exact ⟨h.1, r⟩
      · rw [if_neg hk, if_neg (h.1 ▸ hk)]; exact h
    exact .cons hd (repl_ok r k t)
theorem snoc_ok {d : D} {v : V} (r : RepV G W d v) : ∀ {l : List (κ × D)} {m : List (κ × V)} (k : κ), RepKV G W l m → RepKV G W (l ++ [(k, d)]) (m ++ [(k, v)])
  | _, _, k, .nil => .cons ⟨rfl, r⟩ .nil
  | _, _, k, .cons h t => .cons h (snoc_ok r k t)
theorem put_ok {l : List (κ × D)} {m : List (κ × V)} {d : D} {v : V} (k : κ) (h : RepKV G W l m) (r : RepV G W d v) : RepKV G W (putD l k d) (putK m k v) := by
  unfold putD putK
  rw [any_ok k h]
  split
  · exact repl_ok r k h
  · exact snoc_ok r k h
theorem drop_ok : ∀ {l : List (κ × D)} {m : List (κ × V)} (k : κ), RepKV G W l m → RepKV G W (dropD l k) (dropK m k)
  | _, _, k, .nil => .nil
  | _, _, k, .cons (a := p) (b := q) (l₁ := l) (l₂ := m) h t => by
    have ih := drop_ok k t
    unfold dropD dropK at ih ⊢
    rw [List.filter_cons, List.filter_cons]
    by_cases hk : p.1 = k
    · rw [if_neg (by simp [hk]), if_neg (by simp [h.1 ▸ hk])]; exact ih
    · rw [if_pos (by simp [hk]), if_pos (by simp [show ¬ q.1 = k from h.1 ▸ hk])]; exact .cons h ih
theorem keys_ok : ∀ {l : List (Key × D)} {m : List (Key × V)}, RepKV G W l m → RepVs G W (l.map fun p => keyD p.1) (m.map fun p => kV p.1)
  | _, _, .nil => .nil
  | _, _, .cons (a := p) (b := q) h t => .cons (show RepV G W (keyD p.1) (kV q.1) by rw [← h.1]; exact keyD_ok _) (keys_ok t)
end
/-- what a dict (a cell) tells of a key; none: no dict, no key -/
def dGetK (C : Cells) (x y : D) : Option (Option D) := match x with
  | .cel n => (match C.get n with
    | some (.dk l) => (keyOf y).map fun k => lookD l k
    | some (.dt l) => (match y with | .tup ks => (keysOf ks).map fun k => lookD l k | _ => none)
    | _ => none)
  | _ => none
def dPutK (C : Cells) (x y d : D) : Option Cells := match x with
  | .cel n => (match C.get n with
    | some (.dk l) => (match keyOf y with | some k => if l.length < mxl then some (C.set n (.dk (putD l k d))) else none | none => none)
    | some (.dt l) => (match y with | .tup ks => (match keysOf ks with | some k => if l.length < mxl then some (C.set n (.dt (putD l k d))) else none | none => none) | _ => none)
    | _ => none)
  | _ => none
section
variable {X : Cx} {G : Glo} {Wx : WX} {W : Wd} {C : Cells} {H : Hp}
theorem dGetK_ok {x y : D} {v u : V} {r : Option D} (st : StR G W C H) (rx : RepV G W x v) (ry : RepV G W y u) (h : dGetK C x y = some r) :
    ∃ a o, v = .ref a ∧ DGet H a u o ∧ RO G W r o := by
  cases x with
  | cel n =>
    obtain ⟨a, rfl, ha⟩ := rx.cel_
    simp only [dGetK] at h
    cases e : C.get n with
    | none => rw [e] at h; cases h
    | some ob =>
      rw [e] at h
      obtain ⟨b, ho, h1, h2, h3, h4⟩ := st.cells n _ e
      rw [ha] at h1; cases h1
      cases ob with
      | dk l =>
        obtain ⟨m, rfl, h4⟩ := h4
        simp only at h
        cases ek : keyOf y with
        | none => rw [ek] at h; cases h
        | some k =>
          rw [ek] at h; cases h
          rw [keyOf_ok ry ek]
          exact ⟨a, valV m k, rfl, DGet.k h3, look_ok k h4⟩
      | dt l =>
        obtain ⟨m, rfl, h4⟩ := h4
        simp only at h
        cases y with
        | tup ks =>
          simp only at h
          cases ek : keysOf ks with
          | none => rw [ek] at h; cases h
          | some k =>
            rw [ek] at h; cases h
            obtain ⟨c, vs, rfl, s, q⟩ := ry.tup_
            rw [keysOf_ok q ek] at s
            exact ⟨a, valV m k, rfl, DGet.t h3 (st.F _ _ s), look_ok k h4⟩
        | _ => cases h
      | _ => cases h
  | _ => cases h
theorem dPutK_ok {x y d : D} {v u w : V} {C' : Cells} (st : StR G W C H) (rx : RepV G W x v) (ry : RepV G W y u) (rd : RepV G W d w) (h : dPutK C x y d = some C') :
    ∃ a H', v = .ref a ∧ DPut H a u w H' ∧ StR G W C' H' ∧ Step W C H W C' H' := by
  cases x with
  | cel n =>
    obtain ⟨a, rfl, ha⟩ := rx.cel_
    simp only [dPutK] at h
    cases e : C.get n with
    | none => rw [e] at h; cases h
    | some ob =>
      rw [e] at h
      obtain ⟨b, ho, h1, h2, h3, h4⟩ := st.cells n _ e
      rw [ha] at h1; cases h1
      cases ob with
      | dk l =>
        obtain ⟨m, rfl, h4⟩ := h4
        simp only at h
        cases ek : keyOf y with
        | none => rw [ek] at h; cases h
        | some k =>
          simp only [ek] at h
          split at h
          · rename_i hz
            cases h
            rw [keyOf_ok ry ek]
            obtain ⟨s1, s2⟩ := fr_set (o := .dk (putD l k d)) (ho := .dK (putK m k w)) st e ha ⟨_, rfl, put_ok k h4 rd⟩
            exact ⟨a, _, rfl, DPut.k h3 (by rw [← Paired.len' h4, ← mxl_eq]; exact hz), s1, s2⟩
          · cases h
      | dt l =>
        obtain ⟨m, rfl, h4⟩ := h4
        simp only at h
        cases y with
        | tup ks =>
          simp only at h
          cases ek : keysOf ks with
          | none => rw [ek] at h; cases h
          | some k =>
            simp only [ek] at h
            split at h
            · rename_i hz
              cases h
              obtain ⟨c, vs, rfl, s, q⟩ := ry.tup_
              rw [keysOf_ok q ek] at s
              obtain ⟨s1, s2⟩ := fr_set (o := .dt (putD l k d)) (ho := .dT (putK m k w)) st e ha ⟨_, rfl, put_ok k h4 rd⟩
              exact ⟨a, _, rfl, DPut.t h3 (st.F _ _ s) (by rw [← Paired.len' h4, ← mxl_eq]; exact hz), s1, s2⟩
            · cases h
        | _ => cases h
      | _ => cases h
  | _ => cases h
/-- {} -/
def eNewK : EF := fun _ C => .ok (.cel C.nx) (C.new (.dk []))
def eNewT : EF := fun _ C => .ok (.cel C.nx) (C.new (.dt []))
variable {a b e o i value : Expr} {es : List Expr} {f fa fb fo fi fv fd : EF} {af : AF} {x m : Str} {p pos pos' p2 apos cpos : Pos}
theorem de_newK : DE X G Wx (.Dict [] [] pos) eNewK := de_weak pe_dnewK fun σ H Q ⟨W, sl, C, rs, st, q⟩ => fun p hp => by
  obtain ⟨s1, s2⟩ := fr_new (o := .dk []) (ho := .dK []) st hp ⟨[], rfl, .nil⟩
  exact q _ _ _ s2 s1 (.cel (if_pos rfl))
theorem de_newT : DE X G Wx (.Dict [] [] pos) eNewT := de_weak pe_dnewT fun σ H Q ⟨W, sl, C, rs, st, q⟩ => fun p hp => by
  obtain ⟨s1, s2⟩ := fr_new (o := .dt []) (ho := .dT []) st hp ⟨[], rfl, .nil⟩
  exact q _ _ _ s2 s1 (.cel (if_pos rfl))
/-- d[k] -/
def dGetF (x y : D) (C : Cells) : Res D := match dGetK C x y with
  | some (some d) => .ok d C
  | _ => .no
theorem de_dget (hu : X.A.units + 64 < cLine) (ho : DE X G Wx o fo) (hi : DE X G Wx i fi) (hs : NoSl i := by intro _ _; rfl) : DE X G Wx (.Subscript o i pos) (e2 dGetF fo fi) :=
  ⟨PE.weak (pe_dget (by omega) ho.pe hi.pe hs) fun σ H Q ⟨W, sl, C, rs, st, q⟩ => ⟨W, sl, C, rs, st, q.bind fun x C1 W1 v H1 _ t st1 rx q1 => ⟨W1, sl, C1, rs.up t.le, st1, q1.bind fun y C2 W2 u H2 _ t2 st2 ry q2 => by
    unfold dGetF at q2
    split at q2
    · rename_i d ed
      obtain ⟨a, o, rfl, g, h⟩ := dGetK_ok st2 (rx.up t2.le) ry ed
      cases o with
      | none => exact h.elim
      | some w => exact ⟨a, w, rfl, g, q2 W2 w H2 .refl st2 h⟩
    · exact q2.elim⟩⟩⟩
/-- k in d, k not in d -/
def dInD (neg : Bool) (y x : D) (C : Cells) : Res D := match dGetK C x y with
  | some r => .ok (.bl (if neg then !r.isSome else r.isSome)) C
  | none => .no
theorem dInD_ok {σ : L2.St} {Q : VK} {neg : Bool} {x y : D} {v u : V} (st : StR G W C H) (rx : RepV G W x v) (ry : RepV G W y u) (q : Post G Wx σ (RepV G) W C H (dInD neg y x C) Q) : ∃ a o, v = .ref a ∧ DGet H a u o ∧ Q (.bl (if neg then !o.isSome else o.isSome)) H := by
  unfold dInD at q
  split at q
  · rename_i r er
    obtain ⟨a, o, rfl, g, h⟩ := dGetK_ok st rx ry er
    have e : o.isSome = r.isSome := by
      cases r with
      | none => cases o with
        | none => rfl
        | some w => exact h.elim
      | some d => cases o with
        | none => exact h.elim
        | some w => rfl
    exact ⟨a, o, rfl, g, by rw [e]; exact q W _ H .refl st .bl⟩
  · exact q.elim
theorem in_use {neg : Bool} {t : TE} (ht : t = (if neg then tDNotIn (tD G Wx fi) (tD G Wx fo) else tDIn (tD G Wx fi) (tD G Wx fo))) {σ : L2.St} {H : Hp} {Q : VK} (h : tD G Wx (e2 (dInD neg) fi fo) σ H Q) : t σ H Q := by
  obtain ⟨W, sl, C, rs, st, q⟩ := h
  subst ht
  cases neg with
  | false => exact ⟨W, sl, C, rs, st, q.bind fun y C1 W1 u H1 _ t st1 ry q1 => ⟨W1, sl, C1, rs.up t.le, st1, q1.bind fun x C2 W2 v H2 _ t2 st2 rx q2 => dInD_ok st2 rx (ry.up t2.le) q2⟩⟩
  | true => exact ⟨W, sl, C, rs, st, q.bind fun y C1 W1 u H1 _ t st1 ry q1 => ⟨W1, sl, C1, rs.up t.le, st1, q1.bind fun x C2 W2 v H2 _ t2 st2 rx q2 => dInD_ok st2 rx (ry.up t2.le) q2⟩⟩
theorem de_din (hu : X.A.units + 64 < cLine) (hi : DE X G Wx i fi) (ho : DE X G Wx o fo) (hm : behindInMarks .In o = false := by rfl) : DE X G Wx (.Compare i [.In] [o] pos) (e2 (dInD false) fi fo) := de_weak (pe_cmp (pc_din (by omega) hi.pe ho.pe) hm) fun σ H Q h => in_use (neg := false) rfl h
theorem de_dnin (hu : X.A.units + 64 < cLine) (hi : DE X G Wx i fi) (ho : DE X G Wx o fo) (hm : behindInMarks .NotIn o = false := by rfl) : DE X G Wx (.Compare i [.NotIn] [o] pos) (e2 (dInD true) fi fo) := de_weak (pe_cmp (pc_dnotin (by omega) hi.pe ho.pe) hm) fun σ H Q h => in_use (neg := true) rfl h
theorem dt_din (hu : X.A.units + 64 < cLine) (hi : DE X G Wx i fi) (ho : DE X G Wx o fo) (hm : behindInMarks .In o = false := by rfl) : DT X G Wx (.Compare i [.In] [o] pos) (asB (e2 (dInD false) fi fo)) := ⟨PT.weak (pt_cmp (pc_din (by omega) hi.pe ho.pe) hm) fun σ H Q ⟨W, sl, C, rs, st, q⟩ => in_use (neg := false) rfl ⟨W, sl, C, rs, st, asB_use q⟩⟩
theorem dt_dnin (hu : X.A.units + 64 < cLine) (hi : DE X G Wx i fi) (ho : DE X G Wx o fo) (hm : behindInMarks .NotIn o = false := by rfl) : DT X G Wx (.Compare i [.NotIn] [o] pos) (asB (e2 (dInD true) fi fo)) := ⟨PT.weak (pt_cmp (pc_dnotin (by omega) hi.pe ho.pe) hm) fun σ H Q ⟨W, sl, C, rs, st, q⟩ => in_use (neg := true) rfl ⟨W, sl, C, rs, st, asB_use q⟩⟩
/-- d[k] = v: the value first -/
def sDPutF (fo fi fv : EF) : SF := fun s C => (fv s C).toS s fun d C => (fo s C).toS s fun x C => (fi s C).toS s fun y C => match dPutK C x y d with | some C => .nxt s C | none => .no
theorem ds_dput (hu : X.A.units + 64 < cLine) (ho : DE X G Wx o fo) (hi : DE X G Wx i fi) (hv : DE X G Wx value fv) (hs : swapsWith value (some (.Subscript o i pos')) pos.line X.env = pure false := by rfl) : DS X G Wx (.Assign [.Subscript o i pos'] value pos) (sDPutF fo fi fv) :=
  ⟨PS.weak (ps_dput (by omega) ho.pe hi.pe hv.pe hs) fun Dn σ H ⟨W, sl, C, rs, st, q⟩ => ⟨W, sl, C, rs, st, SPost.toS rs q fun d C1 W1 v H1 t1 st1 rd q1 => ⟨W1, sl, C1, rs.up t1.le, st1, SPost.toS (rs.up t1.le) q1 fun x C2 W2 u H2 t2 st2 rx q2 => ⟨W2, sl, C2, rs.up (t1.trans t2).le, st2, SPost.toS (rs.up (t1.trans t2).le) q2 fun y C3 W3 w H3 t3 st3 ry q3 => by
    split at q3
    · rename_i C4 ec
      obtain ⟨a, H4, rfl, g, s1, s2⟩ := dPutK_ok st3 (rx.up t3.le) ry (rd.up (t2.trans t3).le) ec
      exact ⟨a, H4, rfl, g, q3 W3 σ H4 s2 s1 (rs.up (((t1.trans t2).trans t3).trans s2).le)⟩
    · exact q3.elim⟩⟩⟩⟩
/-- list(d): the items, the keys -/
def bListK (xs : List D) (C : Cells) : Res D := match xs with
  | [d] => (match seqOf C d with
    | some l => .ok (.lst l) C
    | none => (match d with
      | .cel n => (match C.get n with | some (.dk l) => .ok (.lst (l.map fun p => keyD p.1)) C | _ => .no)
      | _ => .no))
  | _ => .no
def rListK (K : PySem.W.Frag) : List V → Hp → VK → Prop := fun xs H Q => (∃ p ys, xs = [.ref p] ∧ (SqL K H p ys ∨ SqT K H p ys) ∧ ∀ l, H l = none → Q (.ref l) (upd H l (.lst ys))) ∨ rListD xs H Q
theorem call_listK {X : Cx} (hc : X.calm = true) : CallR X (.type "list") (rListK X.K) := CallR.or call_list_of (call_list_dK hc)
theorem oa_listK : OpA G (rListK G.K) bListK := fun Wx σ W C H xs vs Q st rx q => by
  unfold bListK at q
  split at q
  · split at q
    · rename_i d l e
      exact .inl (oa_list Wx σ W C H _ vs Q st rx (by unfold bList; simp only [e]; exact q))
    · split at q
      · rename_i n _
        obtain ⟨v, rfl, r⟩ := rx.one
        split at q
        · rename_i l e
          obtain ⟨a, rfl, ha⟩ := r.cel_
          obtain ⟨b, ho, h1, h2, h3, m, rfl, h4⟩ := st.cells n _ e
          rw [ha] at h1; cases h1
          exact .inr ⟨a, m, rfl, h3, new_lst st (keys_ok h4) q⟩
        · exact q.elim
      · exact q.elim
  · exact q.elim
/-- a new list by + as a cell -/
def dCatC (x y : D) (C : Cells) : Res D := match trkOf C x, trkOf C y with
  | some a, some b => if a.length + b.length ≤ mxl then newL (a ++ b) C else .no
  | _, _ => .no
theorem o2_catC : Op2 G rCat dCatC := fun Wx σ W C H x y v u Q st rx ry q => by
  unfold dCatC at q
  split at q
  · rename_i a b e1 e2
    split at q
    · rename_i hz
      obtain ⟨p1, vs, rfl, h1, r1⟩ := trkOf_ok st rx e1
      obtain ⟨p2, us, rfl, h2, r2⟩ := trkOf_ok st ry e2
      refine ⟨p1, p2, vs, us, rfl, rfl, h1, h2, ?_, new_cel st (r1.append r2) q⟩
      rw [← r1.length, ← r2.length, ← mxl_eq]; exact hz
    · exact q.elim
  · exact q.elim
end
/-! ### the law's own promise -/
def spLaw (K : PySem.W.Frag) (tb : List (Addr × Str) := []) : Sp := fun vs H Q _ => ∃ (a : Addr) (ns : List Int), vs = [.ref a] ∧ SqL K H a (ns.map V.int) ∧ ns.length ≤ 63 ∧ (∀ p ∈ tb, H p.1 = some (.tbl #[])) ∧ ∀ H', Q (.bl true) H'
def C0 : Cells := ⟨0, fun _ => none, fun _ _ => rfl⟩
def Wd0 : Wd := ⟨fun _ => none, fun _ => none⟩
/-- all of a heap but the tables -/
def noTbl (H : Hp) : Hp := fun a => match H a with | some (.tbl _) => none | x => x
theorem noTbl_of {H : Hp} {a : Addr} {o : HO} (h : H a = some o) (ho : ∀ ps, o ≠ .tbl ps) : noTbl H a = some o := by
  unfold noTbl; rw [h]
  cases o with
  | tbl ps => exact absurd rfl (ho ps)
  | _ => rfl
theorem of_noTbl {H : Hp} {a : Addr} {o : HO} (h : noTbl H a = some o) : H a = some o := by
  unfold noTbl at h
  split at h
  · cases h
  · exact h
theorem law_sp {G : Glo} {F : Fn} (hW : G.W0 = Wd0) (h : ∀ ns : List Int, ns.length ≤ 63 → ∃ C', F [.scr (ns.map D.int)] C0 = .ok (.bl true) C') {vs : List V} {H : Hp} {Q : VK} {E : XK} (s : spLaw G.K G.tb vs H Q E) : spD G 1 F vs H Q E := by
  obtain ⟨a, ns, rfl, hS, hl, ht, k⟩ := s
  obtain ⟨C', e⟩ := h ns hl
  have hS' : SqL G.K (noTbl H) a (ns.map V.int) := by
    rcases hS with (h | ⟨o, h⟩) | h
    · exact .inl (.inl (noTbl_of h fun _ z => (nomatch z)))
    · exact .inl (.inr ⟨o, noTbl_of h fun _ z => (nomatch z)⟩)
    · exact .inr h
  refine ⟨rfl, ⟨noTbl H, fun _ => none⟩, [.scr (ns.map D.int)], C0, .cons (.scr hS' (ints_rep ns)) .nil, ⟨?_, ⟨fun a ps z => ?_, fun p hp => ?_⟩, fun _ _ q => of_noTbl q, (fun n o q => nomatch (show (none : Option O) = some o from q)), (fun n m a o o' q => nomatch (show (none : Option O) = some o from q)), fun _ _ => rfl⟩, ?_⟩
  · rw [hW]; exact ⟨fun _ _ q => (nomatch (show (none : Option HO) = some _ from q)), fun _ _ q => (nomatch (show (none : Option Addr) = some _ from q))⟩
  · have z' : noTbl H a = some (.tbl ps) := z
    unfold noTbl at z'
    split at z'
    · cases z'
    · rename_i h; exact h ps z'
  · refine ⟨#[], ht p hp, trivial, fun pos cv hc => ?_⟩
    have z : codeAmong pos [] = some cv := hc
    simp [codeAmong] at z
  rw [e]
  intro W' v H' t st r
  rw [r.bl_]; exact k H'
theorem law_fn {G : Glo} {P : Program} {w : World} {mg : Str → Option Value} {base : Heap} {k : Nat} {f : Addr} {fd : FuncData} {ps : List Str} {F : Fn} (ok : FnOk P w G.K mg base (L2.CX P w) k f fd ps (spD G 1 F)) (hW : G.W0 = Wd0)
    (h : ∀ ns : List Int, ns.length ≤ 63 → ∃ C', F [.scr (ns.map D.int)] C0 = .ok (.bl true) C') : FnOk P w G.K mg base (L2.CX P w) k f fd ps (spLaw G.K G.tb) := ok.imp fun vs H Q E s => law_sp hW h s
theorem cx_none {P : Program} {w : World} {H : Hp} {s : Shared} {e : Value} {s' : Shared} (h : L2.CX P w [] H s (fun _ _ _ => False) e s') : False := by
  obtain ⟨_, _, _, _, _, _, _, _, _, _, _, _, z⟩ := h
  exact z
/-- the goal that the head leaves, from the law's worth on data -/
theorem law_walk {l : PySem.W.OpenLaw} {q : Program} {loose : List Str} {XP : (Str → Option Value) → Heap → Prop} {YP : World → Heap → Prop} {d : DefRec} {K : Params → PySem.W.Frag} {k : Nat} {x : Str} (hn : l.most = some 63) (hdf : d.params.defaults = []) (hr : Room k callerA)
    (hY : ∀ (w : World) (h : Heap), YP w h → (K w.params).In h)
    (F : ∀ (w : World) (mg : Str → Option Value) (fa : Addr) (h : Heap), (K w.params).In h → h.Ns mainGlobals mg → mg d.name = some (.ref fa) →
      ∃ fd : FuncData, (∀ (s : Shared) (u : Value), BindsTo s fd ⟨[u], []⟩ [(x, u)]) ∧ ∀ base : Heap, (K w.params).In base → base.Ns mainGlobals mg → FnOk l.prog w (K w.params) mg base (L2.CX l.prog w) k fa fd [x] (spLaw (K w.params))) :
    PySem.W.WalkO q loose XP YP l.row.toRowW d [] (fun f vs => PySem.call f vs) :=
  L2.walk_of (n := 63) (k := k) (x := x) (CX := fun w => L2.CX l.prog w) (sp := fun w => spLaw (K w.params)) hn (by decide) hdf hr hY F (fun _ _ a ns hl _ hS => ⟨a, ns, rfl, hS, hl, fun p hp => (nomatch hp), fun _ => rfl⟩) fun _ _ _ _ _ z => cx_none z
/-- a def as the head tells of it -/
def DefF (K : PySem.W.Frag) (mg : Str → Option Value) (x : Str) (st : Stmt) : Prop := ∃ f fd, Fun K x x st f fd ∧ mg x = some (.ref f)
theorem def_mk {K : PySem.W.Frag} {h : Heap} {mg : Str → Option Value} {x : Str} {st : Stmt} {f : Addr} {oc : Value} {od an : Option Addr} {osl : Array (Option Value)} {kV doc pm cdv ct : Value} (X : K.In h) (G : h.Ns mainGlobals mg) (a : PySem.W.nsIn K mainGlobals x = some (some (.ref f)))
    (l : K.lookup f = some ⟨oc, od, .func (PySem.W.fnOf x x (defArgs st) (defBody st) (defScope st) .none kV doc pm an cdv ct), osl⟩) (c : PySem.W.codeIn K cdv x = true) (k : PySem.W.keepIn K (.ref f) = true) : DefF K mg x st :=
  ⟨f, _, fun_mk l c k, PySem.W.mg_of X G a⟩
end DL

set_option Elab.async false
set_option linter.all false
set_option maxRecDepth 100000
set_option autoImplicit false
namespace DL
open PySem PySem.Spec PyProof.Rows L2
section
variable {X : Cx} {G : Glo} {Wx : WX}
/-! ### what is never reached -/
def sNo : SF := fun _ _ => .no
def eNo : EF := fun _ _ => .no
theorem ds_dead {st : Stmt} : DS X G Wx st sNo := ⟨⟨fun _ _ _ _ _ _ h => by obtain ⟨W, sl, C, _, _, q⟩ := h; exact q.elim⟩⟩
theorem de_dead {e : Expr} : DE X G Wx e eNo := ⟨⟨fun _ _ _ _ _ _ h => by obtain ⟨W, sl, C, _, _, q⟩ := h; exact q.elim⟩⟩
/-! ### a text walked sign by sign -/
def iSt (f : EF) : IF := fun s C => (f s C).bind fun d C => match d with | .str z => .ok (z.cps.toList.map fun c => D.str ⟨#[c]⟩) C | _ => .no
theorem wlk_str {W : Wd} {C : Cells} {H : Hp} {z : Str} : Wlk G (Its z) W C H (z.cps.toList.map fun c => D.str ⟨#[c]⟩) where
  item := fun i d e W' C' H' t st => by
    rw [List.getElem?_map, Array.getElem?_toList] at e
    cases hz : z.cps[i]? with
    | none => rw [hz] at e; cases e
    | some c =>
      rw [hz] at e
      cases e
      have hi : i < z.cps.size := by
        by_cases q : i < z.cps.size
        · exact q
        · rw [Array.getElem?_eq_none (by omega)] at hz; cases hz
      refine ⟨hi, fun x H2 y => ?_⟩
      obtain ⟨rfl, c', h1, rfl⟩ := y
      rw [hz] at h1; cases h1
      exact ⟨W', .refl, st, .str⟩
  stop := fun W' C' H' t st => by
    show z.cps.size ≤ _
    simp
theorem io_str (fo : EF) : IOk G Wx (iStr (tD G Wx fo)) (iSt fo) := fun σ H R W sl C rs st q => ⟨W, sl, C, rs, st, q.bind fun d C1 W1 v H1 t st1 rr q1 => by
  split at q1
  · exact ⟨_, rr.str_, q1 W1 _ H1 .refl st1 wlk_str⟩
  · exact q1.elim⟩
end
/-! ### a method called through its class -/
section
variable {prog : Program} {w : World} {A : Around} {E : Value → Shared → Prop} {s : Shared} {K : PySem.W.Frag} {m : Str → Option Value}
theorem method_ofcls {h₀ : Heap} {L : Addr} {name : Str} {C : Addr} {v : Value} {pl : Sem Bool} {Q : Value × List Value → Shared → Prop} (F : Fr h₀ L s.heap m) (X₀ : K.In h₀) (hr : PySem.W.readsIn K C (.type "type") = true)
    (e : PySem.W.findCls K (.ref C) (.type "type") name = some (.val v)) (hh : PySem.W.handedIn v = true) (h : Q (v, []) { s with toks := s.toks + 1 }) : wpAny (model prog w) A (getMethod (.ref C) name pl) Q E s := by
  have X := X₀.keeps F.keep
  have hr' := hr
  simp only [PySem.W.readsIn, Bool.and_eq_true, beq_iff_eq] at hr'
  obtain ⟨⟨⟨⟨a, b⟩, c'⟩, d⟩, f⟩ := hr'
  unfold getMethod specialOf
  refine wpAny_bind (wpAny_bind ((PySem.W.looks_typeIn X b).here ((PySem.W.looks_findIn X c').here ?_)))
  dsimp only
  rw [if_pos PySem.W.canon_tga]
  refine wpAny_bind (wpAny_mono (Q := fun v => Q (v, [])) (E := E) ?_ (fun _ _ z => wpAny_pure z) fun _ _ z => z)
  exact PySem.W.cls_value X hr e hh h
end
structure ClsOk (P : Program) (w : World) (G : Glo) (mg : Str → Option Value) (base : Heap) (k : Nat) (x m : Str) (np : Nat) (F : Fn) : Prop where
  ar : Arity F np
  ex : ∃ C f fd ps, ps.length = np ∧ FnOk P w G.K mg base (L2.CX P w) k f fd ps (spD G np F) ∧ mg x = some (.ref C) ∧ PySem.W.readsIn G.K C (.type "type") = true ∧ PySem.W.findCls G.K (.ref C) (.type "type") m = some (.val (.ref f)) ∧ PySem.W.keepIn G.K (.ref f) = true ∧ Binds G.K fd ps []
section
variable {X : Cx} {G : Glo} {Wx : WX} {x m : Str} {k np : Nat} {F : Fn} {e : Expr} {es : List Expr} {af : AF} {p apos pos : Pos}
theorem de_clsm {pl : Sem Bool} (hk : X.K = G.K) (cl : ClsOk X.prog X.w G X.mg X.base k x m np F) (hr : Room k X.A) (hg : Gl X x) (tk : Takes X Wx) (ha : DA X G Wx (e :: es) af) (hdb : (x == ("__debug__" : Str)) = false := by decide)
    (hst : starEach (e :: es) X.env = (false, eval e X.env) :: starEach es X.env := by rfl) (hpl : (backTo pos (starEach es X.env)).any (·.1) = false := by rfl)
    (ht : eval (.Call (.Attribute (.Name x p) m apos) (e :: es) [] pos) X.env = (do
      let ov ← eval (.Name x p) X.env
      standAt apos.atName
      let (f, first) ← holding [ov] (getMethod ov m pl)
      callWith pos f first (backTo pos (starEach (e :: es) X.env)) (backToKw pos (keywordEach [] X.env))) := by rfl) : DE X G Wx (.Call (.Attribute (.Name x p) m apos) (e :: es) [] pos) (eCall F [] af) := by
  obtain ⟨ar, C, f, fd, ps, hp, ok, hm, rd, fc, kp, hb⟩ := cl
  rw [← hk] at ok rd fc kp hb
  refine ⟨PE.weak (t := fun σ H Q => tAr G Wx af σ H fun vs H1 => spD G np F vs H1 Q (fun c d H => Wx c d σ H)) ⟨fun pins s σ H Q I h => ?_⟩ fun σ H Q ⟨W, sl, C, rs, st, q⟩ => ⟨W, sl, C, rs, st, q.bind fun xs C1 W1 vs H1 _ t st1 rx q1 => ?_⟩⟩
  · refine PySem.W.methodCall_KW (pl := pl) (ld_glob I hg hm ?_ hdb) ht
    obtain ⟨mm, fr⟩ := I.fr
    refine method_ofcls fr I.ok.mod.kin rd fc (by rfl) ?_
    refine PySem.W.callWith_K (first := []) (h₀ := X.base) I.ok.mod.kin kp (thn (ha.pa.run pos pins _ σ H _ (I.tok _) h) fun us s2 h2 => ?_) hst hpl
    obtain ⟨vs, H2, I2, r, q2⟩ := h2
    refine ⟨I2.kIn, run_fnSD (dvs := []) (E := fun σ c d H => Wx c d σ H) ok hr hb .nil (passAt tk σ) I2 r ?_⟩
    rw [List.append_nil]; exact q2
  · refine spD_of ar ?_ st1 q1
    rw [List.append_nil]; exact rx
end
end DL

set_option Elab.async false
set_option linter.all false
set_option maxRecDepth 100000
set_option autoImplicit false
namespace DL
open PySem PySem.Spec PyProof.Rows L2
section
variable {G : Glo} {P : Program} {w : World} {mg : Str → Option Value} {base : Heap}
/-- a def with defaults -/
theorem fun_okD {x qual : Str} {st : Stmt} {f : Addr} {fd : FuncData} {N ps : List Str} {dvs : List V} {k n np : Nat} {g : SF} (F : FunD G.K x qual (defArgs st) (defBody st) (defScope st) dvs [] f fd) (S : FnScope N ps (defScope st)) (hn : N.length = n) (hp : ps.length = np)
    (hbody : ∀ (cdv : Value) (A : Around) (outer : List Env) (s : Shared) (H : Hp) (E : XK), Room k (A.deeper (envOfC qual (defScope st) s.heap.objs.size f cdv)) →
      DSs (cxOf (L2.CX P w) P w G.K mg base N qual (defScope st) f cdv A outer s H E) G (fun c d _ H => E c d H) (defBody st) g) :
    FnOk P w G.K mg base (L2.CX P w) (k + 1) f fd ps (spD G np (callF n np g)) := by
  refine FunD.ok F S (fun vs H Q E h => h.1.trans hp.symm) fun cdv A outer s H vs Q E hr h => ⟨_, (hbody cdv A outer s H E hr).ps, ?_⟩
  obtain ⟨hl, W, ds, C, rv, st, q⟩ := h
  refine ⟨W, _, C, RepS.start (N := N) rv, st, ?_⟩
  unfold callF at q
  rw [if_pos (rv.length.trans hl), ← hn] at q
  cases e : g (ds.map some ++ List.replicate (N.length - ds.length) none) C with
  | nxt s' C' => rw [e] at q; exact fun W' σ' H' t st' r => q W' .non H' t st' .non
  | ret d C' => rw [e] at q; exact fun W' v H' t st' r => q W' v H' t st' r
  | brk s' C' => rw [e] at q; exact q.elim
  | cnt s' C' => rw [e] at q; exact q.elim
  | err c s' C' => rw [e] at q; exact fun W' σ' H' t st' r => q W' H' t st'
  | no => rw [e] at q; exact q.elim
end
theorem fund_mk {K : PySem.W.Frag} {x qual : Str} {st : Stmt} {f T : Addr} {oc oc' : Value} {od od' an : Option Addr} {osl osl' : Array (Option Value)} {kV doc pm cdv ct : Value} {n : Nat} {dvs : List V} {its : List Value}
    (l : K.lookup f = some ⟨oc, od, .func (PySem.W.fnOf x qual (defArgs st) (defBody st) (defScope st) (.ref T) kV doc pm an cdv ct), osl⟩) (c : PySem.W.codeIn K cdv qual = true) (k : PySem.W.keepIn K (.ref f) = true)
    (lT : K.lookup T = some ⟨oc', od', .seq its.toArray n, osl'⟩) (r : Vals dvs its) (hd : dvs ≠ []) : FunD K x qual (defArgs st) (defBody st) (defScope st) dvs [] f (PySem.W.fnOf x qual (defArgs st) (defBody st) (defScope st) (.ref T) kV doc pm an cdv ct) :=
  ⟨⟨oc, od, .ref T, kV, doc, pm, an, cdv, ct, osl, rfl, l, c, .inr ⟨hd, T, _, its, n, rfl, lT, rfl, r⟩, .inl rfl⟩, k⟩
/-- no field of that name -/
theorem flds_none {T : Tab} {c : Nat} {m : Str} (h : m ∉ (T.fl c).map T.nm) : ∀ vs : List V, (flds T c vs).lookup m = none := fun vs => by
  unfold flds
  generalize (T.fl c).map T.nm = ns at h
  induction ns generalizing vs with
  | nil => rfl
  | cons a r ih =>
    cases vs with
    | nil => rfl
    | cons v vr =>
      rw [List.zip_cons_cons, List.lookup_cons]
      have : (m == a) = false := by
        rw [beq_eq_false_iff_ne]; intro e; exact h (by simp [e])
      rw [this]
      exact ih vr fun z => h (by simp [z])
/-- tables of functions by the class: Cls and the rest -/
theorem meth_ok {P : Program} {w : World} {G : Glo} {mg : Str → Option Value} {base : Heap} {k : Nat} {m : Str} {c np : Nat} {F : Fn} {f : Addr} {fd : FuncData} {ps : List Str} (cf : CF G) (hc : c < G.T.ncl) (hn : m ∉ (G.T.fl c).map G.T.nm) (ar : Arity F np) (hp : ps.length = np)
    (ok : FnOk P w G.K mg base (L2.CX P w) k f fd ps (spD G np F)) (me : Meth G.K (G.cls c) m f) (hb : Binds G.K fd ps []) :
    Arity F np ∧ Cls G.K (G.cls c) ∧ (∀ vs, (flds G.T c vs).lookup m = none) ∧ ∃ f fd ps, ps.length = np ∧ FnOk P w G.K mg base (L2.CX P w) k f fd ps (spD G np F) ∧ Meth G.K (G.cls c) m f ∧ Binds G.K fd ps [] :=
  ⟨ar, (cf.cls c hc).cl, flds_none hn, f, fd, ps, hp, ok, me, hb⟩
/-- a constant of the module -/
theorem de_kon {X : Cx} {G : Glo} {Wx : WX} {x : Str} {v : V} {d : D} {pos : Pos} (hg : Gl X x) (h : ∃ u, X.mg x = some u ∧ RelV v u) (rd : ∀ W, RepV G W d v) (hd : (x == ("__debug__" : Str)) = false := by decide) : DE X G Wx (.Name x pos) (eC d) := by
  obtain ⟨u, h1, h2⟩ := h
  exact de_glob hg h1 h2 rd hd
end DL

set_option Elab.async false
set_option linter.all false
set_option maxRecDepth 100000
set_option autoImplicit false
namespace DL
open PySem PySem.Spec PyProof.Rows L2
open Classical
/-! ### loops over what may change: at each turn what is walked still stands -/
abbrev IK := Sl → Cells → Res (List D × (Cells → Prop))
structure WlkK (G : Glo) (J : It) (W : Wd) (C : Cells) (H : Hp) (ds : List D) (kp : Cells → Prop) : Prop where
  item : ∀ (i : Nat) (d : D), ds[i]? = some d → ∀ W' C' H', Step W C H W' C' H' → StR G W' C' H' → kp C' → J.go i H' ∧ ∀ x H2, J.yld i H' x H2 → ∃ W2, Step W' C' H' W2 C' H2 ∧ StR G W2 C' H2 ∧ RepV G W2 d x
  stop : ∀ W' C' H', Step W C H W' C' H' → StR G W' C' H' → kp C' → J.stop ds.length H'
def IPostK (G : Glo) (Wx : WX) (σ : L2.St) (W : Wd) (C : Cells) (H : Hp) (r : Res (List D × (Cells → Prop))) (R : It → Hp → Prop) : Prop :=
  match r with
  | .ok p C' => ∀ W' J H', Step W C H W' C' H' → StR G W' C' H' → WlkK G J W' C' H' p.1 p.2 → R J H'
  | .err c C' => ∀ W' H', Step W C H W' C' H' → StR G W' C' H' → Wx (.ref (G.cls c)) none σ H'
  | .no => False
def IOkK (G : Glo) (Wx : WX) (wi : TI) (f : IK) : Prop := ∀ (σ : L2.St) (H : Hp) (R : It → Hp → Prop) (W : Wd) (sl : Sl) (C : Cells), RepS G W sl σ → StR G W C H → IPostK G Wx σ W C H (f sl C) R → wi σ H R
def celK (d : D) (C : Cells) : Res (List D × (Cells → Prop)) := match d with
  | .cel n => (match C.get n with | some (.lst l) => .ok (l, fun C' => C'.get n = some (.lst l)) C | _ => .no)
  | .lst l => .ok (l, fun _ => True) C
  | .scr l => .ok (l, fun _ => True) C
  | _ => .no
def iCel (f : EF) : IK := fun s C => (f s C).bind celK
noncomputable def forK (kp : Cells → Prop) (tg : GF) (b : SF) : List D → SF
  | [], s, C => if kp C then .nxt s C else .no
  | d :: r, s, C => if kp C then (match tg d s C with
    | none => .no
    | some s => match b s C with
      | .nxt s C => forK kp tg b r s C
      | .cnt s C => forK kp tg b r s C
      | .brk s C => .nxt s C
      | x => x) else .no
noncomputable def sForK (it : IK) (tg : GF) (b : SF) : SF := fun s C => match it s C with
  | .ok p C => forK p.2 tg b p.1 s C
  | .err c C => .err c s C
  | .no => .no
noncomputable def lcK (kp : Cells → Prop) (tg : GF) (t : TF) (f : EF) (vs : List Nat) : List D → Sl → Cells → Res (List D)
  | [], _, C => if kp C then .ok [] C else .no
  | d :: r, s, C => if kp C then (match tg d (wipeD s vs) C with
    | none => .no
    | some s' => match t s' C with
      | .ok true C => (match f s' C with
        | .ok y C => (match lcK kp tg t f vs r s C with
          | .ok ys C => .ok (y :: ys) C
          | _ => .no)
        | _ => .no)
      | .ok false C => lcK kp tg t f vs r s C
      | _ => .no) else .no
noncomputable def lcKG (it : IK) (tg : GF) (t : TF) (f : EF) (vs : List Nat) : AF := fun s C => (it s C).bind fun p C => match lcK p.2 tg t f vs p.1 s C with
  | .ok ys C => if p.1.length ≤ mxl then .ok ys C else .no
  | _ => .no
noncomputable def eLcK (it : IK) (tg : GF) (t : TF) (f : EF) (vs : List Nat) : EF := fun s C => (lcKG it tg t f vs s C).bind fun ys C => .ok (.lst ys) C
noncomputable def eLcKC (it : IK) (tg : GF) (t : TF) (f : EF) (vs : List Nat) : EF := fun s C => (lcKG it tg t f vs s C).bind newL
section
variable {X : Cx} {G : Glo} {Wx : WX} {pos : Pos} {g : SF} {W : Wd} {C : Cells} {H : Hp}
theorem Wlk.k {J : It} {ds : List D} (h : Wlk G J W C H ds) {kp : Cells → Prop} : WlkK G J W C H ds kp := ⟨fun i d e W' C' H' t st _ => h.item i d e W' C' H' t st, fun W' C' H' t st _ => h.stop W' C' H' t st⟩
theorem wlk_cel {n : Nat} {a : Addr} {l : List D} (hn : W.cm n = some a) : WlkK G (Itl G.K a) W C H l (fun C' => C'.get n = some (.lst l)) where
  item := fun i d e W' C' H' t st k => by
    obtain ⟨b, ho, h1, h2, h3, vs, rfl, h4⟩ := st.cells n _ k
    rw [t.le.cm n a hn] at h1; cases h1
    obtain ⟨v, h5, h6⟩ := h4.get e
    have hs : SqL G.K H' a vs := .of h3
    refine ⟨⟨vs, v, hs, h5⟩, fun x H2 y => ?_⟩
    obtain ⟨rfl, y⟩ := y
    have e2 := y vs hs
    rw [h5] at e2; cases e2
    exact ⟨W', .refl, st, h6⟩
  stop := fun W' C' H' t st k => by
    obtain ⟨b, ho, h1, h2, h3, vs, rfl, h4⟩ := st.cells n _ k
    rw [t.le.cm n a hn] at h1; cases h1
    exact ⟨vs, .of h3, by rw [h4.length]; exact Nat.le_refl _⟩
theorem io_cel (fo : EF) : IOkK G Wx (iList G.K (tD G Wx fo)) (iCel fo) := fun σ H R W sl C rs st q => by
  refine ⟨W, sl, C, rs, st, ?_⟩
  unfold iCel at q
  cases e : fo sl C with
  | no => rw [e] at q; exact q.elim
  | err c C1 => rw [e] at q; exact q
  | ok d C1 =>
    rw [e] at q
    intro W1 v H1 t st1 rr
    replace q : IPostK G Wx σ W C H (celK d C1) R := q
    unfold celK at q
    split at q
    · rename_i n
      split at q
      · rename_i l eg
        obtain ⟨a, rfl, ha⟩ := rr.cel_
        obtain ⟨b, ho, h1, h2, h3, vs, rfl, h4⟩ := st1.cells n _ eg
        rw [ha] at h1; cases h1
        exact ⟨a, rfl, ⟨vs, .of h3⟩, q W1 _ H1 t st1 (wlk_cel ha)⟩
      · exact q.elim
    · obtain ⟨a, vs, rfl, h1, h2⟩ := rr.lst_
      exact ⟨a, rfl, ⟨vs, .of (st1.F _ _ h1)⟩, q W1 _ H1 t st1 (wlk_list (.of h1) h2).k⟩
    · obtain ⟨a, vs, rfl, h1, h2⟩ := rr.scr_
      exact ⟨a, rfl, ⟨vs, SqL.up st1.F h1⟩, q W1 _ H1 t st1 (wlk_list h1 h2).k⟩
    · exact q.elim
theorem ds_forK {tg iter : Expr} {body : List Stmt} {wi : TI} {t : TG} {gf : GF} {tch : List Nat} {fi : IK} (hp : PassesOwn (model X.prog X.w) X.A X.env X.xe) (hc : X.calm = true) (hi : PI X tg iter wi) (io : IOkK G Wx wi fi) (hg : PG X tg t) (go : GOk G t gf tch) (hb : DSs X G Wx body g)
    (hs : ∀ x, foldedSetIterable iter X.env x = pure x := by intro _; rfl) : DS X G Wx (.For tg iter body [] pos) (sForK fi gf g) := ⟨PS.weak (ps_for hp hc hi hg hb.ps hs) fun D σ H ⟨W, sl, C, rs, st, q⟩ => by
  refine io σ H _ W sl C rs st ?_
  unfold sForK at q
  cases e : fi sl C with
  | no => rw [e] at q; exact q.elim
  | err c C1 => rw [e] at q; exact fun W' H' t' st' => q W' σ H' t' st' (rs.up t'.le)
  | ok dk C1 =>
    obtain ⟨ds, kp⟩ := dk
    rw [e] at q
    intro W1 J H1 t1 st1 wk
    refine ⟨fun i m σ H => i ≤ ds.length ∧ m = ds.length - i ∧ ∃ W sl C, Step W1 C1 H1 W C H ∧ RepS G W sl σ ∧ StR G W C H ∧ SPost G Wx W C H (forK kp gf g (ds.drop i) sl C) D, ⟨ds.length, Nat.zero_le _, rfl, W1, sl, C1, .refl, rs.up t1.le, st1, by rw [List.drop_zero]; exact SPost.step t1 q⟩, ?_⟩
    rintro i m σ H ⟨hi, rfl, W, sl, C, t, rs, st, q⟩
    by_cases hlt : i < ds.length
    · have hd : ds[i]? = some ds[i] := List.getElem?_eq_getElem hlt
      have hdr : ds.drop i = ds[i] :: ds.drop (i + 1) := List.drop_eq_getElem_cons hlt
      rw [hdr] at q
      unfold forK at q
      have hkp : kp C := Classical.byContradiction fun z => by rw [if_neg z] at q; exact q.elim
      rw [if_pos hkp] at q
      obtain ⟨go_, y_⟩ := wk.item i _ hd W C H t st hkp
      refine .inr ⟨go_, fun σ H => ∃ W sl C, Step W1 C1 H1 W C H ∧ RepS G W sl σ ∧ StR G W C H ∧ SPost G Wx W C H (forK kp gf g (ds.drop (i + 1)) sl C) D, fun σ' H' n => ⟨_, by omega, hlt, rfl, n⟩, fun x H' y => ?_⟩
      obtain ⟨W2, t2, st2, r2⟩ := y_ x H' y
      split at q
      · exact q.elim
      · rename_i s' e'
        refine go _ x sl s' σ W2 C H' _ st2 r2 (rs.up t2.le) e' fun σ' rs' _ => ⟨W2, s', C, rs', st2, ?_⟩
        have q := SPost.step t2 q
        cases eb : g s' C with
        | nxt s3 C3 => rw [eb] at q; exact fun W3 σ3 H3 t3 st3 rs3 => ⟨W3, s3, C3, (t.trans t2).trans t3, rs3, st3, SPost.step t3 q⟩
        | cnt s3 C3 => rw [eb] at q; exact fun W3 σ3 H3 t3 st3 rs3 => ⟨W3, s3, C3, (t.trans t2).trans t3, rs3, st3, SPost.step t3 q⟩
        | brk s3 C3 => rw [eb] at q; exact q
        | ret d C3 => rw [eb] at q; exact q
        | err c s3 C3 => rw [eb] at q; exact q
        | no => rw [eb] at q; exact q
    · have ei : i = ds.length := by omega
      subst ei
      rw [List.drop_length] at q
      have q : SPost G Wx W C H (if kp C then .nxt sl C else .no) D := q
      split at q
      · rename_i hkp
        exact .inl ⟨wk.stop W C H t st hkp, q W σ H .refl st rs⟩
      · exact q.elim⟩

end
section
variable {X : Cx} {G : Glo} {Wx : WX} {e c : Expr} {f : EF} {pos : Pos}
theorem lcK_use {wi : TI} {t : TG} {gf : GF} {tch vs : List Nat} {tt : TF} {fe : EF} {fi : IK} {fin : List D → Cells → Res D} (io : IOkK G Wx wi fi) (go : GOk G t gf tch) (ht : ∀ i ∈ tch, i ∈ vs)
    (hfin : ∀ (σ : L2.St) (W : Wd) (C : Cells) (H : Hp) (l : List D) (us : List V) (Dp : Addr) (Q : VK), StR G W C H → ¬ Own W C Dp → H Dp = some (.lst us) → RepVs G W l us →
      (∀ W1 C1 H1, StepX Dp W C H W1 C1 H1 → H1 = H → ∀ d v, StR G W1 C1 H1 → RepV G W1 d v → fin l C = .ok d C1 → Q v H1) → Q (.ref Dp) H)
    {σ : L2.St} {H : Hp} {Q : VK} {W : Wd} {sl : Sl} {C : Cells} (rs : RepS G W sl σ) (st : StR G W C H)
    (q : Post G Wx σ (RepV G) W C H ((lcKG fi gf tt fe vs sl C).bind fin) Q) : tLc wi t (tTs G W0 tt) (tD G W0 fe) vs σ H Q := by
  refine io σ H _ W sl C rs st ?_
  unfold lcKG at q
  cases e : fi sl C with
  | no => rw [e] at q; exact q.elim
  | err c C1 => rw [e] at q; exact q
  | ok dk C1 =>
    obtain ⟨ds, kp⟩ := dk
    rw [e] at q
    intro W1 J H1 t1 st1 wk Dp hD
    have q : Post G Wx σ (RepV G) W C H (Res.bind (match lcK kp gf tt fe vs ds sl C1 with | .ok ys C => if ds.length ≤ mxl then .ok ys C else .no | _ => .no) fin) Q := q
    cases e2 : lcK kp gf tt fe vs ds sl C1 with
    | no => rw [e2] at q; exact q.elim
    | err c C2 => rw [e2] at q; exact q.elim
    | ok ys Ce =>
      rw [e2] at q
      have q : Post G Wx σ (RepV G) W C H (Res.bind (if ds.length ≤ mxl then .ok ys Ce else .no) fin) Q := q
      split at q
      · rename_i hz
        have q : Post G Wx σ (RepV G) W C H (fin ys Ce) Q := q
        obtain ⟨st2, t2, n2⟩ := fr_out (o := .lst []) st1 hD
        refine ⟨fun i m H => i ≤ ds.length ∧ m = ds.length - i ∧ ∃ W C acc us rest, StepX Dp W1 C1 (upd H1 Dp (.lst [])) W C H ∧ StR G W C H ∧ ¬ Own W C Dp ∧ H Dp = some (.lst us) ∧ RepVs G W acc us ∧ acc.length ≤ i ∧ lcK kp gf tt fe vs (ds.drop i) sl C = .ok rest Ce ∧ ys = acc ++ rest,
          ⟨ds.length, Nat.zero_le _, rfl, W1, C1, [], [], ys, ⟨.refl, Nat.le_refl _, fun a o _ h _ n => ⟨h, n⟩⟩, st2, n2, upd_same, .nil, Nat.zero_le _, by rw [List.drop_zero]; exact e2, rfl⟩, ?_⟩
        rintro i m H2 ⟨hi, rfl, W2, C2, acc, us, rest, t3, st3, n3, hD3, racc, hacc, erest, eys⟩
        have wk2 : ∀ {W' C' H'}, StepX Dp W1 C1 (upd H1 Dp (.lst [])) W' C' H' → Step W1 C1 H1 W' C' H' := fun s => (t2.x.trans s).st hD
        by_cases hlt : i < ds.length
        · have hd : ds[i]? = some ds[i] := List.getElem?_eq_getElem hlt
          have hdr : ds.drop i = ds[i] :: ds.drop (i + 1) := List.drop_eq_getElem_cons hlt
          rw [hdr] at erest
          unfold lcK at erest
          have hkp : kp C2 := Classical.byContradiction fun z => by rw [if_neg z] at erest; cases erest
          rw [if_pos hkp] at erest
          obtain ⟨go_, y_⟩ := wk.item i _ hd W2 C2 H2 (wk2 t3) st3 hkp
          refine .inr ⟨go_, fun H => ∃ W C acc us rest', StepX Dp W1 C1 (upd H1 Dp (.lst [])) W C H ∧ StR G W C H ∧ ¬ Own W C Dp ∧ H Dp = some (.lst us) ∧ RepVs G W acc us ∧ acc.length ≤ i + 1 ∧ lcK kp gf tt fe vs (ds.drop (i + 1)) sl C = .ok rest' Ce ∧ ys = acc ++ rest', fun H' n => ⟨_, ?_, hlt, rfl, n⟩, fun x H4 y => ?_⟩
          · omega
          obtain ⟨W4, t4, st4, r4⟩ := y_ x H4 y
          cases eg : gf ds[i] (wipeD sl vs) C2 with
          | none => rw [eg] at erest; cases erest
          | some s' =>
            rw [eg] at erest
            have hD4 := (t4.fr Dp _ hD3 pla_lst n3).1
            have n4 := (t4.fr Dp _ hD3 pla_lst n3).2
            refine go _ x (wipeD sl vs) s' (L2.wipe σ vs) W4 C2 H4 _ st4 r4 ((rs.up (t1.le.trans (t3.le.trans t4.le))).wipe vs) eg fun σ' rs' hw => ⟨?_, W4, s', C2, rs', st4, ?_⟩
            · rw [hw vs ht]
              have ww : ∀ us : List Nat, L2.wipe (L2.wipe σ vs) us = L2.wipe (L2.wipe σ vs) us := fun _ => rfl
              have : ∀ (ks : List Nat), (∀ k ∈ ks, k ∈ vs) → L2.wipe (L2.wipe σ vs) ks = L2.wipe σ vs := fun ks => by
                induction ks with
                | nil => intro _; rfl
                | cons k ks ih =>
                  intro hk
                  show (L2.wipe (L2.wipe σ vs) ks).set k none = _
                  rw [ih fun z hz => hk z (List.mem_cons_of_mem _ hz)]
                  have gone : ∀ (ms : List Nat), k ∈ ms → (L2.wipe σ ms).set k none = L2.wipe σ ms := fun ms => by
                    induction ms with
                    | nil => intro h; cases h
                    | cons m ms ih2 =>
                      intro h
                      unfold L2.wipe
                      by_cases e : m = k
                      · subst e; rw [List.set_set]
                      · rcases List.mem_cons.mp h with z | z
                        · exact absurd z.symm e
                        · rw [List.set_comm _ _ e, ih2 z]
                  exact gone vs (hk k List.mem_cons_self)
              exact this vs fun _ h => h
            · cases et : tt s' C2 with
              | no => simp only [et] at erest; cases erest
              | err c C5 => simp only [et] at erest; cases erest
              | ok b C5 =>
                simp only [et] at erest
                intro W5 b' H5 t5 st5 eb
                subst eb
                have hD5 := (t5.fr Dp _ hD4 pla_lst n4).1
                have n5 := (t5.fr Dp _ hD4 pla_lst n4).2
                have tt5 := t3.trans (t4.trans t5).x
                cases b with
                | false =>
                  rw [if_neg Bool.false_ne_true]
                  exact ⟨W5, C5, acc, us, rest, tt5, st5, n5, hD5, racc.up (t4.trans t5).le, Nat.le_succ_of_le hacc, erest, eys⟩
                | true =>
                  rw [if_pos rfl]
                  refine ⟨W5, s', C5, rs'.up t5.le, st5, ?_⟩
                  cases ef : fe s' C5 with
                  | no => simp only [ef] at erest; cases erest
                  | err c C6 => simp only [ef] at erest; cases erest
                  | ok y C6 =>
                    simp only [ef] at erest
                    cases el : lcK kp gf tt fe vs (ds.drop (i + 1)) sl C6 with
                    | no => rw [el] at erest; cases erest
                    | err c C7 => rw [el] at erest; cases erest
                    | ok ys' C7 =>
                      rw [el] at erest
                      cases erest
                      intro W6 v6 H6 t6 st6 r6
                      have hD6 := (t6.fr Dp _ hD5 pla_lst n5).1
                      have n6 := (t6.fr Dp _ hD5 pla_lst n5).2
                      refine ⟨us, hD6, ?_, W6, C6, acc ++ [y], us ++ [v6], ys', (tt5.trans t6.x).trans (stepX_set n6), fr_outset st6 n6 hD6 pla_lst, n6, upd_same, (racc.up ((t4.trans t5).trans t6).le).append (.cons r6 .nil), ?_, el, by rw [eys]; simp⟩
                      · rw [← racc.length, ← mxl_eq]; omega
                      · rw [List.length_append, List.length_singleton]; omega
        · have ei : i = ds.length := by omega
          subst ei
          rw [List.drop_length] at erest
          unfold lcK at erest
          have hkp : kp C2 := Classical.byContradiction fun z => by rw [if_neg z] at erest; cases erest
          rw [if_pos hkp] at erest
          cases erest
          rw [List.append_nil] at eys
          subst eys
          refine .inl ⟨wk.stop W2 _ H2 (wk2 t3) st3 hkp, hfin σ W2 _ H2 _ us Dp Q st3 n3 hD3 racc fun W5 C5 H5 t5 e5 d v st5 r5 ef => ?_⟩
          rw [ef] at q
          exact q W5 v H5 (t1.trans ((t2.x.trans (t3.trans t5)).st hD)) st5 r5
      · exact q.elim
section
variable {elt tg iter : Expr} {ifs : List Expr} {scope : Scope} {own : List (Str × Nat)} {wi : TI} {t : TG} {gf : GF} {tch : List Nat} {tt : TF} {fi : IK}
theorem de_lcK (hc : X.calm = true) (hN : X.N.Nodup) (hi : PI X tg iter wi) (io : IOkK G Wx wi fi) (ok : BlkOk X.N X.env.scope scope own) (go : GOk G t gf tch) (htc : ∀ i ∈ tch, i ∈ own.map (·.2))
    (hg : ∀ (s : Shared) (H : Hp) (C : Addr) (cl : List (Str × Addr)) (fp : List Addr), PG (X.blk s H scope (compEnvC scope cl C X.env) fp) tg t) (ht : ∀ (s : Shared) (H : Hp) (C : Addr) (cl : List (Str × Addr)) (fp : List Addr), DTs (X.blk s H scope (compEnvC scope cl C X.env) fp) G W0 ifs tt)
    (he : ∀ (s : Shared) (H : Hp) (C : Addr) (cl : List (Str × Addr)) (fp : List Addr), DE (X.blk s H scope (compEnvC scope cl C X.env) fp) G W0 elt f) (hs : ∀ x, foldedSetIterable iter X.env x = pure x := by intro _; rfl) :
    DE X G Wx (.ListComp elt [⟨tg, iter, ifs, 0⟩] scope pos) (eLcK fi gf tt f (own.map (·.2))) :=
  ⟨PE.weak (pe_lc hc hN hi ok hg (fun s H C cl fp => (ht s H C cl fp).pts) (fun s H C cl fp => (he s H C cl fp).pe) hs) fun σ H Q ⟨W, sl, C, rs, st, q⟩ => lcK_use io go htc fin_lst rs st q⟩
theorem de_lcKC (hc : X.calm = true) (hN : X.N.Nodup) (hi : PI X tg iter wi) (io : IOkK G Wx wi fi) (ok : BlkOk X.N X.env.scope scope own) (go : GOk G t gf tch) (htc : ∀ i ∈ tch, i ∈ own.map (·.2))
    (hg : ∀ (s : Shared) (H : Hp) (C : Addr) (cl : List (Str × Addr)) (fp : List Addr), PG (X.blk s H scope (compEnvC scope cl C X.env) fp) tg t) (ht : ∀ (s : Shared) (H : Hp) (C : Addr) (cl : List (Str × Addr)) (fp : List Addr), DTs (X.blk s H scope (compEnvC scope cl C X.env) fp) G W0 ifs tt)
    (he : ∀ (s : Shared) (H : Hp) (C : Addr) (cl : List (Str × Addr)) (fp : List Addr), DE (X.blk s H scope (compEnvC scope cl C X.env) fp) G W0 elt f) (hs : ∀ x, foldedSetIterable iter X.env x = pure x := by intro _; rfl) :
    DE X G Wx (.ListComp elt [⟨tg, iter, ifs, 0⟩] scope pos) (eLcKC fi gf tt f (own.map (·.2))) :=
  ⟨PE.weak (pe_lc hc hN hi ok hg (fun s H C cl fp => (ht s H C cl fp).pts) (fun s H C cl fp => (he s H C cl fp).pe) hs) fun σ H Q ⟨W, sl, C, rs, st, q⟩ => lcK_use io go htc fin_cel rs st q⟩
/-- name = [..] on one line -/
theorem ds_setLcK {fin : List D → Cells → Res D} (hfin : ∀ (σ : L2.St) (W : Wd) (C : Cells) (H : Hp) (l : List D) (us : List V) (Dp : Addr) (Q : VK), StR G W C H → ¬ Own W C Dp → H Dp = some (.lst us) → RepVs G W l us →
      (∀ W1 C1 H1, StepX Dp W C H W1 C1 H1 → H1 = H → ∀ d v, StR G W1 C1 H1 → RepV G W1 d v → fin l C = .ok d C1 → Q v H1) → Q (.ref Dp) H)
    {i : Nat} {y : Str} {py spos : Pos} (hc : X.calm = true) (hN : X.N.Nodup) (hy : X.N[i]? = some y) (hyl : X.env.scope.names.lookup y = some .local)
    (hsw : swapsWith (.ListComp elt [⟨tg, iter, ifs, 0⟩] scope pos) (some (.Name y py)) spos.line X.env = pure true) (hi : PI X tg iter wi) (io : IOkK G Wx wi fi) (ok : BlkOk X.N X.env.scope scope own) (go : GOk G t gf tch) (htc : ∀ i ∈ tch, i ∈ own.map (·.2))
    (hg : ∀ (s : Shared) (H : Hp) (C : Addr) (cl : List (Str × Addr)) (fp : List Addr), PG (X.blk s H scope (compEnvC scope cl C X.env) fp) tg t) (ht : ∀ (s : Shared) (H : Hp) (C : Addr) (cl : List (Str × Addr)) (fp : List Addr), DTs (X.blk s H scope (compEnvC scope cl C X.env) fp) G W0 ifs tt)
    (he : ∀ (s : Shared) (H : Hp) (C : Addr) (cl : List (Str × Addr)) (fp : List Addr), DE (X.blk s H scope (compEnvC scope cl C X.env) fp) G W0 elt f) (hs : ∀ x, foldedSetIterable iter X.env x = pure x := by intro _; rfl) :
    DS X G Wx (.Assign [.Name y py] (.ListComp elt [⟨tg, iter, ifs, 0⟩] scope pos) spos) (sSet i fun s C => (lcKG fi gf tt f (own.map (·.2)) s C).bind fin) :=
  ⟨PS.weak (ps_setLc hc hN hy hyl hsw hi ok hg (fun s H C cl fp => (ht s H C cl fp).pts) (fun s H C cl fp => (he s H C cl fp).pe) hs) fun D σ H ⟨W, sl, C, rs, st, q⟩ =>
    lcK_use (Q := fun x H1 => gName i x σ H1 D.nx) io go htc hfin rs st (SPost.toS (Q := fun x H1 => gName i x σ H1 D.nx) rs q fun d C1 W1 v H1 t1 st1 rr q1 => q1 W1 _ H1 .refl st1 ((rs.up t1.le).set i rr))⟩
end
end
end DL

set_option Elab.async false
set_option linter.all false
set_option maxRecDepth 100000
set_option autoImplicit false
namespace DL
open PySem PySem.Spec PyProof.Rows L2
/-! ### equality that looks through the cells, at every depth -/
def vwn : Nat → Cells → D → D
  | 0, _, d => d
  | n + 1, C, d => match lstOf C d with
    | some l => .lst (l.map (vwn n C))
    | none => (match d with
      | .tup l => .tup (l.map (vwn n C))
      | .ktp l => .tup (l.map (vwn n C))
      | d => d)
def dEqV (x y : D) (C : Cells) : Res D := if plain 30 (vwn 30 C x) && plain 30 (vwn 30 C y) then .ok (.bl (eqD (vwn 30 C x) (vwn 30 C y))) C else .no
def dNeV (x y : D) (C : Cells) : Res D := if plain 30 (vwn 30 C x) && plain 30 (vwn 30 C y) then .ok (.bl (!eqD (vwn 30 C x) (vwn 30 C y))) C else .no
section
variable {G : Glo} {W : Wd} {C : Cells} {H : Hp}
theorem dp_vwn (st : StR G W C H) : ∀ (m n : Nat) (d : D) (v : V), RepV G W d v → plain n (vwn m C d) = true → Dp G.K H v (toP (vwn m C d))
  | 0, n, d, v, r, h => dp_of st.F n d v h r
  | m + 1, n, d, v, r, h => by
    have all : ∀ (l : List D) (vs : List V) (k : Nat), RepVs G W l vs → (∀ x ∈ l.map (vwn m C), plain k x = true) → DpAll G.K H vs (toPs (l.map (vwn m C))) := by
      intro l
      induction l with
      | nil => intro vs k q _; rw [q.nil_inv]; exact .nil
      | cons d r ih =>
        intro vs k q hq
        obtain ⟨v, vr, rfl, s, t⟩ := q.cons_inv
        exact .cons (dp_vwn st m k d v s (hq _ (by simp))) (ih vr k t fun x hx => hq x (by simp at hx ⊢; exact .inr hx))
    unfold vwn at h ⊢
    cases e : lstOf C d with
    | some l =>
      simp only [e] at h ⊢
      obtain ⟨a, vs, rfl, s, q⟩ := lstOf_ok st r e
      cases n with
      | zero => unfold plain at h; cases h
      | succ n => exact .lst s (all l vs n q (by simpa [plain] using h))
    | none =>
      simp only [e] at h ⊢
      split at h
      · rename_i l
        obtain ⟨a, vs, rfl, e2, q⟩ := r.tup_
        cases n with
        | zero => unfold plain at h; cases h
        | succ n => exact .tup (.of (st.F _ _ e2)) (all l vs n q (by simpa [plain] using h))
      · rename_i l
        obtain ⟨a, vs, rfl, e2, q⟩ := r.ktp_
        cases n with
        | zero => unfold plain at h; cases h
        | succ n => exact .tup (SqT.up st.F e2) (all l vs n q (by simpa [plain] using h))
      · exact dp_of st.F n d v h r
end
section
variable {G : Glo}
theorem o2_eqV : Op2 G (rEqD G.K) dEqV := fun Wx σ W C H x y v u Q st rx ry q => by
  unfold dEqV at q
  split at q
  · rename_i h
    obtain ⟨h1, h2⟩ := Bool.and_eq_true_iff.mp h
    refine ⟨toP (vwn 30 C x), toP (vwn 30 C y), dp_vwn st _ _ _ _ rx h1, dp_vwn st _ _ _ _ ry h2, shaped_toP (by decide) h1, shaped_toP (by decide) h2, ?_⟩
    rw [eqv_toP 30 _ _ h1 h2]
    exact q W _ H .refl st .bl
  · exact q.elim
theorem o2_neV : Op2 G (rNeD G.K) dNeV := fun Wx σ W C H x y v u Q st rx ry q => by
  unfold dNeV at q
  split at q
  · rename_i h
    obtain ⟨h1, h2⟩ := Bool.and_eq_true_iff.mp h
    refine ⟨toP (vwn 30 C x), toP (vwn 30 C y), dp_vwn st _ _ _ _ rx h1, dp_vwn st _ _ _ _ ry h2, shaped_toP (by decide) h1, shaped_toP (by decide) h2, ?_⟩
    rw [eqv_toP 30 _ _ h1 h2]
    exact q W _ H .refl st .bl
  · exact q.elim
end
/-! what is plain looks like itself -/
theorem vwn_plain : ∀ (n m : Nat) (C : Cells) (d : D), plain n d = true → vwn m C d = d
  | _, 0, _, _, _ => rfl
  | 0, _ + 1, _, d, h => by unfold plain at h; cases h
  | n + 1, m + 1, C, d, h => by
    cases d with
    | lst l =>
      have h' : ∀ x ∈ l, plain n x = true := by simpa [plain] using h
      have : l.map (vwn m C) = l := by
        conv => rhs; rw [← List.map_id l]
        exact List.map_congr_left fun x hx => vwn_plain n m C x (h' x hx)
      unfold vwn
      simp only [lstOf, this]
    | tup l =>
      have h' : ∀ x ∈ l, plain n x = true := by simpa [plain] using h
      have : l.map (vwn m C) = l := by
        conv => rhs; rw [← List.map_id l]
        exact List.map_congr_left fun x hx => vwn_plain n m C x (h' x hx)
      unfold vwn
      simp only [lstOf, this]
    | non => rfl
    | bl b => rfl
    | int i => rfl
    | str s => rfl
    | obj c l => simp [plain] at h
    | cel c => simp [plain] at h
    | opq c l => simp [plain] at h
    | scr l => simp [plain] at h
    | ktp l => simp [plain] at h
/-- isinstance of an own class, from what K holds -/
theorem kit_own {K : PySem.W.Frag} {C : Addr} {t : Value} {b : Bool} (ci : PySem.W.isClsIn K C = true) (ty : PySem.W.typeIn K (.ref C) = some (.type "type")) (self : PySem.W.subIn K (.ref C) (.ref C) = some true) (s : PySem.W.subIn K t (.ref C) = some b) : PySem.W.kitOne K t (.ref C) = some b := by
  unfold PySem.W.kitOne
  split
  · rename_i q
    have e : t = .ref C := by simpa using q
    rw [e, self] at s
    exact s
  · unfold PySem.W.kitCls
    have ci' : (PySem.W.clsIn K C).isSome = true := ci
    simp only [ci', ty]
    exact s
theorem kit_bty {K : PySem.W.Frag} {C : Addr} {T : String} {b : Bool} (m : PySem.W.kitMeta T = true) (s : PySem.W.subIn K (.ref C) (.type T) = some b) : PySem.W.kitOne K (.ref C) (.type T) = some b := by
  unfold PySem.W.kitOne
  split
  · rename_i q
    have e : (Value.ref C) = .type T := by simpa using q
    cases e
  · unfold PySem.W.kitCls
    simp only [m, if_true]
    exact s
end DL

set_option Elab.async false
set_option linter.all false
set_option maxRecDepth 100000
set_option autoImplicit false
namespace DL
open PySem PySem.Spec PyProof.Rows L2
/-! ### enumerate -/
def enumD (l : List D) : List D := l.mapIdx fun i d => .tup [.int (i : Nat), d]
def iEn (g : AF) : IF := fun s C => (g s C).bind fun xs C => match xs with
  | [.lst l] => .ok (enumD l) C
  | [.scr l] => .ok (enumD l) C
  | _ => .no
section
variable {X : Cx} {G : Glo} {Wx : WX}
theorem wlk_enum {W : Wd} {C : Cells} {H : Hp} {a : Addr} {vs : List V} {l : List D} (h : SqL G.K W.F a vs) (r : RepVs G W l vs) : Wlk G (Ite G.K a) W C H (enumD l) where
  item := fun i d e W' C' H' t st => by
    unfold enumD at e
    rw [List.getElem?_mapIdx] at e
    cases hl : l[i]? with
    | none => rw [hl] at e; cases e
    | some d0 =>
      rw [hl] at e
      cases e
      obtain ⟨v, h1, h2⟩ := r.get hl
      have hs : SqL G.K H' a vs := SqL.up (fun x o q => st.F x o (t.le.F x o q)) h
      refine ⟨⟨vs, v, hs, h1⟩, fun x H2 y => ?_⟩
      obtain ⟨T, u, rfl, hT, rfl, y⟩ := y
      have e2 := y vs hs
      rw [h1] at e2; cases e2
      obtain ⟨s1, s2⟩ := fr_fz (o := .tup [.int (i : Nat), v]) st hT
      exact ⟨_, s2, s1, .tup (by show upd W'.F T _ T = _; exact upd_same) (.cons .int (.cons ((h2.up t.le).up s2.le) .nil))⟩
  stop := fun W' C' H' t st => ⟨vs, SqL.up (fun x o q => st.F x o (t.le.F x o q)) h, by rw [enumD, List.length_mapIdx, r.length]; exact Nat.le_refl _⟩
theorem io_enum (fo : AF) : IOk G Wx (iEnum G.K (tAr G Wx fo)) (iEn fo) := fun σ H R W sl C rs st q => ⟨W, sl, C, rs, st, q.bind fun xs C1 W1 vs H1 t st1 rr q1 => by
  split at q1
  · obtain ⟨v, rfl, r⟩ := rr.one
    obtain ⟨a, us, rfl, h1, h2⟩ := r.lst_
    exact ⟨a, us, rfl, .of (st1.F _ _ h1), q1 W1 _ H1 .refl st1 (wlk_enum (.of h1) h2)⟩
  · obtain ⟨v, rfl, r⟩ := rr.one
    obtain ⟨a, us, rfl, h1, h2⟩ := r.scr_
    exact ⟨a, us, rfl, SqL.up st1.F h1, q1 W1 _ H1 .refl st1 (wlk_enum h1 h2)⟩
  · exact q1.elim⟩
end
/-! ### zip, of known lists -/
def zipD (l m : List D) : List D := (l.zip m).map fun p => .tup [p.1, p.2]
def kn : D → Option (List D)
  | .lst l => some l
  | .scr l => some l
  | _ => none
def iZp (g : AF) : IF := fun s C => (g s C).bind fun xs C => match xs with
  | [x, y] => (match kn x, kn y with
    | some l, some m => .ok (zipD l m) C
    | _, _ => .no)
  | _ => .no
section
variable {X : Cx} {G : Glo} {Wx : WX}
theorem kn_ok {W : Wd} {d : D} {v : V} {l : List D} (r : RepV G W d v) (e : kn d = some l) : ∃ a vs, v = .ref a ∧ SqL G.K W.F a vs ∧ RepVs G W l vs := by
  unfold kn at e
  split at e
  · cases e
    obtain ⟨a, us, rfl, h1, h2⟩ := r.lst_
    exact ⟨a, us, rfl, .of h1, h2⟩
  · cases e
    obtain ⟨a, us, rfl, h1, h2⟩ := r.scr_
    exact ⟨a, us, rfl, h1, h2⟩
  · cases e
theorem wlk_zip {W : Wd} {C : Cells} {H : Hp} {a b : Addr} {vs us : List V} {l m : List D} (h : SqL G.K W.F a vs) (k : SqL G.K W.F b us) (r : RepVs G W l vs) (q : RepVs G W m us) : Wlk G (Itz G.K a b) W C H (zipD l m) where
  item := fun i d e W' C' H' t st => by
    unfold zipD at e
    rw [List.getElem?_map] at e
    cases hz : (l.zip m)[i]? with
    | none => rw [hz] at e; cases e
    | some p =>
      rw [hz] at e
      cases e
      obtain ⟨e1, e2⟩ := List.getElem?_zip_eq_some.1 hz
      obtain ⟨v, h1, h2⟩ := r.get e1
      obtain ⟨u, k1, k2⟩ := q.get e2
      have hs : SqL G.K H' a vs := SqL.up (fun x o q => st.F x o (t.le.F x o q)) h
      have ks : SqL G.K H' b us := SqL.up (fun x o q => st.F x o (t.le.F x o q)) k
      refine ⟨⟨vs, us, v, u, hs, ks, h1, k1⟩, fun x H2 y => ?_⟩
      obtain ⟨T, u1, u2, rfl, hT, rfl, y1, y2⟩ := y
      have z1 := y1 vs hs
      have z2 := y2 us ks
      rw [h1] at z1; cases z1
      rw [k1] at z2; cases z2
      obtain ⟨s1, s2⟩ := fr_fz (o := .tup [v, u]) st hT
      exact ⟨_, s2, s1, .tup (by show upd W'.F T _ T = _; exact upd_same) (.cons ((h2.up t.le).up s2.le) (.cons ((k2.up t.le).up s2.le) .nil))⟩
  stop := fun W' C' H' t st => ⟨vs, us, SqL.up (fun x o q => st.F x o (t.le.F x o q)) h, SqL.up (fun x o q => st.F x o (t.le.F x o q)) k, by
    rw [zipD, List.length_map, List.length_zip, r.length, q.length]; omega⟩
theorem io_zip (fo : AF) : IOk G Wx (iZip G.K (tAr G Wx fo)) (iZp fo) := fun σ H R W sl C rs st q => ⟨W, sl, C, rs, st, q.bind fun xs C1 W1 vs H1 t st1 rr q1 => by
  split at q1
  · split at q1
    · rename_i x y _ _ l m e1 e2
      obtain ⟨v, u, rfl, h1, h2⟩ := rr.two
      obtain ⟨a, us, rfl, k1, k2⟩ := kn_ok h1 e1
      obtain ⟨b, ws, rfl, k3, k4⟩ := kn_ok h2 e2
      exact ⟨a, b, us, ws, rfl, SqL.up st1.F k1, SqL.up st1.F k3, q1 W1 _ H1 .refl st1 (wlk_zip k1 k3 k2 k4)⟩
    · exact q1.elim
  · exact q1.elim⟩
end
end DL

set_option Elab.async false
set_option linter.all false
set_option maxRecDepth 100000
set_option autoImplicit false
namespace DL
open PySem PySem.Spec PyProof.Rows L2
section
variable {X : Cx} {G : Glo} {Wx : WX} {pos : Pos}
/-! ### list.pop(i) -/
def mPopA (x : D) (xs : List D) (C : Cells) : Res D := atL C x fun n l => match xs with
  | [.int i] => if 0 ≤ i ∧ i < l.length ∧ l.length ≤ mxl then (match l[i.toNat]? with | some d => .ok d (C.set n (.lst (l.eraseIdx i.toNat))) | none => .no) else .no
  | _ => .no
theorem RepVs.erase {W : Wd} {l : List D} {vs : List V} (r : RepVs G W l vs) (i : Nat) : RepVs G W (l.eraseIdx i) (vs.eraseIdx i) := by
  rw [List.eraseIdx_eq_take_drop_succ, List.eraseIdx_eq_take_drop_succ]
  exact (r.take _).append (r.drop _)
theorem om_popA : OpM G rPopAt mPopA := fun Wx σ W C H x v xs vs Q st rx rxs q => by
  obtain ⟨n, l, a, us, e, rfl, h, h3, h4, q⟩ := atL_ok st rx q
  split at q
  · rename_i i _
    split at q
    · rename_i hi
      split at q
      · rename_i d ed
        obtain ⟨u, k1, k2⟩ := h4.get ed
        obtain ⟨w, rfl, hw⟩ := rxs.one
        have hlen := h4.length
        have hm : l.length ≤ 16777216 := hi.2.2
        have h62 : i < 16777216 := by omega
        refine ⟨a, us, i, i.toNat, u, rfl, by rw [hw.int_], h3, by omega, by omega, ?_, k1, ?_⟩
        · rw [← hlen]
          unfold seqIndex?
          simp
          omega
        · obtain ⟨s1, s2⟩ := fr_set (o := .lst (l.eraseIdx i.toNat)) (ho := .lst (us.eraseIdx i.toNat)) st e h ⟨_, rfl, h4.erase _⟩
          exact q W _ _ s2 s1 (k2.up s2.le)
      · exact q.elim
    · exact q.elim
  · exact q.elim
/-! ### division of and by large numbers -/
def dDivW (x y : D) (C : Cells) : Res D := match x, y with
  | .int i, .int j => if 0 < j ∧ j.natAbs.log2 < 9000 then .ok (.int (i / j)) C else .no
  | _, _ => .no
theorem o2_divW : Op2 G (rI CDivW fun i j => .int (i / j)) dDivW := fun Wx σ W C H x y v u Q st rx ry q => by
  unfold dDivW at q
  split at q
  · split at q
    · rename_i hc
      exact ⟨_, _, rx.int_, ry.int_, hc, q W _ H .refl st .int⟩
    · exact q.elim
  · exact q.elim
/-! ### sorted pairs -/
def prOf : D → Option (Int × Int)
  | .tup [.int i, .int j] => some (i, j)
  | _ => none
def asPr : List D → Option (List (Int × Int))
  | [] => some []
  | d :: r => match prOf d, asPr r with
    | some p, some l => some (p :: l)
    | _, _ => none
def prD (p : Int × Int) : D := .tup [.int p.1, .int p.2]
def lePr (p q : Int × Int) : Bool := decide (p.1 < q.1 ∨ (p.1 = q.1 ∧ p.2 ≤ q.2))
def sortP (l : List (Int × Int)) : List (Int × Int) := l.mergeSort lePr
theorem asPr_map : ∀ l : List (Int × Int), asPr (l.map prD) = some l
  | [] => rfl
  | p :: r => by
    have h : prOf (prD p) = some p := rfl
    rw [List.map_cons]
    unfold asPr
    rw [asPr_map r, h]
theorem sortP_perm (l : List (Int × Int)) : (sortP l).Perm l := List.mergeSort_perm _ _
theorem sortP_sorted (l : List (Int × Int)) : (sortP l).Pairwise fun p q => lePr p q = true :=
  List.pairwise_mergeSort (le := lePr) (fun a b c h1 h2 => by simp only [lePr, decide_eq_true_eq] at *; omega) (fun a b => by simp only [lePr, Bool.or_eq_true, decide_eq_true_eq]; omega) l
theorem sortP_uniq {l m : List (Int × Int)} (h : l.Perm m) (h1 : l.Pairwise fun p q => lePr p q = true) (h2 : m.Pairwise fun p q => lePr p q = true) : l = m :=
  List.Perm.eq_of_pairwise (fun a b _ _ h1 h2 => by
    simp only [lePr, decide_eq_true_eq] at h1 h2
    exact Prod.ext (by omega) (by omega)) h1 h2 h
theorem prOf_ok {d : D} {p : Int × Int} (h : prOf d = some p) : d = prD p := by
  unfold prOf at h
  split at h
  · cases h; rfl
  · cases h
theorem asPr_ok : ∀ {l : List D} {ps : List (Int × Int)}, asPr l = some ps → l = ps.map prD
  | [], ps, h => by cases h; rfl
  | d :: l, ps, h => by
    unfold asPr at h
    split at h
    · rename_i p qs e1 e2
      cases h
      rw [asPr_ok e2, prOf_ok e1]; rfl
    · cases h
theorem pr_vs {W : Wd} : ∀ {ps : List (Int × Int)} {vs : List V}, RepVs G W (ps.map prD) vs → ∃ k : V → Int × Int, (∀ x ∈ vs, ∃ t, x = V.ref t ∧ W.F t = some (.tup [.int (k x).1, .int (k x).2])) ∧ vs.map k = ps
  | [], _, r => by
    rw [r.nil_inv]
    exact ⟨fun _ => (0, 0), by simp, rfl⟩
  | p :: ps, _, r => by
    obtain ⟨v, vr, rfl, h1, h2⟩ := r.cons_inv
    obtain ⟨k, hk, e⟩ := pr_vs h2
    obtain ⟨a, us, rfl, h3, h4⟩ := RepV.tup_ h1
    obtain ⟨u, w, rfl, hu, hw⟩ := h4.two
    rw [hu.int_, hw.int_] at h3
    refine ⟨fun x => match x with | V.ref t => (match W.F t with | some (.tup [.int i, .int j]) => (i, j) | _ => (0, 0)) | _ => (0, 0), fun x m => ?_, ?_⟩
    · rcases List.mem_cons.1 m with rfl | m
      · exact ⟨a, rfl, by simp only [h3]⟩
      · obtain ⟨t, rfl, ht⟩ := hk x m
        exact ⟨t, rfl, by simp only [ht]⟩
    · rw [List.map_cons]
      congr 1
      · simp only [h3]
      · rw [← e]
        apply List.map_congr_left
        intro x m
        obtain ⟨t, rfl, ht⟩ := hk x m
        simp only [ht]
def bSortP (xs : List D) (C : Cells) : Res D := match xs with
  | [d] => (match (lstOf C d).bind asPr with | some ps => .ok (.lst ((sortP ps).map prD)) C | none => .no)
  | _ => .no
theorem ltP_le {k : V → Int × Int} {x y : V} (h : ltP k y x = false) : lePr (k x) (k y) = true := by
  have h2 : ¬ (SrtO.lexB (k y) (k x) = true) := by
    have : SrtO.lexB (k y) (k x) = false := h
    rw [this]; decide
  rw [SrtO.lexB_iff] at h2
  simp only [lePr, decide_eq_true_eq]
  omega
theorem reps_of {W : Wd} {k : V → Int × Int} : ∀ {ys : List V}, (∀ x ∈ ys, ∃ t, x = V.ref t ∧ W.F t = some (.tup [.int (k x).1, .int (k x).2])) → RepVs G W ((ys.map k).map prD) ys
  | [], _ => .nil
  | y :: ys, h => by
    obtain ⟨t, e, ht⟩ := h y (by simp)
    refine .cons ?_ (reps_of fun x m => h x (by simp [m]))
    rw [e] at ht ⊢
    exact RepV.tup ht (.cons .int (.cons .int .nil))
theorem oa_sortP : OpA G (rSortedPO G.K) bSortP := fun Wx σ W C H xs vs Q st rx q => by
  unfold bSortP at q
  split at q
  · obtain ⟨v, rfl, r⟩ := rx.one
    split at q
    · rename_i ps e
      obtain ⟨a, us, l, rfl, h1, h2, h3⟩ := lst_bind st r e
      have hl := asPr_ok h3
      subst hl
      obtain ⟨k, hk, ek⟩ := pr_vs h2
      refine ⟨a, us, k, rfl, h1, fun x m => ?_, fun ys p hs hb hp => ?_⟩
      · obtain ⟨t, rfl, ht⟩ := hk x m
        exact ⟨t, rfl, st.F _ _ ht⟩
      · have pm : ys.Perm us := hb.perm
        have ee : ys.map k = sortP ps := by
          refine sortP_uniq ?_ ?_ (sortP_sorted ps)
          · rw [← ek]; exact (pm.map k).trans (by rw [ek]; exact (sortP_perm ps).symm)
          · rw [List.pairwise_map]
            exact hs.imp fun {x y} q => ltP_le q
        have rr : RepVs G W ((sortP ps).map prD) ys := by
          rw [← ee]
          exact reps_of fun x m => hk x (pm.mem_iff.1 m)
        exact new_lst st rr q p hp
    · exact q.elim
  · exact q.elim
/-! ### range with a step -/
def rngC (lo c : Int) (n : Nat) : List D := (List.range n).map fun (i : Nat) => D.int (lo + i * c)
theorem wlk_rngC {W : Wd} {C : Cells} {H : Hp} {lo c : Int} {n : Nat} : Wlk G (Itc lo c n) W C H (rngC lo c n) where
  item := fun i d e W' C' H' t st => by
    unfold rngC at e
    rw [List.getElem?_map] at e
    have hi : i < n := by
      by_cases q : i < n
      · exact q
      · rw [List.getElem?_eq_none (by simpa using q)] at e; cases e
    rw [List.getElem?_range hi] at e
    cases e
    refine ⟨hi, fun x H2 y => ?_⟩
    obtain ⟨rfl, rfl⟩ := y
    exact ⟨W', .refl, st, .int⟩
  stop := fun W' C' H' t st => by
    show n ≤ (rngC lo c n).length
    unfold rngC; rw [List.length_map, List.length_range]; exact Nat.le_refl _
/-- how many numbers lo, lo + c, .. are below hi -/
def rngN (lo hi c : Int) : Nat := ((hi - lo + c - 1) / c).toNat
def iR3 (g : AF) : IF := fun s C => (g s C).bind fun xs C => match xs with
  | [.int i, .int j, .int c] => if -1000000 ≤ i ∧ i ≤ 1000000 ∧ -1000000 ≤ j ∧ j ≤ 1000000 ∧ 0 < c ∧ c ≤ 1000000 then .ok (rngC i c (Builtin.Range.rangeSize i j c).toNat) C else .no
  | _ => .no
theorem rgC_of {i j c : Int} (h : -1000000 ≤ i ∧ i ≤ 1000000 ∧ -1000000 ≤ j ∧ j ≤ 1000000 ∧ 0 < c ∧ c ≤ 1000000) : RgC i j c (Builtin.Range.rangeSize i j c).toNat := by
  have h0 : 0 ≤ Builtin.Range.rangeSize i j c ∧ Builtin.Range.rangeSize i j c ≤ 2000001 := by
    unfold Builtin.Range.rangeSize
    rw [if_pos h.2.2.2.2.1]
    split
    · have h1 : (j - i - 1) / c ≤ j - i - 1 := Int.ediv_le_self _ (by omega)
      have h2 : 0 ≤ (j - i - 1) / c := Int.ediv_nonneg (by omega) (by omega)
      omega
    · omega
  refine ⟨by omega, by omega, ?_, by rw [Int.toNat_of_nonneg h0.1]⟩
  unfold Builtin.Range.small
  generalize Builtin.Range.rangeSize i j c = z at h0
  simp only [Builtin.Range.rangeFitsLong, Bool.and_eq_true, Bool.or_eq_true, decide_eq_true_eq, beq_iff_eq]
  refine ⟨⟨⟨⟨by omega, by omega⟩, by omega⟩, by omega⟩, .inr ?_⟩
  rw [if_pos (show c > 0 from h.2.2.2.2.1)]
  simp only [Builtin.Range.rangeFitsLong, Bool.and_eq_true, decide_eq_true_eq]
  omega
theorem io_rng3 (fo : AF) : IOk G Wx (iRng3 (tAr G Wx fo)) (iR3 fo) := fun σ H R W sl C rs st q => ⟨W, sl, C, rs, st, q.bind fun xs C1 W1 vs H1 t st1 rr q1 => by
  split at q1
  · split at q1
    · rename_i h
      obtain ⟨v, vr, rfl, h1, hr⟩ := rr.cons_inv
      obtain ⟨u, w, rfl, h2, h3⟩ := hr.two
      exact ⟨_, _, _, _, by rw [h1.int_, h2.int_, h3.int_], rgC_of h, q1 W1 _ H1 .refl st1 wlk_rngC⟩
    · exact q1.elim
  · exact q1.elim⟩
/-! ### dict.get(k, d), dict.pop(k, d) -/
/-- get: what a dict tells, or else the other thing -/
def eGet2 (fo fi fd : EF) : EF := fun s C => (fo s C).bind fun x C => match dGetK C x (.int 0), dGetK C x (.tup []) with
  | none, none => .no
  | _, _ => (fi s C).bind fun y C => (fd s C).bind fun z C => match dGetK C x y with
    | some (some d) => .ok d C
    | some none => .ok z C
    | none => .no
theorem isD_of {W : Wd} {C : Cells} {H : Hp} {x y : D} {v : V} {r : Option D} (st : StR G W C H) (rx : RepV G W x v) (h : dGetK C x y = some r) : ∃ a, v = .ref a ∧ IsD H a := by
  cases x with
  | cel n =>
    obtain ⟨a, rfl, ha⟩ := rx.cel_
    simp only [dGetK] at h
    cases e : C.get n with
    | none => rw [e] at h; cases h
    | some ob =>
      rw [e] at h
      obtain ⟨b, ho, h1, h2, h3, h4⟩ := st.cells n _ e
      rw [ha] at h1; cases h1
      cases ob with
      | dk l =>
        obtain ⟨m, rfl, h4⟩ := h4
        exact ⟨a, rfl, .inl ⟨m, .inl h3⟩⟩
      | dt l =>
        obtain ⟨m, rfl, h4⟩ := h4
        exact ⟨a, rfl, .inr ⟨m, .inl h3⟩⟩
      | lst l => cases h
      | obj c l => cases h
  | _ => cases h
variable {o ei ef : Expr} {fo fi fd : EF} {apos cpos : Pos}
theorem de_get2 (hu : X.A.units + 64 < cLine) (ho : DE X G Wx o fo) (hi : DE X G Wx ei fi) (hd : DE X G Wx ef fd) (m : M2 X o "get" apos ei ef cpos) : DE X G Wx (.Call (.Attribute o "get" apos) [ei, ef] [] cpos) (eGet2 fo fi fd) :=
  ⟨PE.weak (pe_dget2 (by omega) ho.pe hi.pe hd.pe m) fun σ H Q ⟨W, sl, C, rs, st, q⟩ => ⟨W, sl, C, rs, st, q.bind fun x C1 W1 v H1 _ t st1 rx q1 => by
    have hD : ∃ a, v = .ref a ∧ IsD H1 a := by
      cases e1 : dGetK C1 x (.int 0) with
      | some r => exact isD_of st1 rx e1
      | none =>
        cases e2 : dGetK C1 x (.tup []) with
        | some r => exact isD_of st1 rx e2
        | none => rw [e1, e2] at q1; exact q1.elim
    obtain ⟨a, rfl, hD⟩ := hD
    have q1' : Post G Wx σ (RepV G) W1 C1 H1 ((fi sl C1).bind fun y C => (fd sl C).bind fun z C => match dGetK C x y with | some (some d) => .ok d C | some none => .ok z C | none => .no) Q := by
      cases e1 : dGetK C1 x (.int 0) with
      | some r => rw [e1] at q1; exact q1
      | none =>
        cases e2 : dGetK C1 x (.tup []) with
        | some r => rw [e1, e2] at q1; exact q1
        | none => rw [e1, e2] at q1; exact q1.elim
    refine ⟨a, rfl, hD, W1, sl, C1, rs.up t.le, st1, q1'.bind fun y C2 W2 u H2 _ t2 st2 ry q2 => ⟨W2, sl, C2, (rs.up t.le).up t2.le, st2, q2.bind fun z C3 W3 w H3 _ t3 st3 rz q3 => ?_⟩⟩
    have rx3 := (rx.up t2.le).up t3.le
    have ry3 := ry.up t3.le
    split at q3
    · rename_i d ed
      obtain ⟨a', ov, e, g, h⟩ := dGetK_ok st3 rx3 ry3 ed
      cases e
      cases ov with
      | none => exact h.elim
      | some w' => exact ⟨some w', g, q3 W3 w' H3 .refl st3 h⟩
    · rename_i ed
      obtain ⟨a', ov, e, g, h⟩ := dGetK_ok st3 rx3 ry3 ed
      cases e
      cases ov with
      | none => exact ⟨none, g, q3 W3 w H3 .refl st3 rz⟩
      | some w' => exact h.elim
    · exact q3.elim⟩⟩
/-! ### a dict written out -/
abbrev PF := Sl → Cells → Res (List (D × D))
def pNil : PF := fun _ C => .ok [] C
def pCons (fk fv : EF) (r : PF) : PF := fun s C => (fk s C).bind fun x C => (fv s C).bind fun y C => (r s C).bind fun ps C => .ok ((x, y) :: ps) C
def RepPs (G : Glo) (W : Wd) : List (D × D) → List (V × V) → Prop := Paired fun p q => RepV G W p.1 q.1 ∧ RepV G W p.2 q.2
structure DPs (X : Cx) (G : Glo) (Wx : WX) (pos : Pos) (keys : List (Option Expr)) (values : List Expr) (trs : List (TE × TE)) (f : PF) : Prop where
  pps : PPs X pos keys values trs
  use : ∀ σ H Q, tR G Wx (RepPs G) f σ H Q → tPairs trs σ H Q
theorem dps_nil : DPs X G Wx pos [] [] [] pNil := ⟨pps_nil, fun σ H Q ⟨W, sl, C, rs, st, q⟩ => q W [] H .refl st .nil⟩
theorem dps_cons {k v : Expr} {ks : List (Option Expr)} {vs : List Expr} {fk fv : EF} {trs : List (TE × TE)} {r : PF} (hk : DE X G Wx k fk) (hv : DE X G Wx v fv) (hr : DPs X G Wx pos ks vs trs r) : DPs X G Wx pos (some k :: ks) (v :: vs) ((tD G Wx fk, tD G Wx fv) :: trs) (pCons fk fv r) :=
  ⟨pps_cons hk.pe hv.pe hr.pps, fun σ H Q ⟨W, sl, C, rs, st, q⟩ => ⟨W, sl, C, rs, st, q.bind fun x C1 W1 v H1 _ t st1 rx q1 => ⟨W1, sl, C1, rs.up t.le, st1, q1.bind fun y C2 W2 u H2 _ t2 st2 ry q2 => hr.use _ _ _ ⟨W2, sl, C2, (rs.up t.le).up t2.le, st2, q2.bind fun ps C3 W3 zs H3 _ t3 st3 rz q3 => q3 W3 _ H3 .refl st3 (.cons ⟨(rx.up t2.le).up t3.le, ry.up t3.le⟩ rz)⟩⟩⟩⟩
def keyPs : List (D × D) → Option (List (Key × D))
  | [] => some []
  | (x, y) :: r => match keyOf x, keyPs r with
    | some k, some l => some ((k, y) :: l)
    | _, _ => none
def mergeD (kvs more : List (Key × D)) : List (Key × D) := more.foldl (fun acc kv => putD acc kv.1 kv.2) kvs
theorem keyPs_ok {W : Wd} : ∀ {ps : List (D × D)} {zs : List (V × V)} {l : List (Key × D)}, RepPs G W ps zs → keyPs ps = some l → ∃ m, zs = m.map (fun kv => (kV kv.1, kv.2)) ∧ RepKV G W l m
  | [], _, _, r, h => by cases h; cases r; exact ⟨[], rfl, .nil⟩
  | (x, y) :: ps, _, l, r, h => by
    cases r with
    | cons hd tl =>
      rename_i z zs
      unfold keyPs at h
      split at h
      · rename_i k l' e1 e2
        cases h
        obtain ⟨m, rfl, hm⟩ := keyPs_ok tl e2
        refine ⟨(k, z.2) :: m, ?_, .cons ⟨rfl, hd.2⟩ hm⟩
        rw [List.map_cons, ← keyOf_ok hd.1 e1]
      · cases h
theorem merge_ok {W : Wd} : ∀ {more : List (Key × D)} {more' : List (Key × V)} {l : List (Key × D)} {m : List (Key × V)}, RepKV G W more more' → RepKV G W l m → RepKV G W (mergeD l more) (mergeK m more')
  | _, _, _, _, .nil, h => h
  | _, _, _, _, .cons hd tl, h => by
    unfold mergeD mergeK
    rw [List.foldl_cons, List.foldl_cons, ← hd.1]
    exact merge_ok tl (put_ok _ h hd.2)
theorem Paired.len2 {α β : Type} {F : α → β → Prop} {l : List α} {m : List β} (h : Paired F l m) : l.length = m.length := Paired.len' h
def eDisp (f : PF) : EF := fun s C => (f s (C.new (.dk []))).bind fun ps C2 => match C2.get C.nx, keyPs ps with
  | some (.dk []), some kvs => if kvs.length ≤ 15 then .ok (.cel C.nx) (C2.set C.nx (.dk (mergeD [] kvs))) else .no
  | _, _ => .no
theorem de_disp {keys : List (Option Expr)} {values : List Expr} {trs : List (TE × TE)} {f : PF} (h : DPs X G Wx pos keys values trs f) (hall : keys.all (·.isSome) = true) (hl : keys.length = values.length) (h0 : keys ≠ []) (h15 : keys.length ≤ 15) : DE X G Wx (.Dict keys values pos) (eDisp f) :=
  de_weak (pe_disp h.pps hall hl h0 h15) fun σ H Q ⟨W, sl, C, rs, st, q⟩ => fun p hp => by
    obtain ⟨s1, s2⟩ := fr_new (o := .dk []) (ho := .dK []) st hp ⟨[], rfl, .nil⟩
    refine h.use _ _ _ ⟨_, sl, C.new (.dk []), rs.up s2.le, s1, ?_⟩
    have q' := Post.step (Q := Q) s2 q
    unfold eDisp at q'
    refine q'.bind fun ps C2 W2 zs H2 _ t2 st2 rz q2 => ?_
    have hcm : W2.cm C.nx = some p := t2.le.cm _ _ (if_pos rfl)
    split at q2
    · rename_i kvs e1 e2
      split at q2
      · rename_i h15'
        obtain ⟨b, ho, h1, h2, h3, m0, rfl, h4⟩ := st2.cells _ _ e1
        rw [hcm] at h1; cases h1
        cases h4
        obtain ⟨m, rfl, hm⟩ := keyPs_ok rz e2
        refine ⟨h3, m, rfl, by rw [← Paired.len2 hm]; exact h15', ?_⟩
        obtain ⟨u1, u2⟩ := fr_set (o := .dk (mergeD [] kvs)) (ho := .dK (mergeK [] m)) st2 e1 hcm ⟨_, rfl, merge_ok hm .nil⟩
        exact q2 _ _ _ u2 u1 (.cel hcm)
      · exact q2.elim
    · exact q2.elim
/-! ### a tuple that the program's top made -/
theorem de_konT {x : Str} {a : Addr} {vs : List V} {ds : List D} (hk : X.K = G.K) (hg : Gl X x) (hm : X.mg x = some (.ref a)) (hs : ∀ H : Hp, SqT X.K H a vs) (hr : ∀ W, RepVs G W ds vs) (hd : (x == ("__debug__" : Str)) = false := by decide) : DE X G Wx (.Name x pos) (eC (.ktp ds)) :=
  de_glob hg hm (v := .ref a) rfl (fun W => RepV.ktp (by rw [← hk]; exact hs _) (hr W)) hd
theorem de_konT2 {x : Str} {vs : List V} {ds : List D} (hk : X.K = G.K) (hg : Gl X x) (hm : ∃ a, X.mg x = some (.ref a) ∧ ∀ H : Hp, SqT X.K H a vs) (hr : ∀ W, RepVs G W ds vs) (hd : (x == ("__debug__" : Str)) = false := by decide) : DE X G Wx (.Name x pos) (eC (.ktp ds)) := by
  obtain ⟨a, h1, h2⟩ := hm
  exact de_konT hk hg h1 h2 hr hd
end
end DL

set_option Elab.async false
set_option linter.all false
set_option maxRecDepth 100000
set_option autoImplicit false
namespace DL
open PySem PySem.Spec PyProof.Rows L2
/-! ### lists compared by their lengths, or being of the same objects -/
def rListL (neg : Bool) (K : PySem.W.Frag) : R2 := fun x y H Q => ∃ a b xs ys, x = .ref a ∧ y = .ref b ∧ SqL K H a xs ∧ SqL K H b ys ∧ ((xs.length ≠ ys.length ∧ Q (.bl neg) H) ∨ (xs = ys ∧ (∀ v ∈ xs, ∃ p, v = .ref p) ∧ Q (.bl !neg) H))
section
variable {X : Cx} {G : Glo} {Wx : WX}
theorem vals_refs : ∀ {xs : List V} {us ws : List Value}, Vals xs us → Vals xs ws → (∀ v ∈ xs, ∃ p, v = .ref p) → us = ws
  | [], _, _, r, q, _ => by cases r; cases q; rfl
  | v :: xs, _, _, r, q, h => by
    cases r with
    | cons r1 r2 =>
      cases q with
      | cons q1 q2 =>
        obtain ⟨p, rfl⟩ := h v (by simp)
        cases (show _ = Value.ref p from r1)
        cases (show _ = Value.ref p from q1)
        rw [vals_refs r2 q2 fun v m => h v (by simp [m])]
theorem op_eqL (hu : X.A.units + 64 < cLine) : OpR X (compareOp .Eq) (rListL false X.K) := by
  intro pins s σ H x y v u Q I rx ry h
  obtain ⟨a, b, xs, ys, rfl, rfl, ha, hb, h⟩ := h
  cases (show v = Value.ref a from rx)
  cases (show u = Value.ref b from ry)
  obtain ⟨us, r1, p1, _⟩ := I.list ha
  obtain ⟨ws, r2, p2, _⟩ := I.list hb
  rcases h with ⟨hne, q⟩ | ⟨rfl, hr, q⟩
  · exact SeqAt.RcAt.lists_lengths p1.isList p2.isList (by
      rw [List.size_toArray, List.size_toArray, ← r1.length, ← r2.length]; simpa using hne) (by omega) _ _ _ _ ⟨.bl false, H, I, rfl, q⟩
  · have e := vals_refs r1 r2 hr
    subst e
    refine SeqAt.RcAt.lists (e := fun _ => true) p1.isList p2.isList rfl (by omega) (fun j h1 h2 => SeqAt.EqAt.same _) _ _ _ _ ?_
    rw [show ((List.range us.toArray.size).all fun _ => true) = true from List.all_eq_true.mpr fun _ _ => rfl]
    exact ⟨.bl true, H, I, rfl, q⟩
theorem op_neL (hu : X.A.units + 64 < cLine) : OpR X (compareOp .NotEq) (rListL true X.K) := by
  intro pins s σ H x y v u Q I rx ry h
  obtain ⟨a, b, xs, ys, rfl, rfl, ha, hb, h⟩ := h
  cases (show v = Value.ref a from rx)
  cases (show u = Value.ref b from ry)
  obtain ⟨us, r1, p1, _⟩ := I.list ha
  obtain ⟨ws, r2, p2, _⟩ := I.list hb
  rcases h with ⟨hne, q⟩ | ⟨rfl, hr, q⟩
  · exact SeqAt.RcNeAt.lists_lengths p1.isList p2.isList (by
      rw [List.size_toArray, List.size_toArray, ← r1.length, ← r2.length]; simpa using hne) (by omega) _ _ _ _ ⟨.bl true, H, I, rfl, q⟩
  · have e := vals_refs r1 r2 hr
    subst e
    refine SeqAt.RcNeAt.lists (e := fun _ => true) p1.isList p2.isList rfl (by omega) (fun j h1 h2 => SeqAt.EqAt.same _) _ _ _ _ ?_
    rw [show ((List.range us.toArray.size).all fun _ => true) = true from List.all_eq_true.mpr fun _ _ => rfl]
    exact ⟨.bl false, H, I, rfl, q⟩
def celN : D → Option Nat
  | .cel n => some n
  | _ => none
def sameC : List D → List D → Bool
  | [], [] => true
  | x :: l, y :: m => (match celN x, celN y with | some i, some j => i == j | _, _ => false) && sameC l m
  | _, _ => false
def listL (neg : Bool) (x y : D) (C : Cells) : Res D := match lstOf C x, lstOf C y with
  | some l, some m => if l.length = m.length then (if sameC l m = true then .ok (.bl !neg) C else .no) else .ok (.bl neg) C
  | _, _ => .no
abbrev dEqL := listL false
abbrev dNeL := listL true
theorem celN_ok {d : D} {n : Nat} (h : celN d = some n) : d = .cel n := by
  cases d <;> cases h; rfl
theorem sameC_ok {W : Wd} : ∀ {l m : List D} {vs us : List V}, RepVs G W l vs → RepVs G W m us → sameC l m = true → vs = us ∧ ∀ v ∈ vs, ∃ p, v = .ref p
  | [], [], _, _, r, q, _ => by rw [r.nil_inv, q.nil_inv]; exact ⟨rfl, by simp⟩
  | [], _ :: _, _, _, _, _, h => by cases h
  | _ :: _, [], _, _, _, _, h => by cases h
  | x :: l, y :: m, _, _, r, q, h => by
    obtain ⟨v, vr, rfl, h1, h2⟩ := r.cons_inv
    obtain ⟨u, ur, rfl, k1, k2⟩ := q.cons_inv
    unfold sameC at h
    rw [Bool.and_eq_true] at h
    obtain ⟨e, h⟩ := h
    split at e
    · rename_i i j e1 e2
      have : i = j := by simpa using e
      subst this
      have e1 := celN_ok e1
      have e2 := celN_ok e2
      subst e1; subst e2
      obtain ⟨a, rfl, ha⟩ := h1.cel_
      obtain ⟨b, rfl, hb⟩ := k1.cel_
      rw [ha] at hb; cases hb
      obtain ⟨rfl, hr⟩ := sameC_ok h2 k2 h
      exact ⟨rfl, fun v mm => by
        rcases List.mem_cons.1 mm with rfl | mm
        · exact ⟨a, rfl⟩
        · exact hr v mm⟩
    · cases e
theorem o2_listL (neg : Bool) : Op2 G (rListL neg G.K) (listL neg) := fun Wx σ W C H x y v u Q st rx ry q => by
  unfold listL at q
  split at q
  · rename_i l m e1 e2
    obtain ⟨a, vs, rfl, h1, h2⟩ := lstOf_ok st rx e1
    obtain ⟨b, us, rfl, k1, k2⟩ := lstOf_ok st ry e2
    split at q
    · split at q
      · rename_i hs
        obtain ⟨rfl, hr⟩ := sameC_ok h2 k2 hs
        exact ⟨a, b, vs, vs, rfl, rfl, h1, k1, .inr ⟨rfl, hr, q W _ H .refl st .bl⟩⟩
      · exact q.elim
    · rename_i hl
      exact ⟨a, b, vs, us, rfl, rfl, h1, k1, .inl ⟨by rw [← h2.length, ← k2.length]; exact hl, q W _ H .refl st .bl⟩⟩
  · exact q.elim
end
end DL

set_option Elab.async false
set_option linter.all false
set_option maxRecDepth 100000
set_option maxHeartbeats 1000000
set_option autoImplicit false
namespace DL
open PySem PySem.Spec PyProof.Rows L2
/-! ### exceptions: raise, try, isinstance -/
/-- the exception at a, as the heap holds it -/
def ExcV (a : Addr) (cls : Value) (d : Option Addr) : HO := .ext fun h => ∃ oe : Obj, h.get? a = some oe ∧ oe.cls = cls ∧ oe.dict = d ∧ ∃ vs, oe.data = .fields vs
section
variable {X : Cx} {pins : List (Addr × Obj)} {σ : L2.St} {H : Hp} {s : Shared}
theorem hok_reg {P : Program} {w : World} {h : Heap} {a : Addr} {o : HO} (k : HOk P w H h) (na : H a = none) (new : ObjOk P w (upd H a o) h a o) : HOk P w (upd H a o) h := fun b u e => by
  by_cases q : b = a
  · subst q; rw [upd_same] at e; cases e; exact new
  · rw [upd_ne q] at e
    refine (k b u e).stay (fun _ _ _ z => z) (fun c z => ?_) fun c xs z => ?_
    · rw [upd_ne (ne_of_none z na)]; exact z
    · rw [upd_ne (ne_of_none z na)]; exact z
theorem inv_reg {a : Addr} {oe : Obj} {cls : Value} {d : Option Addr} (I : Inv X pins σ H s) (ha : s.heap.get? a = some oe) (hz : Zc cls d oe) (hd : ∃ vs, oe.data = .fields vs) (na : H a = none) (n0 : X.s_0.heap.get? a = none) (nL : a ≠ X.env.locals)
    (np : ∀ p ∈ X.pn ++ pins, p.1 ≠ a) : Inv X pins σ (upd H a (ExcV a cls d)) s := by
  have nS : ∀ b o, X.s_0.heap.get? b = some o → b ≠ a := fun b o e z => by rw [z, n0] at e; cases e
  refine ⟨I.ok, I.os, I.bare, ⟨I.base.keep, I.base.slot, fun b o e n hx => ?_, I.base.there, fun b xs e => ?_, fun b o u e => ?_, fun b ps e => ?_⟩, I.loc, I.cell, ?_, fun x c e => ?_, fun p hp => ?_, ?_, I.len⟩
  · rw [upd_ne (nS b o e)]; exact I.base.free b o e n hx
  · have z := I.base.tups b xs e
    rw [upd_ne (ne_of_none z na)]; exact z
  · have z := I.base.frzs b o u e
    rw [upd_ne (ne_of_none z na)]; exact z
  · obtain ⟨m, z⟩ := I.base.tbls b ps e
    exact ⟨m, by rw [upd_ne (ne_of_none z na)]; exact z⟩
  · rw [upd_ne (Ne.symm nL)]; exact I.free
  · have : c ≠ a := fun z => by
      obtain ⟨v, o, ho, hc⟩ := I.cell x c e
      obtain ⟨vs, hv⟩ := hd
      rw [z, ha] at ho; cases ho
      rw [hv] at hc; cases hc
    rw [upd_ne this]; exact I.freeC x c e
  · obtain ⟨e, n, ne, nf, dd⟩ := I.pin p hp
    exact ⟨e, by rw [upd_ne (np p hp)]; exact n, ne, nf, dd⟩
  · refine hok_reg I.hok na ?_
    refine ⟨⟨oe, ha, hz.1, hz.2, hd⟩, ⟨oe, ha⟩, fun h1 h2 ⟨oe1, e1, r⟩ st => ⟨oe1, st _ e1, r⟩⟩
/-- what the clause wishes: behind the suite the exception is known -/
def wAsX (K : PySem.W.Frag) (c : Value) (i : Nat) (ts : Addr → Value → Option Addr → TS) (Wout : WX) (D : Ends) : WX := fun cls d σ H =>
  ∃ b, PySem.W.exmOne K cls c = some b ∧ (b = true → ∀ a, H a = none → ts a cls d { nx := fun σ' H' => D.nx (σ'.set i none) (upd H' a (ExcV a cls d)), rt := fun v H' => D.rt v (upd H' a (ExcV a cls d)), bk := fun σ' H' => D.bk (σ'.set i none) (upd H' a (ExcV a cls d)), ct := fun σ' H' => D.ct (σ'.set i none) (upd H' a (ExcV a cls d)) } (σ.set i (some (.ref a))) H) ∧
    (b = false → Wout cls d σ H)
variable {x n : Str} {c : Value} {i : Nat} {body suite : List Stmt} {b₀ : Stmt} {np pos pos' : Pos} {tb : WX → TS} {ts : Addr → Value → Option Addr → TS} {Wout : WX}
theorem ps_try_asX (hs : X.stack = X.env :: X.outer) (hf : X.env.frame = some X.env.locals) (hex : X.ex = []) (hpn : X.pn = []) (hN : X.N.Nodup) (hi : X.N[i]? = some n) (hln : X.env.kindOf n = some .local) (hc : Names X x c) (tk : Takes X Wout)
    (hb : ∀ (W : WX) (pn : List (Addr × Obj)) (xe : Value → Shared → Prop), Takes (X.tr pn xe) W → PassesOwn (model X.prog X.w) X.A X.env xe → PSs (X.tr pn xe) body (tb W))
    (hsu : ∀ (a : Addr) (oe : Obj) (cls : Value) (d : Option Addr) (pn : List (Addr × Obj)), Zc cls d oe → (∃ vs, oe.data = .fields vs) → PSs (X.suite a ((a, oe) :: pn)) (b₀ :: suite) (ts a cls d)) :
    PS X (.Try body [.ExceptHandler (some (.Name x np)) (some n) (b₀ :: suite) pos'] [] [] pos) (fun D σ H => tb (wAsX X.K c i ts Wout D) D σ H) := by
  refine ⟨fun pins s σ H D I h => ?_⟩
  have ok := I.ok
  have hfr : X.A.frames = some (X.env :: X.outer) := by rw [ok.frames, hs]
  have hloc : Loc X.env.scope n := .inl hln
  refine wpAny_Try_except ?_
  refine wpAny_mono ((hb (wAsX X.K c i ts Wout D) (X.pn ++ pins) (fun e s₁ => wpAny (model X.prog X.w) X.A (noteFrame e X.env) (fun _ s₂ => wpAny (model X.prog X.w) X.A (setFlight e none) (fun _ s₃ =>
    wpAny (model X.prog X.w) X.A (handleBy e X.env [.ExceptHandler (some (.Name x np)) (some n) (b₀ :: suite) pos']) (SP X pins D) X.xe s₃) X.xe s₂) X.xe s₁) (fun u s' xx => ?_) PassesOwn.looking).run [] s σ H D (I.toTry _) h) (fun f s1 hsp => ?_) (fun e s1 he => he)
  · -- the catch
    obtain ⟨a, B, sI, pins', σ', H', cls, d, rfl, J', nb, up, sky, na, os, ag, b, hb1, hyes, hno⟩ := xx
    have J : Inv X pins σ' H' sI := J'.ofTry ok
    have sky' : Sky B (X.env :: X.outer) a (Zc cls d) X.env.locals s'.heap := by rw [← hs]; exact sky
    show wpAny (model X.prog X.w) X.A (noteFrame (.ref a) X.env) _ _ _
    refine Sky.land Zc.steady hfr hf sky' fun h3 fl3 up3 => ?_
    have J3 : Inv X pins σ' H' { s' with heap := h3 } := J.landed nb fl3.1 (up.trans up3) os ag
    obtain ⟨oe3, vs3, he3, hz3, hd3⟩ := fl3.there
    have notFr : ∀ {h : Heap} {o : Obj} {vs : Array Value}, h.FunFrames B (X.env :: X.outer) → h.get? a = some o → o.data = .fields vs → a ∉ frs (X.env :: X.outer) := fun {h o vs} ff e dd hm => by
      obtain ⟨_, o', e', hnf⟩ := ff.mem hm
      rw [e] at e'; cases e'
      exact hnf _ dd
    have nfr := notFr fl3.2.2.1 he3 hd3
    have nL : a ≠ X.env.locals := fun z => nfr (List.mem_filterMap.mpr ⟨X.env, List.mem_cons_self, by rw [hf, z]⟩)
    have nF : a ∉ X.fs := fun hm => by
      obtain ⟨e, he, q⟩ := List.mem_filterMap.mp hm
      exact nfr (List.mem_filterMap.mpr ⟨e, List.mem_cons_of_mem _ he, q⟩)
    have n0 : X.s_0.heap.get? a = none := by
      cases q : X.s_0.heap.get? a with
      | none => rfl
      | some o =>
        obtain ⟨o', e1⟩ := J.base.there a o q (by rw [hex]; simp)
        have e2 := nb a o' e1 (by rw [hs]; exact nfr)
        rw [fl3.2.1] at e2; cases e2
    have S3 := J3.suite he3 hd3 na nL nF
    have npins : ∀ p ∈ X.pn ++ pins, p.1 ≠ a := fun p hp z => by
      have e1 := (J.pin p hp).1
      have e2 := nb p.1 p.2 e1 (by
        rw [hs, z]; exact nfr)
      rw [z, fl3.2.1] at e2; cases e2
    refine wpAny_handleBy_cons (codeAny_handlers_test ?_) (by intro q; cases q)
    have LT : PySem.W.Looks (model X.prog X.w) h3 (typeOf (.ref a)) cls := fun A Q E s k q => wpAny_typeOf_ref (k _ _ he3) (by rw [hz3.1]; exact q)
    have LM := PySem.W.exm_one (M := model X.prog X.w) (J3.kIn) LT hb1
    have test : ∀ {Q : Value → Shared → Prop} {E : Value → Shared → Prop}, Q c { s' with heap := h3 } → wpAny (model X.prog X.w) (X.A.mark (some (.ref a))) (eval (.Name x np) X.env) Q E { s' with heap := h3 } := fun {Q E} q => by
      obtain ⟨hg, hdbg, hm | ⟨hm, hv, hnn⟩⟩ := hc
      · exact ld_glob (X := X.suite a ((a, oe3) :: (X.pn ++ pins))) S3 hg hm q hdbg
      · exact ld_blt (X := X.suite a ((a, oe3) :: (X.pn ++ pins))) S3 hg hm hv q hnn hdbg
    refine test (LM.here ?_)
    cases b with
    | true =>
      refine codeAny_handlers_suite_as ?_
      refine HandSPX.lands_againZ fl3 fun h4 fl4 up4 => ?_
      have J4 : Inv X pins σ' H' { s' with heap := h4 } := J.landed nb fl4.1 ((up.trans up3).trans up4) os ag
      obtain ⟨oe4, vs4, he4, hz4, hd4⟩ := fl4.there
      have S4 := J4.suite he4 hd4 na nL nF
      refine store_ok (X := X.suite a ((a, oe4) :: (X.pn ++ pins))) (v := .ref a) S4 hN hi hloc rfl (fun s5 S5 => ?_) (.inr hln)
      refine wpAny_mono ((hsu a oe4 cls d (X.pn ++ pins) hz4 ⟨_, hd4⟩).run [] s5 _ H' _ S5 (hyes rfl a na)) (fun f s6 hsp => ?_) (fun _ _ z => False.elim z)
      have reg : ∀ {σ6 : L2.St} {H6 : Hp}, Inv (X.suite a ((a, oe4) :: (X.pn ++ pins))) [] σ6 H6 s6 → Inv X pins σ6 (upd H6 a (ExcV a cls d)) s6 := fun {σ6 H6} S6 => by
        have pp := S6.pin (a, oe4) (List.mem_append_left _ List.mem_cons_self)
        exact inv_reg (S6.unsuite ok) pp.1 hz4 ⟨_, hd4⟩ pp.2.1 n0 nL npins
      have end_ : ∀ {σ6 : L2.St} {H6 : Hp} {Q : Shared → Prop}, Inv (X.suite a ((a, oe4) :: (X.pn ++ pins))) [] σ6 H6 s6 → (∀ s7, Inv X pins (σ6.set i none) (upd H6 a (ExcV a cls d)) s7 → Q s7) →
          wpAny (model X.prog X.w) X.A (do bindName X.env n .none; unbindBehindTheSuite X.env n pos') (fun _ s7 => Q s7) X.xe s6 := fun {σ6 H6 Q} S6 hq => gone_ok (reg S6) hN hi hln hq
      cases f with
      | next =>
        obtain ⟨σ6, H6, S6, q6⟩ := hsp
        exact end_ S6 fun s7 J7 => ⟨_, _, J7, q6⟩
      | brk =>
        obtain ⟨σ6, H6, S6, q6⟩ := hsp
        exact end_ S6 fun s7 J7 => ⟨_, _, J7, q6⟩
      | cont =>
        obtain ⟨σ6, H6, S6, q6⟩ := hsp
        exact end_ S6 fun s7 J7 => ⟨_, _, J7, q6⟩
      | ret u =>
        obtain ⟨v6, σ6, H6, S6, r6, q6⟩ := hsp
        exact end_ S6 fun s7 J7 => ⟨_, _, _, J7, r6, q6⟩
    | false =>
      show wpAny _ X.A (handleBy (.ref a) X.env []) _ _ _
      refine wpAny_handleBy_nil ?_
      obtain ⟨k1, k2, k3, oe, vs, T, oT, ts', he, hz, hd, h1, hr⟩ := id fl3
      unfold PySem.passOn
      refine wpAny_bind (wpAny_field he hd h1 ?_)
      rw [if_neg (show ¬ ((Value.ref T == Value.none) = true) from by simp)]
      have fin : wpAny (model X.prog X.w) X.A (setFlight (.ref a) X.env.frame) (fun _ s4 => wpAny (model X.prog X.w) X.A (throw (.ref a) : Sem Flow) (SP X pins D) X.xe s4) X.xe { s' with heap := h3 } := by
        rw [hf]
        refine HandSPX.setFlight_upZ fl3 fun h4 hh4 up4 => wpAny_throw (tk _ _ ?_)
        exact ⟨a, B, sI, pins, σ', H', cls, d, rfl, J, nb, (up.trans up3).trans up4, .inr (.inr (by rw [hs]; exact hh4)), na, os, ag, hno rfl⟩
      first
        | exact wpAny_bind (wpAny_pure (wpAny_bind fin))
        | exact wpAny_bind fin
  · cases f with
    | next =>
      obtain ⟨σ', H', J', q⟩ := hsp
      exact wpAny_execs_nil ⟨σ', H', J'.ofTry ok, q⟩
    | brk =>
      obtain ⟨σ', H', J', q⟩ := hsp
      exact ⟨σ', H', J'.ofTry ok, q⟩
    | cont =>
      obtain ⟨σ', H', J', q⟩ := hsp
      exact ⟨σ', H', J'.ofTry ok, q⟩
    | ret u =>
      obtain ⟨v, σ', H', J', r, q⟩ := hsp
      exact ⟨v, σ', H', J'.ofTry ok, r, q⟩
end

/-! ### isinstance of a known exception -/
def rIsX (K : PySem.W.Frag) : List V → Hp → VK → Prop := fun xs H Q => ∃ (a D : Addr) (c : V) (cv : Value) (b : Bool), xs = [.ref a, c] ∧ H a = some (ExcV a (.ref D) none) ∧ ClsV c cv ∧ ExcC K D ∧ PySem.W.kitOne K (.ref D) cv = some b ∧ Q (.bl b) H
theorem call_isX {X : Cx} : CallR X (.builtin "isinstance") (rIsX X.K) := by
  intro pins s σ H xs us Q I r h
  obtain ⟨a, D, c, cv, b, rfl, ha, hcv, C, e, q⟩ := h
  obtain ⟨u1, u2, rfl, r1, r2⟩ := vals2 r
  cases r1
  have ec := hcv.eq r2
  subst ec
  obtain ⟨⟨oe, hget, h1, h2, vs, hv⟩, _, _⟩ := (show ObjOk X.prog X.w H s.heap a (ExcV a (.ref D) none) from I.hok a _ ha)
  have J : PySem.W.InstAt s.heap a oe D none := by
    obtain ⟨oc, od, oda, osl⟩ := oe
    dsimp only at h1 h2 hv
    subst h1 h2 hv
    exact ⟨hget, rfl, rfl, trivial⟩
  exact PySem.W.kia_one (PySem.W.handS_kitx_exc C.hg C.hk C.hs C.hd C.ha C.hn C.ht C.hm) I.kIn J e (fun z => nomatch z) fun tk => ⟨.bl b, H, I.kept (t' := tk) fun _ _ z => z, rfl, q⟩
/-- what the text has of the exceptions' classes cs -/
structure ExF (G : Glo) (cs : List Nat) : Prop where
  ex : ∀ c ∈ cs, ExcC G.K (G.cls c)
  oq : ∀ c ∈ cs, ∀ vs a, G.oq c vs a = ExcV a (.ref (G.cls c)) none
/-- between the exceptions' classes -/
def SubF (G : Glo) : ITab → Prop
  | [] => True
  | ((t, v), b) :: r => PySem.W.subIn G.K (.ref (G.cls (v - 10))) (.ref (G.cls (t - 10))) = some b ∧ SubF G r
theorem SubF.get {G : Glo} : ∀ {tb : ITab} {t v : Nat} {b : Bool}, SubF G tb → tb.lookup (t, v) = some b → PySem.W.subIn G.K (.ref (G.cls (v - 10))) (.ref (G.cls (t - 10))) = some b
  | [], _, _, _, _, h => by simp at h
  | ((t', v'), b') :: r, t, v, b, k, h => by
    by_cases e : (t, v) = (t', v')
    · obtain ⟨rfl, rfl⟩ := Prod.mk.inj e
      simp [List.lookup] at h
      rw [← h]; exact k.1
    · have hb : ((t, v) == (t', v')) = false := beq_eq_false_iff_ne.mpr e
      simp only [List.lookup, hb] at h
      exact SubF.get k.2 h
def eIsiX (T : Tab) (tb : ITab) (cs : List Nat) (t : Nat) (f : EF) : EF := fun s C => (f s C).bind fun x C => match x with
  | .opq c _ => if c ∈ cs then (match tb.lookup (t, 10 + c) with | some b => .ok (.bl b) C | none => .no) else .no
  | x => (match knd C x with
    | some v => if v < 10 + T.ncl then (match isT tb t v with | some b => .ok (.bl b) C | none => .no) else .no
    | none => .no)
section
variable {X : Cx} {G : Glo} {Wx : WX} {a b e o i value : Expr} {es : List Expr} {f fa fb fo fi fv : EF} {af : AF} {x m : Str} {p pos pos' p2 apos cpos : Pos} {tb : ITab}
theorem de_isiX {t : Nat} {cv : V} {cs : List Nat} (hk : X.K = G.K) (cf : CF G) (kf : KitF G tb) (ef : ExF G cs) (hT : ClsV cv (kvOf G t)) (hc : PE X b (tC cv)) (ha : DE X G Wx a fa) (hg : Gl X "isinstance") (hm : X.mg "isinstance" = none)
    (hpl : (backTo pos (starEach [b] X.env)).any (·.1) = false := by rfl) (he : starEach [a, b] X.env = (false, eval a X.env) :: starEach [b] X.env := by rfl) (he2 : starEach [b] X.env = (false, eval b X.env) :: starEach [] X.env := by rfl) :
    DE X G Wx (.Call (.Name "isinstance" p) [a, b] [] pos) (eIsiX G.T tb cs t fa) :=
  ⟨PE.weak (pe_callB (CallR.or call_isi call_isX) hg hm (by decide +kernel) (pa_cons ha.pe (pa_cons hc pa_nil he2) he) (by decide) (by decide) he hpl) fun σ H Q ⟨W, sl, C, rs, st, q⟩ => ⟨W, sl, C, rs, st, q.bind fun y C1 W1 v H1 _ t1 st1 rx q1 => by
    split at q1
    · rename_i c _ _
      split at q1
      · rename_i hc
        split at q1
        · rename_i bb eb
          obtain ⟨a', vs, rfl, h1, _⟩ := rx.opq_
          rw [ef.oq c hc] at h1
          refine .inr ⟨a', G.cls c, cv, _, bb, rfl, st1.F _ _ h1, hT, by rw [hk]; exact ef.ex c hc, ?_, q1 W1 _ H1 .refl st1 .bl⟩
          have := kf.get eb
          unfold kvOf at this
          rw [if_neg (show ¬ 10 + c < 10 by omega), show 10 + c - 10 = c by omega] at this
          rw [hk]; exact this
        · exact q1.elim
      · exact q1.elim
    · split at q1
      · rename_i n en
        split at q1
        · rename_i hn
          split at q1
          · rename_i bb eb
            exact .inl ⟨v, cv, _, _, bb, rfl, hT, by rw [hk]; exact knd_ok cf st1 rx en hn, by rw [hk]; exact isT_ok kf eb, q1 W1 _ H1 .refl st1 .bl⟩
          · exact q1.elim
        · exact q1.elim
      · exact q1.elim⟩⟩
/-! ### raise -/
structure RaF (K : PySem.W.Frag) (C : Addr) : Prop where
  ex : PySem.W.excIn K C [.type "ValueError", .type "Exception", .type "BaseException", .type "object"] "ValueError.__new__" = true
  kp : PySem.W.keepIn K (.ref C) = true
  sb : PySem.W.subIn K (.ref C) (.type "BaseException") = some true
  ty : PySem.W.typeIn K (.ref C) = some (.type "type")
def sRaise (c : Nat) : SF := fun s C => .err c s C
theorem ds_raise {m : Str} {j : Nat} {c : Nat} (hk : X.K = G.K) (hc : X.calm = true) (tk : Takes X Wx) (ra : RaF G.K (G.cls c)) (hm : X.mg x = some (.ref (G.cls c))) (hg : Gl X x) (hdb : (x == ("__debug__" : Str)) = false := by decide) :
    DS X G Wx (.Raise (some (.Call (.Name x p) [.Constant (.str m) j p2] [] pos)) none pos') (sRaise c) :=
  ⟨PS.weak (ps_raise hc tk (pmk_own PySem.F.excBase_ValueError (by rw [hk]; exact ra.ex) hm (by rw [hk]; exact ra.kp) (raises_own (by rw [hk]; exact ra.sb) (by rw [hk]; exact ra.ty)) hg hdb)) fun D σ H ⟨W, sl, C, rs, st, q⟩ => q W σ H .refl st rs⟩
end
/-! ### try -/
theorem set_none_set {α : Type} {l : List (Option α)} {i j : Nat} {d : Option α} : ((l.set i none).set j d).set i none = (l.set j d).set i none := by
  by_cases h : i = j
  · subst h; simp
  · rw [List.set_comm _ _ (Ne.symm h), List.set_comm _ _ (Ne.symm h), List.set_set]
/-- the class t that a clause names -/
structure ClF (K : PySem.W.Frag) (C : Addr) : Prop where
  sb : PySem.W.subIn K (.ref C) (.type "BaseException") = some true
  hd : PySem.W.hasDictIn K C = true
  ty : PySem.W.typeIn K (.ref C) = some (.type "type")
def sTryAs (tb : ITab) (cs : List Nat) (t i j : Nat) (gb : SF) : SF := fun s C => match gb s C with
  | .err c s' C' => if c ∈ cs then (match tb.lookup (10 + t, 10 + c) with
    | some true => .nxt ((s'.set j (some (.opq c []))).set i none) C'
    | some false => .err c s' C'
    | none => .no) else .no
  | r => r
def sTryOnly (tb : ITab) (t : Nat) (gb gs : SF) : SF := fun s C => match gb s C with
  | .err c s' C' => (match tb.lookup (10 + t, 10 + c) with
    | some true => (match gs s' C' with | .err _ _ _ => .no | r => r)
    | some false => .err c s' C'
    | none => .no)
  | r => r
section
variable {X : Cx} {G : Glo} {Wx : WX} {x n y : Str} {i j t : Nat} {tb : ITab} {cs : List Nat} {body suite : List Stmt} {b₀ : Stmt} {gb gs : SF} {np pos pos' py pn0 ps0 : Pos}
theorem exm_get {c : Nat} {b : Bool} (sf : SubF G tb) (cl : ClF G.K (G.cls t)) (e : tb.lookup (10 + t, 10 + c) = some b) : PySem.W.exmOne G.K (.ref (G.cls c)) (.ref (G.cls t)) = some b := by
  have := sf.get e
  rw [show 10 + c - 10 = c by omega, show 10 + t - 10 = t by omega] at this
  exact PySem.W.exm_ref cl.sb cl.hd cl.ty this
theorem ds_tryAs (hk : X.K = G.K) (hs : X.stack = X.env :: X.outer) (hf : X.env.frame = some X.env.locals) (hex : X.ex = []) (hpn : X.pn = []) (hN : X.N.Nodup) (hi : X.N[i]? = some n) (hln : X.env.kindOf n = some .local) (hj : X.N[j]? = some y) (hly : Loc X.env.scope y)
    (ef : ExF G cs) (sf : SubF G tb) (cl : ClF G.K (G.cls t)) (hg : Gl X x) (hm : X.mg x = some (.ref (G.cls t))) (tk : Takes X Wx)
    (hb : ∀ (W : WX) (pn : List (Addr × Obj)) (xe : Value → Shared → Prop), Takes (X.tr pn xe) W → PassesOwn (model X.prog X.w) X.A X.env xe → DSs (X.tr pn xe) G W body gb)
    (hdb : (x == ("__debug__" : Str)) = false := by decide) (hv : Vis X.env.scope n := by first | exact Or.inl rfl | exact Or.inr (Or.inl rfl) | exact Or.inr (Or.inr rfl)) (hd : (n == ("__debug__" : Str)) = false := by decide)
    (hcd : (n == ("__classdict__" : Str)) = false := by decide) (hsw : swapsWith (.Name n pn0) (some (.Name y py)) ps0.line X.env = pure false := by rfl) (hfn : X.fn y = true ∨ X.env.scope.names.lookup y = some .local := by first | exact .inl rfl | exact .inr rfl | assumption) :
    DS X G Wx (.Try body [.ExceptHandler (some (.Name x np)) (some n) [.Assign [.Name y py] (.Name n pn0) ps0] pos'] [] [] pos) (sTryAs tb cs t i j gb) :=
  ⟨PS.weak (ps_try_asX (tb := fun W => tSt G W gb) (c := .ref (G.cls t)) (i := i) (ts := fun a _ _ D σ H => (∃ σ0 : L2.St, σ = σ0.set i (some (V.ref a))) ∧ D.nx (σ.set j (some (V.ref a))) H) (Wout := Wx) hs hf hex hpn hN hi hln ⟨hg, hdb, .inl hm⟩ tk (fun W pn xe tk hp => (hb W pn xe tk hp).ps)
      (fun a oe cls d pn _ _ => ⟨fun pins s σ H D I h => by
        have q := (pss_one (ps_set (X := X.suite a ((a, oe) :: pn)) (i := j) (pos := ps0) (pos' := py) hN hj hly (pe_var (X := X.suite a ((a, oe) :: pn)) (pos := pn0) (i := i) hi hv hd hcd) hsw hfn)).run pins s σ H D I
        obtain ⟨⟨σ0, e0⟩, h2⟩ := h
        have hl : i < σ0.length := by
          have h1 := I.len
          rw [e0, List.length_set] at h1
          have h3 : σ0.length = X.N.length := h1
          rw [h3]
          exact (List.getElem?_eq_some_iff.mp hi).1
        exact q ⟨V.ref a, by rw [e0]; exact List.getElem?_set_self hl, h2⟩⟩)) fun D σ H ⟨W, sl, C, rs, st, q⟩ => ⟨W, sl, C, rs, st, by
    unfold sTryAs at q
    cases e : gb sl C with
    | nxt s' C' => rw [e] at q; exact q
    | ret d C' => rw [e] at q; exact q
    | brk s' C' => rw [e] at q; exact q
    | cnt s' C' => rw [e] at q; exact q
    | no => rw [e] at q; exact q
    | err c s' C' =>
      rw [e] at q
      simp only at q
      split at q
      · rename_i hc
        intro W' σ' H' t' st' rs'
        cases el : tb.lookup (10 + t, 10 + c) with
        | none => rw [el] at q; exact q.elim
        | some b =>
          rw [el] at q
          refine ⟨b, by rw [hk]; exact exm_get sf cl el, fun hb a na => ?_, fun hb => ?_⟩
          · subst hb
            refine ⟨⟨σ', rfl⟩, ?_⟩
            obtain ⟨st2, t2⟩ := fr_fz (o := ExcV a (.ref (G.cls c)) none) st' na (fun _ z => (nomatch z))
            have q' : SPost G Wx W C H (.nxt ((s'.set j (some (.opq c []))).set i none) C') D := q
            refine q' _ _ _ (t'.trans t2) st2 ?_
            rw [← set_none_set]
            refine RepS.setN (((rs'.up t2.le).setN (z := some (V.ref a)) i).set j (.opq (vs := []) ?_ .nil)) i
            rw [ef.oq c hc]
            show upd W'.F a _ a = _
            exact upd_same
          · subst hb
            exact q W' σ' H' t' st' rs'
      · exact q.elim⟩⟩
theorem ds_tryOnly (hk : X.K = G.K) (hs : X.stack = X.env :: X.outer) (hf : X.env.frame = some X.env.locals) (sf : SubF G tb) (cl : ClF G.K (G.cls t)) (hg : Gl X x) (hm : X.mg x = some (.ref (G.cls t))) (tk : Takes X Wx)
    (hb : ∀ (W : WX) (pn : List (Addr × Obj)) (xe : Value → Shared → Prop), Takes (X.tr pn xe) W → PassesOwn (model X.prog X.w) X.A X.env xe → DSs (X.tr pn xe) G W body gb)
    (hsu : ∀ (a : Addr) (pn : List (Addr × Obj)), DSs (X.suite a pn) G W0 (b₀ :: suite) gs) (hdb : (x == ("__debug__" : Str)) = false := by decide) :
    DS X G Wx (.Try body [.ExceptHandler (some (.Name x np)) none (b₀ :: suite) pos'] [] [] pos) (sTryOnly tb t gb gs) :=
  ⟨PS.weak (ps_try_only (tb := fun W => tSt G W gb) (c := .ref (G.cls t)) (ts := fun _ _ _ => tSt G W0 gs) (Wout := Wx) hs hf ⟨hg, hdb, .inl hm⟩ tk (fun W pn xe tk hp => (hb W pn xe tk hp).ps) (fun a oe cls d pn _ _ => (hsu a _).ps)) fun D σ H ⟨W, sl, C, rs, st, q⟩ => ⟨W, sl, C, rs, st, by
    unfold sTryOnly at q
    cases e : gb sl C with
    | nxt s' C' => rw [e] at q; exact q
    | ret d C' => rw [e] at q; exact q
    | brk s' C' => rw [e] at q; exact q
    | cnt s' C' => rw [e] at q; exact q
    | no => rw [e] at q; exact q
    | err c s' C' =>
      rw [e] at q
      simp only at q
      intro W' σ' H' t' st' rs'
      cases el : tb.lookup (10 + t, 10 + c) with
      | none => rw [el] at q; exact q.elim
      | some b =>
        rw [el] at q
        refine ⟨b, by rw [hk]; exact exm_get sf cl el, fun hb a na => ?_, fun hb => ?_⟩
        · subst hb
          refine ⟨W', s', C', rs', st', ?_⟩
          simp only at q
          have q := SPost.step t' q
          cases e2 : gs s' C' with
          | nxt s2 C2 => rw [e2] at q; exact q
          | ret d C2 => rw [e2] at q; exact q
          | brk s2 C2 => rw [e2] at q; exact q
          | cnt s2 C2 => rw [e2] at q; exact q
          | no => rw [e2] at q; exact q
          | err c2 s2 C2 => rw [e2] at q; exact q.elim
        · subst hb
          exact q W' σ' H' t' st' rs'⟩⟩
end
end DL

set_option Elab.async false
set_option linter.all false
set_option maxRecDepth 100000
set_option maxHeartbeats 1000000
set_option autoImplicit false
namespace DL
open PySem PySem.Spec PyProof.Rows L2
/-! ### a lambda handed to a def -/
abbrev Glo.at_ (G : Glo) (w1 : Wd) : Glo := { G with W0 := w1 }
section
variable {G : Glo} {w1 W W' : Wd} {C C' : Cells} {H H' : Hp}
mutual
theorem repV_at : ∀ {d : D} {v : V}, RepV (G.at_ w1) W d v ↔ RepV G W d v
  | .non, _ => by unfold RepV; exact Iff.rfl
  | .bl _, _ => by unfold RepV; exact Iff.rfl
  | .int _, _ => by unfold RepV; exact Iff.rfl
  | .str _, _ => by unfold RepV; exact Iff.rfl
  | .lst ds, _ => by
    unfold RepV
    exact ⟨fun ⟨a, vs, e, s, r⟩ => ⟨a, vs, e, s, repVs_at.1 r⟩, fun ⟨a, vs, e, s, r⟩ => ⟨a, vs, e, s, repVs_at.2 r⟩⟩
  | .scr ds, _ => by
    unfold RepV
    exact ⟨fun ⟨a, vs, e, s, r⟩ => ⟨a, vs, e, s, repVs_at.1 r⟩, fun ⟨a, vs, e, s, r⟩ => ⟨a, vs, e, s, repVs_at.2 r⟩⟩
  | .tup ds, _ => by
    unfold RepV
    exact ⟨fun ⟨a, vs, e, s, r⟩ => ⟨a, vs, e, s, repVs_at.1 r⟩, fun ⟨a, vs, e, s, r⟩ => ⟨a, vs, e, s, repVs_at.2 r⟩⟩
  | .ktp ds, _ => by
    unfold RepV
    exact ⟨fun ⟨a, vs, e, s, r⟩ => ⟨a, vs, e, s, repVs_at.1 r⟩, fun ⟨a, vs, e, s, r⟩ => ⟨a, vs, e, s, repVs_at.2 r⟩⟩
  | .obj c ds, _ => by
    unfold RepV
    exact ⟨fun ⟨a, dx, vs, e, s, r, l⟩ => ⟨a, dx, vs, e, s, repVs_at.1 r, l⟩, fun ⟨a, dx, vs, e, s, r, l⟩ => ⟨a, dx, vs, e, s, repVs_at.2 r, l⟩⟩
  | .cel n, _ => by unfold RepV; exact Iff.rfl
  | .opq c ds, _ => by
    unfold RepV
    exact ⟨fun ⟨a, vs, e, s, r⟩ => ⟨a, vs, e, s, repVs_at.1 r⟩, fun ⟨a, vs, e, s, r⟩ => ⟨a, vs, e, s, repVs_at.2 r⟩⟩
theorem repVs_at : ∀ {ds : List D} {vs : List V}, RepVs (G.at_ w1) W ds vs ↔ RepVs G W ds vs
  | [], _ => by unfold RepVs; exact Iff.rfl
  | d :: r, _ => by
    unfold RepVs
    exact ⟨fun ⟨v, vr, e, s, t⟩ => ⟨v, vr, e, repV_at.1 s, repVs_at.1 t⟩, fun ⟨v, vr, e, s, t⟩ => ⟨v, vr, e, repV_at.2 s, repVs_at.2 t⟩⟩
end
theorem repKV_at {κ : Type} {l : List (κ × D)} {m : List (κ × V)} : RepKV (G.at_ w1) W l m ↔ RepKV G W l m :=
  ⟨fun h => Paired.mapP h fun _ _ q => ⟨q.1, repV_at.1 q.2⟩, fun h => Paired.mapP h fun _ _ q => ⟨q.1, repV_at.2 q.2⟩⟩
theorem repO_at : ∀ {o : O} {h : HO}, RepO (G.at_ w1) W o h ↔ RepO G W o h
  | .lst _, _ => ⟨fun ⟨vs, e, r⟩ => ⟨vs, e, repVs_at.1 r⟩, fun ⟨vs, e, r⟩ => ⟨vs, e, repVs_at.2 r⟩⟩
  | .dk _, _ => ⟨fun ⟨vs, e, r⟩ => ⟨vs, e, repKV_at.1 r⟩, fun ⟨vs, e, r⟩ => ⟨vs, e, repKV_at.2 r⟩⟩
  | .dt _, _ => ⟨fun ⟨vs, e, r⟩ => ⟨vs, e, repKV_at.1 r⟩, fun ⟨vs, e, r⟩ => ⟨vs, e, repKV_at.2 r⟩⟩
  | .obj _ _, _ => ⟨fun ⟨dx, vs, e, r, l⟩ => ⟨dx, vs, e, repVs_at.1 r, l⟩, fun ⟨dx, vs, e, r, l⟩ => ⟨dx, vs, e, repVs_at.2 r, l⟩⟩
theorem StR.to (st : StR G W C H) (h : w1.le W) : StR (G.at_ w1) W C H :=
  ⟨h, st.tb, st.F, fun n o e => let ⟨a, ho, h1, h2, h3, h4⟩ := st.cells n o e; ⟨a, ho, h1, h2, h3, repO_at.2 h4⟩, st.inj, st.nx⟩
theorem StR.of (st : StR (G.at_ w1) W C H) (h : G.W0.le w1) : StR G W C H :=
  ⟨h.trans st.lnk, st.tb, st.F, fun n o e => let ⟨a, ho, h1, h2, h3, h4⟩ := st.cells n o e; ⟨a, ho, h1, h2, h3, repO_at.1 h4⟩, st.inj, st.nx⟩
theorem RepS.to {sl : Sl} {σ : L2.St} (r : RepS G W sl σ) : RepS (G.at_ w1) W sl σ := ⟨r.len, fun i d e => let ⟨v, h1, h2⟩ := r.at_ i d e; ⟨v, h1, repV_at.2 h2⟩⟩
theorem RepS.of {sl : Sl} {σ : L2.St} (r : RepS (G.at_ w1) W sl σ) : RepS G W sl σ := ⟨r.len, fun i d e => let ⟨v, h1, h2⟩ := r.at_ i d e; ⟨v, h1, repV_at.1 h2⟩⟩
open Classical in
/-- a lambda was made: its code object is known; it has a number -/
theorem fr_lam {f : Addr} (st : StR G W C H) (eN : LamX.ExtN H H') (T1 : LamX.Tabs G.tb H') :
    ∃ W1 : Wd, StR G W1 (C.bump 1) H' ∧ Step W C H W1 (C.bump 1) H' ∧ W1.cm C.nx = some f ∧ ∀ p ∈ G.tb, ∀ a, H' a = some (LamX.CodeO a p.2) → W1.F a = some (LamX.CodeO a p.2) := by
  have notExt : ∀ {a : Addr} {o : HO}, H a = some o → Pla o → ¬ ∃ p ∈ G.tb, H' a = some (LamX.CodeO a p.2) := fun {a o} h po ⟨p, _, e⟩ => by
    rw [eN a o h po.1] at e
    exact po.2.1 _ (Option.some.inj e)
  have le : W.le ⟨fun a => if ∃ p ∈ G.tb, H' a = some (LamX.CodeO a p.2) then H' a else W.F a, fun n => if n = C.nx then some f else W.cm n⟩ := ⟨fun a o h => by
    show (if _ then H' a else W.F a) = some o
    split
    · exact eN a o (st.F a o h) fun ps z => st.tb.1 a ps (by rw [h, z])
    · exact h, fun n a h => by
    show (if n = C.nx then some f else W.cm n) = some a
    have : n ≠ C.nx := fun e => by rw [e, st.nx _ (Nat.le_refl _)] at h; cases h
    rw [if_neg this]; exact h⟩
  have old : ∀ n o, C.get n = some o → n ≠ C.nx := fun n o h => Nat.ne_of_lt (Cells.lt h)
  have cmo : ∀ {n : Nat} {o : O} {a : Addr}, C.get n = some o → (if n = C.nx then some f else W.cm n) = some a → W.cm n = some a := fun {n o a} h e => by
    rw [if_neg (old n o h)] at e; exact e
  refine ⟨_, ⟨st.lnk.trans le, ⟨fun a ps z => ?_, fun p hp => ?_⟩, fun a o h => ?_, fun n o h => ?_, fun n m a o1 o2 h1 h2 h3 h4 => st.inj n m a o1 o2 h1 h2 (cmo h1 h3) (cmo h2 h4), fun n hn => ?_⟩, ⟨le, Nat.le_succ _, fun a o h po n => ⟨eN a o h po.1, fun z => n ?_⟩⟩, if_pos rfl, fun p hp a e => ?_⟩
  · have z' : (if ∃ p ∈ G.tb, H' a = some (LamX.CodeO a p.2) then H' a else W.F a) = some (.tbl ps) := z
    split at z'
    · rename_i h
      obtain ⟨p, _, e⟩ := h
      rw [e] at z'; cases z'
    · exact st.tb.1 a ps z'
  · obtain ⟨ps, h1, h2, h3⟩ := T1 p hp
    refine ⟨ps, h1, h2, fun pos cv hc => ?_⟩
    obtain ⟨c, e1, e2⟩ := h3 pos cv hc
    exact ⟨c, e1, (if_pos ⟨p, hp, e2⟩).trans e2⟩
  · have h' : (if ∃ p ∈ G.tb, H' a = some (LamX.CodeO a p.2) then H' a else W.F a) = some o := h
    split at h'
    · exact h'
    · exact eN a o (st.F a o h') fun ps z => st.tb.1 a ps (by rw [h', z])
  · obtain ⟨a, ho, h1, h2, h3, h4⟩ := st.cells n o h
    exact ⟨a, ho, (if_neg (old n o h)).trans h1, (if_neg (notExt h3 h4.pla)).trans h2, eN a ho h3 h4.pla.1, h4.up le⟩
  · have hn' : C.nx + 1 ≤ n := hn
    show (if n = C.nx then some f else W.cm n) = none
    rw [if_neg (by omega)]; exact st.nx n (by omega)
  · rcases z with ⟨u, z⟩ | ⟨m, o2, z1, z2⟩
    · have z' : (if ∃ p ∈ G.tb, H' a = some (LamX.CodeO a p.2) then H' a else W.F a) = some u := z
      rw [if_neg (notExt h po)] at z'
      exact .inl ⟨u, z'⟩
    · exact .inr ⟨m, o2, z1, cmo z1 z2⟩
  · exact (if_pos ⟨p, hp, e⟩).trans e
end
/-- what a def's parameter i is worth when it is called -/
def eAct (act : D → Cells → Res D) (i : Nat) : EF := fun s C => match s[i]? with
  | some (some d) => act d C
  | _ => .no
/-- g(lambda: ..): n slots of g, its body's worth, the lambda's worth -/
def eLam (n : Nat) (gg : (D → Cells → Res D) → SF) (fb : EF) : EF := fun s C => callF n 1 (gg fun d C' => match d with | .cel m => if m = C.nx then fb s C' else .no | _ => .no) [.cel C.nx] (C.bump 1)
theorem Post.wx {α β : Type} {G : Glo} {Wz : WX} {σ σ' : L2.St} {R : Wd → α → β → Prop} {W : Wd} {C : Cells} {H : Hp} {r : Res α} {Q : β → Hp → Prop} (h : Post G Wz σ R W C H r Q) : Post G (fun c d _ H => Wz c d σ H) σ' R W C H r Q := by
  cases r with
  | ok a C' => exact h
  | err c C' => exact h
  | no => exact h
/-- a def that is handed a lambda, as its caller knows it -/
structure FunP (K : PySem.W.Frag) (x : Str) (st : Stmt) (g : Addr) (cdv : Value) : Prop where
  ex : ∃ (oc : Value) (od : Option Addr) (kV doc pm : Value) (an : Option Addr) (ct : Value) (osl : Array (Option Value)),
    K.lookup g = some ⟨oc, od, .func (PySem.W.fnOf x x (defArgs st) (defBody st) (defScope st) .none kV doc pm an cdv ct), osl⟩ ∧ PySem.W.codeIn K cdv x = true
  kp : PySem.W.keepIn K (.ref g) = true
section
variable {X : Cx} {pins : List (Addr × Obj)} {σ : L2.St} {H : Hp} {s : Shared}
open LamX
/-- x(), in the def that got the lambda: what is raised is wished for at its slots -/
theorem pe_actS {CXg : CXT} {Eg : XK} {Ng : List Str} {qg : Str} {sg : Scope} {g f c' : Addr} {cdg pm ctv : Value} {params : Arguments} {body : Expr} {scope : Scope} {k i : Nat} {a : Str} {pn : List (Addr × Obj)} {xe : Value → Shared → Prop} {W : WX} {tb : XK → TE} {p1 p2 : Pos}
    (I : Inv X pins σ H s) (L : LamS X.env.scope scope) (hf : s.heap.get? f = some (PySem.W.kla_obj "<lambda>" (X.env.qual ++ "<lambda>") params body scope (cloFrom X.env.cells scope.names []) pm c' ctv)) (hfn : H f = none) (hfr : f ∉ frs X.stack)
    (hbind : bindArgs (PySem.W.kla_fn "<lambda>" (X.env.qual ++ "<lambda>") params body scope (cloFrom X.env.cells scope.names []) pm (.ref c') ctv) ⟨[], []⟩ = pure [])
    (tk : Takes ((cxOf CXg X.prog X.w X.K X.mg X.base Ng qg sg g cdg X.A X.stack s H Eg).tr pn xe) W) (hr : Room (k + 1) (X.A.deeper (envOfC qg sg s.heap.objs.size g cdg)))
    (hbody : ∀ (A : Around) (outer : List Env) (s : Shared) (H : Hp) (E : XK), Room k (A.deeper (lamEnv X scope s.heap.objs.size f c')) → PE (lamCx X A outer s H E scope f c') body (tb E))
    (hN : Ng[i]? = some a) (hv : Vis sg a) (hd : (a == ("__debug__" : Str)) = false := by decide) (hcd : (a == ("__classdict__" : Str)) = false := by decide) :
    PE ((cxOf CXg X.prog X.w X.K X.mg X.base Ng qg sg g cdg X.A X.stack s H Eg).tr pn xe) (.Call (.Name a p1) [] [] p2)
      (fun σZ HZ Q => σZ[i]? = some (some (.ref f)) ∧ HZ c' = some (CodeO c' (X.env.qual ++ "<lambda>")) ∧ tb (fun c d H => W c d σZ H) σ HZ Q) := by
  refine ⟨fun pinsZ sZ σZ HZ Q IZ h => ?_⟩
  obtain ⟨hs, hc, ht⟩ := h
  refine wpAny_Call_Name_kw (thn ((pe_var (pos := p1) (i := i) hN hv hd hcd).run pinsZ sZ σZ HZ (fun v H1 => v = .ref f ∧ H1 = HZ) IZ ⟨.ref f, hs, rfl, rfl⟩) fun u s1 ⟨v, H1, I1, r1, q1⟩ => ?_)
  obtain ⟨ev, eH⟩ := q1
  subst ev
  rw [eH] at I1
  obtain rfl : u = Value.ref f := r1
  have of1 : s1.heap.get? f = some (PySem.W.kla_obj "<lambda>" (X.env.qual ++ "<lambda>") params body scope (cloFrom X.env.cells scope.names []) pm c' ctv) := I1.base.keep f _ hf hfn hfr (fun z => nomatch (show f ∈ ([] : List Addr) from z))
  refine PySem.W.callWith_F0 ⟨_, _, _, _, of1⟩ ?_
  have un : Un (frs X.stack) [] H HZ s.heap s1.heap := I1.base
  obtain ⟨⟨oc, vs, t, hoc, hdc, hvc⟩, _, _⟩ := I1.hok c' _ hc
  have rc : codeAny (model X.prog X.w) (X.A.deeper (envOfC qg sg s.heap.objs.size g cdg)) (.call (.ref f) ⟨[], []⟩) (CR (L2.CX X.prog X.w) (envOfC qg sg s.heap.objs.size g cdg :: X.stack) X.prog X.w HZ s1 Q (fun c d H => W c d σZ H)) s1 := by
    refine PySem.W.kla_callFunE hr.depth of1 rfl L.co L.gen rfl ⟨c', oc, vs, t, rfl, hoc, hdc, hvc⟩ ?_
    rw [hbind]
    refine wpAny_pure (wpAny_newFunctionEnv (fun y hy => (L.own y hy).2) (fun y hy => absurd hy (by simp)) (fun h₁ hns hsb => ⟨I1.nolimit.fresh _ hsb, ?_⟩) L.kind)
    show codeAny _ _ (.expr body (lamEnv X scope s1.heap.objs.size f c')) _ _
    have kp : ∀ b o, s1.heap.get? b = some o → h₁.get? b = some o := fun b o e => hsb.extBut b o (Nat.ne_of_lt (Heap.lt_size e)) (Heap.get?_push_of_some _ e)
    have J : Inv (lamCx X (X.A.deeper (envOfC qg sg s.heap.objs.size g cdg)) (envOfC qg sg s.heap.objs.size g cdg :: X.stack) s1 HZ (fun c d H => W c d σZ H) scope f c') [] σ HZ { s1 with heap := h₁, toks := s1.toks + ([] : List (Str × Value)).length } :=
      lam_start2 I L I1.env0 hr.hd un hns kp
    refine PySem.W.kla_codeExpr (wpAny_mono ((hbody _ _ s1 HZ _ (hr.deeper _)).run [] _ _ HZ Q J ht) (fun v s' hq => ?_) fun e s' hq => hq)
    obtain ⟨w', H', J', rv, q⟩ := hq
    exact ⟨w', H', J'.os, J'.bare, J'.base, J'.hok, rv, q⟩
  have hx : PassesAt (L2.CX X.prog X.w) ((cxOf CXg X.prog X.w X.K X.mg X.base Ng qg sg g cdg X.A X.stack s H Eg).tr pn xe) σZ (fun c d H => W c d σZ H) := passAt tk σZ
  refine wpAny_call (codeAny_mono rc fun r s' hq => ?_)
  cases r with
  | error e => exact hx pinsZ HZ s1 e s' I1 hq
  | ok fl =>
    cases fl with
    | ret u => exact I1.after hq
    | next => exact False.elim hq
    | brk => exact False.elim hq
    | cont => exact False.elim hq
variable {G : Glo} {Wx : WX}
/-- g(lambda: body) -/
theorem de_lamcall {x a : Str} {g c P : Addr} {k n : Nat} {stg : Stmt} {cdv : Value} {Ng : List Str} {gg : (D → Cells → Res D) → SF} {fb : EF}
    {params : Arguments} {body : Expr} {scope : Scope} {p lpos pos : Pos} (hk : X.K = G.K) (hg : Gl X x) (hm : X.mg x = some (.ref g)) (FP : FunP X.K x stg g cdv) (hB : ∀ fd, Fun X.K x x stg g fd → L2.Binds X.K fd [a] []) (Sg : FnScope Ng [a] (defScope stg)) (hn : Ng.length = n) (hNg : Ng[0]? = some a) (hva : Vis (defScope stg) a)
    (TB : TabB X.base X.mg c P) (hcode : X.env.code = .ref c) {qq : Str} {tb : List (Addr × Str)} (hqq : X.env.qual = qq) (htb : G.tb = tb) (hmT : (P, qq ++ "<lambda>") ∈ tb) (hu : ∀ p ∈ tb, p.1 = P → p.2 = qq ++ "<lambda>") (hr : Room (k + 2) X.A) (tk : Takes X Wx) {sc : Scope} (hsc : X.env.scope = sc) (hL : lamSB sc scope = true) (hdef : defaultsOf params X.env = ([], []))
    (hbind : ∀ (q : Str) (cl : List (Str × Addr)) (pm cv ctv : Value), bindArgs (PySem.W.kla_fn "<lambda>" q params body scope cl pm cv ctv) ⟨[], []⟩ = pure [])
    (hbody : ∀ (w1 : Wd) (A : Around) (outer : List Env) (s : Shared) (H : Hp) (E : XK) (f c' : Addr), Room k (A.deeper (lamEnv X scope s.heap.objs.size f c')) →
      (A.deeper (lamEnv X scope s.heap.objs.size f c')).units + 64 < cLine → Takes (lamCx X A outer s H E scope f c') (fun c d _ H => E c d H) → DE (lamCx X A outer s H E scope f c') (G.at_ w1) (fun c d _ H => E c d H) body fb)
    (hG : ∀ (w1 : Wd) (act : D → Cells → Res D) (s : Shared) (H : Hp) (E : XK), Room (k + 1) (X.A.deeper (envOfC x (defScope stg) s.heap.objs.size g cdv)) →
      (∀ (W : WX) (pn : List (Addr × Obj)) (xe : Value → Shared → Prop) (p1 p2 : Pos), Takes ((cxOf (L2.CX X.prog X.w) X.prog X.w X.K X.mg X.base Ng x (defScope stg) g cdv X.A X.stack s H E).tr pn xe) W →
        DE ((cxOf (L2.CX X.prog X.w) X.prog X.w X.K X.mg X.base Ng x (defScope stg) g cdv X.A X.stack s H E).tr pn xe) (G.at_ w1) W (.Call (.Name a p1) [] [] p2) (eAct act 0)) →
      DSs (cxOf (L2.CX X.prog X.w) X.prog X.w X.K X.mg X.base Ng x (defScope stg) g cdv X.A X.stack s H E) (G.at_ w1) (fun c d _ H => E c d H) (defBody stg) (gg act))
    (hdb : (x == ("__debug__" : Str)) = false := by decide) (hd : (a == ("__debug__" : Str)) = false := by decide) (hcd : (a == ("__classdict__" : Str)) = false := by decide) :
    DE X G Wx (.Call (.Name x p) [.Lambda params body scope lpos] [] pos) (eLam n gg fb) := by
  refine ⟨⟨fun pins s σ H Q I h => ?_⟩⟩
  subst hqq htb hsc
  have L := lamS_by hL
  obtain ⟨⟨oc, od, kV, doc, pm, an, ct, osl, lk, hcg⟩, hkp⟩ := FP
  have hb := hB _ ⟨⟨oc, od, kV, doc, pm, an, cdv, ct, osl, rfl, lk, hcg⟩, hkp⟩
  obtain ⟨W, sl, C, rs, st, q⟩ := h
  have hT : Tabs G.tb H := fun p hp => by
    obtain ⟨ps, h1, h2, h3⟩ := st.tb.2 p hp
    refine ⟨ps, h1, h2, fun pos cv e => ?_⟩
    obtain ⟨c, e1, e2⟩ := h3 pos cv e
    exact ⟨c, e1, st.F _ _ e2⟩
  refine wpAny_Call_Name_kw (ld_glob I hg hm ?_ hdb)
  refine PySem.W.callWith_K (h₀ := X.base) I.ok.mod.kin hkp ?_ (by rfl) (by rfl)
  show wpAny _ _ (spliced ((false, eval (.Lambda params body scope lpos) X.env) :: backTo pos (starEach [] X.env))) _ _ s
  refine Calls.spliced_cons (lam_make2 I TB hcode hmT hu hT hdef (L.has I.ok) fun f c' pm' ctv H1 s' I1 eN T1 hf hfn hfr hco => ?_)
  refine Calls.spliced_nil ⟨I1.kIn, ?_⟩
  obtain ⟨W1, st1, t1, cm1, kn1⟩ := fr_lam (f := f) st eN T1
  have kc := kn1 _ hmT c' hco
  have rc : codeAny (model X.prog X.w) X.A (.call (.ref g) ⟨[.ref f], []⟩) (CR (L2.CX X.prog X.w) X.stack X.prog X.w H1 s' Q (fun c d H => Wx c d σ H)) s' := by
    refine run_ofS (N := Ng) (ps := [a]) (us := [.ref f]) (vs := [.ref f]) lk hcg Sg hr I1.env0 (hb s' [.ref f] I1.kIn rfl) (.cons rfl .nil) rfl fun hr' => ?_
    refine ⟨_, (hG W1 (fun d C' => match d with | .cel m => if m = C.nx then fb sl C' else .no | _ => .no) s' H1 (fun c d H => Wx c d σ H) hr' fun Wz pn xe p1 p2 tkz => ?_).ps, ?_⟩
    · refine ⟨PE.weak (pe_actS (i := 0) (tb := fun E => tD (G.at_ W1) (fun c d _ H => E c d H) fb) I1 L hf hfn hfr (hbind _ _ _ _ _) tkz hr' (fun A outer s H E hr2 => (hbody W1 A outer s H E f c' hr2 hr2.units (takes_of rfl rfl rfl rfl)).pe) hNg hva hd hcd) fun σZ HZ Q' hz => ?_⟩
      obtain ⟨W', sz, Cz, rsz, stz, qz⟩ := hz
      unfold eAct at qz
      split at qz
      · rename_i d ed
        obtain ⟨v, h1, h2⟩ := rsz.at_ 0 d ed
        cases d with
        | cel m =>
          simp only at qz
          split at qz
          · rename_i em
            subst em
            obtain ⟨a', rfl, h3⟩ := h2.cel_
            have h4 := stz.lnk.cm _ _ cm1
            rw [h3] at h4
            cases h4
            refine ⟨h1, stz.F _ _ (stz.lnk.F _ _ kc), W', sl, Cz, (rs.up (t1.le.trans stz.lnk)).to, stz, qz.wx⟩
          · exact qz.elim
        | _ => exact qz.elim
      · exact qz.elim
    · refine ⟨W1, _, C.bump 1, RepS.start (N := Ng) (.cons (.cel cm1) .nil : RepVs (G.at_ W1) W1 [.cel C.nx] [.ref f]), st1.to .refl, ?_⟩
      unfold eLam callF at q
      rw [if_pos (show ([D.cel C.nx] : List D).length = 1 from rfl), ← hn] at q
      cases e : gg (fun d C' => match d with | .cel m => if m = C.nx then fb sl C' else .no | _ => .no) (([D.cel C.nx] : List D).map some ++ List.replicate (Ng.length - ([D.cel C.nx] : List D).length) none) (C.bump 1) with
      | nxt s' C' => rw [e] at q; exact fun W' σ' H' t st' _ => q W' .non H' (t1.trans t) (st'.of st1.lnk) .non
      | ret d C' => rw [e] at q; exact fun W' v H' t st' r => q W' v H' (t1.trans t) (st'.of st1.lnk) (repV_at.1 r)
      | err c s' C' => rw [e] at q; exact fun W' σ' H' t st' _ => q W' H' (t1.trans t) (st'.of st1.lnk)
      | brk s' C' => rw [e] at q; exact q.elim
      | cnt s' C' => rw [e] at q; exact q.elim
      | no => rw [e] at q; exact q.elim
  refine wpAny_call (codeAny_mono rc fun r s2 hq => ?_)
  cases r with
  | error e => exact passAt tk σ pins H1 s' e s2 I1 hq
  | ok fl =>
    cases fl with
    | ret u => exact I1.after hq
    | next => exact False.elim hq
    | brk => exact False.elim hq
    | cont => exact False.elim hq
end
/-- a def whose code object is known -/
structure FunC (K : PySem.W.Frag) (x qual : Str) (st : Stmt) (c f : Addr) (fd : FuncData) : Prop where
  ex : ∃ (oc : Value) (od : Option Addr) (kV doc pm : Value) (an : Option Addr) (ct : Value) (osl : Array (Option Value)),
    fd = PySem.W.fnOf x qual (defArgs st) (defBody st) (defScope st) .none kV doc pm an (.ref c) ct ∧ K.lookup f = some ⟨oc, od, .func fd, osl⟩ ∧ PySem.W.codeIn K (.ref c) qual = true
  kp : PySem.W.keepIn K (.ref f) = true
section
variable {G : Glo} {P : Program} {w : World} {K : PySem.W.Frag} {mg : Str → Option Value} {base : Heap}
theorem FunC.fun {x qual : Str} {st : Stmt} {c f : Addr} {fd : FuncData} (F : FunC K x qual st c f fd) : Fun K x qual st f fd := by
  obtain ⟨oc, od, kV, doc, pm, an, ct, osl, h1, h2, h3⟩ := F.ex
  exact ⟨⟨oc, od, kV, doc, pm, an, .ref c, ct, osl, h1, h2, h3⟩, F.kp⟩
theorem fun_okC {x qual : Str} {st : Stmt} {c f : Addr} {fd : FuncData} {N ps : List Str} {k n np : Nat} {g : SF} (F : FunC G.K x qual st c f fd) (S : FnScope N ps (defScope st)) (hn : N.length = n) (hp : ps.length = np)
    (hbody : ∀ (A : Around) (outer : List Env) (s : Shared) (H : Hp) (E : XK), Room k (A.deeper (envOfC qual (defScope st) s.heap.objs.size f (.ref c))) →
      DSs (cxOf (L2.CX P w) P w G.K mg base N qual (defScope st) f (.ref c) A outer s H E) G (fun c d _ H => E c d H) (defBody st) g) :
    FnOk P w G.K mg base (L2.CX P w) (k + 1) f fd ps (spD G np (callF n np g)) := by
  obtain ⟨oc, od, kV, doc, pm, an, ct, osl, rfl, lk, hcd⟩ := F.ex
  refine fn_of lk hcd S (fun vs H Q E h => h.1.trans hp.symm) fun A outer s H vs Q E hr h => ⟨_, (hbody A outer s H E hr).ps, ?_⟩
  obtain ⟨hl, W, ds, C, rv, st, q⟩ := h
  refine ⟨W, _, C, RepS.start (N := N) rv, st, ?_⟩
  unfold callF at q
  rw [if_pos (rv.length.trans hl), ← hn] at q
  cases e : g (ds.map some ++ List.replicate (N.length - ds.length) none) C with
  | nxt s' C' => rw [e] at q; exact fun W' σ' H' t st' _ => q W' .non H' t st' .non
  | ret d C' => rw [e] at q; exact fun W' v H' t st' r => q W' v H' t st' r
  | err c s' C' => rw [e] at q; exact fun W' σ' H' t st' _ => q W' H' t st'
  | brk s' C' => rw [e] at q; exact q.elim
  | cnt s' C' => rw [e] at q; exact q.elim
  | no => rw [e] at q; exact q.elim
theorem func_mk {x qual : Str} {st : Stmt} {f c : Addr} {oc : Value} {od an : Option Addr} {osl : Array (Option Value)} {kV doc pm ct : Value} (l : K.lookup f = some ⟨oc, od, .func (PySem.W.fnOf x qual (defArgs st) (defBody st) (defScope st) .none kV doc pm an (.ref c) ct), osl⟩)
    (h : PySem.W.codeIn K (.ref c) qual = true) (k : PySem.W.keepIn K (.ref f) = true) : FunC K x qual st c f (PySem.W.fnOf x qual (defArgs st) (defBody st) (defScope st) .none kV doc pm an (.ref c) ct) := ⟨⟨oc, od, kV, doc, pm, an, ct, osl, rfl, l, h⟩, k⟩
end
/-- the law's end, with tables -/
theorem law_walkT {l : PySem.W.OpenLaw} {q : Program} {loose : List Str} {XP : (Str → Option Value) → Heap → Prop} {YP : World → Heap → Prop} {d : DefRec} {K : Params → PySem.W.Frag} {k : Nat} {x : Str} (hn : l.most = some 63) (hdf : d.params.defaults = []) (hr : Room k callerA)
    (hY : ∀ (w : World) (h : Heap), YP w h → (K w.params).In h)
    (F : ∀ (w : World) (mg : Str → Option Value) (fa : Addr) (h : Heap), YP w h → (K w.params).In h → h.Ns mainGlobals mg → mg d.name = some (.ref fa) →
      ∃ (fd : FuncData) (cs : List (Addr × Addr × Str)), (∀ p ∈ cs, h.get? p.2.1 = some (PySem.W.tabObj #[])) ∧ (∀ p ∈ cs, (K w.params).lookup p.2.1 = none) ∧ (∀ p ∈ cs, PySem.W.codeHdIn (K w.params) p.1 p.2.1 = true) ∧ (∀ (s : Shared) (u : Value), BindsTo s fd ⟨[u], []⟩ [(x, u)]) ∧
        ∀ base : Heap, (K w.params).In base → base.Ns mainGlobals mg → (∀ p ∈ cs, LamX.TabB base mg p.1 p.2.1) → FnOk l.prog w (K w.params) mg base (L2.CX l.prog w) k fa fd [x] (spLaw (K w.params) (cs.map (·.2)))) :
    PySem.W.WalkO q loose XP YP l.row.toRowW d [] (fun f vs => PySem.call f vs) := by
  refine LamX.walk_ofTs (n := 63) (k := k) (x := x) (CX := fun w => L2.CX l.prog w) hn (by decide) hdf hr hY (fun w mg fa h Y KX G hm => ?_) fun _ _ _ _ _ z => cx_none z
  obtain ⟨fd, cs, h1, h2, h3, h4, h5⟩ := F w mg fa h Y KX G hm
  refine ⟨fd, cs.map fun p => (p.1, p.2.1), spLaw (K w.params) (cs.map (·.2)), ?_, ?_, ?_, h4, ?_, ?_⟩
  · intro p hp
    obtain ⟨q, hq, rfl⟩ := List.mem_map.mp hp
    exact h1 q hq
  · intro p hp
    obtain ⟨q, hq, rfl⟩ := List.mem_map.mp hp
    exact h2 q hq
  · intro p hp
    obtain ⟨q, hq, rfl⟩ := List.mem_map.mp hp
    exact PySem.W.codeHd_of_K KX (h3 q hq)
  · intro H a ns hl _ ht hS
    refine ⟨a, ns, rfl, hS, hl, fun p hp => ?_, fun _ => rfl⟩
    obtain ⟨q, hq, rfl⟩ := List.mem_map.mp hp
    exact ht (q.1, q.2.1) (List.mem_map.mpr ⟨q, hq, rfl⟩)
  · intro base hb hns hT
    exact h5 base hb hns fun p hp => hT (p.1, p.2.1) (List.mem_map.mpr ⟨p, hp, rfl⟩)
end DL

set_option Elab.async false
set_option linter.all false
set_option maxRecDepth 100000
set_option autoImplicit false
namespace DL
open PySem PySem.Spec PyProof.Rows L2
section
variable {G : Glo} {X : Cx}
/-- tuple(list) -/
def bTuple (xs : List D) (C : Cells) : Res D := match xs with
  | [d] => (match lstOf C d with | some l => .ok (.tup l) C | none => .no)
  | _ => .no
theorem oa_tuple : OpA G (fun xs H Q => ∃ p ys, xs = [.ref p] ∧ ((SqL G.K H p ys ∧ ∀ l, H l = none → Q (.ref l) (upd H l (.tup ys))) ∨ (SqT G.K H p ys ∧ Q (.ref p) H))) bTuple := fun Wx σ W C H xs vs Q st rx q => by
  unfold bTuple at q
  split at q
  · obtain ⟨v, rfl, r⟩ := rx.one
    split at q
    · rename_i l e
      obtain ⟨a, us, rfl, h1, h2⟩ := lstOf_ok st r e
      exact ⟨a, us, rfl, .inl ⟨h1, new_tup st h2 q⟩⟩
    · exact q.elim
  · exact q.elim
end
/-! ### isinstance(x, (A, B, ..)) of an exception, of None -/
def rIsXT (K : PySem.W.Frag) : List V → Hp → VK → Prop := fun xs H Q => ∃ (a D tp : Addr) (cs : List V) (us : List Value) (b : Bool), xs = [.ref a, .ref tp] ∧ H a = some (ExcV a (.ref D) none) ∧ H tp = some (.tup cs) ∧ Paired ClsV cs us ∧ ExcC K D ∧ PySem.W.kitAny K (.ref D) us = some b ∧ Q (.bl b) H
theorem call_isXT {X : Cx} : CallR X (.builtin "isinstance") (rIsXT X.K) := by
  intro pins s σ H xs us Q I r h
  obtain ⟨a, D, tp, cs, ws, b, rfl, ha, hT, k, C, e, q⟩ := h
  obtain ⟨u1, u2, rfl, r1, r2⟩ := vals2 r
  cases r1
  cases (show u2 = Value.ref tp from r2)
  obtain ⟨⟨oe, hget, h1, h2, vs, hv⟩, _, _⟩ := (show ObjOk X.prog X.w H s.heap a (ExcV a (.ref D) none) from I.hok a _ ha)
  have J : PySem.W.InstAt s.heap a oe D none := by
    obtain ⟨oc, od, oda, osl⟩ := oe
    dsimp only at h1 h2 hv
    subst h1 h2 hv
    exact ⟨hget, rfl, rfl, trivial⟩
  obtain ⟨_, its, rv, o, g1, g2, n, g3⟩ := (show ObjOk X.prog X.w H s.heap tp (.tup cs) from I.hok tp _ hT)
  have e3 := ClsV.all k rv
  subst e3
  obtain ⟨oc, od, dt, sl⟩ := o
  simp only at g2 g3
  subst g2 g3
  exact PySem.W.kia_tup (PySem.W.handS_kitx_exc C.hg C.hk C.hs C.hd C.ha C.hn C.ht C.hm) I.kIn J g1 e (fun z => nomatch z) fun tk => ⟨.bl b, H, I.tok tk, rfl, q⟩
/-- names of classes -/
inductive ClsE (X : Cx) : List Expr → List V → Prop where
  | nil : ClsE X [] []
  | cons {e : Expr} {es : List Expr} {v : V} {vs : List V} (h : PE X e (tC v)) (hs : starEach (e :: es) X.env = (false, eval e X.env) :: starEach es X.env) (t : ClsE X es vs) : ClsE X (e :: es) (v :: vs)
theorem ClsE.pa {X : Cx} : ∀ {es : List Expr} {vs : List V}, ClsE X es vs → PA X es (fun σ H Q => Q vs H)
  | _, _, .nil => pa_nil
  | _, _, .cons h hs t => by
    have p := pa_cons h t.pa hs
    exact PA.weak p fun σ H Q q => q
def anyT (tb : ITab) (v : Nat) : List Nat → Option Bool
  | [] => some false
  | t :: r => match isT tb t v, anyT tb v r with
    | some b, some c => some (b || c)
    | _, _ => none
theorem anyT_ok {G : Glo} {tb : ITab} (kf : KitF G tb) {v : Nat} : ∀ {ts : List Nat} {b : Bool}, anyT tb v ts = some b → PySem.W.kitAny G.K (kvOf G v) (ts.map (kvOf G)) = some b
  | [], _, h => by cases h; rfl
  | t :: r, b, h => by
    unfold anyT at h
    split at h
    · rename_i b1 c1 e1 e2
      cases h
      refine kitAny_cons (isT_ok kf e1) (fun hb => ?_) (fun hb => by rw [hb]; rfl)
      rw [hb, Bool.false_or]; exact anyT_ok kf e2
    · cases h
def eIsiXT (T : Tab) (tb : ITab) (cs : List Nat) (ts : List Nat) (f : EF) : EF := fun s C => (f s C).bind fun x C => match x with
  | .opq c _ => if c ∈ cs then (match anyT tb (10 + c) ts with | some b => .ok (.bl b) C | none => .no) else .no
  | x => (match knd C x with
    | some v => if v < 10 + T.ncl then (match anyT tb v ts with | some b => .ok (.bl b) C | none => .no) else .no
    | none => .no)
theorem de_isiXT {X : Cx} {G : Glo} {Wx : WX} {a : Expr} {fa : EF} {p pos tpos : Pos} {k : Nat} {tb : ITab} {es : List Expr} {vs : List V} {ts cs : List Nat} (hk : X.K = G.K) (cf : CF G) (kf : KitF G tb) (ef : ExF G cs) (hT : Paired ClsV vs (ts.map (kvOf G))) (hc : ClsE X es vs) (hz : vs.length ≤ mxl) (ha : DE X G Wx a fa) (hg : Gl X "isinstance") (hm : X.mg "isinstance" = none)
    (hpl : (backTo pos (starEach [.Tuple es k tpos] X.env)).any (·.1) = false := by rfl) (he : starEach [a, .Tuple es k tpos] X.env = (false, eval a X.env) :: starEach [.Tuple es k tpos] X.env := by rfl) (he2 : starEach [.Tuple es k tpos] X.env = (false, eval (.Tuple es k tpos) X.env) :: starEach [] X.env := by rfl) :
    DE X G Wx (.Call (.Name "isinstance" p) [a, .Tuple es k tpos] [] pos) (eIsiXT G.T tb cs ts fa) :=
  ⟨PE.weak (pe_callB (CallR.or call_isiT call_isXT) hg hm (by decide +kernel) (pa_cons ha.pe (pa_cons (pe_tup hc.pa) pa_nil he2) he) (by decide) (by decide) he hpl) fun σ H Q ⟨W, sl, C, rs, st, q⟩ => ⟨W, sl, C, rs, st, q.bind fun y C1 W1 v H1 _ t1 st1 rx q1 => ⟨by rw [← mxl_eq]; exact hz, fun tp hp => by
    obtain ⟨st2, t2, _⟩ := fr_out (o := .tup vs) st1 hp
    split at q1
    · rename_i c _ _
      split at q1
      · rename_i hc
        split at q1
        · rename_i bb eb
          obtain ⟨a', us, rfl, h1, _⟩ := rx.opq_
          rw [ef.oq c hc] at h1
          refine .inr ⟨a', G.cls c, tp, vs, _, bb, rfl, st2.F _ _ h1, upd_same, hT, by rw [hk]; exact ef.ex c hc, ?_, q1 W1 _ _ t2 st2 .bl⟩
          have := anyT_ok kf eb
          rw [show kvOf G (10 + c) = .ref (G.cls c) from by unfold kvOf; rw [if_neg (show ¬ 10 + c < 10 by omega), show 10 + c - 10 = c by omega]] at this
          rw [hk]; exact this
        · exact q1.elim
      · exact q1.elim
    · split at q1
      · rename_i n en
        split at q1
        · rename_i hn
          split at q1
          · rename_i bb eb
            exact .inl ⟨v, tp, vs, _, _, bb, rfl, upd_same, hT, by rw [hk]; exact knd_ok cf st2 rx en hn, by rw [hk]; exact anyT_ok kf eb, q1 W1 _ _ t2 st2 .bl⟩
          · exact q1.elim
        · exact q1.elim
      · exact q1.elim⟩⟩⟩
end DL

set_option Elab.async false
set_option linter.all false
set_option maxRecDepth 100000
set_option autoImplicit false
set_option maxHeartbeats 2000000
/-! walks over the values and the pairs of a dict with tuple keys -/
namespace L2
open PySem PySem.Spec PyProof.Rows
section
variable {X : Cx} {pins : List (Addr × Obj)} {σ : St} {H : Hp} {s : Shared} {d : Addr} {o : Obj}
theorem Inv.frzT2 {kvs : List (List Key × V)} (I : Inv X pins σ H s) (h : H d = some (.frz o (.dT kvs))) :
    (d == sysModules) = false ∧ s.heap.get? d = some o ∧ o.ExactDict ∧ ∃ (es : Array DictEntry) (ep : Nat), o.data = .dict es ep ∧ es.size = kvs.length ∧
      ∀ (i : Nat) (k : List Key) (v : V), kvs[i]? = some (k, v) → ∃ (en : DictEntry) (q : Addr), es[i]? = some en ∧ en.key = .ref q ∧ H q = some (.tup (k.map kV)) ∧ RelV v en.val := by
  obtain ⟨hd, z, hs, xs, pr, o', es, ep, ho, hx, hdt, he, _⟩ := I.hok d _ h
  rw [hd] at ho
  cases ho
  refine ⟨hs, hd, hx, es, ep, hdt, ?_, fun i k v e => ?_⟩
  · have l1 : es.size = xs.length := size_of_entries he
    have l2 : kvs.length = xs.length := Paired.length pr
    omega
  · obtain ⟨b, hb, e1, e2, e3⟩ := paired_get pr e
    have q := entry_at he i
    rw [hb] at q
    exact ⟨_, b.2.1, q, rfl, e2, e3⟩
end
/-- the values of the locked dict at d -/
def ItdT (d : Addr) (o : Obj) (kvs : List (List Key × V)) : It :=
  ⟨fun i H => H d = some (.frz o (.dT kvs)) ∧ i < kvs.length, fun i H x H' => H' = H ∧ ∃ k, kvs[i]? = some (k, x), fun i H => H d = some (.frz o (.dT kvs)) ∧ kvs.length ≤ i⟩
/-- its pairs, each a new tuple of the key's own tuple and the value -/
def ItiT (d : Addr) (o : Obj) (kvs : List (List Key × V)) : It :=
  ⟨fun i H => H d = some (.frz o (.dT kvs)) ∧ i < kvs.length, fun i H x H' => ∃ T k v q, kvs[i]? = some (k, v) ∧ x = .ref T ∧ H T = none ∧ H q = some (.tup (k.map kV)) ∧ H' = upd H T (.tup [.ref q, v]), fun i H => H d = some (.frz o (.dT kvs)) ∧ kvs.length ≤ i⟩
section
variable {P : Program} {w : World} {K : PySem.W.Frag} {tg : Expr} {d : Addr} {o : Obj} {es : Array DictEntry} {ep : Nat}
theorem turn_valsT {kvs : List (List Key × V)} (it : Addr) (hod : o.data = .dict es ep) : Turn P w K tg (ItdT d o kvs) [it] it (fun i h => h.get? it = some (DVw.valOb d i kvs.length ep) ∧ it ≠ d) where
  mem := by simp
  obj := fun i h st b hb => by
    have e : b = it := by simpa using hb
    subst e
    exact ⟨_, st.1, fun v z => nomatch z⟩
  keep := fun i h h' st k => ⟨k it (by simp) _ st.1, st.2⟩
  item := by
    intro X hP hw hK hc i pins s σ H E I hf st hg
    subst hP hw hK
    obtain ⟨hd, hi⟩ := hg
    obtain ⟨f0, f1, f2, f3, f4, f5⟩ := hf it (by simp)
    obtain ⟨hs, hgd, hx, es', ep', hdt, hsz, ent⟩ := I.frzT2 hd
    obtain ⟨rfl, rfl⟩ := dict_ep hod hdt
    obtain ⟨⟨k, v⟩, hkv⟩ : ∃ p, kvs[i]? = some p := ⟨kvs[i], List.getElem?_eq_getElem hi⟩
    obtain ⟨en, q, hen, hkey, hq, rv⟩ := ent i k v hkv
    refine DVw.val_item st.1 hgd hdt hsz hen fun h' st' sb => ?_
    have I1 : Inv X pins σ H { s with heap := h' } := I.turned (t' := s.toks) (fun b ob hb e => (sb.2 b hb).trans e) f0 f1 f3 f4 f5
    exact ⟨en.val, rfl, go_of (s := { s with heap := h' }) st' rfl rfl (by decide) ⟨v, H, I1, rv, ⟨rfl, k, hkv⟩, ⟨st', st.2⟩, fun b hb => (hf b hb).1⟩⟩
  done := by
    intro X hP hw hK hc i pins s σ H E I hf st hg
    subst hP hw hK
    obtain ⟨hd, hi⟩ := hg
    obtain ⟨f0, f1, f2, f3, f4, f5⟩ := hf it (by simp)
    obtain ⟨hs, hgd, hx, es', ep', hdt, hsz, ent⟩ := I.frzT2 hd
    obtain ⟨rfl, rfl⟩ := dict_ep hod hdt
    exact DVw.val_end (I.ok.hd hc) st.1 hgd hdt hsz (Array.getElem?_eq_none (by omega)) fun h' eb => ⟨rfl, I.turned (t' := s.toks) (fun b ob hb e => eb b ob hb e) f0 f1 f3 f4 f5⟩
  self := fun A i s Q E st h => wpAny_pyIter_valiter (i := i) (n := kvs.length) (ep := ep) (d := d) ⟨_, st.1, rfl, rfl⟩ h
theorem turn_itemsT {kvs : List (List Key × V)} {elts : List Expr} {kk : Nat} {tpos : Pos} (it : Addr) (hod : o.data = .dict es ep) :
    Turn P w K (.Tuple elts kk tpos) (ItiT d o kvs) [it] it (fun i h => ∃ ok ov, h.get? it = some (DVw.itmOb d .none i kvs.length ep ok ov)) where
  mem := by simp
  obj := fun i h st b hb => by
    have e : b = it := by simpa using hb
    subst e
    obtain ⟨ok, ov, e⟩ := st
    exact ⟨_, e, fun v z => nomatch z⟩
  keep := fun i h h' st k => let ⟨ok, ov, e⟩ := st; ⟨ok, ov, k it (by simp) _ e⟩
  item := by
    intro X hP hw hK hc i pins s σ H E I hf st hg
    subst hP hw hK
    obtain ⟨hd, hi⟩ := hg
    obtain ⟨hs, hgd, hx, es', ep', hdt, hsz, ent⟩ := I.frzT2 hd
    obtain ⟨rfl, rfl⟩ := dict_ep hod hdt
    obtain ⟨⟨k, v⟩, hkv⟩ : ∃ p, kvs[i]? = some p := ⟨kvs[i], List.getElem?_eq_getElem hi⟩
    obtain ⟨en, q, hen, hkey, hq, rv⟩ := ent i k v hkv
    obtain ⟨ok, ov, he⟩ := st
    have hlt : it < s.heap.objs.size := Heap.lt_size he
    refine DVw.itm_item he hgd hdt hsz hen fun h' ho hT hz hk => ?_
    refine ⟨_, rfl, wpAny_letOwnedTupleGo_items (s := { s with heap := h' }) ho fun h'' he' sb => ?_⟩
    have hT2 : h''.get? s.heap.objs.size = some { cls := .type "tuple", data := .seq #[en.key, en.val] } := (sb.2 _ (Nat.ne_of_gt hlt)).trans hT
    rw [hkey] at hT2
    have new : ObjOk X.prog X.w (upd H s.heap.objs.size (.tup [.ref q, v])) h'' s.heap.objs.size (.tup [.ref q, v]) :=
      ⟨by show 2 ≤ sizeLine; decide, [.ref q, en.val], .cons rfl (.cons rv .nil), ⟨_, hT2, rfl, _, rfl⟩⟩
    have I1 : Inv X pins σ (upd H s.heap.objs.size (.tup [.ref q, v])) { s with heap := h'' } :=
      I.turnedNew (t' := s.toks) (ch := [it]) (fun b ob hb e => (sb.2 b (by simpa using hb)).trans (hk b ob (by simpa using hb) e)) hf (Nat.le_refl _) new
    refine ⟨.ref s.heap.objs.size, _, I1, rfl, ⟨_, k, v, q, hkv, rfl, I.hok.fresh (Nat.le_refl _), hq, rfl⟩, ⟨en.key, en.val, he'⟩, fun b hb => ?_⟩
    have e : b = it := by simpa using hb
    rw [e, upd_ne (Nat.ne_of_lt hlt)]
    exact (hf it (by simp)).1
  done := by
    intro X hP hw hK hc i pins s σ H E I hf st hg
    subst hP hw hK
    obtain ⟨hd, hi⟩ := hg
    obtain ⟨f0, f1, f2, f3, f4, f5⟩ := hf it (by simp)
    obtain ⟨hs, hgd, hx, es', ep', hdt, hsz, ent⟩ := I.frzT2 hd
    obtain ⟨rfl, rfl⟩ := dict_ep hod hdt
    obtain ⟨ok, ov, he⟩ := st
    exact DVw.itm_end (I.ok.hd hc) he hgd hdt hsz (Array.getElem?_eq_none (by omega)) fun h' eb => ⟨rfl, I.turned (t' := s.toks) (fun b ob hb e => eb b ob hb e) f0 f1 f3 f4 f5⟩
  self := fun A i s Q E st h => let ⟨_, _, e⟩ := st; PySem.W.kcp_self e h
end
section
variable {prog : Program} {w : World}
theorem meets_valsR (d : Addr) (hd : (d == sysModules) = false) : MeetsIn prog w (Builtin.«dict.values» ⟨[.ref d], []⟩) (fun _ R s => s.TypeIs (.ref d) "dict" ∧
      R (.ok (.ret (.ref s.heap.objs.size))) { s with heap := s.heap.push { cls := .type "dict_values", data := .fields #[.ref d] } }) :=
  .of_wp fun A R s ⟨hT, h⟩ => by
    refine wpAny_bind ?_
    unfold Builtin.Dict.noArgs
    refine wpAny_bind (wpAny_notOrdered_dict hT ?_)
    show wpAny _ _ (pure d) _ _ s
    refine wpAny_pure ?_
    show wpAny _ _ (Builtin.Dict.showsAll d >>= _) _ _ s
    unfold Builtin.Dict.showsAll
    rw [if_neg (by rw [hd]; exact Bool.false_ne_true)]
    refine wpAny_bind (wpAny_pure ?_)
    exact wpAny_bind (wpAny_newObj_type (wpAny_pure ⟨_, rfl, h⟩))
theorem meets_itmsR (d : Addr) (hd : (d == sysModules) = false) : MeetsIn prog w (Builtin.«dict.items» ⟨[.ref d], []⟩) (fun _ R s => s.TypeIs (.ref d) "dict" ∧
      R (.ok (.ret (.ref s.heap.objs.size))) { s with heap := s.heap.push { cls := .type "dict_items", data := .fields #[.ref d] } }) :=
  .of_wp fun A R s ⟨hT, h⟩ => by
    unfold Builtin.«dict.items»
    refine wpAny_bind ?_
    unfold Builtin.Dict.noArgs
    refine wpAny_bind (wpAny_notOrdered_dict hT ?_)
    show wpAny _ _ (pure d) _ _ s
    refine wpAny_pure ?_
    show wpAny _ _ (Builtin.Dict.showsAll d >>= _) _ _ s
    unfold Builtin.Dict.showsAll
    rw [if_neg (by rw [hd]; exact Bool.false_ne_true)]
    refine wpAny_bind (wpAny_pure ?_)
    exact wpAny_bind (wpAny_newObj_type (wpAny_pure ⟨_, rfl, h⟩))
end
/-- the dict is locked -/
def iValsT (td : TE) : TI := fun σ H R => td σ H fun x H1 => ∃ d o kvs, x = .ref d ∧ H1 d = some (.frz o (.dT kvs)) ∧ R (ItdT d o kvs) H1
def iItemsT (td : TE) : TI := fun σ H R => td σ H fun x H1 => ∃ d o kvs, x = .ref d ∧ H1 d = some (.frz o (.dT kvs)) ∧ R (ItiT d o kvs) H1
section
variable {X : Cx} {tg e : Expr} {td : TE} {apos cpos : Pos}
theorem pi_valuesT (he : PE X e td) (hbase : attributeBase e "values" X.env (eval e X.env) = eval e X.env := by rfl) (hline : (apos.endLine == cpos.line) = true := by rfl) : PI X tg (.Call (.Attribute e "values" apos) [] [] cpos) (iValsT td) := by
  refine ⟨fun pins s σ H R I h => ?_⟩
  refine wpAny_Call_method (T := "dict") (id := "dict.values") hbase rfl hline F.plainAttrs_dict F.slot_dict_values F.type_dict_values (thn (he.run pins s σ H _ I h) fun u s1 ⟨x, H1, I1, rx, d, o, kvs, ex, hd, q⟩ => ?_)
  subst ex
  obtain rfl : u = Value.ref d := rx
  obtain ⟨hs, hgd, hx, es, ep, hdt, hsz, ent⟩ := I1.frzT2 hd
  have hT : s1.TypeIs (.ref d) "dict" := ⟨o, hgd, hx.1⟩
  refine ⟨hT, fun a e => by cases e; exact ⟨o, hgd, hx.2.1⟩, ?_⟩
  have I2 : Inv X pins σ H1 { s1 with heap := s1.heap.push { cls := .type "dict_values", data := .fields #[.ref d] } } := I1.kept (t' := s1.toks) fun b ob q => Heap.get?_push_of_some _ q
  have hlt : d < s1.heap.objs.size := Heap.lt_size hgd
  have fin : wpAny (model X.prog X.w) X.A (pyIter (.ref s1.heap.objs.size)) (PIE X pins σ tg R) X.xe { s1 with heap := s1.heap.push { cls := .type "dict_values", data := .fields #[.ref d] } } := by
    refine DSub.iter_vals (a := d) (Heap.get?_push_size _ rfl) (Heap.get?_push_of_some _ hgd) hdt (pi_one (tk := s1.toks) I2 _ (turn_valsT _ hdt) ⟨?_, ?_⟩ q)
    · rw [← hsz]; exact Heap.get?_push_size _ rfl
    · refine Nat.ne_of_gt ?_
      rw [Heap.size_push]; exact Nat.lt_succ_of_lt hlt
  show wpAny _ _ (callWith cpos (.builtin "dict.values") [.ref d] [] []) _ X.xe s1
  exact method_meetsIn F.slot_dict_values F.entry_dict_values rfl (PySem.evalArgs_none ⟨rfl, hT, F.args_dict_values_1 _, _, meets_valsR d hs, hT, fin⟩)
theorem pi_itemsT {elts : List Expr} {kk : Nat} {tpos : Pos} (he : PE X e td) (hbase : attributeBase e "items" X.env (eval e X.env) = eval e X.env := by rfl) (hline : (apos.endLine == cpos.line) = true := by rfl) :
    PI X (.Tuple elts kk tpos) (.Call (.Attribute e "items" apos) [] [] cpos) (iItemsT td) := by
  refine ⟨fun pins s σ H R I h => ?_⟩
  refine wpAny_Call_method (T := "dict") (id := "dict.items") hbase rfl hline F.plainAttrs_dict F.slot_dict_items F.type_dict_items (thn (he.run pins s σ H _ I h) fun u s1 ⟨x, H1, I1, rx, d, o, kvs, ex, hd, q⟩ => ?_)
  subst ex
  obtain rfl : u = Value.ref d := rx
  obtain ⟨hs, hgd, hx, es, ep, hdt, hsz, ent⟩ := I1.frzT2 hd
  have hT : s1.TypeIs (.ref d) "dict" := ⟨o, hgd, hx.1⟩
  refine ⟨hT, fun a e => by cases e; exact ⟨o, hgd, hx.2.1⟩, ?_⟩
  have I2 : Inv X pins σ H1 { s1 with heap := s1.heap.push { cls := .type "dict_items", data := .fields #[.ref d] } } := I1.kept (t' := s1.toks) fun b ob q => Heap.get?_push_of_some _ q
  have fin : wpAny (model X.prog X.w) X.A (pyIter (.ref s1.heap.objs.size)) (PIE X pins σ (.Tuple elts kk tpos) R) X.xe { s1 with heap := s1.heap.push { cls := .type "dict_items", data := .fields #[.ref d] } } := by
    refine DSub.iter_itms (a := d) (Heap.get?_push_size _ rfl) (Heap.get?_push_of_some _ hgd) hdt (pi_one (tk := s1.toks) I2 _ (turn_itemsT _ hdt) ⟨.none, .none, ?_⟩ q)
    rw [← hsz]; exact Heap.get?_push_size _ rfl
  show wpAny _ _ (callWith cpos (.builtin "dict.items") [.ref d] [] []) _ X.xe s1
  exact method_meetsIn F.slot_dict_items F.entry_dict_items rfl (PySem.evalArgs_none ⟨rfl, hT, F.args_dict_items_1 _, _, meets_itmsR d hs, hT, fin⟩)
end
end L2

set_option Elab.async false
set_option linter.all false
set_option maxRecDepth 100000
set_option autoImplicit false
namespace DL
open PySem PySem.Spec PyProof.Rows L2
open Classical
/-! ### walks over a dict with tuple keys, the dict locked meanwhile -/
/-- a cell is laid back -/
def Cells.put (C : Cells) (n : Nat) (o : O) : Cells := ⟨C.nx, fun m => if m = n ∧ n < C.nx then some o else C.get m, fun m hm => by
  by_cases e : m = n ∧ n < C.nx
  · omega
  · rw [if_neg e]; exact C.wf m hm⟩
section
variable {C : Cells} {n m : Nat} {o : O}
@[simp] theorem nx_put : (C.put n o).nx = C.nx := rfl
theorem get_put (h : n < C.nx) : (C.put n o).get n = some o := if_pos ⟨rfl, h⟩
theorem get_put_ne (h : m ≠ n) : (C.put n o).get m = C.get m := if_neg fun z => h z.1
theorem del_put {o : O} (h : C.get n = some o) : (C.del n).put n o = C := Cells.ext' rfl fun m => by
  by_cases e : m = n
  · subst e; rw [get_put (C := C.del m) (show m < C.nx from Cells.lt h), h]
  · rw [get_put_ne e, get_del_ne e]
end
section
variable {G : Glo} {W W2 : Wd} {C C2 : Cells} {H H2 : Hp} {n : Nat} {a : Addr} {o : O} {u : HO} {od : Obj}
theorem lk_in (st : StR G W C H) (hn : C.get n = some o) (ha : W.cm n = some a) (hh : H a = some u) : StR G W (C.del n) (upd H a (.frz od u)) ∧ ¬ Own W (C.del n) a := by
  obtain ⟨b, hb, h1, h2, h3, h4⟩ := st.cells n o hn
  rw [ha] at h1; cases h1
  rw [hh] at h3; cases h3
  have nF : ∀ x v, W.F x = some v → x ≠ a := fun x v h e => by rw [e, h2] at h; cases h
  have got : ∀ m o2, (C.del n).get m = some o2 → m ≠ n ∧ C.get m = some o2 := fun m o2 h => by
    by_cases e : m = n
    · subst e; rw [get_del] at h; cases h
    · rw [get_del_ne e] at h; exact ⟨e, h⟩
  refine ⟨⟨st.lnk, st.tb.put hh h4.pla, fun x v h => by rw [upd_ne (nF x v h)]; exact st.F x v h, fun m o2 h => ?_, fun m k x o1 o2 k1 k2 k3 k4 => st.inj m k x _ _ (got m o1 k1).2 (got k o2 k2).2 k3 k4, st.nx⟩, fun z => ?_⟩
  · obtain ⟨e, h⟩ := got m o2 h
    obtain ⟨x, hx, k1, k2, k3, k4⟩ := st.cells m o2 h
    have : x ≠ a := fun e2 => e (st.inj m n a o2 o h hn (e2 ▸ k1) ha)
    exact ⟨x, hx, k1, k2, by rw [upd_ne this]; exact k3, k4⟩
  · rcases z with ⟨v, z⟩ | ⟨m, o2, z1, z2⟩
    · exact nF a v z rfl
    · obtain ⟨e, z1⟩ := got m o2 z1
      exact e (st.inj m n a o2 o z1 hn z2 ha)
theorem lk_out (st : StR G W C H) (hn : C.get n = some o) (ha : W.cm n = some a) (hh : H a = some u) (t : Step W (C.del n) (upd H a (.frz od u)) W2 C2 H2) (st2 : StR G W2 C2 H2) :
    H2 a = some (.frz od u) ∧ StR G W2 (C2.put n o) (upd H2 a u) ∧ Step W C H W2 (C2.put n o) (upd H2 a u) := by
  obtain ⟨st1, nO⟩ := lk_in (od := od) st hn ha hh
  obtain ⟨b, hb, h1, h2, h3, h4⟩ := st.cells n o hn
  rw [ha] at h1; cases h1
  rw [hh] at h3; cases h3
  have pf : Pla (HO.frz od u) := ⟨fun _ z => (nomatch z), fun _ z => (nomatch z), fun _ z => (nomatch z)⟩
  obtain ⟨hf, n2⟩ := t.fr a _ upd_same pf nO
  have ha2 : W2.cm n = some a := t.le.cm n a ha
  have hlt : n < C2.nx := Nat.lt_of_lt_of_le (Cells.lt hn) t.nx
  have nF : ∀ x v, W2.F x = some v → x ≠ a := fun x v h e => n2 (e ▸ .inl ⟨v, h⟩)
  have F0 : W2.F a = none := by
    cases q : W2.F a with
    | none => rfl
    | some v => exact absurd rfl (nF a v q)
  have nc : ∀ m o2, C2.get m = some o2 → W2.cm m ≠ some a := fun m o2 h e => n2 (.inr ⟨m, o2, h, e⟩)
  have got : ∀ m o2, (C2.put n o).get m = some o2 → (m = n ∧ o2 = o) ∨ (m ≠ n ∧ C2.get m = some o2) := fun m o2 h => by
    by_cases e : m = n
    · subst e; rw [get_put hlt] at h; cases h; exact .inl ⟨rfl, rfl⟩
    · rw [get_put_ne e] at h; exact .inr ⟨e, h⟩
  refine ⟨hf, ⟨st2.lnk, st2.tb.put hf pf, fun x v h => by rw [upd_ne (nF x v h)]; exact st2.F x v h, fun m o2 h => ?_, fun m k x o1 o2 k1 k2 k3 k4 => ?_, st2.nx⟩, t.le, t.nx, fun x v h px nx => ?_⟩
  · rcases got m o2 h with ⟨rfl, rfl⟩ | ⟨e, h⟩
    · exact ⟨a, u, ha2, F0, upd_same, h4.up t.le⟩
    · obtain ⟨x, hx, k1, k2, k3, k4⟩ := st2.cells m o2 h
      have : x ≠ a := fun e2 => nc m o2 h (e2 ▸ k1)
      exact ⟨x, hx, k1, k2, by rw [upd_ne this]; exact k3, k4⟩
  · rcases got m o1 k1 with ⟨e, _⟩ | ⟨e, z1⟩
    · rcases got k o2 k2 with ⟨e2, _⟩ | ⟨e2, z2⟩
      · rw [e, e2]
      · rw [e, ha2] at k3; cases k3
        exact absurd k4 (nc k o2 z2)
    · rcases got k o2 k2 with ⟨e2, _⟩ | ⟨e2, z2⟩
      · rw [e2, ha2] at k4; cases k4
        exact absurd k3 (nc m o1 z1)
      · exact st2.inj m k x _ _ z1 z2 k3 k4
  · have ne : x ≠ a := fun e => nx (e ▸ .inr ⟨n, o, hn, ha⟩)
    have h' : upd H a (.frz od u) x = some v := by rw [upd_ne ne]; exact h
    have nO' : ¬ Own W (C.del n) x := fun z => nx (by
      rcases z with z | ⟨m, o2, z1, z2⟩
      · exact .inl z
      · by_cases e : m = n
        · subst e; rw [get_del] at z1; cases z1
        · rw [get_del_ne e] at z1; exact .inr ⟨m, o2, z1, z2⟩)
    obtain ⟨q1, q2⟩ := t.fr x v h' px nO'
    refine ⟨by rw [upd_ne ne]; exact q1, fun z => ?_⟩
    rcases z with z | ⟨m, o2, z1, z2⟩
    · exact q2 (.inl z)
    · rcases got m o2 z1 with ⟨rfl, _⟩ | ⟨e, z1⟩
      · rw [ha2] at z2; cases z2; exact ne rfl
      · exact q2 (.inr ⟨m, o2, z1, z2⟩)
/-- a tuple that stands in the heap becomes known -/
theorem fr_tup {q : Addr} {vs : List V} (st : StR G W C H) (hq : H q = some (.tup vs)) : ∃ W2, StR G W2 C H ∧ Step W C H W2 C H ∧ W2.F q = some (.tup vs) := by
  have le : W.le ⟨upd W.F q (.tup vs), W.cm⟩ := ⟨fun x v h => by
    show upd W.F q _ x = _
    by_cases e : x = q
    · subst e
      have := st.F x v h
      rw [hq] at this; cases this
      exact upd_same
    · rw [upd_ne e]; exact h, fun _ _ h => h⟩
  have tn : ∀ ps, HO.tup vs ≠ .tbl ps := fun _ z => (nomatch z)
  refine ⟨⟨upd W.F q (.tup vs), W.cm⟩, ⟨st.lnk.trans le, st.tb.kn hq tn le, fun x v h => ?_, fun m o2 h => ?_, st.inj, st.nx⟩, ⟨le, Nat.le_refl _, fun x v h px nx => ⟨h, fun z => ?_⟩⟩, upd_same⟩
  · have h' : upd W.F q (.tup vs) x = some v := h
    by_cases e : x = q
    · subst e; rw [upd_same] at h'; cases h'; exact hq
    · rw [upd_ne e] at h'; exact st.F x v h'
  · obtain ⟨x, hx, k1, k2, k3, k4⟩ := st.cells m o2 h
    have : x ≠ q := fun e => by
      rw [e, hq] at k3; cases k3
      exact k4.pla.2.2 _ rfl
    exact ⟨x, hx, k1, by show upd W.F q _ x = none; rw [upd_ne this]; exact k2, k3, k4.up le⟩
  · rcases z with ⟨v2, z⟩ | z
    · have z' : upd W.F q (.tup vs) x = some v2 := z
      by_cases e : x = q
      · subst e; rw [hq] at h; cases h; exact px.2.2 _ rfl
      · rw [upd_ne e] at z'; exact nx (.inl ⟨v2, z'⟩)
    · exact nx (.inr z)
end
def keyT (k : List Key) : D := .tup (k.map keyD)
theorem keyT_ok {G : Glo} {W : Wd} : ∀ k : List Key, RepVs G W (k.map keyD) (k.map kV)
  | [] => .nil
  | _ :: k => .cons (keyD_ok _) (keyT_ok k)
/-- what a walk yields -/
inductive Wk where | keys | vals | items
def Wk.ds : Wk → List (List Key × D) → List D
  | .keys, l => l.map fun p => keyT p.1
  | .vals, l => l.map fun p => p.2
  | .items, l => l.map fun p => .tup [keyT p.1, p.2]
theorem Wk.len (k : Wk) (l : List (List Key × D)) : (k.ds l).length = l.length := by cases k <;> simp [Wk.ds]
def Wk.it : Wk → Addr → Obj → List (List Key × V) → It
  | .keys => Itkt | .vals => ItdT | .items => ItiT
section
variable {G : Glo} {W : Wd} {C : Cells} {H : Hp} {a : Addr} {od : Obj} {l : List (List Key × D)} {m : List (List Key × V)}
theorem kvt_get : ∀ {l : List (List Key × D)} {m : List (List Key × V)} {i : Nat} {p : List Key × V}, RepKV G W l m → m[i]? = some p → ∃ d, l[i]? = some (p.1, d) ∧ RepV G W d p.2
  | _, _, _, _, .nil, h => by simp at h
  | _, _, 0, _, .cons (a := q) h t, e => by
    simp only [List.getElem?_cons_zero, Option.some.injEq] at e
    subst e
    exact ⟨q.2, by rw [← h.1]; rfl, h.2⟩
  | _, _, i + 1, _, .cons h t, e => by
    simp only [List.getElem?_cons_succ] at e ⊢
    exact kvt_get t e
theorem wlk_dT (k : Wk) (hd : H a = some (.frz od (.dT m))) (nO : ¬ Own W C a) (r : RepKV G W l m) : Wlk G (k.it a od m) W C H (k.ds l) := by
  have pf : Pla (HO.frz od (.dT m)) := ⟨fun _ z => (nomatch z), fun _ z => (nomatch z), fun _ z => (nomatch z)⟩
  have hl : l.length = m.length := Paired.length r
  refine ⟨fun i d e W' C' H' t st => ?_, fun W' C' H' t st => ?_⟩
  · have hi : i < m.length := by
      rw [← hl, ← k.len l]
      exact (List.getElem?_eq_some_iff.mp e).1
    have hd' := (t.fr a _ hd pf nO).1
    cases k with
    | keys =>
      refine ⟨⟨hd', hi⟩, fun x H2 y => ?_⟩
      obtain ⟨rfl, k, v, q, hk, rfl, hq⟩ := y
      obtain ⟨d', e', rd⟩ := kvt_get r hk
      have e : (l.map fun p => keyT p.1)[i]? = some d := e
      rw [List.getElem?_map, e'] at e
      cases e
      obtain ⟨W2, s2, t2, f2⟩ := fr_tup st hq
      exact ⟨W2, t2, s2, .tup f2 (keyT_ok _)⟩
    | vals =>
      refine ⟨⟨hd', hi⟩, fun x H2 y => ?_⟩
      obtain ⟨rfl, k, hk⟩ := y
      obtain ⟨d', e', rd⟩ := kvt_get r hk
      have e : (l.map fun p => p.2)[i]? = some d := e
      rw [List.getElem?_map, e'] at e
      cases e
      exact ⟨W', .refl, st, rd.up t.le⟩
    | items =>
      refine ⟨⟨hd', hi⟩, fun x H2 y => ?_⟩
      obtain ⟨T, k, v, q, hk, rfl, hT, hq, rfl⟩ := y
      obtain ⟨d', e', rd⟩ := kvt_get r hk
      have e : (l.map fun p => .tup [keyT p.1, p.2])[i]? = some d := e
      rw [List.getElem?_map, e'] at e
      cases e
      obtain ⟨W2, s2, t2, f2⟩ := fr_tup st hq
      obtain ⟨s3, t3⟩ := fr_fz (o := .tup [.ref q, v]) s2 hT
      refine ⟨_, t2.trans t3, s3, .tup (by show upd W2.F T _ T = _; exact upd_same) (.cons (.tup (t3.le.F _ _ f2) (keyT_ok _)) (.cons (((rd.up t.le).up t2.le).up t3.le) .nil))⟩
  · have hd' := (t.fr a _ hd pf nO).1
    cases k <;> exact ⟨hd', by rw [Wk.len, hl]; exact Nat.le_refl _⟩
end
section
variable {X : Cx} {G : Glo} {Wx : WX} {e c : Expr} {f : EF} {pos : Pos}
/-- the walk of a comprehension, its iterator at hand -/
theorem lc_body {t : TG} {gf : GF} {tch vs : List Nat} {tt : TF} {fe : EF} {fin : List D → Cells → Res D} (go : GOk G t gf tch) (ht : ∀ i ∈ tch, i ∈ vs)
    (hfin : ∀ (σ : L2.St) (W : Wd) (C : Cells) (H : Hp) (l : List D) (us : List V) (Dp : Addr) (Q : VK), StR G W C H → ¬ Own W C Dp → H Dp = some (.lst us) → RepVs G W l us →
      (∀ W1 C1 H1, StepX Dp W C H W1 C1 H1 → H1 = H → ∀ d v, StR G W1 C1 H1 → RepV G W1 d v → fin l C = .ok d C1 → Q v H1) → Q (.ref Dp) H)
    {σ : L2.St} {Q : VK} {sl : Sl} {J : It} {W1 : Wd} {C1 : Cells} {H1 : Hp} {ds ys : List D} {Ce : Cells} (rs : RepS G W1 sl σ) (st1 : StR G W1 C1 H1) (wk : Wlk G J W1 C1 H1 ds) (e2 : lcF gf tt fe vs ds sl C1 = .ok ys Ce) (hz : ds.length ≤ mxl)
    (q : Post G Wx σ (RepV G) W1 C1 H1 (fin ys Ce) Q) : tLc (fun _ _ R => R J H1) t (tTs G W0 tt) (tD G W0 fe) vs σ H1 Q := by
  intro Dp hD
  have t1 : Step W1 C1 H1 W1 C1 H1 := .refl
  obtain ⟨st2, t2, n2⟩ := fr_out (o := .lst []) st1 hD
  refine ⟨fun i m H => i ≤ ds.length ∧ m = ds.length - i ∧ ∃ W C acc us rest, StepX Dp W1 C1 (upd H1 Dp (.lst [])) W C H ∧ StR G W C H ∧ ¬ Own W C Dp ∧ H Dp = some (.lst us) ∧ RepVs G W acc us ∧ acc.length ≤ i ∧ lcF gf tt fe vs (ds.drop i) sl C = .ok rest Ce ∧ ys = acc ++ rest,
    ⟨ds.length, Nat.zero_le _, rfl, W1, C1, [], [], ys, ⟨.refl, Nat.le_refl _, fun a o _ h _ n => ⟨h, n⟩⟩, st2, n2, upd_same, .nil, Nat.zero_le _, by rw [List.drop_zero]; exact e2, rfl⟩, ?_⟩
  rintro i m H2 ⟨hi, rfl, W2, C2, acc, us, rest, t3, st3, n3, hD3, racc, hacc, erest, eys⟩
  have wk2 : ∀ {W' C' H'}, StepX Dp W1 C1 (upd H1 Dp (.lst [])) W' C' H' → Step W1 C1 H1 W' C' H' := fun s => (t2.x.trans s).st hD
  by_cases hlt : i < ds.length
  · have hd : ds[i]? = some ds[i] := List.getElem?_eq_getElem hlt
    have hdr : ds.drop i = ds[i] :: ds.drop (i + 1) := List.drop_eq_getElem_cons hlt
    obtain ⟨go_, y_⟩ := wk.item i _ hd W2 C2 H2 (wk2 t3) st3
    refine .inr ⟨go_, fun H => ∃ W C acc us rest', StepX Dp W1 C1 (upd H1 Dp (.lst [])) W C H ∧ StR G W C H ∧ ¬ Own W C Dp ∧ H Dp = some (.lst us) ∧ RepVs G W acc us ∧ acc.length ≤ i + 1 ∧ lcF gf tt fe vs (ds.drop (i + 1)) sl C = .ok rest' Ce ∧ ys = acc ++ rest', fun H' n => ⟨_, ?_, hlt, rfl, n⟩, fun x H4 y => ?_⟩
    · omega
    obtain ⟨W4, t4, st4, r4⟩ := y_ x H4 y
    rw [hdr] at erest
    unfold lcF at erest
    cases eg : gf ds[i] (wipeD sl vs) C2 with
    | none => rw [eg] at erest; cases erest
    | some s' =>
      rw [eg] at erest
      have hD4 := (t4.fr Dp _ hD3 pla_lst n3).1
      have n4 := (t4.fr Dp _ hD3 pla_lst n3).2
      refine go _ x (wipeD sl vs) s' (L2.wipe σ vs) W4 C2 H4 _ st4 r4 ((rs.up (t1.le.trans (t3.le.trans t4.le))).wipe vs) eg fun σ' rs' hw => ⟨?_, W4, s', C2, rs', st4, ?_⟩
      · rw [hw vs ht]
        have ww : ∀ us : List Nat, L2.wipe (L2.wipe σ vs) us = L2.wipe (L2.wipe σ vs) us := fun _ => rfl
        have : ∀ (ks : List Nat), (∀ k ∈ ks, k ∈ vs) → L2.wipe (L2.wipe σ vs) ks = L2.wipe σ vs := fun ks => by
          induction ks with
          | nil => intro _; rfl
          | cons k ks ih =>
            intro hk
            show (L2.wipe (L2.wipe σ vs) ks).set k none = _
            rw [ih fun z hz => hk z (List.mem_cons_of_mem _ hz)]
            have gone : ∀ (ms : List Nat), k ∈ ms → (L2.wipe σ ms).set k none = L2.wipe σ ms := fun ms => by
              induction ms with
              | nil => intro h; cases h
              | cons m ms ih2 =>
                intro h
                unfold L2.wipe
                by_cases e : m = k
                · subst e; rw [List.set_set]
                · rcases List.mem_cons.mp h with z | z
                  · exact absurd z.symm e
                  · rw [List.set_comm _ _ e, ih2 z]
            exact gone vs (hk k List.mem_cons_self)
        exact this vs fun _ h => h
      · cases et : tt s' C2 with
        | no => simp only [et] at erest; cases erest
        | err c C5 => simp only [et] at erest; cases erest
        | ok b C5 =>
          simp only [et] at erest
          intro W5 b' H5 t5 st5 eb
          subst eb
          have hD5 := (t5.fr Dp _ hD4 pla_lst n4).1
          have n5 := (t5.fr Dp _ hD4 pla_lst n4).2
          have tt5 := t3.trans (t4.trans t5).x
          cases b with
          | false =>
            rw [if_neg Bool.false_ne_true]
            exact ⟨W5, C5, acc, us, rest, tt5, st5, n5, hD5, racc.up (t4.trans t5).le, Nat.le_succ_of_le hacc, erest, eys⟩
          | true =>
            rw [if_pos rfl]
            refine ⟨W5, s', C5, rs'.up t5.le, st5, ?_⟩
            cases ef : fe s' C5 with
            | no => simp only [ef] at erest; cases erest
            | err c C6 => simp only [ef] at erest; cases erest
            | ok y C6 =>
              simp only [ef] at erest
              cases el : lcF gf tt fe vs (ds.drop (i + 1)) sl C6 with
              | no => rw [el] at erest; cases erest
              | err c C7 => rw [el] at erest; cases erest
              | ok ys' C7 =>
                rw [el] at erest
                cases erest
                intro W6 v6 H6 t6 st6 r6
                have hD6 := (t6.fr Dp _ hD5 pla_lst n5).1
                have n6 := (t6.fr Dp _ hD5 pla_lst n5).2
                refine ⟨us, hD6, ?_, W6, C6, acc ++ [y], us ++ [v6], ys', (tt5.trans t6.x).trans (stepX_set n6), fr_outset st6 n6 hD6 pla_lst, n6, upd_same, (racc.up ((t4.trans t5).trans t6).le).append (.cons r6 .nil), ?_, el, by rw [eys]; simp⟩
                · rw [← racc.length, ← mxl_eq]; omega
                · rw [List.length_append, List.length_singleton]; omega
  · have ei : i = ds.length := by omega
    subst ei
    rw [List.drop_length] at erest
    cases erest
    rw [List.append_nil] at eys
    subst eys
    refine .inl ⟨wk.stop W2 _ H2 (wk2 t3) st3, hfin σ W2 _ H2 _ us Dp Q st3 n3 hD3 racc fun W5 C5 H5 t5 e5 d v st5 r5 ef => ?_⟩
    rw [ef] at q
    exact q W5 v H5 (t1.trans ((t2.x.trans (t3.trans t5)).st hD)) st5 r5
/-- a comprehension over a dict with tuple keys: the dict is out of sight meanwhile -/
noncomputable def lcTG (k : Wk) (fo : EF) (tg : GF) (t : TF) (f : EF) (vs : List Nat) (fin : List D → Cells → Res D) : EF := fun s C => match fo s C with
  | .ok (.cel n) _ => (match C.get n with
    | some (.dt l) => (match fo s (C.del n) with
      | .ok (.cel m) C1 => if m = n then (match lcF tg t f vs (k.ds l) s C1 with
        | .ok ys C2 => (match fin ys C2 with
          | .ok d C3 => if l.length ≤ mxl then .ok d (C3.put n (.dt l)) else .no
          | _ => .no)
        | _ => .no) else .no
      | _ => .no)
    | _ => .no)
  | _ => .no
noncomputable def eLcT (k : Wk) (fo : EF) (tg : GF) (t : TF) (f : EF) (vs : List Nat) : EF := lcTG k fo tg t f vs fun ys C => .ok (.lst ys) C
def Wk.wi : Wk → TE → TI
  | .keys, td => fun σ H R => td σ H fun x H1 => ∃ d o kvs, x = .ref d ∧ H1 d = some (.frz o (.dT kvs)) ∧ R (Itkt d o kvs) H1
  | .vals, td => iValsT td
  | .items, td => iItemsT td
theorem lcT_use (k : Wk) {t : TG} {gf : GF} {tch vs : List Nat} {tt : TF} {fo fe : EF} {fin : List D → Cells → Res D} (go : GOk G t gf tch) (ht : ∀ i ∈ tch, i ∈ vs)
    (hfin : ∀ (σ : L2.St) (W : Wd) (C : Cells) (H : Hp) (l : List D) (us : List V) (Dp : Addr) (Q : VK), StR G W C H → ¬ Own W C Dp → H Dp = some (.lst us) → RepVs G W l us →
      (∀ W1 C1 H1, StepX Dp W C H W1 C1 H1 → H1 = H → ∀ d v, StR G W1 C1 H1 → RepV G W1 d v → fin l C = .ok d C1 → Q v H1) → Q (.ref Dp) H)
    {σ : L2.St} {H : Hp} {Q : VK} {W : Wd} {sl : Sl} {C : Cells} (rs : RepS G W sl σ) (st : StR G W C H)
    (q : Post G Wx σ (RepV G) W C H (lcTG k fo gf tt fe vs fin sl C) Q) : tLockE (tLc (k.wi (tD G Wx fo)) t (tTs G W0 tt) (tD G W0 fe) vs) σ H Q := by
  unfold lcTG at q
  split at q
  rotate_left
  · exact q.elim
  rename_i n C0 e0
  split at q
  rotate_left
  · exact q.elim
  rename_i l hn
  split at q
  rotate_left
  · exact q.elim
  rename_i m C1 e1
  split at q
  rotate_left
  · exact q.elim
  rename_i hm
  subst hm
  split at q
  rotate_left
  · exact q.elim
  rename_i ys C2 e2
  split at q
  rotate_left
  · exact q.elim
  rename_i d C3 e3
  split at q
  rotate_left
  · exact q.elim
  rename_i hz
  obtain ⟨a, ho, h1, h2, h3, kvs, rfl, h4⟩ := st.cells m _ hn
  refine ⟨a, _, h3, trivial, fun od => ?_⟩
  obtain ⟨st1, nO⟩ := lk_in (od := od) st hn h1 h3
  have core : ∀ (W1 : Wd) (v : V) (H1 : Hp), Step W (C.del m) (upd H a (.frz od (.dT kvs))) W1 C1 H1 → StR G W1 C1 H1 → RepV G W1 (.cel m) v → ∃ b o kvs', v = .ref b ∧ H1 b = some (.frz o (.dT kvs')) ∧ tLc (fun _ _ R => R (k.it b o kvs') H1) t (tTs G W0 tt) (tD G W0 fe) vs σ H1 fun v H' => H' a = some (.frz od (.dT kvs)) ∧ Q v (upd H' a (.dT kvs)) := by
    intro W1 v H1 t1 st1' rr
    obtain ⟨b, rfl, hb⟩ := rr.cel_
    rw [t1.le.cm m a h1] at hb; cases hb
    have pf : Pla (HO.frz od (.dT kvs)) := ⟨fun _ z => (nomatch z), fun _ z => (nomatch z), fun _ z => (nomatch z)⟩
    obtain ⟨hf, nO1⟩ := t1.fr a _ upd_same pf nO
    refine ⟨a, od, kvs, rfl, hf, lc_body (Wx := Wx) go ht hfin (rs.up t1.le) st1' (wlk_dT k hf nO1 (RepKV.up t1.le h4)) e2 (by rw [k.len]; exact hz) ?_⟩
    rw [e3]
    intro W3 v3 H3 t3 st3 r3
    obtain ⟨z1, z2, z3⟩ := lk_out st hn h1 h3 (t1.trans t3) st3
    exact ⟨z1, q W3 v3 _ z3 z2 r3⟩
  have q0 : tD G Wx fo σ (upd H a (.frz od (.dT kvs))) fun v H1 => ∃ b o kvs', v = .ref b ∧ H1 b = some (.frz o (.dT kvs')) ∧ tLc (fun _ _ R => R (k.it b o kvs') H1) t (tTs G W0 tt) (tD G W0 fe) vs σ H1 fun v H' => H' a = some (.frz od (.dT kvs)) ∧ Q v (upd H' a (.dT kvs)) :=
    ⟨W, sl, C.del m, rs, st1, by rw [e1]; exact core⟩
  cases k <;> exact q0
section
variable {elt tg o : Expr} {ifs : List Expr} {scope : Scope} {own : List (Str × Nat)} {t : TG} {gf : GF} {tch : List Nat} {tt : TF} {fo : EF} {apos cpos : Pos}
theorem Post.mono {α β : Type} {R : Wd → α → β → Prop} {σ : L2.St} {W : Wd} {C : Cells} {H : Hp} {r : Res α} {Q Q1 : β → Hp → Prop} (h : Post G Wx σ R W C H r Q) (w : ∀ b H, Q b H → Q1 b H) : Post G Wx σ R W C H r Q1 := by
  cases r with
  | ok a C1 => exact fun W' b H' t st rr => w b H' (h W' b H' t st rr)
  | err c C1 => exact h
  | no => exact h
theorem pi_keysT (he : DE X G Wx o fo) : PI X tg o (Wk.keys.wi (tD G Wx fo)) := ⟨fun pins s σ H R I h => (pi_keys he.pe).run pins s σ H R I (let ⟨W, sl, C, rs, st, q⟩ := h; ⟨W, sl, C, rs, st, Post.mono q fun v H1 ⟨d, od, kvs, e1, e2, e3⟩ => ⟨d, od, e1, .inr ⟨kvs, e2, e3⟩⟩⟩)⟩
theorem de_lcT (k : Wk) {iter : Expr} (hi : PI X tg iter (k.wi (tD G Wx fo))) (hc : X.calm = true) (hN : X.N.Nodup) (ok : BlkOk X.N X.env.scope scope own) (go : GOk G t gf tch) (htc : ∀ i ∈ tch, i ∈ own.map (·.2))
    (hg : ∀ (s : Shared) (H : Hp) (C : Addr) (cl : List (Str × Addr)) (fp : List Addr), PG (X.blk s H scope (compEnvC scope cl C X.env) fp) tg t) (ht : ∀ (s : Shared) (H : Hp) (C : Addr) (cl : List (Str × Addr)) (fp : List Addr), DTs (X.blk s H scope (compEnvC scope cl C X.env) fp) G W0 ifs tt)
    (he : ∀ (s : Shared) (H : Hp) (C : Addr) (cl : List (Str × Addr)) (fp : List Addr), DE (X.blk s H scope (compEnvC scope cl C X.env) fp) G W0 elt f) (hs : ∀ x, foldedSetIterable iter X.env x = pure x := by intro _; rfl) :
    DE X G Wx (.ListComp elt [⟨tg, iter, ifs, 0⟩] scope pos) (eLcT k fo gf tt f (own.map (·.2))) :=
  ⟨PE.weak (pe_lock (pe_lc hc hN hi ok hg (fun s H C cl fp => (ht s H C cl fp).pts) (fun s H C cl fp => (he s H C cl fp).pe) hs)) fun σ H Q ⟨W, sl, C, rs, st, q⟩ => lcT_use k go htc fin_lst rs st q⟩
/-- name = [..] on one line -/
theorem ds_setLcT (k : Wk) {iter : Expr} {fin : List D → Cells → Res D} (hfin : ∀ (σ : L2.St) (W : Wd) (C : Cells) (H : Hp) (l : List D) (us : List V) (Dp : Addr) (Q : VK), StR G W C H → ¬ Own W C Dp → H Dp = some (.lst us) → RepVs G W l us →
      (∀ W1 C1 H1, StepX Dp W C H W1 C1 H1 → H1 = H → ∀ d v, StR G W1 C1 H1 → RepV G W1 d v → fin l C = .ok d C1 → Q v H1) → Q (.ref Dp) H)
    {i : Nat} {y : Str} {py spos : Pos} (hi : PI X tg iter (k.wi (tD G Wx fo))) (hc : X.calm = true) (hN : X.N.Nodup) (hy : X.N[i]? = some y) (hyl : X.env.scope.names.lookup y = some .local)
    (hsw : swapsWith (.ListComp elt [⟨tg, iter, ifs, 0⟩] scope pos) (some (.Name y py)) spos.line X.env = pure true) (ok : BlkOk X.N X.env.scope scope own) (go : GOk G t gf tch) (htc : ∀ i ∈ tch, i ∈ own.map (·.2))
    (hg : ∀ (s : Shared) (H : Hp) (C : Addr) (cl : List (Str × Addr)) (fp : List Addr), PG (X.blk s H scope (compEnvC scope cl C X.env) fp) tg t) (ht : ∀ (s : Shared) (H : Hp) (C : Addr) (cl : List (Str × Addr)) (fp : List Addr), DTs (X.blk s H scope (compEnvC scope cl C X.env) fp) G W0 ifs tt)
    (he : ∀ (s : Shared) (H : Hp) (C : Addr) (cl : List (Str × Addr)) (fp : List Addr), DE (X.blk s H scope (compEnvC scope cl C X.env) fp) G W0 elt f) (hs : ∀ x, foldedSetIterable iter X.env x = pure x := by intro _; rfl) :
    DS X G Wx (.Assign [.Name y py] (.ListComp elt [⟨tg, iter, ifs, 0⟩] scope pos) spos) (sSet i (lcTG k fo gf tt f (own.map (·.2)) fin)) :=
  ⟨PS.weak (ps_lock (ps_setLc hc hN hy hyl hsw hi ok hg (fun s H C cl fp => (ht s H C cl fp).pts) (fun s H C cl fp => (he s H C cl fp).pe) hs)) fun D σ H ⟨W, sl, C, rs, st, q⟩ =>
    lcT_use (Q := fun x H1 => gName i x σ H1 D.nx) k go htc hfin rs st (SPost.toS (Q := fun x H1 => gName i x σ H1 D.nx) rs q fun d C1 W1 v H1 t1 st1 rr q1 => q1 W1 _ H1 .refl st1 ((rs.up t1.le).set i rr))⟩
end
end
end DL

set_option Elab.async false
set_option linter.all false
set_option maxRecDepth 100000
set_option autoImplicit false
/-! sorted and min of data of any shape -/
namespace L2
open PySem PySem.Spec PyProof.Rows PySem.W
theorem each_vals : ∀ {bs : List (V × PyData)} {its : List Value}, Vals (bs.map (·.1)) its → EachIs (fun u (b : V × PyData) => RelV b.1 u) its bs
  | [], _, r => by cases r; exact .nil
  | b :: bs, _, r => by
    cases r with
    | cons h t => exact .cons h (each_vals t)
theorem vals_each : ∀ {bs : List (V × PyData)} {its : List Value}, EachIs (fun u (b : V × PyData) => RelV b.1 u) its bs → Vals (bs.map (·.1)) its
  | _, _, .nil => .nil
  | _, _, .cons h t => .cons h (vals_each t)
theorem vals_back2 : ∀ {xs : List V} {us : List Value} {i : Nat} {u : Value}, Vals xs us → us[i]? = some u → ∃ x, xs[i]? = some x ∧ RelV x u
  | _, _, _, _, .nil, h => by simp at h
  | _, _, 0, _, .cons (a := x) h t, e => by
    simp only [List.getElem?_cons_zero, Option.some.injEq] at e
    subst e
    exact ⟨x, rfl, h⟩
  | _, _, i + 1, _, .cons h t, e => by
    simp only [List.getElem?_cons_succ] at e ⊢
    exact vals_back2 t e
section
variable {X : Cx} {pins : List (Addr × Obj)} {σ : St} {H : Hp} {s : Shared}
theorem each_reads (I : Inv X pins σ H s) : ∀ {bs : List (V × PyData)} {its : List Value}, (∀ b ∈ bs, Dp X.K H b.1 b.2) → Vals (bs.map (·.1)) its → EachIs (fun u (b : V × PyData) => ∃ as, Reads s.heap u b.2 as) its bs
  | [], _, _, r => by cases r; exact .nil
  | b :: bs, _, hb, r => by
    cases r with
    | cons h t => exact .cons (Dp.reads I b.2 b.1 _ (hb b (by simp)) h) (each_reads I (fun c m => hb c (by simp [m])) t)
theorem dpAll_of {K : PySem.W.Frag} : ∀ {bs : List (V × PyData)}, (∀ b ∈ bs, Dp K H b.1 b.2) → DpAll K H (bs.map (·.1)) (bs.map (·.2))
  | [], _ => .nil
  | b :: bs, hb => .cons (hb b (by simp)) (dpAll_of fun c m => hb c (by simp [m]))
end
/-- sorted(xs), data that may be sorted -/
def rSortedD (K : PySem.W.Frag) : List V → Hp → VK → Prop := fun vs H Q => ∃ (a : Addr) (bs : List (V × PyData)), vs = [V.ref a] ∧ SqL K H a (bs.map (·.1)) ∧ (∀ b ∈ bs, Dp K H b.1 b.2) ∧ AllAlike (bs.map (·.2)) ∧ Sortable (bs.map (·.2)) ∧ (∀ b ∈ bs, b.2.depth ≤ 30) ∧
  ∀ p, H p = none → Q (.ref p) (upd H p (.lst ((bs.mergeSort (dataLe false (·.2))).map (·.1))))
/-- min(xs), data that are alike -/
def rMinDat (K : PySem.W.Frag) : List V → Hp → VK → Prop := fun vs H Q => ∃ (a : Addr) (b : V × PyData) (bs : List (V × PyData)), vs = [V.ref a] ∧ SqL K H a ((b :: bs).map (·.1)) ∧ (∀ c ∈ b :: bs, Dp K H c.1 c.2) ∧ AlikeAll ((b :: bs).map (·.2)) ∧ PyData.depthAll ((b :: bs).map (·.2)) ≤ 30 ∧
  ∀ c ∈ b :: bs, c.2 = minD b.2 (bs.map (·.2)) → Q c.1 H
section
variable {X : Cx}
theorem cr_sortedD (hu : X.A.units + 64 < cLine) : CallR X (.builtin "sorted") (rSortedD X.K) := by
  intro pins s σ H vs us Q I r h
  obtain ⟨a, bs, rfl, hs, hd, hal, hso, hdp, q⟩ := h
  obtain ⟨its, rv, hl, hz⟩ := I.list hs
  rw [Vals.ref1 r]
  have hz' : bs.length ≤ sizeLine := by simpa using hz
  refine PySem.W.sorted_data (R := fun u (b : V × PyData) => RelV b.1 u) (enc := fun b => b.2) hl.isList (each_vals rv) (each_reads I hd rv) hal hso hz' (fun b m => by have := hdp b m; show X.A.units + 2 + b.2.depth < cLine; omega) fun out hlen eo => ?_
  obtain ⟨ep, he'⟩ := PyProof.Rows.sortedAll_at s.heap its out.toArray
  exact ⟨.ref _, upd H (s.heap.objs.size + 1) (.lst ((bs.mergeSort (dataLe false fun b => b.2)).map (·.1))), I.laid (t' := s.toks) (fun _ _ => PyProof.Rows.sortedAll_old) (Nat.le_succ _) ⟨by rw [List.length_map, List.length_mergeSort]; exact hz', out, ep, vals_each eo, he'⟩, rfl, q _ (I.hok.fresh (Nat.le_succ _))⟩
theorem cr_minD (hu : X.A.units + 64 < cLine) (hc : X.calm = true) : CallR X (.builtin "min") (rMinDat X.K) := by
  intro pins s σ H vs us Q I r h
  obtain ⟨a, b, bs, rfl, hs, hd, hal, hdp, q⟩ := h
  obtain ⟨its, rv, hl, hz⟩ := I.list hs
  rw [Vals.ref1 r]
  obtain ⟨as, ra⟩ := Dp.readsAll I _ _ _ (dpAll_of hd) rv
  refine min_list_data (I.ok.hd hc) hl.isList (x := b.2) (xs := bs.map (·.2)) (by simpa using ra) (show AlikeAll (b.2 :: bs.map (·.2)) from hal) (by show X.A.units + 1 + _ < cLine; have : PyData.depthAll (b.2 :: bs.map (·.2)) ≤ 30 := hdp; omega) fun i v h' tk bs' hi rd hk => ?_
  have hi' : its[i]? = some v := by simpa using hi
  obtain ⟨c, hc2, e1⟩ : ∃ c, (b :: bs)[i]? = some c ∧ RelV c.1 v := by
    obtain ⟨x, hx, rx⟩ := vals_back2 rv hi'
    rw [List.getElem?_map] at hx
    cases e : (b :: bs)[i]? with
    | none => rw [e] at hx; cases hx
    | some c => rw [e] at hx; cases hx; exact ⟨c, rfl, rx⟩
  have hm : c ∈ b :: bs := List.mem_of_getElem? hc2
  obtain ⟨as2, r2⟩ := Dp.reads I c.2 c.1 v (hd c hm) e1
  have r3 : Reads h' v c.2 as2 := PyProof.Rows.Reads.keeps hk r2
  have e2 := (Reads.unique r3 _ _ rd).1
  exact ⟨c.1, H, I.kept (t' := tk) hk, e1, q c hm e2⟩
end
end L2

namespace DL
open PySem PySem.Spec PyProof.Rows L2 PySem.W
open Classical
mutual
theorem toP_inj : ∀ (n : Nat) (x y : D), plain n x = true → plain n y = true → toP x = toP y → x = y
  | 0, x, y, h, _, _ => by unfold plain at h; cases h
  | n + 1, x, y, hx, hy, e => by
    cases x <;> first | (unfold plain at hx; cases hx; done) | skip
    all_goals (cases y <;> first | (unfold plain at hy; cases hy; done) | skip)
    all_goals (unfold toP at e)
    all_goals first | rfl | (cases e; rfl) | skip
    all_goals first | (cases e; done) | skip
    · rename_i l m
      have e : toPs l = toPs m := by injection e
      rw [toPs_inj n l m (by simpa [plain] using hx) (by simpa [plain] using hy) e]
    · rename_i l m
      have e : toPs l = toPs m := by injection e
      rw [toPs_inj n l m (by simpa [plain] using hx) (by simpa [plain] using hy) e]
theorem toPs_inj : ∀ (n : Nat) (l m : List D), (∀ x ∈ l, plain n x = true) → (∀ x ∈ m, plain n x = true) → toPs l = toPs m → l = m
  | n, [], [], _, _, _ => rfl
  | n, [], _ :: _, _, _, e => by simp [toPs] at e
  | n, _ :: _, [], _, _, e => by simp [toPs] at e
  | n, x :: l, y :: m, hx, hy, e => by
    simp only [toPs, List.cons.injEq] at e
    rw [toP_inj n x y (hx x (by simp)) (hy y (by simp)) e.1, toPs_inj n l m (fun z q => hx z (by simp [q])) (fun z q => hy z (by simp [q])) e.2]
end
/-- data that may be sorted -/
structure SortOk (l : List D) : Prop where
  pl : ∀ x ∈ l, plain 30 x = true
  al : AllAlike (l.map toP)
  so : Sortable (l.map toP)
  dp : ∀ x ∈ l, (toP x).depth ≤ 30
noncomputable def sortT (l : List D) : List D := l.mergeSort (dataLe false toP)
noncomputable def bSortT (xs : List D) (C : Cells) : Res D := match xs with
  | [d] => (match lstOf C d with | some l => if SortOk l then .ok (.lst (sortT l)) C else .no | none => .no)
  | _ => .no
/-- the first of the least -/
def minT (x : D) (l : List D) : D := l.foldl (fun a y => if dataLt (toP y) (toP a) = true then y else a) x
structure MinOk (l : List D) : Prop where
  pl : ∀ x ∈ l, plain 30 x = true
  al : AlikeAll (l.map toP)
  dp : PyData.depthAll (l.map toP) ≤ 30
noncomputable def bMinT (xs : List D) (C : Cells) : Res D := match xs with
  | [d] => (match lstOf C d with | some (x :: l) => if MinOk (x :: l) then .ok (minT x l) C else .no | _ => .no)
  | _ => .no
theorem minT_mem : ∀ (l : List D) (x : D), minT x l ∈ x :: l
  | [], x => by simp [minT]
  | y :: l, x => by
    have ih := minT_mem l (if dataLt (toP y) (toP x) = true then y else x)
    show minT (if dataLt (toP y) (toP x) = true then y else x) l ∈ _
    rcases List.mem_cons.1 ih with e | m
    · rw [e]; split <;> simp
    · simp [m]
theorem minT_toP : ∀ (l : List D) (x : D), toP (minT x l) = minD (toP x) (l.map toP)
  | [], x => rfl
  | y :: l, x => by
    show toP (minT (if dataLt (toP y) (toP x) = true then y else x) l) = minD (if dataLt (toP y) (toP x) = true then toP y else toP x) (l.map toP)
    rw [minT_toP l]
    split <;> rfl
section
variable {G : Glo} {W : Wd} {C : Cells} {H : Hp}
theorem zip_dp (st : StR G W C H) {l : List D} {vs : List V} (r : RepVs G W l vs) (hp : ∀ x ∈ l, plain 30 x = true) : (vs.zip l).map (·.1) = vs ∧ (vs.zip l).map (·.2) = l ∧ ∀ p ∈ vs.zip l, RepV G W p.2 p.1 ∧ plain 30 p.2 = true := by
  have hl := r.length
  refine ⟨List.map_fst_zip (by omega), List.map_snd_zip (by omega), fun p m => ?_⟩
  obtain ⟨i, hi⟩ := List.getElem?_of_mem m
  rw [List.getElem?_zip_eq_some] at hi
  obtain ⟨u, h1, h2⟩ := r.get hi.2
  rw [hi.1] at h1; cases h1
  exact ⟨h2, hp _ (List.mem_of_getElem? hi.2)⟩
theorem reps_pairs : ∀ {ps : List (V × D)}, (∀ p ∈ ps, RepV G W p.2 p.1) → RepVs G W (ps.map (·.2)) (ps.map (·.1))
  | [], _ => .nil
  | p :: ps, h => .cons (h p (by simp)) (reps_pairs fun q m => h q (by simp [m]))
end
section
variable {G : Glo}
theorem oa_sortT : OpA G (rSortedD G.K) bSortT := fun Wx σ W C H xs vs Q st rx q => by
  unfold bSortT at q
  split at q
  · obtain ⟨v, rfl, r⟩ := rx.one
    split at q
    · rename_i l e
      split at q
      · rename_i ok
        obtain ⟨a, us, rfl, h1, h2⟩ := lstOf_ok st r e
        obtain ⟨z1, z2, z3⟩ := zip_dp st h2 ok.pl
        refine ⟨a, (us.zip l).map fun p => (p.1, toP p.2), rfl, ?_, fun b m => ?_, ?_, ?_, fun b m => ?_, fun p hp => ?_⟩
        · rw [List.map_map]; show SqL G.K H a ((us.zip l).map (·.1)); rw [z1]; exact h1
        · obtain ⟨p, mp, rfl⟩ := List.mem_map.1 m
          exact dp_of st.F 30 _ _ (z3 p mp).2 (z3 p mp).1
        · rw [List.map_map]; show AllAlike ((us.zip l).map (toP ∘ (·.2))); rw [← List.map_map, z2]; exact ok.al
        · rw [List.map_map]; show Sortable ((us.zip l).map (toP ∘ (·.2))); rw [← List.map_map, z2]; exact ok.so
        · obtain ⟨p, mp, rfl⟩ := List.mem_map.1 m
          refine ok.dp p.2 ?_
          rw [← z2]; exact List.mem_map.2 ⟨p, mp, rfl⟩
        · have e1 : (((us.zip l).map fun p => (p.1, toP p.2)).mergeSort (dataLe false fun b => b.2)).map (·.1) = ((us.zip l).mergeSort (dataLe false fun p => toP p.2)).map (·.1) := by
            rw [← List.map_mergeSort (r := dataLe false fun p : V × D => toP p.2) (f := fun p : V × D => (p.1, toP p.2)) (fun _ _ _ _ => rfl), List.map_map]
            rfl
          have e2 : sortT l = ((us.zip l).mergeSort (dataLe false fun p => toP p.2)).map (·.2) := by
            rw [List.map_mergeSort (r := dataLe false fun p : V × D => toP p.2) (s := dataLe false toP) (f := fun p : V × D => p.2) (fun _ _ _ _ => rfl), z2]
            rfl
          rw [e1]
          refine new_lst st ?_ q p hp
          rw [e2]
          exact reps_pairs fun p m => (z3 p (List.mem_mergeSort.1 m)).1
      · exact q.elim
    · exact q.elim
  · exact q.elim
theorem oa_minT : OpA G (rMinDat G.K) bMinT := fun Wx σ W C H xs vs Q st rx q => by
  unfold bMinT at q
  split at q
  · obtain ⟨v, rfl, r⟩ := rx.one
    split at q
    · rename_i x l e
      split at q
      · rename_i ok
        obtain ⟨a, us, rfl, h1, h2⟩ := lstOf_ok st r e
        obtain ⟨u, ur, rfl, ru, rr⟩ := h2.cons_inv
        obtain ⟨z1, z2, z3⟩ := zip_dp st rr fun y m => ok.pl y (by simp [m])
        have m1 : ((ur.zip l).map fun p => (p.1, toP p.2)).map (·.1) = ur := by
          rw [List.map_map]; exact z1
        have m2 : ((ur.zip l).map fun p => (p.1, toP p.2)).map (·.2) = l.map toP := by
          rw [List.map_map]; show (ur.zip l).map (toP ∘ (·.2)) = _; rw [← List.map_map, z2]
        refine ⟨a, (u, toP x), (ur.zip l).map fun p => (p.1, toP p.2), rfl, ?_, fun c m => ?_, ?_, ?_, fun c m hc => ?_⟩
        · rw [List.map_cons, m1]; exact h1
        · rcases List.mem_cons.1 m with rfl | m
          · exact dp_of st.F 30 _ _ (ok.pl x (by simp)) ru
          · obtain ⟨p, mp, rfl⟩ := List.mem_map.1 m
            exact dp_of st.F 30 _ _ (z3 p mp).2 (z3 p mp).1
        · rw [List.map_cons, m2]; exact ok.al
        · rw [List.map_cons, m2]; exact ok.dp
        · rw [m2, ← minT_toP l x] at hc
          have pm := ok.pl _ (minT_mem l x)
          rcases List.mem_cons.1 m with rfl | m
          · have : x = minT x l := toP_inj 30 _ _ (ok.pl x (by simp)) pm hc
            rw [← this] at q
            exact q W u H .refl st ru
          · obtain ⟨p, mp, rfl⟩ := List.mem_map.1 m
            have : p.2 = minT x l := toP_inj 30 _ _ (z3 p mp).2 pm hc
            rw [← this] at q
            exact q W p.1 H .refl st (z3 p mp).1
      · exact q.elim
    · exact q.elim
  · exact q.elim
/-! list(d), d a dict with tuple keys; d.pop(key, x) -/
def bListT (xs : List D) (C : Cells) : Res D := match xs with
  | [.cel n] => (match C.get n with | some (.dt l) => .ok (.lst (l.map fun p => keyT p.1)) C | _ => .no)
  | _ => .no
theorem fr_tups {W : Wd} {C : Cells} {H : Hp} : ∀ {l : List (List Key × D)} {m : List (List Key × V)} {bs : List Addr}, StR G W C H → RepKV G W l m → IsKeys H m bs → ∃ W2, StR G W2 C H ∧ Step W C H W2 C H ∧ RepVs G W2 (l.map fun p => keyT p.1) (bs.map V.ref)
  | _, _, _, st, .nil, .nil => ⟨W, st, .refl, .nil⟩
  | _, _, _, st, .cons (a := p) (b := q) h t, .cons (b := b) k ks => by
    obtain ⟨W2, s2, t2, f2⟩ := fr_tup st k
    obtain ⟨W3, s3, t3, r3⟩ := fr_tups s2 (RepKV.up t2.le t) ks
    refine ⟨W3, s3, t2.trans t3, .cons ?_ r3⟩
    show RepV G W3 (keyT p.1) (.ref b)
    rw [h.1]
    exact .tup (t3.le.F _ _ f2) (keyT_ok _)
theorem oa_listT : OpA G (fun xs H Q => ∃ d kvs, xs = [V.ref d] ∧ Rd H d (.dT kvs) ∧ ∀ p bs, H p = none → IsKeys H kvs bs → Q (.ref p) (upd H p (.lst (bs.map V.ref)))) bListT := fun Wx σ W C H xs vs Q st rx q => by
  unfold bListT at q
  split at q
  · obtain ⟨v, rfl, r⟩ := rx.one
    split at q
    · rename_i n l e
      obtain ⟨a, rfl, ha⟩ := r.cel_
      obtain ⟨b, ho, h1, h2, h3, m, rfl, h4⟩ := st.cells _ _ e
      rw [ha] at h1; cases h1
      refine ⟨a, m, rfl, .inl h3, fun p bs hp hk => ?_⟩
      obtain ⟨W2, s2, t2, r2⟩ := fr_tups st h4 hk
      exact new_lst s2 r2 (Post.step t2 q) p hp
    · exact q.elim
  · exact q.elim
def tyT (C : Cells) (d : D) : Bool := match d with | .cel n => (match C.get n with | some (.dt _) => true | _ => false) | _ => false
theorem tm_dictT : TyM G "dict" tyT := fun W C H x v st r h => by
  cases x with
  | cel n =>
    obtain ⟨a, rfl, ha⟩ := r.cel_
    unfold tyT at h
    dsimp only at h
    split at h
    · rename_i l e
      obtain ⟨b, ho, h1, h2, h3, m, rfl, h4⟩ := st.cells _ _ e
      rw [ha] at h1; cases h1
      exact .inr (.inr (.inl ⟨rfl, .inr ⟨m, h3⟩⟩))
    · cases h
  | _ => cases h
def mPopT (x : D) (xs : List D) (C : Cells) : Res D := match x, xs with
  | .cel n, [.tup ks, d] => (match C.get n, keysOf ks with
    | some (.dt l), some k => (match lookD l k with
      | some y => .ok y (C.set n (.dt (dropD l k)))
      | none => .ok d C)
    | _, _ => .no)
  | _, _ => .no
theorem om_popT : OpM G L2.DX.rPopT mPopT := fun Wx σ W C H x v xs vs Q st rx rxs q => by
  unfold mPopT at q
  split at q
  · rename_i n ks d
    split at q
    · rename_i l k e ek
      obtain ⟨a, rfl, ha⟩ := rx.cel_
      obtain ⟨b, ho, h1, h2, h3, m, rfl, h4⟩ := st.cells _ _ e
      rw [ha] at h1; cases h1
      obtain ⟨u, w, rfl, ru, rw_⟩ := rxs.two
      obtain ⟨c, us, rfl, s, qk⟩ := ru.tup_
      rw [keysOf_ok qk ek] at s
      refine ⟨a, m, k, c, w, rfl, rfl, h3, st.F _ _ s, fun y hy => ?_, fun hn => ?_⟩
      · split at q
        · rename_i y' ey
          obtain ⟨v', e1, r1⟩ := look_some h4 ey
          rw [hy] at e1; cases e1
          obtain ⟨s1, s2⟩ := fr_set (o := .dt (dropD l k)) (ho := .dT (dropK m k)) st e ha ⟨_, rfl, drop_ok k h4⟩
          exact q W y _ s2 s1 r1
        · rename_i en
          rw [look_none h4 en] at hy; cases hy
      · split at q
        · rename_i y' ey
          obtain ⟨v', e1, _⟩ := look_some h4 ey
          rw [hn] at e1; cases e1
        · exact q W w H .refl st rw_
    · exact q.elim
  · exact q.elim
end
end DL

set_option Elab.async false
set_option linter.all false
set_option maxRecDepth 100000
set_option autoImplicit false
namespace DL
open PySem PySem.Spec PyProof.Rows L2
/-! ### the words' worth, applied -/
section
variable {α β : Type} {a b : EF} {af : AF} {s : Sl} {C C' : Cells} {g g' : D → D → Cells → Res D} {t u : TF} {f h : SF}
@[simp] theorem bind_ok (x : α) (k : α → Cells → Res β) : (Res.ok x C).bind k = k x C := (rfl)
@[simp] theorem bind_err (c : Nat) (k : α → Cells → Res β) : (Res.err c C).bind k = .err c C := (rfl)
@[simp] theorem toS_ok (d : D) (k : D → Cells → SRes) : (Res.ok d C).toS s k = k d C := (rfl)
@[simp] theorem toS_err (c : Nat) (k : D → Cells → SRes) : (Res.err c C).toS s k = .err c s C := (rfl)
@[simp] theorem toSB_ok (d : Bool) (k : Bool → Cells → SRes) : (Res.ok d C).toSB s k = k d C := (rfl)
@[simp] theorem toSB_err (c : Nat) (k : Bool → Cells → SRes) : (Res.err c C).toSB s k = .err c s C := (rfl)
@[simp] theorem eC_ap (d : D) : eC d s C = .ok d C := (rfl)
@[simp] theorem eVar_ap (i : Nat) : eVar i s C = match s[i]? with | some (some d) => .ok d C | _ => .no := (rfl)
@[simp] theorem e2_ap : e2 g a b s C = (a s C).bind fun x C => (b s C).bind fun y C => g x y C := (rfl)
@[simp] theorem asB_ap : asB a s C = (a s C).bind fun d C => match d with | .bl b => .ok b C | _ => .no := (rfl)
@[simp] theorem tAnd_ap : tAndF t u s C = (t s C).bind fun b C => if b = true then u s C else .ok false C := (rfl)
@[simp] theorem tOr_ap : tOrF t u s C = (t s C).bind fun b C => if b = true then .ok true C else u s C := (rfl)
@[simp] theorem tNot_ap : tNotF t s C = (t s C).bind fun b C => .ok (!b) C := (rfl)
@[simp] theorem eAnd_ap : eAndF a b s C = (a s C).bind fun d C => match d with | .bl true => b s C | .bl false => .ok (.bl false) C | _ => .no := (rfl)
@[simp] theorem eOr_ap : eOrF a b s C = (a s C).bind fun d C => match d with | .bl true => .ok (.bl true) C | .bl false => b s C | _ => .no := (rfl)
@[simp] theorem eNot_ap : eNotF a s C = (a s C).bind fun d C => match d with | .bl b => .ok (.bl (!b)) C | _ => .no := (rfl)
@[simp] theorem eIf_ap : eIf t a b s C = (t s C).bind fun k C => if k = true then a s C else b s C := (rfl)
@[simp] theorem eNeg_ap : eNeg a s C = (a s C).bind fun d C => match d with | .int i => .ok (.int (-i)) C | _ => .no := (rfl)
@[simp] theorem e3_ap {c : EF} : e3 g g' a b c s C = (a s C).bind fun x C => (b s C).bind fun y C => (g x y C).bind fun z C => match z with | .bl true => (c s C).bind fun w C => g' y w C | .bl false => .ok (.bl false) C | _ => .no := (rfl)
@[simp] theorem aNil_ap : aNil s C = .ok [] C := (rfl)
@[simp] theorem aCons_ap : aCons a af s C = (a s C).bind fun x C => (af s C).bind fun xs C => .ok (x :: xs) C := (rfl)
@[simp] theorem eTup_ap : eTup af s C = (af s C).bind fun xs C => if xs.length ≤ mxl then .ok (.tup xs) C else .no := (rfl)
@[simp] theorem eLst_ap : eLst af s C = (af s C).bind fun xs C => if xs.length ≤ mxl then .ok (.lst xs) C else .no := (rfl)
@[simp] theorem eLstC_ap : eLstC af s C = (af s C).bind fun xs C => if xs.length ≤ mxl then .ok (.cel C.nx) (C.new (.lst xs)) else .no := (rfl)
@[simp] theorem newL_ap (xs : List D) : newL xs C = .ok (.cel C.nx) (C.new (.lst xs)) := (rfl)
@[simp] theorem oNone_ap : oNone s C = .ok none C := (rfl)
@[simp] theorem oSome_ap : oSome a s C = (a s C).bind fun d C => match d with | .int i => .ok (some i) C | _ => .no := (rfl)
@[simp] theorem eSlG_ap {q : D → Option Int → Option Int → Cells → Res D} {lo hi : OF} : eSlG q a lo hi s C = (a s C).bind fun x C => (lo s C).bind fun l C => (hi s C).bind fun h C => q x l h C := (rfl)
@[simp] theorem eA_ap {q : List D → Cells → Res D} : eA q af s C = (af s C).bind fun xs C => q xs C := (rfl)
@[simp] theorem eCall_ap {F : Fn} {dd : List D} : eCall F dd af s C = (af s C).bind fun xs C => F (xs ++ dd) C := (rfl)
@[simp] theorem eMake_ap {mk : List D → Cells → Res D} {dd : List D} : eMake mk dd af s C = (af s C).bind fun xs C => mk (xs ++ dd) C := (rfl)
@[simp high] theorem eCall0_ap {F : Fn} : eCall F [] af s C = (af s C).bind F := by
  show ((af s C).bind fun xs C => F (xs ++ []) C) = _
  simp only [List.append_nil]
@[simp high] theorem eMake0_ap {mk : List D → Cells → Res D} : eMake mk [] af s C = (af s C).bind mk := by
  show ((af s C).bind fun xs C => mk (xs ++ []) C) = _
  simp only [List.append_nil]
@[simp] theorem eMeth_ap {M : MTab} : eMeth M a af s C = (a s C).bind fun x C => match objOf C x with | some (c, _) => (match M c with | some (_, F) => (af s C).bind fun xs C => F (x :: xs) C | none => .no) | none => .no := (rfl)
@[simp] theorem eFld_ap {T : Tab} {k : Nat} : eFld T k a s C = (a s C).bind fun x C => fld T k x C := (rfl)
@[simp] theorem eBm_ap {ty : Cells → D → Bool} {q : D → List D → Cells → Res D} : eBm ty q a af s C = (a s C).bind fun x C => if ty C x = true then (af s C).bind fun xs C => q x xs C else .no := (rfl)
@[simp] theorem eIsi_ap {T : Tab} {tb : ITab} {k : Nat} : eIsi T tb k a s C = (a s C).bind fun x C => match knd C x with | some v => if v < 10 + T.ncl then (match isT tb k v with | some b => .ok (.bl b) C | none => .no) else .no | none => .no := (rfl)
@[simp] theorem frz_ap : frz a s C = (a s C).bind fun d C => match d with | .cel n => (match C.get n with | some (.lst l) => .ok (.lst l) (C.del n) | _ => .ok d C) | d => .ok d C := (rfl)
@[simp] theorem eNewK_ap : eNewK s C = .ok (.cel C.nx) (C.new (.dk [])) := (rfl)
@[simp] theorem eNewT_ap : eNewT s C = .ok (.cel C.nx) (C.new (.dt [])) := (rfl)
@[simp] theorem sNil_ap : sNil s C = .nxt s C := (rfl)
@[simp] theorem sSeq_ap : sSeq f h s C = match f s C with | .nxt s C => h s C | r => r := (rfl)
@[simp] theorem sPass_ap : sPass s C = .nxt s C := (rfl)
@[simp] theorem sBrk_ap : sBrk s C = .brk s C := (rfl)
@[simp] theorem sCnt_ap : sCnt s C = .cnt s C := (rfl)
@[simp] theorem sRet_ap : sRet a s C = (a s C).toS s fun d C => .ret d C := (rfl)
@[simp] theorem sRetN_ap : sRetN s C = .ret .non C := (rfl)
@[simp] theorem sDrop_ap : sDrop a s C = (a s C).toS s fun _ C => .nxt s C := (rfl)
@[simp] theorem sSet_ap (i : Nat) : sSet i a s C = (a s C).toS s fun d C => .nxt (s.set i (some d)) C := (rfl)
@[simp] theorem sIf_ap : sIf t f h s C = (t s C).toSB s fun b C => if b = true then f s C else h s C := (rfl)
@[simp] theorem sAsg_ap {q : GF} : sAsg a q s C = (a s C).toS s fun d C => match q d s C with | some s => .nxt s C | none => .no := (rfl)
@[simp] theorem sFldF_ap {T : Tab} {k : Nat} : sFldF T k a b s C = (b s C).toS s fun d C => (a s C).toS s fun x C => match setFld T k x d C with | some C => .nxt s C | none => .no := (rfl)
@[simp] theorem sIxF_ap {c : EF} : sIxF a b c s C = (c s C).toS s fun d C => (a s C).toS s fun x C => (b s C).toS s fun i C => match setIx x i d C with | some C => .nxt s C | none => .no := (rfl)
@[simp] theorem sDPutF_ap {c : EF} : sDPutF a b c s C = (c s C).toS s fun d C => (a s C).toS s fun x C => (b s C).toS s fun y C => match dPutK C x y d with | some C => .nxt s C | none => .no := (rfl)
@[simp] theorem sFor_ap {it : IF} {tg : GF} : sFor it tg f s C = match it s C with | .ok ds C => forF tg f ds s C | .err c C => .err c s C | .no => .no := (rfl)
@[simp] theorem sWhile_ap : sWhile t f s C = whileF t f wFuel s C := (rfl)
@[simp] theorem gfName_ap (i : Nat) (d : D) : gfName i d s C = some (s.set i (some d)) := (rfl)
@[simp] theorem gfNil_ap : gfNil [] s C = some s := (rfl)
@[simp] theorem gfCons_ap {p : GF} {q : GFs} (d : D) (r : List D) : gfCons p q (d :: r) s C = (p d s C).bind fun s => q r s C := (rfl)
@[simp] theorem gfTup_ap {q : GFs} (n : Nat) (l : List D) : gfTup n q (.tup l) s C = if l.length = n then q l s C else none := (rfl)
@[simp] theorem iLst_ap : iLst a s C = (a s C).bind fun d C => match d with | .lst l => .ok l C | .scr l => .ok l C | _ => .no := (rfl)
@[simp] theorem iTpl_ap : iTpl a s C = (a s C).bind fun d C => match d with | .tup l => .ok l C | .ktp l => .ok l C | _ => .no := (rfl)
@[simp] theorem iR1_ap : iR1 af s C = (af s C).bind fun xs C => match xs with | [.int j] => if -(2 ^ 62) ≤ j ∧ j < 2 ^ 62 then .ok (rngD 0 j.toNat) C else .no | _ => .no := (rfl)
@[simp] theorem iR2_ap : iR2 af s C = (af s C).bind fun xs C => match xs with | [.int i, .int j] => if -(2 ^ 62) ≤ i ∧ i < 2 ^ 62 ∧ -(2 ^ 62) ≤ j ∧ j < 2 ^ 62 then .ok (rngD i (j - i).toNat) C else .no | _ => .no := (rfl)
@[simp] theorem tYes_ap : tYesF s C = .ok true C := (rfl)
@[simp] theorem eLc_ap {it : IF} {tg : GF} {vs : List Nat} : eLc it tg t a vs s C = (lcG it tg t a vs s C).bind fun ys C => .ok (.lst ys) C := (rfl)
@[simp] theorem eLcC_ap {it : IF} {tg : GF} {vs : List Nat} : eLcC it tg t a vs s C = (lcG it tg t a vs s C).bind newL := (rfl)
@[simp] theorem lcG_ap {it : IF} {tg : GF} {vs : List Nat} : lcG it tg t a vs s C = (it s C).bind fun ds C => match lcF tg t a vs ds s C with | .ok ys C => if ds.length ≤ mxl then .ok ys C else .no | _ => .no := (rfl)
@[simp] theorem callF_ap {n np : Nat} {ds : List D} : callF n np f ds C = if ds.length = np then (match f (ds.map some ++ List.replicate (n - ds.length) none) C with | .nxt _ C => .ok .non C | .ret d C => .ok d C | .err c _ C => .err c C | _ => .no) else .no := (rfl)
@[simp] theorem mxl_le : ∀ {k : Nat}, (k ≤ mxl) = (k ≤ 16777216) := fun {_} => rfl
@[simp] theorem mxl_lt : ∀ {k : Nat}, (k < mxl) = (k < 16777216) := fun {_} => rfl
end
/-! ### operators on data -/
section
variable {C : Cells} {i j : Int} {l m : List D}
@[simp] theorem dAdd_i : dAdd (.int i) (.int j) C = .ok (.int (i + j)) C := (rfl)
@[simp] theorem dSub_i : dSub (.int i) (.int j) C = .ok (.int (i - j)) C := (rfl)
@[simp] theorem dLt_i : dLt (.int i) (.int j) C = .ok (.bl (decide (i < j))) C := (rfl)
@[simp] theorem dLe_i : dLe (.int i) (.int j) C = .ok (.bl (decide (i ≤ j))) C := (rfl)
@[simp] theorem dGt_i : dGt (.int i) (.int j) C = .ok (.bl (decide (j < i))) C := (rfl)
@[simp] theorem dGe_i : dGe (.int i) (.int j) C = .ok (.bl (decide (j ≤ i))) C := (rfl)
@[simp] theorem dIsN_ap (x : D) : dIsN x .non C = .ok (.bl (isN x)) C := (rfl)
@[simp] theorem dNotN_ap (x : D) : dNotN x .non C = .ok (.bl (!isN x)) C := (rfl)
@[simp] theorem isN_non : isN .non = true := (rfl)
@[simp] theorem isN_int : isN (.int i) = false := (rfl)
theorem dMul_i (h : CMul i j) : dMul (.int i) (.int j) C = .ok (.int (i * j)) C := if_pos h
theorem dDiv_i (h : 0 < j ∧ j < 1073741824) : dDiv (.int i) (.int j) C = .ok (.int (i / j)) C := if_pos h
theorem dMod_i (h : 0 < j) : dMod (.int i) (.int j) C = .ok (.int (i % j)) C := if_pos h
@[simp] theorem min2_ap : bMin2 [.int i, .int j] C = .ok (.int (if j < i then j else i)) C := (rfl)
@[simp] theorem max2_ap : bMax2 [.int i, .int j] C = .ok (.int (if j > i then j else i)) C := (rfl)
@[simp] theorem lstOf_lst : lstOf C (.lst l) = some l := (rfl)
@[simp] theorem lstOf_scr : lstOf C (.scr l) = some l := (rfl)
@[simp] theorem lstOf_cel (n : Nat) : lstOf C (.cel n) = match C.get n with | some (.lst l) => some l | _ => none := (rfl)
@[simp] theorem lstOf_int : lstOf C (.int i) = none := (rfl)
@[simp] theorem lstOf_bl (b : Bool) : lstOf C (.bl b) = none := (rfl)
@[simp] theorem lstOf_non : lstOf C .non = none := (rfl)
@[simp] theorem lstOf_str (x : Str) : lstOf C (.str x) = none := (rfl)
@[simp] theorem lstOf_tup : lstOf C (.tup l) = none := (rfl)
@[simp] theorem lstOf_ktp : lstOf C (.ktp l) = none := (rfl)
@[simp] theorem lstOf_obj (c : Nat) : lstOf C (.obj c l) = none := (rfl)
@[simp] theorem trkOf_lst : trkOf C (.lst l) = some l := (rfl)
@[simp] theorem trkOf_cel (n : Nat) : trkOf C (.cel n) = match C.get n with | some (.lst l) => some l | _ => none := (rfl)
@[simp] theorem seqOf_lst : seqOf C (.lst l) = some l := (rfl)
@[simp] theorem seqOf_scr : seqOf C (.scr l) = some l := (rfl)
@[simp] theorem seqOf_tup : seqOf C (.tup l) = some l := (rfl)
@[simp] theorem seqOf_ktp : seqOf C (.ktp l) = some l := (rfl)
@[simp] theorem seqOf_cel (n : Nat) : seqOf C (.cel n) = match C.get n with | some (.lst l) => some l | _ => none := (rfl)
@[simp] theorem vw_lst : vw C (.lst l) = .lst l := (rfl)
@[simp] theorem vw_tup : vw C (.tup l) = .tup l := (rfl)
@[simp] theorem vw_int : vw C (.int i) = .int i := (rfl)
@[simp] theorem vw_non : vw C .non = .non := (rfl)
@[simp] theorem vw_bl (b : Bool) : vw C (.bl b) = .bl b := (rfl)
@[simp] theorem vw_str (x : Str) : vw C (.str x) = .str x := (rfl)
theorem vw_cel {n : Nat} (h : C.get n = some (.lst l)) : vw C (.cel n) = .lst l := by simp [vw, h]
@[simp] theorem eqD_int : eqD (.int i) (.int j) = (i == j) := (rfl)
@[simp] theorem knd_lst : knd C (.lst l) = some 4 := (rfl)
@[simp] theorem knd_cel (n : Nat) : knd C (.cel n) = (C.get n).map kndO := (rfl)
@[simp] theorem kndO_lst : kndO (.lst l) = 4 := (rfl)
@[simp] theorem tyL_lst : tyL C (.lst l) = true := (rfl)
theorem tyL_cel {n : Nat} (h : C.get n = some (.lst l)) : tyL C (.cel n) = true := by simp [tyL, h]
theorem append_cel {n : Nat} (h : C.get n = some (.lst l)) (d : D) (hl : l.length < 16777216) : mAppend (.cel n) [d] C = .ok .non (C.set n (.lst (l ++ [d]))) := by
  simp only [mAppend, atL, h]; exact if_pos hl
mutual
theorem eqD_refl : ∀ (n : Nat) (d : D), plain n d = true → eqD d d = true
  | 0, _, h => by simp [plain] at h
  | n + 1, .non, _ => by unfold eqD; rfl
  | n + 1, .bl b, _ => by unfold eqD; exact beq_self_eq_true b
  | n + 1, .int b, _ => by unfold eqD; exact beq_self_eq_true b
  | n + 1, .str b, _ => by unfold eqD; exact beq_self_eq_true b
  | n + 1, .lst l, h => by unfold eqD; exact eqDs_refl n l (by simpa [plain] using h)
  | n + 1, .tup l, h => by unfold eqD; exact eqDs_refl n l (by simpa [plain] using h)
  | n + 1, .obj _ _, h => by simp [plain] at h
  | n + 1, .cel _, h => by simp [plain] at h
  | n + 1, .opq _ _, h => by simp [plain] at h
  | n + 1, .scr _, h => by simp [plain] at h
  | n + 1, .ktp _, h => by simp [plain] at h
theorem eqDs_refl (n : Nat) : ∀ (l : List D), (∀ x ∈ l, plain n x = true) → eqDs l l = true
  | [], _ => by unfold eqDs; rfl
  | d :: r, h => by
    unfold eqDs
    rw [eqD_refl n d (h d (by simp)), eqDs_refl n r fun x q => h x (by simp [q])]; rfl
end
/-- the same data: not different -/
theorem dNe_same {x y : D} (h : vw C x = vw C y) (p : plain 30 (vw C x) = true) : dNe x y C = .ok (.bl false) C := by
  unfold dNe; rw [← h, p, eqD_refl 30 _ p]; rfl
theorem dEq_same {x y : D} (h : vw C x = vw C y) (p : plain 30 (vw C x) = true) : dEq x y C = .ok (.bl true) C := by
  unfold dEq; rw [← h, p, eqD_refl 30 _ p]; rfl
@[simp] theorem dEq_i : dEq (.int i) (.int j) C = .ok (.bl (i == j)) C := (rfl)
@[simp] theorem dNe_i : dNe (.int i) (.int j) C = .ok (.bl (!(i == j))) C := (rfl)
@[simp] theorem asInts_ints (ns : List Int) : asInts (ns.map D.int) = some ns := by
  induction ns with
  | nil => rfl
  | cons a r ih => simp [asInts, ih]
end
/-! ### the cells: what a run keeps -/
structure Ext (S : List Nat) (C C' : Cells) : Prop where
  nx : C.nx ≤ C'.nx
  get : ∀ n, n < C.nx → n ∉ S → C'.get n = C.get n
section
variable {S S' : List Nat} {C C' C'' : Cells} {n : Nat} {o : O}
theorem Ext.refl : Ext S C C := ⟨Nat.le_refl _, fun _ _ _ => rfl⟩
theorem Ext.trans (h : Ext S C C') (k : Ext S C' C'') : Ext S C C'' := ⟨Nat.le_trans h.nx k.nx, fun n a b => (k.get n (Nat.lt_of_lt_of_le a h.nx) b).trans (h.get n a b)⟩
theorem Ext.mono (h : Ext S C C') (k : ∀ n ∈ S, n ∈ S' ∨ C.nx ≤ n) : Ext S' C C' := ⟨h.nx, fun n a b => h.get n a fun q => (k n q).elim b fun z => absurd a (Nat.not_lt.mpr z)⟩
theorem Ext.new (h : Ext S C C') : Ext S C (C'.new o) := ⟨Nat.le_trans h.nx (Nat.le_succ _), fun n a b => by
  rw [get_new_ne (by have := h.nx; omega)]; exact h.get n a b⟩
theorem Ext.set (h : Ext S C C') (k : n ∈ S ∨ C.nx ≤ n) : Ext S C (C'.set n o) := ⟨h.nx, fun m a b => by
  by_cases q : m = n
  · subst q; exact k.elim (absurd · b) fun z => absurd a (Nat.not_lt.mpr z)
  · rw [get_set_ne q]; exact h.get m a b⟩
theorem Ext.del (h : Ext S C C') (k : n ∈ S ∨ C.nx ≤ n) : Ext S C (C'.del n) := ⟨h.nx, fun m a b => by
  by_cases q : m = n
  · subst q; exact k.elim (absurd · b) fun z => absurd a (Nat.not_lt.mpr z)
  · exact (if_neg q).trans (h.get m a b)⟩
theorem Ext.bump (h : Ext S C C') (k : Nat) : Ext S C (C'.bump k) := ⟨Nat.le_trans h.nx (Nat.le_add_right _ _), h.get⟩
theorem Ext.keep (h : Ext S C C') (e : C.get n = some o) (k : n ∉ S := by simp) : C'.get n = some o := (h.get n (by
  by_cases q : n < C.nx
  · exact q
  · rw [C.wf n (by omega)] at e; cases e) k).trans e
theorem lt_of_get (e : C.get n = some o) : n < C.nx := by
  by_cases q : n < C.nx
  · exact q
  · rw [C.wf n (by omega)] at e; cases e
end
/-! ### loops -/
section
variable {tg : GF} {b : SF} {t : TF} {f : EF} {vs : List Nat}
@[simp] theorem forF_nil {s : Sl} {C : Cells} : forF tg b [] s C = .nxt s C := (rfl)
@[simp] theorem forF_cons {d : D} {r : List D} {s : Sl} {C : Cells} : forF tg b (d :: r) s C = match tg d s C with | none => .no | some s => match b s C with | .nxt s C => forF tg b r s C | .cnt s C => forF tg b r s C | .brk s C => .nxt s C | x => x := (rfl)
/-- a loop that goes through: P holds of what is left, slots, cells -/
theorem forF_inv (P : List D → Sl → Cells → Prop) (hs : ∀ d r s C, P (d :: r) s C → ∃ s1, tg d s C = some s1 ∧ ∃ s' C', (b s1 C = .nxt s' C' ∨ b s1 C = .cnt s' C') ∧ P r s' C') :
    ∀ ds s C, P ds s C → ∃ s' C', forF tg b ds s C = .nxt s' C' ∧ P [] s' C'
  | [], s, C, h => ⟨s, C, rfl, h⟩
  | d :: r, s, C, h => by
    obtain ⟨s1, h1, s', C', h2, h3⟩ := hs d r s C h
    obtain ⟨s2, C2, h4, h5⟩ := forF_inv P hs r s' C' h3
    refine ⟨s2, C2, ?_, h5⟩
    rw [forF_cons, h1]
    rcases h2 with h2 | h2 <;> simp only [h2] <;> exact h4
theorem whileF_inv (P : Nat → Sl → Cells → Prop) (Z : Sl → Cells → Prop) (hs : ∀ n s C, P n s C → (∃ s' C', t s C = .ok false C' ∧ s' = s ∧ Z s' C') ∨ ∃ C1, t s C = .ok true C1 ∧ ∃ s' C', ((b s C1 = .brk s' C' ∧ Z s' C') ∨ ((b s C1 = .nxt s' C' ∨ b s C1 = .cnt s' C') ∧ ∃ m, m < n ∧ P m s' C'))) :
    ∀ k n s C, P n s C → n < k → ∃ s' C', whileF t b k s C = .nxt s' C' ∧ Z s' C'
  | 0, n, s, C, _, h => absurd h (Nat.not_lt_zero _)
  | k + 1, n, s, C, h, hk => by
    rcases hs n s C h with ⟨s', C', h1, rfl, h2⟩ | ⟨C1, h1, s', C', h2⟩
    · exact ⟨s', C', by unfold whileF; rw [h1]; rfl, h2⟩
    · rcases h2 with ⟨h2, h3⟩ | ⟨h2, m, hm, h3⟩
      · exact ⟨s', C', by unfold whileF; rw [h1]; simp [h2], h3⟩
      · obtain ⟨s2, C2, h4, h5⟩ := whileF_inv P Z hs k m s' C' h3 (by omega)
        refine ⟨s2, C2, ?_, h5⟩
        unfold whileF; rw [h1]
        rcases h2 with h2 | h2 <;> simp [h2, h4]
/-- a comprehension that changes no cell -/
theorem lcF_pure {s : Sl} {C : Cells} (p : D → Bool) (g : D → D) : ∀ (ds : List D), (∀ d ∈ ds, ∃ s', tg d (wipeD s vs) C = some s' ∧ t s' C = .ok (p d) C ∧ (p d = true → f s' C = .ok (g d) C)) →
    lcF tg t f vs ds s C = .ok ((ds.filter p).map g) C
  | [], _ => rfl
  | d :: r, h => by
    obtain ⟨s', h1, h2, h3⟩ := h d (by simp)
    have ih := lcF_pure p g r fun x q => h x (by simp [q])
    unfold lcF
    rw [h1]; simp only [h2]
    cases hp : p d with
    | true => simp only [h3 hp, ih, List.filter_cons, hp, if_true, List.map_cons]
    | false => simp only [ih, List.filter_cons, hp]; rfl
/-- a comprehension whose parts keep an invariant of the cells; its worth by the items -/
theorem lcF_inv {s : Sl} (I : Cells → Prop) (p : D → Bool) (g : D → D) : ∀ (ds : List D) (C : Cells), I C → (∀ d ∈ ds, ∀ C, I C → ∃ s', tg d (wipeD s vs) C = some s' ∧ ∃ C1, t s' C = .ok (p d) C1 ∧ I C1 ∧ (p d = true → ∃ C2, f s' C1 = .ok (g d) C2 ∧ I C2)) →
    ∃ C', lcF tg t f vs ds s C = .ok ((ds.filter p).map g) C' ∧ I C'
  | [], C, i, _ => ⟨C, rfl, i⟩
  | d :: r, C, i, h => by
    obtain ⟨s', h1, C1, h2, i1, h3⟩ := h d (by simp) C i
    cases hp : p d with
    | true =>
      obtain ⟨C2, h4, i2⟩ := h3 hp
      obtain ⟨C3, ih, i3⟩ := lcF_inv I p g r C2 i2 fun x q => h x (by simp [q])
      refine ⟨C3, ?_, i3⟩
      unfold lcF
      rw [h1]; simp only [h2, hp, h4, ih, List.filter_cons, if_true, List.map_cons]
    | false =>
      obtain ⟨C3, ih, i3⟩ := lcF_inv I p g r C1 i1 fun x q => h x (by simp [q])
      refine ⟨C3, ?_, i3⟩
      unfold lcF
      rw [h1]; simp only [h2, hp, ih, List.filter_cons]; rfl
end
/-- a comprehension whose items' worth is only bounded -/
theorem lcF_all {tg : GF} {f : EF} {vs : List Nat} {s : Sl} (I : Cells → Prop) (R : D → Prop) : ∀ (ds : List D) (C : Cells), I C → (∀ d ∈ ds, ∀ C, I C → ∃ s', tg d (wipeD s vs) C = some s' ∧ ∃ y C2, f s' C = .ok y C2 ∧ I C2 ∧ R y) →
    ∃ ys C', lcF tg tYesF f vs ds s C = .ok ys C' ∧ I C' ∧ ys.length = ds.length ∧ ∀ y ∈ ys, R y
  | [], C, i, _ => ⟨[], C, rfl, i, rfl, by simp⟩
  | d :: r, C, i, h => by
    obtain ⟨s', h1, y, C2, h4, i2, r1⟩ := h d (by simp) C i
    obtain ⟨ys, C3, ih, i3, l3, r3⟩ := lcF_all I R r C2 i2 fun x q => h x (by simp [q])
    refine ⟨y :: ys, C3, ?_, i3, by simp [l3], fun z m => ?_⟩
    · unfold lcF
      rw [h1]; simp only [tYes_ap, h4, ih]
    · rcases List.mem_cons.1 m with rfl | m
      · exact r1
      · exact r3 z m
theorem bAll_true {C : Cells} {l : List D} (h : ∀ x ∈ l, x = .bl true) : bAll [.lst l] C = .ok (.bl true) C := by
  have : asBls l = some (List.replicate l.length true) := by
    induction l with
    | nil => rfl
    | cons a r ih =>
      rw [h a (by simp)]
      unfold asBls
      rw [ih fun x m => h x (by simp [m])]; rfl
  simp [bAll, this]
theorem ints_of {l : List D} {P : Int → Prop} (h : ∀ y ∈ l, ∃ i, y = .int i ∧ P i) : ∃ ns : List Int, l = ns.map D.int ∧ ns.length = l.length ∧ ∀ i ∈ ns, P i := by
  induction l with
  | nil => exact ⟨[], rfl, rfl, by simp⟩
  | cons a r ih =>
    obtain ⟨ns, h1, h2, h3⟩ := ih fun y m => h y (by simp [m])
    obtain ⟨i, rfl, hi⟩ := h a (by simp)
    exact ⟨i :: ns, by simp [h1], by simp [h2], fun j m => by
      rcases List.mem_cons.1 m with rfl | m
      · exact hi
      · exact h3 j m⟩
theorem cutD_take (l : List D) (k : Nat) : cutD l none (some (k : Int)) = l.take k := by
  unfold cutD
  rw [HT.sIx_none, HT.sIx_nat, List.drop_zero, Nat.sub_zero]
  by_cases h : k ≤ l.length
  · rw [Nat.min_eq_left h]
  · rw [Nat.min_eq_right (by omega), List.take_length, List.take_of_length_le (by omega)]
theorem cutD_drop (l : List D) (k : Nat) : cutD l (some (k : Int)) none = l.drop k := by
  unfold cutD
  rw [HT.sIx_none, HT.sIx_nat]
  by_cases h : k ≤ l.length
  · rw [Nat.min_eq_left h, List.take_of_length_le (by simp)]
  · rw [Nat.min_eq_right (by omega), List.drop_length, List.drop_of_length_le (by omega)]; simp
/-! ### loops over cells -/
section
variable {tg : GF} {b : SF} {t : TF} {f : EF} {vs : List Nat} {kp : Cells → Prop}
@[simp] theorem iCel_ap {a : EF} {s : Sl} {C : Cells} : iCel a s C = (a s C).bind celK := (rfl)
theorem celK_cel {n : Nat} {l : List D} {C : Cells} (h : C.get n = some (.lst l)) : celK (.cel n) C = .ok (l, fun C' => C'.get n = some (.lst l)) C := by
  unfold celK; simp only [h]
@[simp] theorem celK_lst {l : List D} {C : Cells} : celK (.lst l) C = .ok (l, fun _ => True) C := (rfl)
@[simp] theorem celK_scr {l : List D} {C : Cells} : celK (.scr l) C = .ok (l, fun _ => True) C := (rfl)
@[simp] theorem sForK_ap {it : IK} {s : Sl} {C : Cells} : sForK it tg b s C = match it s C with | .ok p C => forK p.2 tg b p.1 s C | .err c C => .err c s C | .no => .no := (rfl)
@[simp] theorem eLcK_ap {a : EF} {s : Sl} {C : Cells} {it : IK} : eLcK it tg t a vs s C = (lcKG it tg t a vs s C).bind fun ys C => .ok (.lst ys) C := (rfl)
@[simp] theorem eLcKC_ap {a : EF} {s : Sl} {C : Cells} {it : IK} : eLcKC it tg t a vs s C = (lcKG it tg t a vs s C).bind newL := (rfl)
@[simp] theorem lcKG_ap {a : EF} {s : Sl} {C : Cells} {it : IK} : lcKG it tg t a vs s C = (it s C).bind fun p C => match lcK p.2 tg t a vs p.1 s C with | .ok ys C => if p.1.length ≤ mxl then .ok ys C else .no | _ => .no := (rfl)
theorem forK_eq : ∀ (ds : List D) (s : Sl) (C : Cells), (∀ C', kp C') → forK kp tg b ds s C = forF tg b ds s C
  | [], s, C, h => by unfold forK; rw [if_pos (h C)]; rfl
  | d :: r, s, C, h => by
    unfold forK; rw [if_pos (h C), forF_cons]
    cases tg d s C with
    | none => rfl
    | some s1 =>
      cases hb : b s1 C <;> simp only [hb, forK_eq r _ _ h]
theorem forK_inv (P : List D → Sl → Cells → Prop) (hk : ∀ ds s C, P ds s C → kp C) (hs : ∀ d r s C, P (d :: r) s C → ∃ s1, tg d s C = some s1 ∧ ∃ s' C', (b s1 C = .nxt s' C' ∨ b s1 C = .cnt s' C') ∧ P r s' C') :
    ∀ ds s C, P ds s C → ∃ s' C', forK kp tg b ds s C = .nxt s' C' ∧ P [] s' C'
  | [], s, C, h => ⟨s, C, by unfold forK; rw [if_pos (hk _ _ _ h)], h⟩
  | d :: r, s, C, h => by
    obtain ⟨s1, h1, s', C', h2, h3⟩ := hs d r s C h
    obtain ⟨s2, C2, h4, h5⟩ := forK_inv P hk hs r s' C' h3
    refine ⟨s2, C2, ?_, h5⟩
    unfold forK
    rw [if_pos (hk _ _ _ h), h1]
    rcases h2 with h2 | h2 <;> simp only [h2] <;> exact h4
theorem lcK_pure {s : Sl} {C : Cells} (p : D → Bool) (g : D → D) (hk : kp C) : ∀ (ds : List D), (∀ d ∈ ds, ∃ s', tg d (wipeD s vs) C = some s' ∧ t s' C = .ok (p d) C ∧ (p d = true → f s' C = .ok (g d) C)) →
    lcK kp tg t f vs ds s C = .ok ((ds.filter p).map g) C
  | [], _ => by unfold lcK; rw [if_pos hk]; rfl
  | d :: r, h => by
    obtain ⟨s', h1, h2, h3⟩ := h d (by simp)
    have ih := lcK_pure p g hk r fun x q => h x (by simp [q])
    unfold lcK
    rw [if_pos hk, h1]; simp only [h2]
    cases hp : p d with
    | true => simp only [h3 hp, ih, List.filter_cons, hp, if_true, List.map_cons]
    | false => simp only [ih, List.filter_cons, hp]; rfl
theorem lcK_inv {s : Sl} (I : Cells → Prop) (p : D → Bool) (g : D → D) (hk : ∀ C, I C → kp C) : ∀ (ds : List D) (C : Cells), I C → (∀ d ∈ ds, ∀ C, I C → ∃ s', tg d (wipeD s vs) C = some s' ∧ ∃ C1, t s' C = .ok (p d) C1 ∧ I C1 ∧ (p d = true → ∃ C2, f s' C1 = .ok (g d) C2 ∧ I C2)) →
    ∃ C', lcK kp tg t f vs ds s C = .ok ((ds.filter p).map g) C' ∧ I C'
  | [], C, i, _ => ⟨C, by unfold lcK; rw [if_pos (hk C i)]; rfl, i⟩
  | d :: r, C, i, h => by
    obtain ⟨s', h1, C1, h2, i1, h3⟩ := h d (by simp) C i
    cases hp : p d with
    | true =>
      obtain ⟨C2, h4, i2⟩ := h3 hp
      obtain ⟨C3, ih, i3⟩ := lcK_inv I p g hk r C2 i2 fun x q => h x (by simp [q])
      refine ⟨C3, ?_, i3⟩
      unfold lcK
      rw [if_pos (hk C i), h1]; simp only [h2, hp, h4, ih, List.filter_cons, if_true, List.map_cons]
    | false =>
      obtain ⟨C3, ih, i3⟩ := lcK_inv I p g hk r C1 i1 fun x q => h x (by simp [q])
      refine ⟨C3, ?_, i3⟩
      unfold lcK
      rw [if_pos (hk C i), h1]; simp only [h2, hp, ih, List.filter_cons]; rfl
end
/-! ### lists of ints -/
theorem max_ok (n : Int) (r : List Int) : PySem.W.maxOf n r ∈ n :: r ∧ ∀ x ∈ n :: r, x ≤ PySem.W.maxOf n r := by
  unfold PySem.W.maxOf
  induction r generalizing n with
  | nil => simp
  | cons y ys ih =>
    rw [List.foldl_cons]
    obtain ⟨h1, h2⟩ := ih (if PySem.W.DatumOrd.lt n y = true then y else n)
    have e : PySem.W.DatumOrd.lt n y = decide (n < y) := rfl
    rw [e] at h1 h2 ⊢
    by_cases q : n < y
    · simp only [decide_eq_true q, if_true] at h1 h2 ⊢
      refine ⟨by simp at h1 ⊢; right; exact h1, fun x m => ?_⟩
      have := h2 y (by simp)
      simp at m
      rcases m with rfl | rfl | m
      · omega
      · exact this
      · exact h2 x (by simp [m])
    · simp only [decide_eq_false q, Bool.false_eq_true, if_false] at h1 h2 ⊢
      refine ⟨by simp at h1 ⊢; rcases h1 with h1 | h1; exact .inl h1; exact .inr (.inr h1), fun x m => ?_⟩
      have := h2 n (by simp)
      simp at m
      rcases m with rfl | rfl | m
      · exact this
      · omega
      · exact h2 x (by simp [m])
theorem mem_sortI {l : List Int} {x : Int} : x ∈ sortI l ↔ x ∈ l := (List.mergeSort_perm l _).mem_iff
theorem sortI_len {l : List Int} : (sortI l).length = l.length := (List.mergeSort_perm l _).length_eq
theorem sortI_lt {l : List Int} (h : l.Nodup) : (sortI l).Pairwise (· < ·) := by
  have p : (sortI l).Pairwise (fun a b => decide (a ≤ b) = true) := List.pairwise_mergeSort (fun a b c => by simp; omega) (fun a b => by simp; omega) l
  have n : (sortI l).Nodup := (List.mergeSort_perm l _).nodup_iff.2 h
  refine (List.Pairwise.and p n).imp fun {a b} q => ?_
  have := q.1
  have := q.2
  simp at *
  omega
theorem sortI_same {l : List Int} (h : l.Pairwise (· < ·)) : sortI l = l := List.mergeSort_of_pairwise (h.imp fun {a b} q => by simp; omega)
theorem map_rngD {lo : Int} {n : Nat} : rngD lo n = ((List.range n).map fun (i : Nat) => lo + (i : Int)).map D.int := by
  unfold rngD; rw [List.map_map]; rfl
def rng (lo : Int) (n : Nat) : List Int := (List.range n).map fun (i : Nat) => lo + (i : Int)
theorem rngD_eq {lo : Int} {n : Nat} : rngD lo n = (rng lo n).map D.int := map_rngD
theorem mem_rng {lo x : Int} {n : Nat} : x ∈ rng lo n ↔ lo ≤ x ∧ x < lo + n := by
  unfold rng
  rw [List.mem_map]
  constructor
  · rintro ⟨i, m, rfl⟩
    have := List.mem_range.1 m
    omega
  · rintro ⟨a, b⟩
    exact ⟨(x - lo).toNat, List.mem_range.2 (by omega), by omega⟩
theorem rng_lt {lo : Int} {n : Nat} : (rng lo n).Pairwise (· < ·) := by
  unfold rng
  rw [List.pairwise_map]
  exact List.pairwise_lt_range.imp fun {a b} h => by omega
theorem rng_len {lo : Int} {n : Nat} : (rng lo n).length = n := by simp [rng]
theorem atI_get {α : Type} {l : List α} {i : Int} {x : α} (h0 : 0 ≤ i) (h : l[i.toNat]? = some x) : atI l i = some x := by
  have hl : i.toNat < l.length := by
    by_cases q : i.toNat < l.length
    · exact q
    · rw [List.getElem?_eq_none (by omega)] at h; cases h
  unfold atI ixN
  rw [if_pos h0, if_pos (by omega)]
  exact h
theorem ixN_last {n : Nat} (h : 0 < n) : ixN n (-1) = some (n - 1) := by
  unfold ixN
  rw [if_neg (by decide), if_pos (by omega)]
  congr 1; omega
theorem ixN_get {n : Nat} {i : Int} (h0 : 0 ≤ i) (h : i < n) : ixN n i = some i.toNat := by
  unfold ixN; rw [if_pos h0, if_pos h]
/-- dicts with int keys -/
def dkI (ks : List Int) (v : D) : List (Key × D) := ks.map fun k => (.inl k, v)
theorem look_dkI {ks : List Int} {v : D} {x : Int} : lookD (dkI ks v) (.inl x) = if x ∈ ks then some v else none := by
  unfold lookD dkI
  induction ks with
  | nil => simp
  | cons a r ih =>
    rw [List.map_cons, List.find?_cons]
    by_cases q : a = x
    · subst q; simp
    · have : decide ((Sum.inl a : Key) = .inl x) = false := by simp [q]
      rw [this]
      have q' : ¬ x = a := fun z => q z.symm
      simp [q'] at ih ⊢
      exact ih
def insI (ks : List Int) (x : Int) : List Int := if x ∈ ks then ks else ks ++ [x]
theorem put_dkI {ks : List Int} {v : D} {x : Int} : putD (dkI ks v) (.inl x) v = dkI (insI ks x) v := by
  unfold putD insI dkI
  by_cases q : x ∈ ks
  · rw [if_pos (by simp [q]), if_pos q, List.map_map]
    apply List.map_congr_left
    intro a _
    show (if (Sum.inl a : Key) = .inl x then ((Sum.inl a : Key), v) else (.inl a, v)) = (.inl a, v)
    split <;> rfl
  · rw [if_neg (by simp [q]), if_neg q, List.map_append]; rfl
theorem mem_insI {ks : List Int} {x y : Int} : y ∈ insI ks x ↔ y ∈ ks ∨ y = x := by
  unfold insI; split
  · constructor
    · exact .inl
    · rintro (h | rfl) <;> assumption
  · simp
theorem nodup_insI {ks : List Int} {x : Int} (h : ks.Nodup) : (insI ks x).Nodup := by
  unfold insI; split
  · exact h
  · rename_i q
    rw [List.nodup_append]
    exact ⟨h, by simp, fun a m b n => by simp at n; subst n; intro e; subst e; exact q m⟩
theorem len_insI {ks : List Int} {x : Int} : (insI ks x).length ≤ ks.length + 1 := by
  unfold insI; split <;> simp
theorem keys_dkI {ks : List Int} {v : D} : (dkI ks v).map (fun p => keyD p.1) = ks.map D.int := by
  unfold dkI; rw [List.map_map]; rfl
theorem len_dkI {ks : List Int} {v : D} : (dkI ks v).length = ks.length := by simp [dkI]
end DL

set_option Elab.async false
set_option linter.all false
set_option maxRecDepth 100000
set_option autoImplicit false
namespace DL
open PySem PySem.Spec PyProof.Rows L2
/-! ### cutting, in plain numbers -/
/-- what a piece has -/
structure Pc where
  n : Int
  a : Str
  b : Str
  bs : List Int
  k : Bool
  at_ : Int
  mo : Bool
def stp (w : Nat) : Nat := w - w % 8
/-- the rest behind s bytes -/
def Pc.rest (x : Pc) (s : Nat) : Pc := { x with bs := x.bs.drop s, at_ := x.at_ + s }
/-- the first s bytes, something being behind them -/
def Pc.head (x : Pc) (s : Nat) : Pc := { x with bs := x.bs.take s, mo := true }
def cutP (w : Nat) (x : Pc) : List Pc :=
  if h : x.bs.length ≤ w ∨ stp w = 0 then [x] else x.head (stp w) :: cutP w (x.rest (stp w))
termination_by x.bs.length
decreasing_by simp [Pc.rest]; omega
theorem cutP_le {w : Nat} {x : Pc} (h : x.bs.length ≤ w) : cutP w x = [x] := by
  unfold cutP; rw [dif_pos (.inl h)]
theorem stp_pos {w : Nat} (h : 8 ≤ w) : 8 ≤ stp w ∧ stp w ≤ w ∧ stp w % 8 = 0 := by unfold stp; omega
theorem cutP_gt {w : Nat} {x : Pc} (hw : 8 ≤ w) (h : w < x.bs.length) : cutP w x = x.head (stp w) :: cutP w (x.rest (stp w)) := by
  have := stp_pos hw
  conv => lhs; unfold cutP
  rw [dif_neg (by omega)]
/-- x stands as the row ps -/
inductive Div : Pc → List Pc → Prop
  | one (x : Pc) : Div x [x]
  | cons (x : Pc) (s : Nat) (r : List Pc) : 0 < s → s < x.bs.length → s % 8 = 0 → Div (x.rest s) r → Div x (x.head s :: r)
theorem Div.ne {x : Pc} {ps : List Pc} (h : Div x ps) : ps ≠ [] := by cases h <;> simp
theorem cutP_div {w : Nat} (hw : 8 ≤ w) : ∀ (n : Nat) (x : Pc), x.bs.length ≤ n → Div x (cutP w x)
  | 0, x, h => by rw [cutP_le (by omega)]; exact .one x
  | n + 1, x, h => by
    by_cases q : x.bs.length ≤ w
    · rw [cutP_le q]; exact .one x
    · have := stp_pos hw
      rw [cutP_gt hw (by omega)]
      exact .cons x _ _ (by omega) (by omega) (by omega) (cutP_div hw n _ (by simp [Pc.rest]; omega))
theorem Pc.head_rest (x : Pc) (t s : Nat) (h : t ≤ s) : (x.head s).rest t = (x.rest t).head (s - t) := by
  unfold Pc.head Pc.rest
  simp [List.drop_take]
theorem Pc.head_head (x : Pc) (t s : Nat) (h : t ≤ s) : (x.head s).head t = x.head t := by
  unfold Pc.head
  simp [List.take_take, Nat.min_eq_left h]
theorem Pc.rest_rest (x : Pc) (t s : Nat) (h : t ≤ s) : (x.rest t).rest (s - t) = x.rest s := by
  unfold Pc.rest
  simp only [List.drop_drop]
  congr 1
  · congr 1; omega
  · omega
theorem Div.app {r : List Pc} : ∀ {y : Pc} {qs : List Pc}, Div y qs → ∀ (x : Pc) (s : Nat), y = x.head s → 0 < s → s < x.bs.length → s % 8 = 0 → Div (x.rest s) r → Div x (qs ++ r) := by
  intro y qs h
  induction h with
  | one y =>
    rintro x s rfl h0 h1 h2 hr
    exact .cons x s r h0 h1 h2 hr
  | cons y t r' t0 t1 t2 hr' ih =>
    rintro x s rfl h0 h1 h2 hr
    have hl : (x.head s).bs.length = s := by simp [Pc.head]; omega
    rw [hl] at t1
    rw [List.cons_append, Pc.head_head x t s (by omega)]
    refine .cons x t _ t0 (by omega) t2 (ih (x.rest t) (s - t) (Pc.head_rest x t s (by omega)) (by omega) (by simp [Pc.rest]; omega) (by omega) ?_)
    rw [Pc.rest_rest x t s (by omega)]; exact hr
theorem Div.flat {f : Pc → List Pc} : ∀ {x : Pc} {ps : List Pc}, Div x ps → (∀ y ∈ ps, Div y (f y)) → Div x (ps.flatMap f) := by
  intro x ps h
  induction h with
  | one x => intro hf; have := hf x (by simp); simpa using this
  | cons x s r h0 h1 h2 hr ih =>
    intro hf
    rw [List.flatMap_cons]
    exact Div.app (hf _ (by simp)) x s rfl h0 h1 h2 (ih fun y m => hf y (by simp [m]))
/-- all parts are short -/
theorem cutP_short {w : Nat} (hw : 8 ≤ w) : ∀ (n : Nat) (x : Pc), x.bs.length ≤ n → ∀ y ∈ cutP w x, y.bs.length ≤ w
  | 0, x, h => by
    intro y m
    rw [cutP_le (by omega)] at m
    rw [List.mem_singleton.1 m]; omega
  | n + 1, x, h => by
    intro y m
    by_cases q : x.bs.length ≤ w
    · rw [cutP_le q] at m
      rw [List.mem_singleton.1 m]; exact q
    · have := stp_pos hw
      rw [cutP_gt hw (by omega)] at m
      rcases List.mem_cons.1 m with rfl | m
      · simp [Pc.head]; omega
      · exact cutP_short hw n _ (by simp [Pc.rest]; omega) y m
/-- a part is no longer than what is cut, keeps key and keep -/
theorem Div.mem : ∀ {x : Pc} {ps : List Pc}, Div x ps → ∀ y ∈ ps, y.bs.length ≤ x.bs.length ∧ y.n = x.n ∧ y.a = x.a ∧ y.b = x.b ∧ y.k = x.k := by
  intro x ps h
  induction h with
  | one x => intro y m; rw [List.mem_singleton.1 m]; exact ⟨Nat.le_refl _, rfl, rfl, rfl, rfl⟩
  | cons x s r h0 h1 h2 hr ih =>
    intro y m
    rcases List.mem_cons.1 m with rfl | m
    · exact ⟨by simp [Pc.head]; omega, rfl, rfl, rfl, rfl⟩
    · obtain ⟨a, b, c, d, e⟩ := ih y m
      exact ⟨by simp [Pc.rest] at a; omega, b, c, d, e⟩
/-- one width more -/
def cutW (ps : List Pc) (w : Nat) : List Pc := ps.flatMap (cutP w)
def sentP (x : Pc) (ws : List Nat) : List Pc := ws.foldl cutW [x]
theorem cutW_div {x : Pc} {ps : List Pc} {w : Nat} (h : Div x ps) (hw : 8 ≤ w) : Div x (cutW ps w) := h.flat fun y _ => cutP_div hw _ y (Nat.le_refl _)
theorem cutW_short {ps : List Pc} {w : Nat} (hw : 8 ≤ w) : ∀ y ∈ cutW ps w, y.bs.length ≤ w := by
  intro y m
  obtain ⟨z, _, h⟩ := List.mem_flatMap.1 m
  exact cutP_short hw _ z (Nat.le_refl _) y h
theorem cutW_keep {ps : List Pc} {w m : Nat} (hw : 8 ≤ w) (h : ∀ y ∈ ps, y.bs.length ≤ m) : ∀ y ∈ cutW ps w, y.bs.length ≤ m := by
  intro y q
  obtain ⟨z, hz, q⟩ := List.mem_flatMap.1 q
  have := ((cutP_div hw _ z (Nat.le_refl _)).mem y q).1
  have := h z hz
  omega
theorem cutW_same {ps : List Pc} {w : Nat} (h : ∀ y ∈ ps, y.bs.length ≤ w) : cutW ps w = ps := by
  unfold cutW
  induction ps with
  | nil => rfl
  | cons y r ih => rw [List.flatMap_cons, cutP_le (h y (by simp)), ih fun z m => h z (by simp [m])]; rfl
theorem sent_div {x : Pc} : ∀ (ws : List Nat) (ps : List Pc), Div x ps → (∀ w ∈ ws, 8 ≤ w) → Div x (ws.foldl cutW ps)
  | [], _, h, _ => h
  | w :: r, _, h, hw => sent_div r _ (cutW_div h (hw w (by simp))) fun v m => hw v (by simp [m])
theorem sent_keep {m : Nat} : ∀ (ws : List Nat) (ps : List Pc), (∀ y ∈ ps, y.bs.length ≤ m) → (∀ w ∈ ws, 8 ≤ w) → ∀ y ∈ ws.foldl cutW ps, y.bs.length ≤ m
  | [], _, h, _ => h
  | w :: r, _, h, hw => sent_keep r _ (cutW_keep (hw w (by simp)) h) fun v m => hw v (by simp [m])
theorem sent_short : ∀ (ws : List Nat) (ps : List Pc), (∀ w ∈ ws, 8 ≤ w) → ∀ w ∈ ws, ∀ y ∈ ws.foldl cutW ps, y.bs.length ≤ w
  | [], _, _, w, m => by cases m
  | v :: r, ps, hw, w, m => by
    rcases List.mem_cons.1 m with rfl | m
    · exact sent_keep r _ (cutW_short (hw w (by simp))) fun u m => hw u (by simp [m])
    · exact sent_short r _ (fun u m => hw u (by simp [m])) w m
/-- the widths that are narrower than all ahead -/
def narG : List Nat → List Nat → List Nat
  | _, [] => []
  | f, w :: r => if ∀ m ∈ f, w < m then w :: narG (f ++ [w]) r else narG f r
theorem nar_same : ∀ (ws f : List Nat) (ps : List Pc), (∀ m ∈ f, ∀ y ∈ ps, y.bs.length ≤ m) → (∀ w ∈ ws, 8 ≤ w) → (narG f ws).foldl cutW ps = ws.foldl cutW ps
  | [], _, _, _, _ => rfl
  | w :: r, f, ps, h, hw => by
    unfold narG
    have h8 := hw w (by simp)
    split
    · rw [List.foldl_cons, List.foldl_cons]
      refine nar_same r _ _ (fun m hm y hy => ?_) fun v m => hw v (by simp [m])
      rcases List.mem_append.1 hm with hm | hm
      · exact cutW_keep h8 (h m hm) y hy
      · rw [List.mem_singleton.1 hm]; exact cutW_short h8 y hy
    · rename_i q
      obtain ⟨m, q⟩ := Classical.not_forall.1 q
      obtain ⟨q, q2⟩ := Classical.not_imp.1 q
      rw [List.foldl_cons, cutW_same fun y hy => Nat.le_trans (h m q y hy) (by omega)]
      exact nar_same r f ps h fun v m => hw v (by simp [m])
theorem twice_same : ∀ (ws : List Nat) (ps : List Pc), (∀ w ∈ ws, 8 ≤ w) → (ws.flatMap fun w => [w, w]).foldl cutW ps = ws.foldl cutW ps
  | [], _, _ => rfl
  | w :: r, ps, hw => by
    rw [List.flatMap_cons, List.foldl_append, List.foldl_cons]
    show List.foldl cutW (cutW (cutW ps w) w) _ = _
    rw [cutW_same (cutW_short (hw w (by simp)))]
    exact twice_same r _ fun v m => hw v (by simp [m])
/-- the sizes -/
def szL (w len : Nat) : List Nat :=
  if h : len ≤ w ∨ stp w = 0 then [len] else stp w :: szL w (len - stp w)
termination_by len
decreasing_by omega
theorem szL_le {w len : Nat} (h : len ≤ w) : szL w len = [len] := by
  unfold szL; rw [dif_pos (.inl h)]
theorem szL_gt {w len : Nat} (hw : 8 ≤ w) (h : w < len) : szL w len = stp w :: szL w (len - stp w) := by
  have := stp_pos hw
  conv => lhs; unfold szL
  rw [dif_neg (by omega)]
theorem cutP_len {w : Nat} (hw : 8 ≤ w) : ∀ (n : Nat) (x : Pc), x.bs.length ≤ n → (cutP w x).length = (szL w x.bs.length).length
  | 0, x, h => by rw [cutP_le (by omega), szL_le (by omega)]; rfl
  | n + 1, x, h => by
    by_cases q : x.bs.length ≤ w
    · rw [cutP_le q, szL_le q]; rfl
    · have := stp_pos hw
      rw [cutP_gt hw (by omega), szL_gt hw (by omega), List.length_cons, List.length_cons, cutP_len hw n _ (by simp [Pc.rest]; omega)]
      simp [Pc.rest]
/-- a row is no longer than its bytes -/
theorem Div.len_le : ∀ {x : Pc} {ps : List Pc}, Div x ps → 1 ≤ x.bs.length → ps.length ≤ x.bs.length := by
  intro x ps h
  induction h with
  | one x => intro h; simpa using h
  | cons x s r h0 h1 h2 hr ih =>
    intro h
    have := ih (by simp [Pc.rest]; omega)
    simp [Pc.rest] at this ⊢
    omega
theorem flat_len {α β : Type} (f : α → List β) (a b : List α) : (a.flatMap f).length ≤ ((a ++ b).flatMap f).length := by
  rw [List.flatMap_append, List.length_append]; omega
/-! ### small things -/
theorem cutD_mid (l : List D) (a b : Nat) (h : a ≤ b) (hb : b ≤ l.length) : cutD l (some (a : Int)) (some (b : Int)) = (l.drop a).take (b - a) := by
  unfold cutD
  have h1 : min a l.length = a := by omega
  have h2 : min b l.length = b := by omega
  rw [HT.sIx_nat, HT.sIx_nat, h1, h2]
theorem pl_int29' (bs : List Int) : plain 29 (.lst (bs.map D.int)) = true := by
  show List.all _ (plain 28) = true
  rw [List.all_eq_true]; intro x m
  obtain ⟨i, _, rfl⟩ := List.mem_map.1 m; rfl
theorem dNeV_same' {x y : D} {C : Cells} (h : vwn 30 C x = vwn 30 C y) (p : plain 30 (vwn 30 C x) = true) : dNeV x y C = .ok (.bl false) C := by
  unfold dNeV; rw [← h, p, eqD_refl 30 _ p]; rfl
theorem dEqV_same' {x y : D} {C : Cells} (h : vwn 30 C x = vwn 30 C y) (p : plain 30 (vwn 30 C x) = true) : dEqV x y C = .ok (.bl true) C := by
  unfold dEqV; rw [← h, p, eqD_refl 30 _ p]; rfl
theorem neV_pl {x : D} {C : Cells} (p : plain 30 x = true) : dNeV x x C = .ok (.bl false) C := dNeV_same' rfl (by rw [vwn_plain 30 30 C x p]; exact p)
theorem eqV_pl {x : D} {C : Cells} (p : plain 30 x = true) : dEqV x x C = .ok (.bl true) C := dEqV_same' rfl (by rw [vwn_plain 30 30 C x p]; exact p)
@[simp] theorem neV_i (i j : Int) (C : Cells) : dNeV (.int i) (.int j) C = .ok (.bl (!(i == j))) C := (rfl)
@[simp] theorem eqV_i (i j : Int) (C : Cells) : dEqV (.int i) (.int j) C = .ok (.bl (i == j)) C := (rfl)
@[simp] theorem neV_b (i j : Bool) (C : Cells) : dNeV (.bl i) (.bl j) C = .ok (.bl (!(i == j))) C := (rfl)
@[simp] theorem eqV_b (i j : Bool) (C : Cells) : dEqV (.bl i) (.bl j) C = .ok (.bl (i == j)) C := (rfl)
theorem minL_le {l : List Int} {x : Int} (h : x ∈ l) : minL l ≤ x := (minL_ok (List.ne_nil_of_mem h)).2 x h
theorem bMin_ints {l : List Int} {C : Cells} (h : l ≠ []) : bMin [.lst (l.map D.int)] C = .ok (.int (minL l)) C := by
  cases l with
  | nil => exact absurd rfl h
  | cons a r =>
    have := asInts_ints (a :: r)
    unfold bMin
    simp only [lstOf_lst, Option.bind_some, this]
theorem min_ok (n : Int) (r : List Int) : PySem.W.minOf n r ∈ n :: r ∧ ∀ x ∈ n :: r, PySem.W.minOf n r ≤ x := by
  unfold PySem.W.minOf
  induction r generalizing n with
  | nil => simp
  | cons y ys ih =>
    rw [List.foldl_cons]
    obtain ⟨h1, h2⟩ := ih (if PySem.W.DatumOrd.lt y n = true then y else n)
    have e : PySem.W.DatumOrd.lt y n = decide (y < n) := rfl
    rw [e] at h1 h2 ⊢
    by_cases q : y < n
    · simp only [decide_eq_true q, if_true] at h1 h2 ⊢
      refine ⟨by simp at h1 ⊢; right; exact h1, fun x m => ?_⟩
      have := h2 y (by simp)
      simp at m
      rcases m with rfl | rfl | m
      · omega
      · exact this
      · exact h2 x (by simp [m])
    · simp only [decide_eq_false q, Bool.false_eq_true, if_false] at h1 h2 ⊢
      refine ⟨by simp at h1 ⊢; rcases h1 with h1 | h1; exact .inl h1; exact .inr (.inr h1), fun x m => ?_⟩
      have := h2 n (by simp)
      simp at m
      rcases m with rfl | rfl | m
      · exact this
      · omega
      · exact h2 x (by simp [m])
/-! one statement at a time -/
def sThen (r : SRes) (g : SF) : SRes := match r with | .nxt s C => g s C | r => r
theorem sq {f g : SF} {s : Sl} {C : Cells} : sSeq f g s C = sThen (f s C) g := rfl
theorem sn {g : SF} {s : Sl} {C : Cells} : sThen (.nxt s C) g = g s C := rfl
theorem sr {g : SF} {d : D} {C : Cells} : sThen (.ret d C) g = .ret d C := rfl
theorem se {g : SF} {c : Nat} {s : Sl} {C : Cells} : sThen (.err c s C) g = .err c s C := rfl
theorem iR1_of {af : AF} {s : Sl} {C C' : Cells} {n : Nat} (h : af s C = .ok [.int (n : Int)] C') (hn : n ≤ 16777216) : iR1 af s C = .ok (rngD 0 n) C' := by
  have e : iR1 af s C = (af s C).bind fun xs C => match xs with | [.int j] => if -(2 ^ 62) ≤ j ∧ j < 2 ^ 62 then .ok (rngD 0 j.toNat) C else .no | _ => .no := rfl
  rw [e, h, bind_ok]
  dsimp only
  rw [if_pos (by constructor <;> omega), Int.toNat_natCast]
theorem iR2_of {af : AF} {s : Sl} {C C' : Cells} {i j : Int} (h : af s C = .ok [.int i, .int j] C') (hn : -16777216 ≤ i ∧ i ≤ 16777216 ∧ -16777216 ≤ j ∧ j ≤ 16777216) : iR2 af s C = .ok (rngD i (j - i).toNat) C' := by
  have e : iR2 af s C = (af s C).bind fun xs C => match xs with | [.int i, .int j] => if -(2 ^ 62) ≤ i ∧ i < 2 ^ 62 ∧ -(2 ^ 62) ≤ j ∧ j < 2 ^ 62 then .ok (rngD i (j - i).toNat) C else .no | _ => .no := rfl
  rw [e, h, bind_ok]
  dsimp only
  rw [if_pos (by refine ⟨?_, ?_, ?_, ?_⟩ <;> omega)]
theorem nats_of {l : List D} {P : Nat → Prop} (h : ∀ y ∈ l, ∃ i : Nat, y = .int i ∧ P i) : ∃ ns : List Nat, l = ns.map (fun (w : Nat) => D.int w) ∧ ns.length = l.length ∧ ∀ i ∈ ns, P i := by
  induction l with
  | nil => exact ⟨[], rfl, rfl, by simp⟩
  | cons a r ih =>
    obtain ⟨ns, h1, h2, h3⟩ := ih fun y m => h y (by simp [m])
    obtain ⟨i, rfl, hi⟩ := h a (by simp)
    exact ⟨i :: ns, by simp [h1], by simp [h2], fun j m => by
      rcases List.mem_cons.1 m with rfl | m
      · exact hi
      · exact h3 j m⟩
theorem minN {ws : List Nat} (h : ws ≠ []) : ∃ m ∈ ws, minL (ws.map fun (w : Nat) => (w : Int)) = (m : Int) ∧ ∀ w ∈ ws, m ≤ w := by
  obtain ⟨h1, h2⟩ := minL_ok (l := ws.map fun (w : Nat) => (w : Int)) (by simpa using h)
  obtain ⟨m, hm, e⟩ := List.mem_map.1 h1
  refine ⟨m, hm, e.symm, fun w hw => ?_⟩
  have := h2 (w : Int) (List.mem_map.2 ⟨w, hw, rfl⟩)
  omega
theorem bMin_nats {ws : List Nat} {C : Cells} (h : ws ≠ []) : ∃ m ∈ ws, bMin [.lst (ws.map fun (w : Nat) => D.int w)] C = .ok (.int (m : Int)) C ∧ ∀ w ∈ ws, m ≤ w := by
  obtain ⟨m, hm, e, hle⟩ := minN h
  refine ⟨m, hm, ?_, hle⟩
  have := bMin_ints (l := ws.map fun (w : Nat) => (w : Int)) (C := C) (by simpa using h)
  rw [List.map_map, e] at this
  exact this
/-! how many pieces -/
def nP (w len : Nat) : Nat := (szL w len).length
theorem nP_le {w len : Nat} (h : len ≤ w) : nP w len = 1 := by unfold nP; rw [szL_le h]; rfl
theorem nP_gt {w len : Nat} (hw : 8 ≤ w) (h : w < len) : nP w len = 1 + nP w (len - stp w) := by unfold nP; rw [szL_gt hw h, List.length_cons, Nat.add_comm]
theorem nP_pos {w len : Nat} (hw : 8 ≤ w) : 1 ≤ nP w len := by
  by_cases q : len ≤ w
  · rw [nP_le q]; exact Nat.le_refl _
  · rw [nP_gt hw (by omega)]; omega
theorem nP_mono {w : Nat} (hw : 8 ≤ w) : ∀ (n a b : Nat), b ≤ n → a ≤ b → nP w a ≤ nP w b
  | 0, a, b, h, hab => by
    have : a = b := by omega
    subst this; exact Nat.le_refl _
  | n + 1, a, b, h, hab => by
    have hs := stp_pos hw
    by_cases qb : b ≤ w
    · rw [nP_le qb, nP_le (by omega)]; exact Nat.le_refl _
    · have eb := nP_gt hw (len := b) (by omega)
      by_cases qa : a ≤ w
      · rw [nP_le qa]; omega
      · have ea := nP_gt hw (len := a) (by omega)
        have := nP_mono hw n (a - stp w) (b - stp w) (by omega) (by omega)
        omega
theorem nP_bound {w : Nat} (hw : 8 ≤ w) : ∀ (n len : Nat), len ≤ n → nP w len ≤ len + 1
  | 0, len, h => by rw [nP_le (by omega)]; omega
  | n + 1, len, h => by
    have hs := stp_pos hw
    by_cases q : len ≤ w
    · rw [nP_le q]; omega
    · rw [nP_gt hw (by omega)]
      have := nP_bound hw n (len - stp w) (by omega)
      omega
/-- a row of short pieces has at least so many -/
theorem Div.least {w : Nat} (hw : 8 ≤ w) : ∀ {x : Pc} {ps : List Pc}, Div x ps → (∀ y ∈ ps, y.bs.length ≤ w) → nP w x.bs.length ≤ ps.length := by
  intro x ps h
  induction h with
  | one x => intro hs; rw [nP_le (hs x (by simp))]; simp
  | cons x s r h0 h1 h2 hr ih =>
    intro hs
    have i := ih fun y m => hs y (by simp [m])
    have hd := hs (x.head s) (by simp)
    have hsl : (x.head s).bs.length = s := by simp [Pc.head]; omega
    rw [hsl] at hd
    have hrl : (x.rest s).bs.length = x.bs.length - s := by simp [Pc.rest]
    rw [hrl] at i
    rw [List.length_cons]
    by_cases q : x.bs.length ≤ w
    · rw [nP_le q]; omega
    · rw [nP_gt hw (by omega)]
      have hle : s ≤ stp w := by unfold stp; omega
      have := nP_mono hw (x.bs.length - s) (x.bs.length - stp w) (x.bs.length - s) (Nat.le_refl _) (by omega)
      omega
/-! dicts: what is told behind a store -/
theorem lookD_map {κ : Type} [DecidableEq κ] (l : List (κ × D)) (k k' : κ) (d : D) : lookD (l.map fun p => if p.1 = k then (p.1, d) else p) k' = if k' = k then (lookD l k').map fun _ => d else lookD l k' := by
  unfold lookD
  induction l with
  | nil => simp
  | cons p r ih =>
    rw [List.map_cons, List.find?_cons, List.find?_cons]
    by_cases h1 : p.1 = k
    · simp only [h1, if_true]
      by_cases h2 : k = k'
      · subst h2; simp
      · have : ¬ k' = k := fun z => h2 z.symm
        simp only [h2, decide_false, this, if_false] at ih ⊢
        exact ih
    · simp only [h1, if_false]
      by_cases h2 : p.1 = k'
      · subst h2; simp [h1]
      · simp only [h2, decide_false]; exact ih
theorem lookD_any {κ : Type} [DecidableEq κ] (l : List (κ × D)) (k : κ) : l.any (fun p => decide (p.1 = k)) = (lookD l k).isSome := by
  unfold lookD
  induction l with
  | nil => rfl
  | cons p r ih =>
    rw [List.any_cons, List.find?_cons]
    by_cases h : p.1 = k
    · simp [h]
    · simp only [h, decide_false, Bool.false_or]; exact ih
theorem lookD_put {κ : Type} [DecidableEq κ] (l : List (κ × D)) (k k' : κ) (d : D) : lookD (putD l k d) k' = if k' = k then some d else lookD l k' := by
  unfold putD
  rw [lookD_any]
  by_cases h : (lookD l k).isSome = true
  · rw [if_pos h, lookD_map]
    by_cases e : k' = k
    · subst e
      obtain ⟨v, hv⟩ := Option.isSome_iff_exists.1 h
      simp [hv]
    · simp [e]
  · rw [if_neg h]
    have hn : lookD l k = none := by simpa using h
    unfold lookD at hn ⊢
    rw [List.find?_append]
    by_cases e : k' = k
    · subst e
      have : l.find? (fun p => decide (p.1 = k')) = none := by
        cases q : l.find? (fun p => decide (p.1 = k')) with
        | none => rfl
        | some z => rw [q] at hn; cases hn
      simp [this]
    · have e' : ¬ k = k' := fun z => e z.symm
      simp [e, e', List.find?_cons]
theorem putD_len {κ : Type} [DecidableEq κ] (l : List (κ × D)) (k : κ) (d : D) : (putD l k d).length ≤ l.length + 1 := by
  unfold putD
  split <;> simp
theorem dput_cel {C : Cells} {n : Nat} {l : List (Key × D)} {y d : D} {k : Key} (h : C.get n = some (.dk l)) (hk : keyOf y = some k) (hl : l.length < 16777216) : dPutK C (.cel n) y d = some (C.set n (.dk (putD l k d))) := by
  unfold dPutK
  simp only [h, hk]
  exact if_pos hl
theorem dget_cel {C : Cells} {n : Nat} {l : List (Key × D)} {y : D} {k : Key} (h : C.get n = some (.dk l)) (hk : keyOf y = some k) : dGetK C (.cel n) y = some (lookD l k) := by
  unfold dGetK
  simp only [h, hk]; rfl
@[simp] theorem keyOf_i (i : Int) : keyOf (.int i) = some (.inl i) := (rfl)
@[simp] theorem keyOf_s (i : Str) : keyOf (.str i) = some (.inr i) := (rfl)
@[simp] theorem eGet2_ap {a b c : EF} {s : Sl} {C : Cells} : eGet2 a b c s C = (a s C).bind fun x C => match dGetK C x (.int 0), dGetK C x (.tup []) with
  | none, none => .no
  | _, _ => (b s C).bind fun y C => (c s C).bind fun z C => match dGetK C x y with
    | some (some d) => .ok d C
    | some none => .ok z C
    | none => .no := rfl
@[simp] theorem eDisp_ap {f : PF} {s : Sl} {C : Cells} : eDisp f s C = (f s (C.new (.dk []))).bind fun ps C2 => match C2.get C.nx, keyPs ps with
  | some (.dk []), some kvs => if kvs.length ≤ 15 then .ok (.cel C.nx) (C2.set C.nx (.dk (mergeD [] kvs))) else .no
  | _, _ => .no := rfl
@[simp] theorem pNil_ap {s : Sl} {C : Cells} : pNil s C = .ok [] C := (rfl)
@[simp] theorem pCons_ap {a b : EF} {r : PF} {s : Sl} {C : Cells} : pCons a b r s C = (a s C).bind fun x C => (b s C).bind fun y C => (r s C).bind fun ps C => .ok ((x, y) :: ps) C := (rfl)
theorem iR3_of {af : AF} {s : Sl} {C C' : Cells} {i j c : Int} (h : af s C = .ok [.int i, .int j, .int c] C') (hn : -1000000 ≤ i ∧ i ≤ 1000000 ∧ -1000000 ≤ j ∧ j ≤ 1000000 ∧ 0 < c ∧ c ≤ 1000000) : iR3 af s C = .ok (rngC i c (Builtin.Range.rangeSize i j c).toNat) C' := by
  have e : iR3 af s C = (af s C).bind fun xs C => match xs with
    | [.int i, .int j, .int c] => if -1000000 ≤ i ∧ i ≤ 1000000 ∧ -1000000 ≤ j ∧ j ≤ 1000000 ∧ 0 < c ∧ c ≤ 1000000 then .ok (rngC i c (Builtin.Range.rangeSize i j c).toNat) C else .no
    | _ => .no := rfl
  rw [e, h, bind_ok]
  dsimp only
  rw [if_pos hn]
theorem callF_ret {n np : Nat} {g : SF} {ds : List D} {C C' : Cells} {d : D} (h : ds.length = np) (hg : g (ds.map some ++ List.replicate (n - ds.length) none) C = .ret d C') : callF n np g ds C = .ok d C' := by
  unfold callF; rw [if_pos h, hg]
theorem callF_nxt {n np : Nat} {g : SF} {ds : List D} {C C' : Cells} {s : Sl} (h : ds.length = np) (hg : g (ds.map some ++ List.replicate (n - ds.length) none) C = .nxt s C') : callF n np g ds C = .ok .non C' := by
  unfold callF; rw [if_pos h, hg]
theorem callF_r {n np : Nat} {g : SF} {ds : List D} {C C' : Cells} {d : D} (s : Sl) (h : ds.length = np) (hs : ds.map some ++ List.replicate (n - ds.length) none = s) (hg : g s C = .ret d C') : callF n np g ds C = .ok d C' := callF_ret h (by rw [hs]; exact hg)
theorem callF_n {n np : Nat} {g : SF} {ds : List D} {C C' : Cells} {s' : Sl} (s : Sl) (h : ds.length = np) (hs : ds.map some ++ List.replicate (n - ds.length) none = s) (hg : g s C = .nxt s' C') : callF n np g ds C = .ok .non C' := callF_nxt h (by rw [hs]; exact hg)
theorem callF_e {n np : Nat} {g : SF} {ds : List D} {C C' : Cells} {s' : Sl} {c : Nat} (s : Sl) (h : ds.length = np) (hs : ds.map some ++ List.replicate (n - ds.length) none = s) (hg : g s C = .err c s' C') : callF n np g ds C = .err c C' := by
  unfold callF; rw [if_pos h, hs, hg]
theorem sFor_of {it : IF} {tg : GF} {b : SF} {s : Sl} {C C1 : Cells} {ds : List D} {r : SRes} (h : it s C = .ok ds C1) (hf : forF tg b ds s C1 = r) : sFor it tg b s C = r := by
  rw [sFor_ap, h]; exact hf
theorem sForK_of {it : IK} {tg : GF} {b : SF} {s : Sl} {C C1 : Cells} {ds : List D} {kp : Cells → Prop} {r : SRes} (h : it s C = .ok (ds, kp) C1) (hf : forK kp tg b ds s C1 = r) : sForK it tg b s C = r := by
  rw [sForK_ap, h]; exact hf
end DL

set_option Elab.async false
set_option linter.all false
set_option maxRecDepth 100000
set_option autoImplicit false
namespace Cov
abbrev C := List (Int × Int)
/-- in order, apart, none empty -/
def Cv (c : C) : Prop := c.Pairwise (fun p q => p.2 < q.1) ∧ ∀ p ∈ c, p.1 < p.2
def In (x : Int) (c : C) : Prop := ∃ p ∈ c, p.1 ≤ x ∧ x < p.2
theorem in_nil {x : Int} : ¬ In x [] := fun ⟨_, h, _⟩ => by simp at h
theorem in_cons {x : Int} {p : Int × Int} {c : C} : In x (p :: c) ↔ (p.1 ≤ x ∧ x < p.2) ∨ In x c := by simp [In]
theorem in_app {x : Int} {c d : C} : In x (c ++ d) ↔ In x c ∨ In x d := by
  constructor
  · rintro ⟨p, h, q⟩
    rcases List.mem_append.1 h with h | h
    · exact .inl ⟨p, h, q⟩
    · exact .inr ⟨p, h, q⟩
  · rintro (⟨p, h, q⟩ | ⟨p, h, q⟩)
    · exact ⟨p, by simp [h], q⟩
    · exact ⟨p, by simp [h], q⟩
theorem Cv.tail {p : Int × Int} {c : C} (h : Cv (p :: c)) : Cv c := ⟨(List.pairwise_cons.1 h.1).2, fun q m => h.2 q (by simp [m])⟩
theorem Cv.head {p : Int × Int} {c : C} (h : Cv (p :: c)) : p.1 < p.2 ∧ ∀ q ∈ c, p.2 < q.1 := ⟨h.2 p (by simp), (List.pairwise_cons.1 h.1).1⟩
theorem Cv.after {p : Int × Int} {c : C} (h : Cv (p :: c)) {x : Int} (m : In x c) : p.2 < x := by
  obtain ⟨q, a, b⟩ := m
  have := h.head.2 q a
  omega
theorem cv_unique : ∀ {c d : C}, Cv c → Cv d → (∀ x, In x c ↔ In x d) → c = d
  | [], [], _, _, _ => rfl
  | [], q :: d, _, h, e => absurd ((e q.1).2 (in_cons.2 (.inl ⟨Int.le_refl _, h.head.1⟩))) in_nil
  | p :: c, [], h, _, e => absurd ((e p.1).1 (in_cons.2 (.inl ⟨Int.le_refl _, h.head.1⟩))) in_nil
  | p :: c, q :: d, h, k, e => by
    have hp := h.head.1
    have hq := k.head.1
    have lo : ∀ {p q : Int × Int} {c d : C}, Cv (p :: c) → Cv (q :: d) → (∀ x, In x (p :: c) ↔ In x (q :: d)) → q.1 ≤ p.1 := by
      intro p q c d h k e
      have hp := h.head.1
      have hq := k.head.1
      rcases in_cons.1 ((e p.1).1 (in_cons.2 (.inl ⟨Int.le_refl _, hp⟩))) with m | m
      · exact m.1
      · have := k.after m; omega
    have l1 := lo h k e
    have l2 := lo k h fun x => (e x).symm
    have hi : ∀ {p q : Int × Int} {c d : C}, Cv (p :: c) → Cv (q :: d) → (∀ x, In x (p :: c) ↔ In x (q :: d)) → p.1 = q.1 → p.2 ≤ q.2 := by
      intro p q c d h k e z
      have hp := h.head.1
      have hq := k.head.1
      by_cases w : p.2 ≤ q.2
      · exact w
      · rcases in_cons.1 ((e q.2).1 (in_cons.2 (.inl ⟨by omega, by omega⟩))) with m | m
        · omega
        · have := k.after m; omega
    have z : p.1 = q.1 := by omega
    have h1 := hi h k e z
    have h2 := hi k h (fun x => (e x).symm) z.symm
    have pq : p = q := Prod.ext z (by omega)
    subst pq
    rw [cv_unique h.tail k.tail fun x => ⟨fun m => ?_, fun m => ?_⟩]
    · have a := h.after m
      rcases in_cons.1 ((e x).1 (in_cons.2 (.inr m))) with b | b
      · omega
      · exact b
    · have a := k.after m
      rcases in_cons.1 ((e x).2 (in_cons.2 (.inr m))) with b | b
      · omega
      · exact b
theorem cv_snoc {c : C} {p : Int × Int} (h : Cv c) (a : ∀ q ∈ c, q.2 < p.1) (b : p.1 < p.2) : Cv (c ++ [p]) := by
  refine ⟨List.pairwise_append.2 ⟨h.1, List.pairwise_singleton _ _, fun x m y n => ?_⟩, fun q m => ?_⟩
  · rw [List.mem_singleton.1 n]; exact a x m
  · rcases List.mem_append.1 m with m | m
    · exact h.2 q m
    · rw [List.mem_singleton.1 m]; exact b
/-- the loop of with_span -/
structure WS (pre rest ahead behind : C) (lo hi lo0 hi0 e : Int) : Prop where
  cv : Cv (ahead ++ [(lo, hi)] ++ behind)
  ins : ∀ x, In x (ahead ++ [(lo, hi)] ++ behind) ↔ In x pre ∨ (lo0 ≤ x ∧ x < hi0)
  ua : ∀ p ∈ ahead ++ behind, p.2 ≤ e
  ub : behind ≠ [] → hi ≤ e
  rs : Cv rest
  re : ∀ p ∈ rest, e < p.1
theorem ws0 {c : C} (h : Cv c) {lo hi e : Int} (q : lo < hi) (k : ∀ p ∈ c, e < p.1) : WS [] c [] [] lo hi lo hi e :=
  ⟨⟨by simp, by simp [q]⟩, fun x => by simp [In], by simp, by simp, h, k⟩
theorem WS.ahead {pre rest ahead behind : C} {lo hi lo0 hi0 e : Int} {p : Int × Int} (h : WS pre (p :: rest) ahead behind lo hi lo0 hi0 e) (q : p.2 < lo) (hb : behind = [] ∨ True) : WS (pre ++ [p]) rest (ahead ++ [p]) behind lo hi lo0 hi0 p.2 := by
  have hr := h.rs.head
  have he := h.re p (by simp)
  have cv := h.cv
  have b0 : behind = [] := by
    cases hbb : behind with
    | nil => rfl
    | cons b r =>
      exfalso
      have e1 := h.ub (by simp [hbb])
      have lh : lo < hi := cv.2 (lo, hi) (by simp)
      omega
  subst b0
  have ca : Cv ahead := ⟨(List.pairwise_append.1 (List.pairwise_append.1 cv.1).1).1, fun x m => cv.2 x (by simp [m])⟩
  have lh : lo < hi := cv.2 (lo, hi) (by simp)
  have c1 : Cv (ahead ++ [p]) := cv_snoc ca (fun x m => by have := h.ua x (by simp [m]); omega) hr.1
  refine ⟨?_, fun x => ?_, fun x m => ?_, fun z => absurd rfl z, h.rs.tail, fun x m => hr.2 x m⟩
  · rw [List.append_nil]
    refine cv_snoc c1 (fun x m => ?_) lh
    rcases List.mem_append.1 m with m | m
    · have := h.ua x (by simp [m]); show x.2 < lo; omega
    · rw [List.mem_singleton.1 m]; exact q
  · have := h.ins x
    simp only [in_app, in_cons, List.append_nil] at this ⊢
    grind
  · simp at m
    rcases m with m | m
    · have := h.ua x (by simp [m]); omega
    · rw [m]; exact Int.le_refl _
theorem WS.behind {pre rest ahead behind : C} {lo hi lo0 hi0 e : Int} {p : Int × Int} (h : WS pre (p :: rest) ahead behind lo hi lo0 hi0 e) (q : hi < p.1) : WS (pre ++ [p]) rest ahead (behind ++ [p]) lo hi lo0 hi0 p.2 := by
  have hr := h.rs.head
  have he := h.re p (by simp)
  have cv := h.cv
  have lh : lo < hi := cv.2 (lo, hi) (by simp)
  refine ⟨?_, fun x => ?_, fun x m => ?_, fun _ => by omega, h.rs.tail, fun x m => hr.2 x m⟩
  · rw [← List.append_assoc]
    refine cv_snoc cv (fun x m => ?_) hr.1
    simp at m
    rcases m with m | m | m
    · have := h.ua x (by simp [m]); omega
    · rw [m]; exact q
    · have := h.ua x (by simp [m]); omega
  · have := h.ins x
    simp only [in_app, in_cons] at this ⊢
    grind
  · simp at m
    rcases m with m | m | m
    · have := h.ua x (by simp [m]); omega
    · have := h.ua x (by simp [m]); omega
    · rw [m]; exact Int.le_refl _
theorem WS.merge {pre rest ahead behind : C} {lo hi lo0 hi0 e : Int} {p : Int × Int} (h : WS pre (p :: rest) ahead behind lo hi lo0 hi0 e) (q1 : ¬ p.2 < lo) (q2 : ¬ hi < p.1) : WS (pre ++ [p]) rest ahead behind (if p.1 < lo then p.1 else lo) (if p.2 > hi then p.2 else hi) lo0 hi0 p.2 := by
  have hr := h.rs.head
  have he := h.re p (by simp)
  have cv := h.cv
  have b0 : behind = [] := by
    cases hbb : behind with
    | nil => rfl
    | cons b r =>
      exfalso
      have e1 := h.ub (by simp [hbb])
      omega
  subst b0
  have ca : Cv ahead := ⟨(List.pairwise_append.1 (List.pairwise_append.1 cv.1).1).1, fun x m => cv.2 x (by simp [m])⟩
  have lh : lo < hi := cv.2 (lo, hi) (by simp)
  have al : ∀ x ∈ ahead, x.2 < lo := fun x m => by
    have := (List.pairwise_append.1 (List.append_nil (ahead ++ [(lo, hi)]) ▸ cv.1)).2.2 x m (lo, hi) (by simp)
    exact this
  refine ⟨?_, fun x => ?_, fun x m => ?_, fun z => absurd rfl z, h.rs.tail, fun x m => hr.2 x m⟩
  · rw [List.append_nil]
    refine cv_snoc ca (fun x m => ?_) ?_
    · have h1 := al x m
      have h2 := h.ua x (by simp [m])
      show x.2 < if p.1 < lo then p.1 else lo
      split <;> omega
    · show (if p.1 < lo then p.1 else lo) < if p.2 > hi then p.2 else hi
      split <;> split <;> omega
  · have := h.ins x
    simp only [in_app, in_cons, List.append_nil] at this ⊢
    grind [in_nil]
  · simp at m
    have := h.ua x (by simp [m]); omega
/-- what lacks up to an end -/
def lackL (e : Int) : Int → C → C
  | at_, [] => if at_ < e then [(at_, e)] else []
  | at_, p :: r => (if at_ < p.1 ∧ at_ < e then [(at_, if e < p.1 then e else p.1)] else []) ++ lackL e p.2 r
theorem lack_ok (e : Int) : ∀ (c : C) (a : Int), Cv c → (∀ p ∈ c, a ≤ p.1) → Cv (lackL e a c) ∧ (∀ p ∈ lackL e a c, a ≤ p.1) ∧ ∀ x, In x (lackL e a c) ↔ (a ≤ x ∧ x < e ∧ ¬ In x c)
  | [], a, _, _ => by
    unfold lackL
    split
    · refine ⟨⟨by simp, by simp [*]⟩, by simp, fun x => by simp [In]⟩
    · refine ⟨⟨by simp, by simp⟩, by simp, fun x => by simp [In]; omega⟩
  | p :: r, a, h, k => by
    have hh := h.head
    obtain ⟨i1, i2, i3⟩ := lack_ok e r p.2 h.tail fun q m => Int.le_of_lt (hh.2 q m)
    have ka := k p (by simp)
    unfold lackL
    split
    · rename_i z
      refine ⟨⟨?_, ?_⟩, ?_, ?_⟩
      · rw [List.singleton_append, List.pairwise_cons]
        refine ⟨fun q m => ?_, i1.1⟩
        have := i2 q m
        show (if e < p.1 then e else p.1) < q.1
        split <;> omega
      · intro q m
        simp at m
        rcases m with m | m
        · subst m; show a < if e < p.1 then e else p.1; split <;> omega
        · exact i1.2 q m
      · intro q m
        simp at m
        rcases m with m | m
        · subst m; exact Int.le_refl _
        · have := i2 q m; omega
      · intro x
        rw [List.singleton_append, in_cons, i3, in_cons]
        have : In x r → p.2 < x := fun m => h.after m
        show (a ≤ x ∧ x < if e < p.1 then e else p.1) ∨ _ ↔ _
        split <;> grind
    · rename_i z
      refine ⟨i1, fun q m => by have := i2 q m; omega, fun x => ?_⟩
      rw [List.nil_append, i3, in_cons]
      have : In x r → p.2 < x := fun m => h.after m
      grind
/-- runs: the loop -/
def runStep (f : C) (x : Int) : C := match f.getLast? with
  | some p => if p.2 = x then f.dropLast ++ [(p.1, x + 1)] else f ++ [(x, x + 1)]
  | none => f ++ [(x, x + 1)]
def runsL (l : List Int) : C := l.foldl runStep []
def sz (c : C) : Int := (c.map fun p => p.2 - p.1).sum
structure RS (pre : List Int) (f : C) : Prop where
  cv : Cv f
  ins : ∀ x, In x f ↔ x ∈ pre
  le : ∀ p ∈ f, p.2 - 1 ∈ pre
  sz : sz f = pre.length
theorem RS.step {pre : List Int} {f : C} (h : RS pre f) {x : Int} (hx : ∀ y ∈ pre, y < x) : RS (pre ++ [x]) (runStep f x) := by
  unfold runStep
  split
  · rename_i p hp
    have hf : f = f.dropLast ++ [p] := by
      obtain ⟨ys, e⟩ := List.getLast?_eq_some_iff.1 hp
      rw [e, List.dropLast_concat]
    have hpm : p ∈ f := by rw [hf]; simp
    have hl := hx _ (h.le p hpm)
    split
    · rename_i z
      have cv := h.cv
      have i := h.ins
      have s := h.sz
      have le := h.le
      rw [hf] at cv i s le
      generalize f.dropLast = g at cv i s le
      have cg : Cv g := ⟨(List.pairwise_append.1 cv.1).1, fun x m => cv.2 x (by simp [m])⟩
      have lg : ∀ q ∈ g, q.2 < p.1 := fun q m => (List.pairwise_append.1 cv.1).2.2 q m p (by simp)
      have hp2 := cv.2 p (by simp)
      refine ⟨cv_snoc cg lg (by show p.1 < x + 1; omega), fun y => ?_, fun q m => ?_, ?_⟩
      · have := i y
        simp only [in_app, in_cons] at this ⊢
        rw [List.mem_append, List.mem_singleton]
        grind [in_nil]
      · rw [List.mem_append] at m ⊢
        rcases m with m | m
        · exact .inl (le q (by simp [m]))
        · rw [List.mem_singleton] at m; subst m; right; simp
      · unfold Cov.sz at s ⊢
        simp at s ⊢
        omega
    · rename_i z
      refine ⟨cv_snoc h.cv (fun q m => ?_) (by show x < x + 1; omega), fun y => ?_, fun q m => ?_, ?_⟩
      · have a := hx _ (h.le q m)
        show q.2 < x
        by_cases qp : q = p
        · subst qp; omega
        · rw [hf] at m
          have cv := h.cv
          rw [hf] at cv
          have hm : q ∈ f.dropLast := by
            rcases List.mem_append.1 m with m | m
            · exact m
            · exact absurd (List.mem_singleton.1 m) qp
          have := (List.pairwise_append.1 cv.1).2.2 q hm p (by simp)
          have := h.cv.2 p hpm
          omega
      · rw [in_app, h.ins, in_cons, List.mem_append, List.mem_singleton]
        show _ ∨ (x ≤ y ∧ y < x + 1) ∨ _ ↔ _
        grind [in_nil]
      · rw [List.mem_append] at m ⊢
        rcases m with m | m
        · exact .inl (h.le q m)
        · rw [List.mem_singleton] at m; subst m; right; simp
      · have s := h.sz
        unfold Cov.sz at s ⊢
        simp at s ⊢
        omega
  · rename_i hp
    have hf : f = [] := by simpa using hp
    subst hf
    have hpre : pre = [] := by
      cases pre with
      | nil => rfl
      | cons a r => exact absurd ((h.ins a).2 (by simp)) in_nil
    subst hpre
    refine ⟨⟨by simp, by simp; omega⟩, fun y => by simp [In]; omega, by simp, by simp [Cov.sz]; omega⟩
theorem rs_all : ∀ (l pre : List Int) (f : C), RS pre f → (pre ++ l).Pairwise (· < ·) → RS (pre ++ l) (l.foldl runStep f)
  | [], pre, f, h, _ => by simpa using h
  | x :: r, pre, f, h, k => by
    have e : pre ++ x :: r = (pre ++ [x]) ++ r := by simp
    rw [e] at k ⊢
    refine rs_all r (pre ++ [x]) (runStep f x) (h.step fun y m => ?_) k
    have := (List.pairwise_append.1 (List.pairwise_append.1 k).1).2.2 y m x (by simp)
    exact this
theorem runs_ok {l : List Int} (h : l.Pairwise (· < ·)) : RS l (runsL l) := rs_all l [] [] ⟨⟨by simp, by simp⟩, fun x => by simp [In], by simp, rfl⟩ h
/-- the room that a cover takes -/
theorem sz_le : ∀ {c : C} {a b : Int}, Cv c → (∀ p ∈ c, a ≤ p.1 ∧ p.2 ≤ b) → a ≤ b → sz c ≤ b - a
  | [], _, _, _, _, h => by simp [sz]; omega
  | p :: r, a, b, h, k, _ => by
    have := k p (by simp)
    have hh := h.head
    have ih := sz_le (a := p.2) (b := b) h.tail (fun q m => ⟨Int.le_of_lt (hh.2 q m), (k q (by simp [m])).2⟩) this.2
    unfold sz at ih ⊢
    simp
    omega
end Cov

set_option Elab.async false
set_option linter.all false
set_option maxRecDepth 100000
set_option autoImplicit false
namespace DL
open PySem PySem.Spec PyProof.Rows L2
def pr (p : Int × Int) : D := .tup [.int p.1, .int p.2]
theorem pl_pr (n : Nat) (c : Cov.C) : (c.map pr).all (plain (n + 2)) = true := by
  rw [List.all_eq_true]; intro x m
  obtain ⟨p, _, rfl⟩ := List.mem_map.1 m
  rfl
theorem pl_prL (c : Cov.C) : plain 30 (.lst (c.map pr)) = true := pl_pr 27 c
/-- an end: none or a number -/
def dE : Option Int → D
  | none => .non
  | some e => .int e
def capE : Option Int → Int → Int
  | none, x => x
  | some e, x => if e < x then e else x
def lackD (e : Option Int) : Int → Cov.C → List D
  | a, [] => if e = none ∨ (∃ k, e = some k ∧ a < k) then [.tup [.int a, dE e]] else []
  | a, p :: r => (if a < p.1 ∧ (e = none ∨ ∃ k, e = some k ∧ a < k) then [.tup [.int a, .int (capE e p.1)]] else []) ++ lackD e p.2 r
theorem lack_len (e : Option Int) : ∀ (c : Cov.C) (a : Int), (lackD e a c).length ≤ c.length + 1
  | [], a => by unfold lackD; split <;> simp
  | p :: r, a => by
    have := lack_len e r p.2
    unfold lackD; split <;> simp <;> omega
theorem lackD_some (k : Int) : ∀ (c : Cov.C) (a : Int), lackD (some k) a c = (Cov.lackL k a c).map pr
  | [], a => by unfold lackD Cov.lackL; simp; split <;> rfl
  | p :: r, a => by
    unfold lackD Cov.lackL
    rw [lackD_some k r, List.map_append]; simp
    split <;> rfl
def endOf : Int → Cov.C → Int
  | a, [] => a
  | _, p :: r => endOf p.2 r
theorem endOf_le : ∀ (c : Cov.C) (a : Int), Cov.Cv c → (∀ p ∈ c, a ≤ p.1) → a ≤ endOf a c ∧ ∀ p ∈ c, p.2 ≤ endOf a c
  | [], a, _, _ => by simp [endOf]
  | p :: r, a, h, k => by
    obtain ⟨h1, h2⟩ := endOf_le r p.2 h.tail fun q m => Int.le_of_lt (h.head.2 q m)
    have a1 := k p (by simp)
    have a2 := h.head.1
    unfold endOf
    refine ⟨by omega, fun q m => ?_⟩
    simp at m
    rcases m with rfl | m
    · exact h1
    · exact h2 q m
theorem endOf_in : ∀ (c : Cov.C) (a : Int), Cov.Cv c → c ≠ [] → Cov.In (endOf a c - 1) c
  | [], _, _, h => absurd rfl h
  | p :: r, a, h, _ => by
    unfold endOf
    cases r with
    | nil => have := h.head.1; exact Cov.in_cons.2 (.inl (by simp [endOf]; omega))
    | cons q r => exact Cov.in_cons.2 (.inr (endOf_in (q :: r) p.2 h.tail (by simp)))
theorem lackD_none : ∀ (c : Cov.C) (a : Int), Cov.Cv c → (∀ p ∈ c, a ≤ p.1) → lackD none a c = (Cov.lackL (endOf a c) a c).map pr ++ [.tup [.int (endOf a c), .non]]
  | [], a, _, _ => by unfold lackD Cov.lackL endOf; simp; rfl
  | p :: r, a, h, k => by
    have ih := lackD_none r p.2 h.tail fun q m => Int.le_of_lt (h.head.2 q m)
    have hl := (endOf_le r p.2 h.tail fun q m => Int.le_of_lt (h.head.2 q m)).1
    have a1 := k p (by simp)
    have a2 := h.head.1
    unfold lackD Cov.lackL endOf
    rw [ih, List.map_append]
    have e1 : ¬ endOf p.2 r < p.1 := by omega
    have e2 : (a < p.1 ∧ a < endOf p.2 r) ↔ a < p.1 := by omega
    simp only [e1, e2, if_false]
    simp
    split <;> rfl
theorem eqDs_nil (l : List D) : eqDs l [] = l.isEmpty := by cases l <;> (unfold eqDs; rfl)
end DL

set_option Elab.async false
set_option linter.all false
set_option maxRecDepth 100000
set_option autoImplicit false
namespace DL
open PySem PySem.Spec PyProof.Rows L2
/-! ### what pieces come to: plain -/
abbrev Bt := List (Key × D)
def has (bt : Bt) (x : Int) : Bool := (lookD bt (.inl x)).isSome
/-- bytes by their numbers -/
structure Bts (bt : Bt) : Prop where
  kv : ∀ p ∈ bt, ∃ (i v : Int), p = (.inl i, .int v) ∧ 0 ≤ i ∧ i < 4000
  nd : (bt.map (·.1)).Nodup
theorem lookD_mem {bt : Bt} {k : Key} {d : D} (h : lookD bt k = some d) : (k, d) ∈ bt := by
  unfold lookD at h
  cases q : bt.find? (fun p => decide (p.1 = k)) with
  | none => rw [q] at h; cases h
  | some p =>
    rw [q] at h
    cases h
    have h1 := List.find?_some q
    have h2 := List.mem_of_find?_eq_some q
    have : p.1 = k := by simpa using h1
    rw [← this]; exact h2
theorem Bts.int {bt : Bt} (h : Bts bt) {x : Int} {d : D} (e : lookD bt (.inl x) = some d) : ∃ v : Int, d = .int v ∧ 0 ≤ x ∧ x < 4000 := by
  obtain ⟨i, v, q, h0, h1⟩ := h.kv _ (lookD_mem e)
  cases q
  exact ⟨v, rfl, h0, h1⟩
theorem Bts.has {bt : Bt} (h : Bts bt) {x : Int} (e : has bt x = true) : ∃ v : Int, lookD bt (.inl x) = some (.int v) ∧ 0 ≤ x ∧ x < 4000 := by
  unfold DL.has at e
  obtain ⟨d, hd⟩ := Option.isSome_iff_exists.1 e
  obtain ⟨v, rfl, h0, h1⟩ := h.int hd
  exact ⟨v, hd, h0, h1⟩
theorem lookD_some_of_mem {bt : Bt} {k : Key} (h : k ∈ bt.map (·.1)) : (lookD bt k).isSome = true := by
  obtain ⟨p, hp, e⟩ := List.mem_map.1 h
  rw [← lookD_any]
  rw [List.any_eq_true]
  exact ⟨p, hp, by simpa using e⟩
/-- the keys as numbers -/
def keysI (bt : Bt) : List Int := bt.filterMap fun p => match p.1 with | .inl i => some i | .inr _ => none
theorem Bts.keys {bt : Bt} (h : Bts bt) : bt.map (fun p => keyD p.1) = (keysI bt).map D.int ∧ bt.map (·.1) = (keysI bt).map Sum.inl ∧ (keysI bt).length = bt.length := by
  have hk := h.kv
  clear h
  induction bt with
  | nil => exact ⟨rfl, rfl, rfl⟩
  | cons p r ih =>
    obtain ⟨i, v, rfl, _, _⟩ := hk p (by simp)
    obtain ⟨h1, h2, h3⟩ := ih fun q m => hk q (by simp [m])
    have e : keysI ((Sum.inl i, D.int v) :: r) = i :: keysI r := rfl
    rw [e]
    exact ⟨by rw [List.map_cons, List.map_cons, h1]; rfl, by rw [List.map_cons, List.map_cons, h2], by simp [h3]⟩
theorem Bts.mem_keys {bt : Bt} (h : Bts bt) {x : Int} : x ∈ keysI bt ↔ DL.has bt x = true := by
  obtain ⟨_, h2, _⟩ := h.keys
  constructor
  · intro m
    exact lookD_some_of_mem (by rw [h2]; exact List.mem_map.2 ⟨x, m, rfl⟩)
  · intro e
    obtain ⟨d, hd⟩ := Option.isSome_iff_exists.1 e
    have this : (Sum.inl x : Key) ∈ bt.map (·.1) := List.mem_map.2 ⟨_, lookD_mem hd, rfl⟩
    rw [h2] at this
    obtain ⟨y, hy, e⟩ := List.mem_map.1 this
    cases e
    exact hy
theorem Bts.nodupI {bt : Bt} (h : Bts bt) : (keysI bt).Nodup := by
  have := h.nd
  rw [h.keys.2.1] at this
  rw [List.Nodup, List.pairwise_map] at this
  exact this.imp fun hne e => hne (by rw [e])
theorem nodup_le : ∀ (n : Nat) {l : List Int}, l.Nodup → (∀ x ∈ l, 0 ≤ x ∧ x < n) → l.length ≤ n
  | 0, l, _, hb => by
    cases l with
    | nil => simp
    | cons a r => have := hb a (by simp); omega
  | n + 1, l, h, hb => by
    have h1 := nodup_le n (l := l.erase (n : Int)) (h.erase _) fun x m => by
      have := (h.mem_erase_iff).1 m
      have := hb x this.2
      omega
    rw [List.length_erase] at h1
    split at h1 <;> omega
theorem Bts.len {bt : Bt} (h : Bts bt) : bt.length ≤ 4000 := by
  rw [← h.keys.2.2]
  refine nodup_le 4000 h.nodupI fun x m => ?_
  obtain ⟨v, _, h0, h1⟩ := h.has (h.mem_keys.1 m)
  exact ⟨h0, h1⟩
theorem putD_keys (bt : Bt) (k : Key) (d : D) : (putD bt k d).map (·.1) = if (bt.any fun p => decide (p.1 = k)) = true then bt.map (·.1) else bt.map (·.1) ++ [k] := by
  unfold putD
  split
  · rw [List.map_map]
    apply List.map_congr_left
    intro p _
    show (if p.1 = k then (p.1, d) else p).1 = p.1
    split <;> rfl
  · rw [List.map_append]; rfl
theorem Bts.put {bt : Bt} (h : Bts bt) {i v : Int} (hi : 0 ≤ i ∧ i < 4000) : Bts (putD bt (.inl i) (.int v)) := by
  refine ⟨fun p m => ?_, ?_⟩
  · unfold putD at m
    split at m
    · obtain ⟨q, hq, e⟩ := List.mem_map.1 m
      obtain ⟨j, w, rfl, h0, h1⟩ := h.kv q hq
      split at e
      · subst e; exact ⟨j, v, rfl, h0, h1⟩
      · subst e; exact ⟨j, w, rfl, h0, h1⟩
    · rcases List.mem_append.1 m with m | m
      · exact h.kv p m
      · rw [List.mem_singleton.1 m]; exact ⟨i, v, rfl, hi⟩
  · rw [putD_keys]
    split
    · exact h.nd
    · rename_i q
      rw [List.nodup_append]
      refine ⟨h.nd, by simp, fun a m b n => ?_⟩
      simp at n
      subst n
      intro e
      subst e
      obtain ⟨p, hp, e⟩ := List.mem_map.1 m
      exact q (List.any_eq_true.2 ⟨p, hp, by simpa using e⟩)
theorem has_put {bt : Bt} {i v x : Int} : has (putD bt (.inl i) (.int v)) x = (decide (x = i) || has bt x) := by
  unfold has
  rw [lookD_put]
  by_cases q : x = i
  · subst q; simp
  · rw [if_neg (fun z => q (Sum.inl.inj z))]; simp [q]
/-- a byte that stands otherwise -/
def difF (bt : Bt) (a b : Int) : Bool := match lookD bt (.inl a) with | some (.int v) => !(v == b) | _ => false
/-- the first number of a byte that stands otherwise -/
def clashF (bt : Bt) : Int → List Int → Option Int
  | _, [] => none
  | a, b :: r => if difF bt a b = true then some a else clashF bt (a + 1) r
theorem get2_ok {fo fi fd : EF} {s : Sl} {C : Cells} {nb : Nat} {bt : Bt} {a b : Int} (ho : fo s C = .ok (.cel nb) C) (hd : C.get nb = some (.dk bt)) (hi : fi s C = .ok (.int a) C) (hdf : fd s C = .ok (.int b) C) : eGet2 fo fi fd s C = .ok ((lookD bt (.inl a)).getD (.int b)) C := by
  have g0 : dGetK C (.cel nb) (.int 0) = some (lookD bt (.inl 0)) := dget_cel hd rfl
  have g1 : dGetK C (.cel nb) (.int a) = some (lookD bt (.inl a)) := dget_cel hd rfl
  rw [eGet2_ap, ho, bind_ok, g0]
  dsimp only
  rw [hi, bind_ok, hdf, bind_ok, g1]
  cases lookD bt (.inl a) <;> rfl
theorem dif_ok {bt : Bt} (h : Bts bt) (a b : Int) (C : Cells) : dNe ((lookD bt (.inl a)).getD (.int b)) (.int b) C = .ok (.bl (difF bt a b)) C ∧ dNeV ((lookD bt (.inl a)).getD (.int b)) (.int b) C = .ok (.bl (difF bt a b)) C := by
  unfold difF
  cases e : lookD bt (.inl a) with
  | none =>
    show dNe (.int b) (.int b) C = _ ∧ dNeV (.int b) (.int b) C = _
    simp
  | some d =>
    obtain ⟨v, rfl, _, _⟩ := h.int e
    show dNe (.int v) (.int b) C = _ ∧ dNeV (.int v) (.int b) C = _
    simp
/-- the bytes put in -/
def putF (last : Bool) : Bt → Int → List Int → Bt
  | bt, _, [] => bt
  | bt, a, b :: r => putF last (if last = true ∨ has bt a = false then putD bt (.inl a) (.int b) else bt) (a + 1) r
theorem putF_ok (last : Bool) : ∀ (bs : List Int) (bt : Bt) (a : Int), Bts bt → 0 ≤ a → a + bs.length ≤ 4000 → Bts (putF last bt a bs) ∧ ∀ x, has (putF last bt a bs) x = (has bt x || (decide (a ≤ x) && decide (x < a + bs.length)))
  | [], bt, a, h, _, _ => by
    refine ⟨h, fun x => ?_⟩
    have : (decide (a ≤ x) && decide (x < a + (([] : List Int).length : Int))) = false := by
      rw [Bool.eq_false_iff]; simp
    rw [this]; simp [putF]
  | b :: r, bt, a, h, h0, h1 => by
    have hl : ((b :: r).length : Int) = r.length + 1 := by simp
    rw [hl] at h1
    have hb : Bts (if last = true ∨ has bt a = false then putD bt (.inl a) (.int b) else bt) := by
      split
      · exact h.put ⟨h0, by omega⟩
      · exact h
    have hh : ∀ x, has (if last = true ∨ has bt a = false then putD bt (.inl a) (.int b) else bt) x = (has bt x || decide (x = a)) := fun x => by
      split
      · rw [has_put, Bool.or_comm]
      · rename_i q
        have : has bt a = true := by
          cases e : has bt a with
          | true => rfl
          | false => exact absurd (.inr e) q
        by_cases z : x = a
        · subst z; simp [this]
        · simp [z]
    obtain ⟨i1, i2⟩ := putF_ok last r _ (a + 1) hb (by omega) (by omega)
    refine ⟨i1, fun x => ?_⟩
    show has (putF last _ (a + 1) r) x = _
    rw [i2, hh, hl]
    cases has bt x
    · simp only [Bool.false_or]
      rw [Bool.eq_iff_iff]
      simp only [Bool.or_eq_true, Bool.and_eq_true, decide_eq_true_eq]
      omega
    · simp
/-- a piece that ends at e does not fit -/
def strangeH (lend : Option Int) (most e : Int) (mo : Bool) : Bool := match lend with
  | some k => decide (k < e) || (mo && decide (e = k)) || (!mo && !decide (e = k))
  | none => !mo && decide (e ≤ most)
/-- the numbers below e that lack -/
def lackK (bt : Bt) (e : Int) : Cov.C := Cov.runsL ((rng 0 e.toNat).filter fun x => !has bt x)
theorem lackK_ok (bt : Bt) (e : Int) : Cov.Cv (lackK bt e) ∧ ∀ x, Cov.In x (lackK bt e) ↔ (0 ≤ x ∧ x < e ∧ has bt x = false) := by
  have h := Cov.runs_ok (l := (rng 0 e.toNat).filter fun x => !has bt x) (rng_lt.filter _)
  refine ⟨h.cv, fun x => ?_⟩
  unfold lackK
  rw [h.ins, List.mem_filter, mem_rng]
  cases has bt x <;> simp <;> omega
/-- behind the greatest number -/
def topK (bt : Bt) : Int := maxL (-1 :: keysI bt) + 1
def lacksP (bt : Bt) : Option Int → List D
  | some e => (lackK bt e).map pr
  | none => (lackK bt (topK bt)).map pr ++ [.tup [.int (topK bt), .non]]
structure Hs where
  bt : Bt
  lend : Option Int
  most : Int
def Hs0 : Hs := ⟨[], none, 0⟩
inductive Ans where
  | whole (l : List D) | lacking (l : List D) | unlike (a : Int)
def endP (x : Pc) : Int := x.at_ + x.bs.length
def Hs.strange (s : Hs) (x : Pc) : Bool := strangeH s.lend s.most (endP x) x.mo
def Hs.take (s : Hs) (last : Bool) (x : Pc) : Hs := ⟨putF last s.bt x.at_ x.bs, if x.mo = true then s.lend else some (endP x), if x.mo = true then (if endP x > s.most then endP x else s.most) else s.most⟩
def Hs.trouble (s : Hs) (refuse : Bool) (x : Pc) : Option Int := if refuse = true then (if s.strange x = true then some x.at_ else clashF s.bt x.at_ x.bs) else none
def Hs.lacks (s : Hs) : List D := lacksP s.bt s.lend
def bytesP (bt : Bt) (e : Int) : List D := (rng 0 e.toNat).map fun x => (lookD bt (.inl x)).getD .non
def Hs.bytes (s : Hs) : List D := match s.lend with | some e => bytesP s.bt e | none => []
def judgeP (refuse last : Bool) : Hs → List Pc → Ans
  | s, [] => .lacking s.lacks
  | s, x :: r => match s.trouble refuse x with
    | some a => .unlike a
    | none => if s.strange x = true then judgeP refuse last s r else
      if (s.take last x).lacks = [] then .whole (s.take last x).bytes else judgeP refuse last (s.take last x) r
/-- what stands in a heap that took valid pieces -/
structure Hok (s : Hs) : Prop where
  b : Bts s.bt
  e : ∀ k, s.lend = some k → 0 < k ∧ k ≤ 4000
  m : 0 ≤ s.most ∧ s.most ≤ 4000
theorem hok0 : Hok Hs0 := ⟨⟨by simp [Hs0], by simp [Hs0]⟩, fun k h => by simp [Hs0] at h, by simp [Hs0]⟩
theorem Hok.take {s : Hs} (h : Hok s) {x : Pc} (last : Bool) (ha : 0 ≤ x.at_) (hl : 1 ≤ x.bs.length) (he : endP x ≤ 4000) : Hok (s.take last x) := by
  unfold endP at he
  refine ⟨(putF_ok last x.bs s.bt x.at_ h.b ha he).1, fun k hk => ?_, ?_⟩
  · unfold Hs.take at hk
    dsimp only at hk
    split at hk
    · exact h.e k hk
    · cases hk; unfold endP; omega
  · have := h.m
    unfold Hs.take endP
    dsimp only
    split
    · split <;> omega
    · exact this
theorem topK_ok {bt : Bt} (h : Bts bt) : 0 ≤ topK bt ∧ topK bt ≤ 4000 ∧ (∀ x, has bt x = true → x < topK bt) ∧ (0 < topK bt → has bt (topK bt - 1) = true) := by
  obtain ⟨h1, h2⟩ := maxL_ok (l := -1 :: keysI bt) (by simp)
  have hm := h2 (-1) (by simp)
  unfold topK
  generalize maxL (-1 :: keysI bt) = M at *
  refine ⟨by omega, ?_, fun x hx => ?_, fun hp => ?_⟩
  · rcases List.mem_cons.1 h1 with h1 | h1
    · omega
    · obtain ⟨v, _, h0, h1⟩ := h.has (h.mem_keys.1 h1)
      omega
  · have := h2 x (List.mem_cons_of_mem _ (h.mem_keys.2 hx))
    omega
  · rcases List.mem_cons.1 h1 with h1 | h1
    · omega
    · have := h.mem_keys.1 h1
      rwa [show M + 1 - 1 = M by omega]
/-- the cover of what stands -/
structure Hcv (c : Cov.C) (bt : Bt) : Prop where
  cv : Cov.Cv c
  ins : ∀ x, Cov.In x c ↔ has bt x = true
theorem Hcv.nn {c : Cov.C} {bt : Bt} (h : Hcv c bt) (b : Bts bt) : ∀ p ∈ c, 0 ≤ p.1 ∧ p.2 ≤ 4000 := fun p m => by
  have h1 := h.cv.2 p m
  obtain ⟨_, _, a, _⟩ := b.has ((h.ins p.1).1 ⟨p, m, Int.le_refl _, h1⟩)
  obtain ⟨_, _, _, d⟩ := b.has ((h.ins (p.2 - 1)).1 ⟨p, m, by omega, by omega⟩)
  omega
theorem len_sz' : ∀ {c : Cov.C}, Cov.Cv c → (c.length : Int) ≤ Cov.sz c
  | [], _ => by simp [Cov.sz]
  | p :: r, h => by
    have ih := len_sz' h.tail
    have := h.head.1
    unfold Cov.sz at ih ⊢
    simp
    omega
theorem Hcv.len {c : Cov.C} {bt : Bt} (h : Hcv c bt) (b : Bts bt) : c.length ≤ 4000 := by
  have h1 := len_sz' h.cv
  have h2 := Cov.sz_le h.cv (fun p m => (h.nn b p m : 0 ≤ p.1 ∧ p.2 ≤ 4000)) (by decide)
  omega
theorem Hcv.lack {c : Cov.C} {bt : Bt} (h : Hcv c bt) (b : Bts bt) (e : Int) : Cov.lackL e 0 c = lackK bt e := by
  obtain ⟨i1, i2, i3⟩ := Cov.lack_ok e c 0 h.cv fun p m => (h.nn b p m).1
  obtain ⟨j1, j2⟩ := lackK_ok bt e
  refine Cov.cv_unique i1 j1 fun x => ?_
  rw [i3, j2, h.ins]
  simp
theorem Hcv.endOf {c : Cov.C} {bt : Bt} (h : Hcv c bt) (b : Bts bt) : endOf 0 c = topK bt := by
  obtain ⟨t0, t1, t2, t3⟩ := topK_ok b
  obtain ⟨k1, k2⟩ := endOf_le c 0 h.cv fun p m => (h.nn b p m).1
  by_cases q : c = []
  · subst q
    have : ¬ 0 < topK bt := fun z => by
      have := (h.ins _).2 (t3 z)
      simp [Cov.In] at this
    show (0 : Int) = _
    omega
  · have h1 := t2 _ ((h.ins _).1 (endOf_in c 0 h.cv q))
    have h2 : 0 < topK bt := by
      cases c with
      | nil => exact absurd rfl q
      | cons p r =>
        have := h.nn b p (by simp)
        have := h.cv.2 p (by simp)
        have := k2 p (by simp)
        omega
    obtain ⟨p, hp, a, d⟩ := (h.ins _).2 (t3 h2)
    have := k2 p hp
    omega
theorem Hcv.lacks {c : Cov.C} {bt : Bt} (h : Hcv c bt) (b : Bts bt) (e : Option Int) : lackD e 0 c = lacksP bt e := by
  cases e with
  | some k => rw [lackD_some, h.lack b]; rfl
  | none => rw [lackD_none c 0 h.cv fun p m => (h.nn b p m).1, h.lack b, h.endOf b]; rfl
/-- nothing lacks: all bytes stand -/
theorem lacks_nil {bt : Bt} {e : Option Int} (h : lacksP bt e = []) : ∃ k, e = some k ∧ ∀ x, 0 ≤ x → x < k → has bt x = true := by
  cases e with
  | none => simp [lacksP] at h
  | some k =>
    refine ⟨k, rfl, fun x h0 h1 => ?_⟩
    have h' : lackK bt k = [] := by simpa [lacksP] using h
    obtain ⟨_, j2⟩ := lackK_ok bt k
    cases q : has bt x with
    | true => rfl
    | false =>
      have := (j2 x).2 ⟨h0, h1, q⟩
      rw [h'] at this
      simp [Cov.In] at this
/-! ### fields of objects that are cells -/
theorem fld_cel {T : Tab} {k n c i : Nat} {l : List D} {C : Cells} {d : D} (h : C.get n = some (.obj c l)) (hk : c < T.ncl ∧ k ∈ T.fl c) (hi : (T.fl c).idxOf k = i) (hd : l[i]? = some d) : fld T k (.cel n) C = .ok d C := by
  have ho : objOf C (.cel n) = some (c, l) := by unfold objOf; simp only [h]
  unfold fld
  simp only [ho]
  rw [if_pos hk, hi, hd]
theorem setFld_cel {T : Tab} {k n c i : Nat} {l : List D} {C : Cells} {d : D} (h : C.get n = some (.obj c l)) (hk : c < T.ncl ∧ k ∈ T.fl c) (hi : (T.fl c).idxOf k = i) (hlt : i < l.length) : setFld T k (.cel n) d C = some (C.set n (.obj c (l.set i d))) := by
  unfold setFld
  simp only [h]
  rw [if_pos hk, hi, if_pos hlt]
theorem setFld_add {T : Tab} {k n c i : Nat} {l : List D} {C : Cells} {d : D} (h : C.get n = some (.obj c l)) (hk : c < T.ncl ∧ k ∈ T.fl c) (hi : (T.fl c).idxOf k = i) (hlt : i = l.length) : setFld T k (.cel n) d C = some (C.set n (.obj c (l ++ [d]))) := by
  unfold setFld
  simp only [h]
  rw [if_pos hk, hi, if_neg (by omega), if_pos hlt]
theorem objOf_cel {C : Cells} {n c : Nat} {l : List D} (h : C.get n = some (.obj c l)) : objOf C (.cel n) = some (c, l) := by unfold objOf; simp only [h]
@[simp] theorem dEq_b (i j : Bool) (C : Cells) : dEq (.bl i) (.bl j) C = .ok (.bl (i == j)) C := (rfl)
@[simp] theorem dNe_b (i j : Bool) (C : Cells) : dNe (.bl i) (.bl j) C = .ok (.bl (!(i == j))) C := (rfl)
/-! ### the three rules -/
inductive Rule where | first | last | refuse
def Rule.s : Rule → Str
  | .first => "first"
  | .last => "last"
  | .refuse => "refuse"
def Rule.r : Rule → Bool
  | .refuse => true
  | _ => false
def Rule.l : Rule → Bool
  | .last => true
  | _ => false
theorem neV_p {x y : D} {C : Cells} (hx : plain 30 x = true) (hy : plain 30 y = true) : dNeV x y C = .ok (.bl (!eqD x y)) C := by
  unfold dNeV; rw [vwn_plain 30 30 C x hx, vwn_plain 30 30 C y hy, hx, hy]; rfl
theorem eqV_p {x y : D} {C : Cells} (hx : plain 30 x = true) (hy : plain 30 y = true) : dEqV x y C = .ok (.bl (eqD x y)) C := by
  unfold dEqV; rw [vwn_plain 30 30 C x hx, vwn_plain 30 30 C y hy, hx, hy]; rfl
theorem dNe_str {a b : Str} {C : Cells} (ha : plain 30 (.str a) = true) (hb : plain 30 (.str b) = true) : dNe (.str a) (.str b) C = .ok (.bl (!eqD (.str a) (.str b))) C := by
  unfold dNe; rw [vw_str, vw_str, ha, hb]; rfl
theorem dEq_str {a b : Str} {C : Cells} (ha : plain 30 (.str a) = true) (hb : plain 30 (.str b) = true) : dEq (.str a) (.str b) C = .ok (.bl (eqD (.str a) (.str b))) C := by
  unfold dEq; rw [vw_str, vw_str, ha, hb]; rfl
theorem Rule.ne (r : Rule) (C : Cells) : dNe (.str r.s) (.str "refuse") C = .ok (.bl (!r.r)) C ∧ dNeV (.str r.s) (.str "refuse") C = .ok (.bl (!r.r)) C := by
  cases r <;> exact ⟨(dNe_str (by decide +kernel) (by decide +kernel)).trans (congrArg (fun b => Res.ok (D.bl b) C) (by decide +kernel)), (neV_p (by decide +kernel) (by decide +kernel)).trans (congrArg (fun b => Res.ok (D.bl b) C) (by decide +kernel))⟩
theorem Rule.eq (r : Rule) (C : Cells) : dEq (.str r.s) (.str "last") C = .ok (.bl r.l) C ∧ dEqV (.str r.s) (.str "last") C = .ok (.bl r.l) C := by
  cases r <;> exact ⟨(dEq_str (by decide +kernel) (by decide +kernel)).trans (congrArg (fun b => Res.ok (D.bl b) C) (by decide +kernel)), (eqV_p (by decide +kernel) (by decide +kernel)).trans (congrArg (fun b => Res.ok (D.bl b) C) (by decide +kernel))⟩
theorem Rule.eqr (r : Rule) (C : Cells) : dEq (.str r.s) (.str "refuse") C = .ok (.bl r.r) C ∧ dEqV (.str r.s) (.str "refuse") C = .ok (.bl r.r) C := by
  cases r <;> exact ⟨(dEq_str (by decide +kernel) (by decide +kernel)).trans (congrArg (fun b => Res.ok (D.bl b) C) (by decide +kernel)), (eqV_p (by decide +kernel) (by decide +kernel)).trans (congrArg (fun b => Res.ok (D.bl b) C) (by decide +kernel))⟩
theorem Rule.mem (r : Rule) (C : Cells) : dInG true (.str r.s) (.ktp [.str "first", .str "last", .str "refuse"]) C = .ok (.bl false) C := by cases r <;> rfl
def Rule.judge (r : Rule) (xs : List Pc) : Ans := judgeP r.r r.l Hs0 xs
@[simp] theorem isN_dE (e : Option Int) : isN (dE e) = e.isNone := by cases e <;> rfl
end DL

set_option Elab.async false
set_option linter.all false
set_option maxRecDepth 100000
set_option autoImplicit false
namespace DL
open PySem PySem.Spec PyProof.Rows L2
/-! ### pieces of one letter, in any order -/
/-- y is a true part of a letter of the bytes B -/
structure Tru (B : List Int) (y : Pc) : Prop where
  a : 0 ≤ y.at_
  l : 1 ≤ y.bs.length
  e : endP y ≤ B.length
  s : ∀ i, i < y.bs.length → B[y.at_.toNat + i]? = y.bs[i]?
  m : y.mo = decide (endP y < B.length)
structure Sok (B : List Int) (s : Hs) : Prop where
  ok : Hok s
  v : ∀ x d, lookD s.bt (.inl x) = some d → ∃ v, B[x.toNat]? = some v ∧ d = .int v
  b : ∀ x, has s.bt x = true → 0 ≤ x ∧ x < B.length
  e : s.lend = if has s.bt (B.length - 1) = true then some (B.length : Int) else none
  m : s.most < B.length
def cvr (y : Pc) (z : Int) : Prop := y.at_ ≤ z ∧ z < endP y
theorem sok0 {B : List Int} (hB : 1 ≤ B.length) : Sok B Hs0 := ⟨hok0, fun x d h => by simp [Hs0, lookD] at h, fun x h => by simp [Hs0, has, lookD] at h, by simp [Hs0, has, lookD], by simp [Hs0]; omega⟩
theorem Sok.fits {B : List Int} {s : Hs} {y : Pc} (S : Sok B s) (T : Tru B y) : s.strange y = false := by
  unfold Hs.strange strangeH
  have hm := T.m
  have he := T.e
  have h0 := S.m
  rw [S.e, hm]
  by_cases q : endP y < B.length
  · split
    · rename_i k hk
      split at hk
      · cases hk
        rw [decide_eq_true q]
        simp; omega
      · cases hk
    · rw [decide_eq_true q]; rfl
  · have qe : endP y = B.length := by omega
    rw [decide_eq_false q]
    split
    · rename_i k hk
      split at hk
      · cases hk
        simp; omega
      · cases hk
    · simp; omega
theorem clash_tru {bt : Bt} {B : List Int} (hv : ∀ x d, lookD bt (.inl x) = some d → ∃ v, B[x.toNat]? = some v ∧ d = .int v) : ∀ (bs : List Int) (a : Int), 0 ≤ a → (∀ i, i < bs.length → B[a.toNat + i]? = bs[i]?) → clashF bt a bs = none
  | [], a, _, _ => rfl
  | b :: r, a, h0, h => by
    have hb : B[a.toNat]? = some b := by simpa using h 0 (by simp)
    have d : difF bt a b = false := by
      unfold difF
      cases e : lookD bt (.inl a) with
      | none => rfl
      | some d =>
        obtain ⟨v, h1, rfl⟩ := hv a d e
        rw [hb] at h1; cases h1; simp
    unfold clashF
    rw [d]
    refine clash_tru hv r (a + 1) (by omega) fun i hi => ?_
    have := h (i + 1) (by simp; omega)
    rw [show (a + 1).toNat + i = a.toNat + (i + 1) by omega, this]; rfl
theorem put_tru {last : Bool} {B : List Int} : ∀ (bs : List Int) (bt : Bt) (a : Int), (∀ x d, lookD bt (.inl x) = some d → ∃ v, B[x.toNat]? = some v ∧ d = .int v) → 0 ≤ a → (∀ i, i < bs.length → B[a.toNat + i]? = bs[i]?) →
    ∀ x d, lookD (putF last bt a bs) (.inl x) = some d → ∃ v, B[x.toNat]? = some v ∧ d = .int v
  | [], bt, a, hv, _, _ => hv
  | b :: r, bt, a, hv, h0, h => by
    have hb : B[a.toNat]? = some b := by simpa using h 0 (by simp)
    refine put_tru r _ (a + 1) (fun x d e => ?_) (by omega) fun i hi => ?_
    · split at e
      · rw [lookD_put] at e
        split at e
        · rename_i q
          cases q; cases e
          exact ⟨b, hb, rfl⟩
        · exact hv x d e
      · exact hv x d e
    · have := h (i + 1) (by simp; omega)
      rw [show (a + 1).toNat + i = a.toNat + (i + 1) by omega, this]; rfl
theorem Sok.take {B : List Int} {s : Hs} {y : Pc} (hB : 1 ≤ B.length ∧ B.length ≤ 4000) (S : Sok B s) (T : Tru B y) (last : Bool) : Sok B (s.take last y) ∧ ∀ x, has (s.take last y).bt x = true ↔ has s.bt x = true ∨ cvr y x := by
  have te := T.e
  have ta := T.a
  have tl := T.l
  have hb : ∀ x, has (s.take last y).bt x = true ↔ has s.bt x = true ∨ cvr y x := fun x => by
    have := (putF_ok last y.bs s.bt y.at_ S.ok.b ta (by unfold endP at te; omega)).2 x
    show has (putF last s.bt y.at_ y.bs) x = true ↔ _
    rw [this]
    unfold cvr endP
    simp
  refine ⟨⟨S.ok.take last ta tl (by omega), put_tru y.bs s.bt y.at_ S.v ta T.s, fun x h => ?_, ?_, ?_⟩, hb⟩
  · rcases (hb x).1 h with h | h
    · exact S.b x h
    · unfold cvr at h; omega
  · show (if y.mo = true then s.lend else some (endP y)) = _
    by_cases q : endP y < B.length
    · rw [T.m, decide_eq_true q, if_pos rfl, S.e]
      have : has (s.take last y).bt (B.length - 1) = has s.bt (B.length - 1) := by
        rw [Bool.eq_iff_iff, hb]
        unfold cvr
        constructor
        · rintro (h | h)
          · exact h
          · omega
        · exact .inl
      rw [this]
    · have : has (s.take last y).bt (B.length - 1) = true := (hb _).2 (.inr (by unfold cvr; unfold endP at *; omega))
      rw [T.m, decide_eq_false q, this]
      simp; omega
  · show (if y.mo = true then (if endP y > s.most then endP y else s.most) else s.most) < _
    have := S.m
    split
    · rename_i q
      rw [T.m] at q
      have := of_decide_eq_true q
      split <;> omega
    · exact this
theorem Sok.full {B : List Int} {s : Hs} (hB : 1 ≤ B.length) (S : Sok B s) (h : ∀ x : Int, 0 ≤ x → x < B.length → has s.bt x = true) : s.lacks = [] := by
  have e := S.e
  rw [if_pos (h _ (by omega) (by omega))] at e
  unfold Hs.lacks
  rw [e]
  show (lackK s.bt B.length).map pr = []
  obtain ⟨j1, j2⟩ := lackK_ok s.bt B.length
  have : lackK s.bt B.length = [] := Cov.cv_unique j1 ⟨by simp, by simp⟩ fun x => by
    rw [j2]
    constructor
    · rintro ⟨h0, h1, h2⟩
      rw [h x h0 h1] at h2; cases h2
    · intro z; simp [Cov.In] at z
  rw [this]; rfl
theorem Sok.bytes {B : List Int} {s : Hs} (S : Sok B s) (h : s.lacks = []) : s.bytes = B.map D.int := by
  obtain ⟨k, hk, ha⟩ := lacks_nil h
  have e := S.e
  rw [hk] at e
  split at e
  · cases e
    unfold Hs.bytes
    rw [hk]
    show bytesP s.bt B.length = _
    unfold bytesP
    apply List.ext_getElem
    · simp [rng]
    · intro i h1 h2
      simp at h2
      have hi := ha i (by omega) (by omega)
      obtain ⟨d, hd⟩ := Option.isSome_iff_exists.1 hi
      obtain ⟨v, hv, rfl⟩ := S.v _ _ hd
      simp [rng] at hv ⊢
      rw [hd]
      rw [List.getElem?_eq_getElem h2] at hv
      cases hv; rfl
  · cases e
theorem judge_whole {B : List Int} (hB : 1 ≤ B.length ∧ B.length ≤ 4000) (r l : Bool) : ∀ (xs : List Pc) (s : Hs), Sok B s → (∀ y ∈ xs, Tru B y) → s.lacks ≠ [] → (∀ x : Int, 0 ≤ x → x < B.length → has s.bt x = true ∨ ∃ y ∈ xs, cvr y x) →
    judgeP r l s xs = .whole (B.map D.int)
  | [], s, S, _, hn, hc => absurd (S.full hB.1 fun x h0 h1 => by simpa using hc x h0 h1) hn
  | y :: xs, s, S, ht, hn, hc => by
    have T := ht y (by simp)
    have st := S.fits T
    have tr : s.trouble r y = none := by
      unfold Hs.trouble
      split
      · rw [st, clash_tru S.v y.bs y.at_ T.a T.s]; rfl
      · rfl
    obtain ⟨S', hb⟩ := S.take hB T l
    unfold judgeP
    rw [tr]
    simp only [st]
    by_cases q : (s.take l y).lacks = []
    · rw [if_neg (by decide), if_pos q, S'.bytes q]
    · rw [if_neg (by decide), if_neg q]
      refine judge_whole hB r l xs _ S' (fun z m => ht z (by simp [m])) q fun x h0 h1 => ?_
      rcases hc x h0 h1 with h | ⟨z, hz, h⟩
      · exact .inl ((hb x).2 (.inl h))
      · rcases List.mem_cons.1 hz with rfl | hz
        · exact .inl ((hb x).2 (.inr h))
        · exact .inr ⟨z, hz, h⟩
theorem judge_lacking {B : List Int} (hB : 1 ≤ B.length ∧ B.length ≤ 4000) (r l : Bool) {x0 : Int} (hx : 0 ≤ x0 ∧ x0 < B.length) : ∀ (xs : List Pc) (s : Hs), Sok B s → (∀ y ∈ xs, Tru B y) → has s.bt x0 = false → (∀ y ∈ xs, ¬ cvr y x0) →
    ∃ s', Sok B s' ∧ (∀ x, has s'.bt x = true ↔ has s.bt x = true ∨ ∃ y ∈ xs, cvr y x) ∧ judgeP r l s xs = .lacking s'.lacks
  | [], s, S, _, _, _ => ⟨s, S, by simp, rfl⟩
  | y :: xs, s, S, ht, h0, hn => by
    have T := ht y (by simp)
    have st := S.fits T
    have tr : s.trouble r y = none := by
      unfold Hs.trouble
      split
      · rw [st, clash_tru S.v y.bs y.at_ T.a T.s]; rfl
      · rfl
    obtain ⟨S', hb⟩ := S.take hB T l
    have h0' : has (s.take l y).bt x0 = false := by
      cases e : has (s.take l y).bt x0 with
      | false => rfl
      | true =>
        rcases (hb x0).1 e with e | e
        · rw [h0] at e; cases e
        · exact absurd e (hn y (by simp))
    have q : (s.take l y).lacks ≠ [] := fun z => by
      obtain ⟨k, hk, ha⟩ := lacks_nil z
      have e := S'.e
      rw [hk] at e
      split at e
      · cases e
        rw [ha x0 hx.1 hx.2] at h0'; cases h0'
      · cases e
    obtain ⟨s', S2, h2, j⟩ := judge_lacking hB r l hx xs _ S' (fun z m => ht z (by simp [m])) h0' fun z m => hn z (by simp [m])
    refine ⟨s', S2, fun x => ?_, ?_⟩
    · rw [h2, hb]
      constructor
      · rintro ((h | h) | ⟨z, m, h⟩)
        · exact .inl h
        · exact .inr ⟨y, by simp, h⟩
        · exact .inr ⟨z, by simp [m], h⟩
      · rintro (h | ⟨z, m, h⟩)
        · exact .inl (.inl h)
        · rcases List.mem_cons.1 m with rfl | m
          · exact .inl (.inr h)
          · exact .inr ⟨z, m, h⟩
    · conv => lhs; unfold judgeP
      rw [tr]
      simp only [st]
      rw [if_neg (by decide), if_neg q, j]
/-- one gap -/
theorem Sok.gap {B : List Int} {s : Hs} (hB : 1 ≤ B.length) (S : Sok B s) {p q : Int} (h0 : 0 ≤ p) (h1 : p < q) (h2 : q ≤ B.length) (hp : q = B.length → 0 < p) (hb : ∀ x, has s.bt x = true ↔ 0 ≤ x ∧ x < B.length ∧ ¬ (p ≤ x ∧ x < q)) :
    s.lacks = [.tup [.int p, if q < B.length then .int q else .non]] := by
  have nf : ∀ x, has s.bt x = false ↔ ¬ (0 ≤ x ∧ x < B.length ∧ ¬ (p ≤ x ∧ x < q)) := fun x => by rw [← hb]; simp
  unfold Hs.lacks
  rw [S.e]
  by_cases w : q < B.length
  · rw [if_pos ((hb _).2 (by omega)), if_pos w]
    obtain ⟨j1, j2⟩ := lackK_ok s.bt B.length
    have : lackK s.bt B.length = [(p, q)] := Cov.cv_unique j1 ⟨by simp, by simpa using h1⟩ fun x => by
      rw [j2, nf]
      simp [Cov.In]
      omega
    show (lackK s.bt B.length).map pr = _
    rw [this]; rfl
  · have hq : q = B.length := by omega
    rw [if_neg (by rw [hb]; omega), if_neg w]
    obtain ⟨t0, t1, t2, t3⟩ := topK_ok S.ok.b
    have e : topK s.bt = p := by
      have a1 := t2 (p - 1) ((hb _).2 (by have := hp hq; omega))
      have a2 := (hb _).1 (t3 (by omega))
      omega
    show (lackK s.bt (topK s.bt)).map pr ++ [.tup [.int (topK s.bt), .non]] = _
    rw [e]
    obtain ⟨j1, j2⟩ := lackK_ok s.bt p
    have : lackK s.bt p = [] := Cov.cv_unique j1 ⟨by simp, by simp⟩ fun x => by
      rw [j2, nf]
      simp [Cov.In]
      omega
    rw [this]; rfl
/-! ### a row that a letter stands as -/
theorem Tru.head {B : List Int} {x : Pc} (T : Tru B x) {s : Nat} (h0 : 0 < s) (h1 : s < x.bs.length) : Tru B (x.head s) := by
  have e := T.e
  have hl : (x.head s).bs.length = s := by simp [Pc.head]; omega
  have he : endP (x.head s) = x.at_ + s := by unfold endP; rw [hl]; rfl
  unfold endP at e
  refine ⟨T.a, by omega, by omega, fun i hi => ?_, ?_⟩
  · rw [hl] at hi
    have := T.s i (by omega)
    show B[x.at_.toNat + i]? = (x.bs.take s)[i]?
    rw [this, List.getElem?_take, if_pos hi]
  · rw [he]
    show true = _
    rw [decide_eq_true (by omega)]
theorem Tru.rest {B : List Int} {x : Pc} (T : Tru B x) {s : Nat} (h1 : s < x.bs.length) : Tru B (x.rest s) := by
  have e := T.e
  have a := T.a
  have hl : (x.rest s).bs.length = x.bs.length - s := by simp [Pc.rest]
  have ha : (x.rest s).at_ = x.at_ + s := rfl
  have he : endP (x.rest s) = endP x := by unfold endP; rw [hl, ha]; omega
  refine ⟨by omega, by omega, by omega, fun i hi => ?_, ?_⟩
  · rw [hl] at hi
    have := T.s (s + i) (by omega)
    rw [ha, show (x.at_ + s).toNat + i = x.at_.toNat + (s + i) by omega, this]
    show _ = (x.bs.drop s)[i]?
    rw [List.getElem?_drop]
  · rw [he]; exact T.m
theorem Div.tru {B : List Int} : ∀ {x : Pc} {ps : List Pc}, Div x ps → Tru B x → ∀ y ∈ ps, Tru B y := by
  intro x ps h
  induction h with
  | one x => intro T y m; rw [List.mem_singleton.1 m]; exact T
  | cons x s r h0 h1 h2 hr ih =>
    intro T y m
    rcases List.mem_cons.1 m with rfl | m
    · exact T.head h0 h1
    · exact ih (T.rest h1) y m
theorem cvr_head {x : Pc} {s : Nat} (h1 : s < x.bs.length) (z : Int) : cvr (x.head s) z ↔ x.at_ ≤ z ∧ z < x.at_ + s := by
  have hl : (x.head s).bs.length = s := by simp [Pc.head]; omega
  unfold cvr endP
  rw [hl]; rfl
theorem cvr_rest {x : Pc} {s : Nat} (h1 : s < x.bs.length) (z : Int) : cvr (x.rest s) z ↔ x.at_ + s ≤ z ∧ z < endP x := by
  have hl : (x.rest s).bs.length = x.bs.length - s := by simp [Pc.rest]
  have ha : (x.rest s).at_ = x.at_ + s := rfl
  unfold cvr endP
  rw [hl, ha]
  omega
theorem Div.cvr : ∀ {x : Pc} {ps : List Pc}, Div x ps → ∀ z, DL.cvr x z ↔ ∃ y ∈ ps, DL.cvr y z := by
  intro x ps h
  induction h with
  | one x => intro z; simp
  | cons x s r h0 h1 h2 hr ih =>
    intro z
    have a := cvr_head h1 z
    have b := cvr_rest h1 z
    have c := ih z
    have d : DL.cvr x z ↔ x.at_ ≤ z ∧ z < endP x := Iff.rfl
    constructor
    · intro h
      have h' := d.1 h
      by_cases q : z < x.at_ + s
      · exact ⟨_, by simp, a.2 (by omega)⟩
      · obtain ⟨y, m, h⟩ := c.1 (b.2 (by omega))
        exact ⟨y, by simp [m], h⟩
    · rintro ⟨y, m, h⟩
      have : endP x = x.at_ + x.bs.length := rfl
      rcases List.mem_cons.1 m with rfl | m
      · have := a.1 h; exact d.2 (by omega)
      · have := b.1 (c.2 ⟨y, m, h⟩); exact d.2 (by omega)
theorem Div.out : ∀ {x : Pc} {ps : List Pc}, Div x ps → ∀ (a : List Pc) (p : Pc) (b : List Pc), ps = a ++ p :: b → ∀ z, (∃ y ∈ a ++ b, DL.cvr y z) ↔ DL.cvr x z ∧ ¬ DL.cvr p z := by
  intro x ps h
  induction h with
  | one x =>
    intro a p b e z
    cases a with
    | nil =>
      cases e
      simp
    | cons q a =>
      have := congrArg List.length e
      simp at this
  | cons x s r h0 h1 h2 hr ih =>
    intro a p b e z
    have ch := cvr_head h1 z
    have cr := cvr_rest h1 z
    have cc := hr.cvr z
    have d : DL.cvr x z ↔ x.at_ ≤ z ∧ z < endP x := Iff.rfl
    have ee : endP x = x.at_ + x.bs.length := rfl
    cases a with
    | nil =>
      cases e
      show (∃ y ∈ r, DL.cvr y z) ↔ _
      rw [← cc, cr, ch, d]
      omega
    | cons q a =>
      simp only [List.cons_append] at e
      injection e with e1 e2'
      subst e1
      have i := ih a p b e2' z
      have hp : DL.cvr p z → DL.cvr (x.rest s) z := fun h => cc.2 ⟨p, by rw [e2']; simp, h⟩
      constructor
      · rintro ⟨y, m, h⟩
        rcases List.mem_cons.1 m with rfl | m
        · have := ch.1 h
          exact ⟨d.2 (by omega), fun z' => by have := cr.1 (hp z'); omega⟩
        · obtain ⟨i1, i2⟩ := i.1 ⟨y, m, h⟩
          have := cr.1 i1
          exact ⟨d.2 (by omega), i2⟩
      · rintro ⟨i1, i2⟩
        have := d.1 i1
        by_cases q : z < x.at_ + s
        · exact ⟨_, by simp, ch.2 (by omega)⟩
        · obtain ⟨y, m, h⟩ := i.2 ⟨cr.2 (by omega), i2⟩
          exact ⟨y, by simp at m ⊢; exact .inr m, h⟩
end DL

set_option Elab.async false
set_option linter.all false
set_option maxRecDepth 100000
set_option maxHeartbeats 4000000
set_option autoImplicit false
namespace K93
open PySem PySem.Spec PyProof.Rows L2 DL
def top (i : Nat) : Stmt := PySem.Challenge.pw_pieceways_k93_whole_overlaps_by_the_rule.main.body.getD i (.Pass ⟨0, 0, 0, 0⟩)
def T0 : Tab := ⟨9, fun | 0 => [0, 1, 2, 3, 4] | 1 => [0, 1, 2, 3, 4] | 2 => [0, 1, 2, 3, 4, 5, 6] | 3 => [] | 4 => [3] | 5 => [7] | 6 => [5] | 7 => [8, 9, 10, 11, 12] | 8 => [8, 13, 14, 15, 16, 17, 18, 19, 20] | _ => [], fun | 0 => "number" | 1 => "sender" | 2 => "goal" | 3 => "body" | 4 => "keep" | 5 => "at" | 6 => "more" | 7 => "spans" | 8 => "rule" | 9 => "byte_at" | 10 => "cover" | 11 => "last_end" | 12 => "most" | 13 => "wait" | 14 => "space" | 15 => "out" | 16 => "again" | 17 => "now" | 18 => "heaps" | 19 => "begun" | 20 => "whole_at" | _ => ""⟩
def tb0 : ITab := [((15, 0), false), ((15, 1), false), ((15, 2), false), ((15, 3), false), ((15, 4), false), ((15, 5), false), ((15, 6), false), ((15, 10), false), ((15, 11), false), ((15, 12), false), ((15, 13), false), ((15, 14), false), ((15, 15), true), ((15, 16), false), ((15, 17), false), ((15, 18), false), ((11, 0), false), ((11, 1), false), ((11, 2), false), ((11, 3), false), ((11, 4), false), ((11, 5), false), ((11, 6), false), ((11, 10), false), ((11, 11), true), ((11, 12), false), ((11, 13), false), ((11, 14), false), ((11, 15), false), ((11, 16), false), ((11, 17), false), ((11, 18), false), ((12, 0), false), ((12, 1), false), ((12, 2), false), ((12, 3), false), ((12, 4), false), ((12, 5), false), ((12, 6), false), ((12, 10), false), ((12, 11), false), ((12, 12), true), ((12, 13), false), ((12, 14), false), ((12, 15), false), ((12, 16), false), ((12, 17), false), ((12, 18), false), ((16, 0), false), ((16, 1), false), ((16, 2), false), ((16, 3), false), ((16, 4), false), ((16, 5), false), ((16, 6), false), ((16, 10), false), ((16, 11), false), ((16, 12), false), ((16, 13), false), ((16, 14), false), ((16, 15), false), ((16, 16), true), ((16, 17), false), ((16, 18), false), ((14, 0), false), ((14, 1), false), ((14, 2), false), ((14, 3), false), ((14, 4), false), ((14, 5), false), ((14, 6), false), ((14, 10), false), ((14, 11), false), ((14, 12), false), ((14, 13), false), ((14, 14), true), ((14, 15), false), ((14, 16), false), ((14, 17), false), ((14, 18), false)]
def exs : List Nat := [10, 11, 12, 13, 14]
def sb0 : ITab := []
def c_LETTERS : D := .str "abcdefghijklmnopqrstuvwxyz"
def c_MOST_BYTES : D := .int 4000
def c_RULES : D := .ktp [.str "first", .str "last", .str "refuse"]
abbrev s__law_digit : Stmt := top 40
abbrev s_is_whole : Stmt := top 11
abbrev s_is_within : Stmt := top 12
abbrev s_is_name : Stmt := top 13
abbrev s_is_key : Stmt := top 14
abbrev s_is_body : Stmt := top 15
abbrev s_is_placed : Stmt := top 19
abbrev s_Keyed_init : Stmt := inClass (top 17) 0
abbrev s_Piece_init : Stmt := inClass (top 20) 0
abbrev s__law_piece : Stmt := top 41
abbrev s_check_rule : Stmt := top 33
abbrev s_is_number : Stmt := top 36
abbrev s_Room_init : Stmt := inClass (top 37) 0
abbrev s__law_told : Stmt := top 49
abbrev s_Keyed_key : Stmt := inClass (top 17) 1
abbrev s_Heap_init : Stmt := inClass (top 32) 0
abbrev s_Piece_end : Stmt := inClass (top 20) 1
abbrev s_Heap_is_strange : Stmt := inClass (top 32) 1
abbrev s_Heap_clash : Stmt := inClass (top 32) 2
abbrev s_Heap_trouble : Stmt := inClass (top 32) 3
abbrev s_Unlike_init : Stmt := inClass (top 31) 0
abbrev s_with_span : Stmt := top 22
abbrev s_Heap_cover_with : Stmt := inClass (top 32) 4
abbrev s_Heap_take : Stmt := inClass (top 32) 6
abbrev s_least_end : Stmt := top 24
abbrev s_lacking : Stmt := top 23
abbrev s_Heap_lacks_now : Stmt := inClass (top 32) 10
abbrev s_Whole_init : Stmt := inClass (top 29) 0
abbrev s_Heap_all_bytes : Stmt := inClass (top 32) 8
abbrev s_Lacking_init : Stmt := inClass (top 30) 0
abbrev s_judged : Stmt := top 34
abbrev s__law_end : Stmt := top 42
abbrev s__law_strange : Stmt := top 43
abbrev s__law_byte : Stmt := top 44
abbrev s__law_unlike : Stmt := top 45
abbrev s__law_spans : Stmt := top 46
abbrev s__law_one_more : Stmt := top 47
abbrev s__law_due : Stmt := top 48
abbrev s_Room_let_go : Stmt := inClass (top 37) 3
abbrev s_Room_waits_ended : Stmt := inClass (top 37) 2
abbrev s_Room_tick : Stmt := inClass (top 37) 1
abbrev s_Heap_would_be_whole : Stmt := inClass (top 32) 7
abbrev s_Letter_init : Stmt := inClass (top 18) 0
abbrev s_size_of : Stmt := top 25
abbrev s_Heap_grown_with : Stmt := inClass (top 32) 5
abbrev s_Heap_size : Stmt := inClass (top 32) 9
abbrev s_Room_bytes_kept : Stmt := inClass (top 37) 9
abbrev s_Room_first_out : Stmt := inClass (top 37) 7
abbrev s_Room_made_room : Stmt := inClass (top 37) 6
abbrev s_Room_looked_at : Stmt := inClass (top 37) 5
abbrev s_Room_come : Stmt := inClass (top 37) 4
abbrev s_Room_check_key : Stmt := inClass (top 37) 10
abbrev s_Room_lacks : Stmt := inClass (top 37) 11
abbrev s_Room_kept : Stmt := inClass (top 37) 8
abbrev s_Letter_is_like : Stmt := inClass (top 18) 1
abbrev s_Piece_is_like : Stmt := inClass (top 20) 2
abbrev s__law_event : Stmt := top 50
abbrev s_law : Stmt := top 51
noncomputable def F__law_digit : Fn := callF 4 2 (sSeq (sIf (asB (e2 dEqV (eA bLen (aCons (eVar 0) (aNil))) (eC (.int 1)))) (sDrop (eBm tyL mExtend (eVar 0) (aCons (eLst (aCons (e2 dMod (e2 dIx (eVar 0) (eC (.int 0))) (eC (.int 2147483647))) (aCons (eC (.int 0)) (aNil)))) (aNil)))) (sNil)) (sSeq (sIf (asB (e2 dGt (e2 dIx (eVar 0) (eC (.int 0))) (eC (.int 0)))) (sSeq (sSet 3 (e2 dMod (e2 dIx (eVar 0) (eC (.int 0))) (eVar 1))) (sSeq (sIxF (eVar 0) (eC (.int 0)) (e2 dDiv (e2 dIx (eVar 0) (eC (.int 0))) (eVar 1))) (sRet (eVar 3)))) (sNil)) (sSeq (sIxF (eVar 0) (eC (.int 2)) (e2 dAdd (e2 dIx (eVar 0) (eC (.int 2))) (eC (.int 1)))) (sSeq (sSet 2 (e2 dMod (e2 dMul (e2 dAdd (e2 dAdd (e2 dIx (eVar 0) (eC (.int 1))) (e2 dMul (eC (.int 7919)) (e2 dIx (eVar 0) (eC (.int 2))))) (eC (.int 1))) (eC (.int 48271))) (eC (.int 2147483647)))) (sSeq (sSet 2 (e2 dMod (e2 dMul (eVar 2) (e2 dAdd (e2 dDiv (eVar 2) (eC (.int 1009))) (eC (.int 69621)))) (eC (.int 2147483647)))) (sRet (e2 dMod (e2 dMod (e2 dMul (eVar 2) (e2 dAdd (e2 dDiv (eVar 2) (eC (.int 2003))) (eC (.int 40692)))) (eC (.int 2147483399))) (eVar 1))))))))
noncomputable def F_is_whole : Fn := callF 1 1 (sRet (eAndF (eIsi T0 tb0 2 (eVar 0)) (eNotF (eIsi T0 tb0 1 (eVar 0)))))
noncomputable def F_is_within : Fn := callF 3 3 (sRet (eAndF (eCall F_is_whole [] (aCons (eVar 0) (aNil))) (e3 dLe dLe (eVar 1) (eVar 0) (eVar 2))))
noncomputable def Y_is_name_1 : EF := e2 (dInG false) (eVar 1) (eC c_LETTERS)
noncomputable def F_is_name : Fn := callF 2 1 (sSeq (sIf (tOrF (tNotF (asB (eIsi T0 tb0 3 (eVar 0)))) (tNotF (asB (e3 dLe dLe (eC (.int 1)) (eA bLen (aCons (eVar 0) (aNil))) (eC (.int 8)))))) (sRet (eC (.bl false))) (sNil)) (sRet (eA bAll (aCons (eLc (iSt (eVar 0)) (gfName 1) (tYesF) (Y_is_name_1) [1]) (aNil)))))
noncomputable def F_is_key : Fn := callF 1 1 (sSeq (sIf (tOrF (tNotF (asB (eIsi T0 tb0 5 (eVar 0)))) (asB (e2 dNeV (eA bLen (aCons (eVar 0) (aNil))) (eC (.int 3))))) (sRet (eC (.bl false))) (sNil)) (sRet (eAndF (eCall F_is_within [] (aCons (e2 dIx (eVar 0) (eC (.int 0))) (aCons (eC (.int 0)) (aCons (eC (.int 65535)) (aNil))))) (eAndF (eCall F_is_name [] (aCons (e2 dIx (eVar 0) (eC (.int 1))) (aNil))) (eCall F_is_name [] (aCons (e2 dIx (eVar 0) (eC (.int 2))) (aNil)))))))
noncomputable def Y_is_body_1 : EF := eCall F_is_within [] (aCons (eVar 1) (aCons (eC (.int 0)) (aCons (eC (.int 255)) (aNil))))
noncomputable def F_is_body : Fn := callF 2 1 (sSeq (sIf (tOrF (tNotF (asB (eIsi T0 tb0 4 (eVar 0)))) (tNotF (asB (e3 dLe dLe (eC (.int 1)) (eA bLen (aCons (eVar 0) (aNil))) (eC c_MOST_BYTES))))) (sRet (eC (.bl false))) (sNil)) (sRet (eA bAll (aCons (eLcK (iCel (eVar 0)) (gfName 1) (tYesF) (Y_is_body_1) [1]) (aNil)))))
noncomputable def F_is_placed : Fn := callF 3 3 (sSeq (sIf (tOrF (tNotF (asB (eCall F_is_within [] (aCons (eVar 0) (aCons (eC (.int 0)) (aCons (eC c_MOST_BYTES) (aNil))))))) (tOrF (asB (e2 dNeV (e2 dMod (eVar 0) (eC (.int 8))) (eC (.int 0)))) (tNotF (asB (eIsi T0 tb0 1 (eVar 2)))))) (sRet (eC (.bl false))) (sNil)) (sSeq (sIf (asB (eVar 2)) (sRet (eAndF (e2 dEqV (e2 dMod (eA bLen (aCons (eVar 1) (aNil))) (eC (.int 8))) (eC (.int 0))) (e2 dLt (e2 dAdd (eVar 0) (eA bLen (aCons (eVar 1) (aNil)))) (eC c_MOST_BYTES)))) (sNil)) (sRet (e2 dLe (e2 dAdd (eVar 0) (eA bLen (aCons (eVar 1) (aNil)))) (eC c_MOST_BYTES)))))
noncomputable def F_Keyed_init : Fn := callF 6 6 (sSeq (sFldF T0 0 (eVar 0) (eVar 1)) (sSeq (sFldF T0 1 (eVar 0) (eVar 2)) (sSeq (sFldF T0 2 (eVar 0) (eVar 3)) (sSeq (sFldF T0 3 (eVar 0) (eA bList (aCons (eVar 4) (aNil)))) (sFldF T0 4 (eVar 0) (eVar 5))))))
noncomputable def F_Piece_init : Fn := callF 8 8 (sSeq (sIf (tOrF (tNotF (asB (eCall F_is_key [] (aCons (eTup (aCons (eVar 1) (aCons (eVar 2) (aCons (eVar 3) (aNil))))) (aNil))))) (tOrF (tNotF (asB (eCall F_is_body [] (aCons (eVar 5) (aNil))))) (tNotF (asB (eIsi T0 tb0 1 (eVar 7)))))) (sRaise 11) (sNil)) (sSeq (sIf (tNotF (asB (eCall F_is_placed [] (aCons (eVar 4) (aCons (eVar 5) (aCons (eVar 6) (aNil))))))) (sRaise 11) (sNil)) (sSeq (sDrop (eCall F_Keyed_init [] (aCons (eVar 0) (aCons (eVar 1) (aCons (eVar 2) (aCons (eVar 3) (aCons (eVar 5) (aCons (eVar 7) (aNil))))))))) (sSeq (sFldF T0 5 (eVar 0) (eVar 4)) (sFldF T0 6 (eVar 0) (eVar 6))))))
noncomputable def Y__law_piece_1 : EF := e2 dMul (eCall F__law_digit [] (aCons (eVar 0) (aCons (eVar 4) (aNil)))) (eC (.int 85))
noncomputable def F__law_piece : Fn := callF 7 1 (sSeq (sSet 1 (e2 dGt (eCall F__law_digit [] (aCons (eVar 0) (aCons (eC (.int 4)) (aNil)))) (eC (.int 0)))) (sSeq (sSet 2 (e2 dMul (eC (.int 8)) (e2 dAdd (eC (.int 1)) (eCall F__law_digit [] (aCons (eVar 0) (aCons (eC (.int 4)) (aNil))))))) (sSeq (sIf (tNotF (asB (eVar 1))) (sSet 2 (e2 dSub (eVar 2) (eCall F__law_digit [] (aCons (eVar 0) (aCons (eC (.int 8)) (aNil)))))) (sNil)) (sSeq (sSet 3 (e2 dMul (eC (.int 8)) (eCall F__law_digit [] (aCons (eVar 0) (aCons (eC (.int 7)) (aNil)))))) (sSeq (sSet 4 (e2 dIx (eLst (aCons (eC (.int 1)) (aCons (eC (.int 2)) (aCons (eC (.int 2)) (aCons (eC (.int 3)) (aNil)))))) (eCall F__law_digit [] (aCons (eVar 0) (aCons (eC (.int 4)) (aNil)))))) (sSeq (sSet 5 (eLc (iR1 (aCons (eVar 2) (aNil))) (gfName 6) (tYesF) (Y__law_piece_1) [6])) (sRet (eMake (mkF T0 2 F_Piece_init) [.bl false] (aCons (eC (.int 7)) (aCons (eC (.str "ann")) (aCons (eC (.str "bo")) (aCons (eVar 3) (aCons (eVar 5) (aCons (eVar 1) (aNil)))))))))))))))
noncomputable def F_check_rule : Fn := callF 1 1 (sIf (tOrF (tNotF (asB (eIsi T0 tb0 3 (eVar 0)))) (asB (e2 (dInG true) (eVar 0) (eC c_RULES)))) (sRaise 12) (sNil))
noncomputable def F_is_number : Fn := callF 2 2 (sRet (eAndF (eIsi T0 tb0 2 (eVar 0)) (eAndF (eNotF (eIsi T0 tb0 1 (eVar 0))) (e2 dGe (eVar 0) (eVar 1)))))
noncomputable def F_Room_init : Fn := callF 6 6 (sSeq (sDrop (eCall F_check_rule [] (aCons (eVar 1) (aNil)))) (sSeq (sIf (tOrF (tNotF (asB (eCall F_is_number [] (aCons (eVar 2) (aCons (eC (.int 1)) (aNil)))))) (tNotF (asB (eCall F_is_number [] (aCons (eVar 3) (aCons (eC (.int 1)) (aNil))))))) (sRaise 12) (sNil)) (sSeq (sIf (tOrF (tNotF (asB (eIsi T0 tb0 3 (eVar 4)))) (asB (e2 (dInG true) (eVar 4) (eTup (aCons (eC (.str "oldest")) (aCons (eC (.str "widest")) (aCons (eC (.str "own")) (aNil)))))))) (sRaise 12) (sNil)) (sSeq (sIf (tOrF (tNotF (asB (eIsi T0 tb0 3 (eVar 5)))) (asB (e2 (dInG true) (eVar 5) (eTup (aCons (eC (.str "fresh")) (aCons (eC (.str "rest")) (aNil))))))) (sRaise 12) (sNil)) (sSeq (sFldF T0 8 (eVar 0) (eVar 1)) (sSeq (sFldF T0 13 (eVar 0) (eVar 2)) (sSeq (sFldF T0 14 (eVar 0) (eVar 3)) (sSeq (sFldF T0 15 (eVar 0) (eVar 4)) (sSeq (sFldF T0 16 (eVar 0) (eVar 5)) (sSeq (sFldF T0 17 (eVar 0) (eC (.int 0))) (sSeq (sFldF T0 18 (eVar 0) (eNewT)) (sSeq (sFldF T0 19 (eVar 0) (eNewT)) (sFldF T0 20 (eVar 0) (eNewT))))))))))))))
noncomputable def F__law_told : Fn := callF 2 1 (sSeq (sSet 1 (eLst (aCons (eIsi T0 tb0 14 (eVar 0)) (aCons (eIsi T0 tb0 15 (eVar 0)) (aCons (eIsi T0 tb0 16 (eVar 0)) (aNil)))))) (sSeq (sIf (asB (e2 dEqV (eVar 1) (eLst (aCons (eC (.bl true)) (aCons (eC (.bl false)) (aCons (eC (.bl false)) (aNil))))))) (sRet (eTup (aCons (eC (.str "whole")) (aCons (eFld T0 3 (eVar 0)) (aNil))))) (sNil)) (sSeq (sIf (asB (e2 dEqV (eVar 1) (eLst (aCons (eC (.bl false)) (aCons (eC (.bl true)) (aCons (eC (.bl false)) (aNil))))))) (sRet (eTup (aCons (eC (.str "lacking")) (aCons (eFld T0 7 (eVar 0)) (aNil))))) (sNil)) (sSeq (sIf (asB (e2 dEqV (eVar 1) (eLst (aCons (eC (.bl false)) (aCons (eC (.bl false)) (aCons (eC (.bl true)) (aNil))))))) (sRet (eTup (aCons (eC (.str "unlike")) (aCons (eFld T0 5 (eVar 0)) (aNil))))) (sNil)) (sRet (eC .non))))))
noncomputable def F_Keyed_key : Fn := callF 1 1 (sRet (eTup (aCons (eFld T0 0 (eVar 0)) (aCons (eFld T0 1 (eVar 0)) (aCons (eFld T0 2 (eVar 0)) (aNil))))))
noncomputable def F_Heap_init : Fn := callF 2 2 (sSeq (sFldF T0 8 (eVar 0) (eVar 1)) (sSeq (sFldF T0 9 (eVar 0) (eNewK)) (sSeq (sFldF T0 10 (eVar 0) (eLst (aNil))) (sSeq (sFldF T0 11 (eVar 0) (eC .non)) (sFldF T0 12 (eVar 0) (eC (.int 0)))))))
noncomputable def F_Piece_end : Fn := callF 1 1 (sRet (e2 dAdd (eFld T0 5 (eVar 0)) (eA bLen (aCons (eFld T0 3 (eVar 0)) (aNil)))))
noncomputable def M_end : MTab := fun | 2 => some (1, F_Piece_end) | _ => none
noncomputable def F_Heap_is_strange : Fn := callF 2 2 (sSeq (sIf (asB (e2 dNotN (eFld T0 11 (eVar 0)) (eC .non))) (sSeq (sIf (tOrF (asB (e2 dGt (eMeth M_end (eVar 1) aNil) (eFld T0 11 (eVar 0)))) (asB (e2 dEqV (e2 dEqV (eMeth M_end (eVar 1) aNil) (eFld T0 11 (eVar 0))) (eFld T0 6 (eVar 1))))) (sRet (eC (.bl true))) (sNil)) (sRet (eAndF (eNotF (eFld T0 6 (eVar 1))) (e2 dNeV (eMeth M_end (eVar 1) aNil) (eFld T0 11 (eVar 0)))))) (sNil)) (sRet (eAndF (eNotF (eFld T0 6 (eVar 1))) (e2 dLe (eMeth M_end (eVar 1) aNil) (eFld T0 12 (eVar 0))))))
noncomputable def B_Heap_clash_1 : SF := sIf (asB (e2 dNeV (eGet2 (eFld T0 9 (eVar 0)) (e2 dAdd (eFld T0 5 (eVar 1)) (eVar 2)) (e2 dIx (eFld T0 3 (eVar 1)) (eVar 2))) (e2 dIx (eFld T0 3 (eVar 1)) (eVar 2)))) (sRet (e2 dAdd (eFld T0 5 (eVar 1)) (eVar 2))) (sNil)
noncomputable def F_Heap_clash : Fn := callF 3 2 (sSeq (sFor (iR1 (aCons (eA bLen (aCons (eFld T0 3 (eVar 1)) (aNil))) (aNil))) (gfName 2) (B_Heap_clash_1)) (sRet (eC .non)))
noncomputable def M_is_strange : MTab := fun | 7 => some (2, F_Heap_is_strange) | _ => none
noncomputable def M_clash : MTab := fun | 7 => some (2, F_Heap_clash) | _ => none
noncomputable def F_Heap_trouble : Fn := callF 2 2 (sSeq (sIf (asB (e2 dNeV (eFld T0 8 (eVar 0)) (eC (.str "refuse")))) (sRet (eC .non)) (sNil)) (sSeq (sIf (asB (eMeth M_is_strange (eVar 0) (aCons (eVar 1) (aNil)))) (sRet (eFld T0 5 (eVar 1))) (sNil)) (sRet (eMeth M_clash (eVar 0) (aCons (eVar 1) (aNil))))))
noncomputable def F_Unlike_init : Fn := callF 2 2 (sFldF T0 5 (eVar 0) (eVar 1))
noncomputable def B_with_span_1 : SF := sIf (asB (e2 dLt (eVar 7) (eVar 4))) (sDrop (eBm tyL mAppend (eVar 2) (aCons (eTup (aCons (eVar 6) (aCons (eVar 7) (aNil)))) (aNil)))) (sIf (asB (e2 dGt (eVar 6) (eVar 5))) (sDrop (eBm tyL mAppend (eVar 3) (aCons (eTup (aCons (eVar 6) (aCons (eVar 7) (aNil)))) (aNil)))) (sSeq (sSet 4 (eA bMin2 (aCons (eVar 4) (aCons (eVar 6) (aNil))))) (sSet 5 (eA bMax2 (aCons (eVar 5) (aCons (eVar 7) (aNil)))))))
noncomputable def F_with_span : Fn := callF 8 2 (sSeq (sAsg (eVar 1) (gfTup 2 (gfCons (gfName 4) (gfCons (gfName 5) (gfNil))))) (sSeq (sSet 2 (eLstC (aNil))) (sSeq (sSet 3 (eLstC (aNil))) (sSeq (sFor (iLst (eVar 0)) (gfTup 2 (gfCons (gfName 6) (gfCons (gfName 7) (gfNil)))) (B_with_span_1)) (sRet (e2 dAdd (e2 dAdd (eVar 2) (eLst (aCons (eTup (aCons (eVar 4) (aCons (eVar 5) (aNil)))) (aNil)))) (eVar 3)))))))
noncomputable def F_Heap_cover_with : Fn := callF 2 2 (sRet (eCall F_with_span [] (aCons (eFld T0 10 (eVar 0)) (aCons (eTup (aCons (eFld T0 5 (eVar 1)) (aCons (eMeth M_end (eVar 1) aNil) (aNil)))) (aNil)))))
noncomputable def M_cover_with : MTab := fun | 7 => some (2, F_Heap_cover_with) | _ => none
noncomputable def B_Heap_take_1 : SF := sIf (tOrF (asB (e2 dEqV (eFld T0 8 (eVar 0)) (eC (.str "last")))) (asB (e2 (dInD true) (e2 dAdd (eFld T0 5 (eVar 1)) (eVar 2)) (eFld T0 9 (eVar 0))))) (sDPutF (eFld T0 9 (eVar 0)) (e2 dAdd (eFld T0 5 (eVar 1)) (eVar 2)) (e2 dIx (eFld T0 3 (eVar 1)) (eVar 2))) (sNil)
noncomputable def F_Heap_take : Fn := callF 3 2 (sSeq (sFor (iR1 (aCons (eA bLen (aCons (eFld T0 3 (eVar 1)) (aNil))) (aNil))) (gfName 2) (B_Heap_take_1)) (sSeq (sFldF T0 10 (eVar 0) (eMeth M_cover_with (eVar 0) (aCons (eVar 1) (aNil)))) (sIf (asB (eFld T0 6 (eVar 1))) (sFldF T0 12 (eVar 0) (eA bMax2 (aCons (eFld T0 12 (eVar 0)) (aCons (eMeth M_end (eVar 1) aNil) (aNil))))) (sFldF T0 11 (eVar 0) (eMeth M_end (eVar 1) aNil)))))
noncomputable def F_least_end : Fn := callF 2 2 (sSeq (sIf (asB (e2 dIsN (eVar 1) (eC .non))) (sRet (eVar 0)) (sNil)) (sRet (eA bMin2 (aCons (eVar 0) (aCons (eVar 1) (aNil))))))
noncomputable def B_lacking_1 : SF := sSeq (sIf (tAndF (asB (e2 dLt (eVar 3) (eVar 4))) (tOrF (asB (e2 dIsN (eVar 1) (eC .non))) (asB (e2 dLt (eVar 3) (eVar 1))))) (sDrop (eBm tyL mAppend (eVar 2) (aCons (eTup (aCons (eVar 3) (aCons (eCall F_least_end [] (aCons (eVar 4) (aCons (eVar 1) (aNil)))) (aNil)))) (aNil)))) (sNil)) (sSet 3 (eVar 5))
noncomputable def F_lacking : Fn := callF 6 2 (sSeq (sSet 2 (eLstC (aNil))) (sSeq (sSet 3 (eC (.int 0))) (sSeq (sFor (iLst (eVar 0)) (gfTup 2 (gfCons (gfName 4) (gfCons (gfName 5) (gfNil)))) (B_lacking_1)) (sSeq (sIf (tOrF (asB (e2 dIsN (eVar 1) (eC .non))) (asB (e2 dLt (eVar 3) (eVar 1)))) (sDrop (eBm tyL mAppend (eVar 2) (aCons (eTup (aCons (eVar 3) (aCons (eVar 1) (aNil)))) (aNil)))) (sNil)) (sRet (frz (eVar 2)))))))
noncomputable def F_Heap_lacks_now : Fn := callF 1 1 (sRet (eCall F_lacking [] (aCons (eFld T0 10 (eVar 0)) (aCons (eFld T0 11 (eVar 0)) (aNil)))))
noncomputable def F_Whole_init : Fn := callF 2 2 (sFldF T0 3 (eVar 0) (eA bList (aCons (eVar 1) (aNil))))
noncomputable def Y_Heap_all_bytes_1 : EF := e2 dGetF (eFld T0 9 (eVar 0)) (eVar 1)
noncomputable def F_Heap_all_bytes : Fn := callF 2 1 (sRet (eLc (iR1 (aCons (eFld T0 11 (eVar 0)) (aNil))) (gfName 1) (tYesF) (Y_Heap_all_bytes_1) [1]))
noncomputable def F_Lacking_init : Fn := callF 2 2 (sFldF T0 7 (eVar 0) (eA bList (aCons (eVar 1) (aNil))))
noncomputable def M_key : MTab := fun | 0 => some (1, F_Keyed_key) | 1 => some (1, F_Keyed_key) | 2 => some (1, F_Keyed_key) | _ => none
noncomputable def M_trouble : MTab := fun | 7 => some (2, F_Heap_trouble) | _ => none
noncomputable def M_take : MTab := fun | 7 => some (2, F_Heap_take) | _ => none
noncomputable def M_lacks_now : MTab := fun | 7 => some (1, F_Heap_lacks_now) | _ => none
noncomputable def M_all_bytes : MTab := fun | 7 => some (1, F_Heap_all_bytes) | _ => none
noncomputable def Y_judged_1 : EF := eIsi T0 tb0 12 (eVar 3)
noncomputable def Y_judged_2 : EF := e2 dEqV (eMeth M_key (eVar 3) aNil) (eMeth M_key (e2 dIx (eVar 0) (eC (.int 0))) aNil)
noncomputable def B_judged_3 : SF := sSeq (sSet 4 (eMeth M_trouble (eVar 2) (aCons (eVar 3) (aNil)))) (sSeq (sIf (asB (e2 dNotN (eVar 4) (eC .non))) (sRet (eMake (mkF T0 6 F_Unlike_init) [] (aCons (eVar 4) (aNil)))) (sNil)) (sIf (tNotF (asB (eMeth M_is_strange (eVar 2) (aCons (eVar 3) (aNil))))) (sSeq (sDrop (eMeth M_take (eVar 2) (aCons (eVar 3) (aNil)))) (sIf (asB (e2 dEqV (eMeth M_lacks_now (eVar 2) aNil) (eLst (aNil)))) (sRet (eMake (mkF T0 4 F_Whole_init) [] (aCons (eMeth M_all_bytes (eVar 2) aNil) (aNil)))) (sNil))) (sNil)))
noncomputable def F_judged : Fn := callF 5 2 (sSeq (sDrop (eCall F_check_rule [] (aCons (eVar 1) (aNil)))) (sSeq (sIf (tOrF (asB (e2 dEqL (eVar 0) (eLst (aNil)))) (tNotF (asB (eA bAll (aCons (eLc (iLst (eVar 0)) (gfName 3) (tYesF) (Y_judged_1) [3]) (aNil)))))) (sRaise 11) (sNil)) (sSeq (sIf (tNotF (asB (eA bAll (aCons (eLc (iLst (eVar 0)) (gfName 3) (tYesF) (Y_judged_2) [3]) (aNil))))) (sRaise 11) (sNil)) (sSeq (sSet 2 (eMake (mkC 7 F_Heap_init) [] (aCons (eVar 1) (aNil)))) (sSeq (sFor (iLst (eVar 0)) (gfName 3) (B_judged_3)) (sRet (eMake (mkF T0 5 F_Lacking_init) [] (aCons (eMeth M_lacks_now (eVar 2) aNil) (aNil)))))))))
noncomputable def B__law_end_1 : SF := sIf (tNotF (asB (eFld T0 6 (eVar 1)))) (sRet (eMeth M_end (eVar 1) aNil)) (sNil)
noncomputable def F__law_end : Fn := callF 2 1 (sSeq (sForK (iCel (eVar 0)) (gfName 1) (B__law_end_1)) (sRet (eC .non)))
noncomputable def I__law_strange_1 : TF := tAndF (asB (eFld T0 6 (eVar 3))) (asB (e2 dLe (eMeth M_end (eVar 1) aNil) (eMeth M_end (eVar 3) aNil)))
noncomputable def Y__law_strange_2 : EF := eVar 3
noncomputable def F__law_strange : Fn := callF 4 2 (sSeq (sSet 2 (eCall F__law_end [] (aCons (eVar 0) (aNil)))) (sSeq (sIf (tAndF (asB (e2 dNotN (eVar 2) (eC .non))) (asB (e2 dGt (eMeth M_end (eVar 1) aNil) (eVar 2)))) (sRet (eC (.bl true))) (sNil)) (sSeq (sIf (asB (eFld T0 6 (eVar 1))) (sRet (e2 dEqV (eMeth M_end (eVar 1) aNil) (eVar 2))) (sNil)) (sSeq (sIf (tAndF (asB (e2 dNotN (eVar 2) (eC .non))) (asB (e2 dNeV (eMeth M_end (eVar 1) aNil) (eVar 2)))) (sRet (eC (.bl true))) (sNil)) (sRet (e2 dNeL (eLcK (iCel (eVar 0)) (gfName 3) (I__law_strange_1) (Y__law_strange_2) [3]) (eLst (aNil))))))))
noncomputable def I__law_byte_1 : TF := asB (e3 dLe dLt (eFld T0 5 (eVar 4)) (eVar 2) (eMeth M_end (eVar 4) aNil))
noncomputable def Y__law_byte_2 : EF := e2 dIx (eFld T0 3 (eVar 4)) (e2 dSub (eVar 2) (eFld T0 5 (eVar 4)))
noncomputable def F__law_byte : Fn := callF 5 3 (sSeq (sSet 3 (eLcK (iCel (eVar 0)) (gfName 4) (I__law_byte_1) (Y__law_byte_2) [4])) (sSeq (sIf (asB (e2 dEqV (eVar 3) (eLst (aNil)))) (sRet (eC .non)) (sNil)) (sRet (e2 dIx (eVar 3) (e2 dIx (eLst (aCons (eC (.int 0)) (aCons (eNeg (eC (.int 1))) (aNil)))) (eA bInt (aCons (e2 dEqV (eVar 1) (eC (.str "last"))) (aNil))))))))
noncomputable def B__law_unlike_1 : SF := sIf (asB (e2 (dInG true) (eCall F__law_byte [] (aCons (eVar 0) (aCons (eC (.str "first")) (aCons (eVar 2) (aNil))))) (eTup (aCons (eC .non) (aCons (e2 dIx (eFld T0 3 (eVar 1)) (e2 dSub (eVar 2) (eFld T0 5 (eVar 1)))) (aNil)))))) (sRet (eVar 2)) (sNil)
noncomputable def F__law_unlike : Fn := callF 3 2 (sSeq (sFor (iR2 (aCons (eFld T0 5 (eVar 1)) (aCons (eMeth M_end (eVar 1) aNil) (aNil)))) (gfName 2) (B__law_unlike_1)) (sRet (eC .non)))
noncomputable def Y__law_spans_1 : EF := eMeth M_end (eVar 6) aNil
noncomputable def I__law_spans_2 : TF := asB (e2 dIsN (eCall F__law_byte [] (aCons (eVar 0) (aCons (eC (.str "first")) (aCons (eVar 5) (aNil))))) (eC .non))
noncomputable def Y__law_spans_3 : EF := eVar 5
noncomputable def B__law_spans_4 : SF := sIf (tAndF (asB (e2 dNeV (eVar 4) (eLst (aNil)))) (asB (e2 dEqV (e2 dIx (e2 dIx (eVar 4) (eNeg (eC (.int 1)))) (eC (.int 1))) (eVar 5)))) (sIxF (eVar 4) (eNeg (eC (.int 1))) (eTup (aCons (e2 dIx (e2 dIx (eVar 4) (eNeg (eC (.int 1)))) (eC (.int 0))) (aCons (e2 dAdd (eVar 5) (eC (.int 1))) (aNil))))) (sDrop (eBm tyL mAppend (eVar 4) (aCons (eTup (aCons (eVar 5) (aCons (e2 dAdd (eVar 5) (eC (.int 1))) (aNil)))) (aNil))))
noncomputable def F__law_spans : Fn := callF 7 1 (sSeq (sSet 1 (eCall F__law_end [] (aCons (eVar 0) (aNil)))) (sSeq (sSet 2 (e2 (mxD PySem.W.maxOf) (eLcK (iCel (eVar 0)) (gfName 6) (tYesF) (Y__law_spans_1) [6]) (eC (.int 0)))) (sSeq (sIf (asB (e2 dNotN (eVar 1) (eC .non))) (sSet 2 (eVar 1)) (sNil)) (sSeq (sSet 3 (eLc (iR1 (aCons (eVar 2) (aNil))) (gfName 5) (I__law_spans_2) (Y__law_spans_3) [5])) (sSeq (sSet 4 (eLstC (aNil))) (sSeq (sFor (iLst (eVar 3)) (gfName 5) (B__law_spans_4)) (sSeq (sIf (asB (e2 dIsN (eVar 1) (eC .non))) (sDrop (eBm tyL mAppend (eVar 4) (aCons (eTup (aCons (eVar 2) (aCons (eC .non) (aNil)))) (aNil)))) (sNil)) (sRet (frz (eVar 4))))))))))
noncomputable def Y__law_one_more_1 : EF := eCall F__law_byte [] (aCons (eVar 0) (aCons (eVar 2) (aCons (eVar 3) (aNil))))
noncomputable def F__law_one_more : Fn := callF 4 3 (sSeq (sIf (asB (eCall F__law_strange [] (aCons (eVar 0) (aCons (eVar 1) (aNil))))) (sSeq (sIf (asB (e2 dEqV (eVar 2) (eC (.str "refuse")))) (sRet (eTup (aCons (eC (.str "unlike")) (aCons (eFld T0 5 (eVar 1)) (aNil))))) (sNil)) (sRet (eTup (aCons (eC (.str "strange")) (aNil))))) (sNil)) (sSeq (sIf (tAndF (asB (e2 dEqV (eVar 2) (eC (.str "refuse")))) (asB (e2 dNotN (eCall F__law_unlike [] (aCons (eVar 0) (aCons (eVar 1) (aNil)))) (eC .non)))) (sRet (eTup (aCons (eC (.str "unlike")) (aCons (eCall F__law_unlike [] (aCons (eVar 0) (aCons (eVar 1) (aNil)))) (aNil))))) (sNil)) (sSeq (sDrop (eBm tyL mAppend (eVar 0) (aCons (eVar 1) (aNil)))) (sSeq (sIf (asB (e2 dEqV (eCall F__law_spans [] (aCons (eVar 0) (aNil))) (eLst (aNil)))) (sRet (eTup (aCons (eC (.str "whole")) (aCons (eLc (iR1 (aCons (eCall F__law_end [] (aCons (eVar 0) (aNil))) (aNil))) (gfName 3) (tYesF) (Y__law_one_more_1) [3]) (aNil))))) (sNil)) (sRet (eTup (aCons (eC (.str "lacking")) (aCons (eCall F__law_spans [] (aCons (eVar 0) (aNil))) (aNil)))))))))
noncomputable def B__law_due_1 : SF := sSeq (sSet 3 (eCall F__law_one_more [] (aCons (eVar 2) (aCons (eVar 4) (aCons (eVar 1) (aNil)))))) (sIf (asB (e2 (dInG false) (e2 dIx (eVar 3) (eC (.int 0))) (eTup (aCons (eC (.str "unlike")) (aCons (eC (.str "whole")) (aNil)))))) (sRet (eVar 3)) (sNil))
noncomputable def F__law_due : Fn := callF 5 2 (sSeq (sSet 2 (eLstC (aNil))) (sSeq (sSet 3 (eC .non)) (sSeq (sFor (iLst (eVar 0)) (gfName 4) (B__law_due_1)) (sRet (eTup (aCons (eC (.str "lacking")) (aCons (eCall F__law_spans [] (aCons (eVar 2) (aNil))) (aNil))))))))
noncomputable def F_Room_let_go : Fn := callF 3 3 (sSeq (sDrop (eBm tyT mPopT (eFld T0 18 (eVar 0)) (aCons (eVar 1) (aCons (eC .non) (aNil))))) (sSeq (sDrop (eBm tyT mPopT (eFld T0 19 (eVar 0)) (aCons (eVar 1) (aCons (eC .non) (aNil))))) (sRet (eTup (aCons (eC (.str "gone")) (aCons (eVar 1) (aCons (eVar 2) (aNil))))))))
noncomputable def M_let_go : MTab := fun | 8 => some (3, F_Room_let_go) | _ => none
noncomputable def I_Room_waits_ended_1 : TF := asB (e2 dLe (e2 dAdd (eVar 3) (eFld T0 13 (eVar 0))) (eFld T0 17 (eVar 0)))
noncomputable def Y_Room_waits_ended_2 : EF := eTup (aCons (eVar 3) (aCons (eVar 2) (aNil)))
noncomputable def Y_Room_waits_ended_3 : EF := eMeth M_let_go (eVar 0) (aCons (eVar 2) (aCons (eC (.str "wait")) (aNil)))
noncomputable def F_Room_waits_ended : Fn := callF 4 1 (sSeq (sSet 1 (eLcT .items (eFld T0 19 (eVar 0)) (gfTup 2 (gfCons (gfName 2) (gfCons (gfName 3) (gfNil)))) (I_Room_waits_ended_1) (Y_Room_waits_ended_2) [2, 3])) (sRet (eLc (iLst (eA bSortT (aCons (eVar 1) (aNil)))) (gfTup 2 (gfCons (gfName 3) (gfCons (gfName 2) (gfNil)))) (tYesF) (Y_Room_waits_ended_3) [3, 2])))
noncomputable def M_waits_ended : MTab := fun | 8 => some (1, F_Room_waits_ended) | _ => none
noncomputable def F_Room_tick : Fn := callF 2 2 (sSeq (sIf (tNotF (asB (eCall F_is_number [] (aCons (eVar 1) (aCons (eFld T0 17 (eVar 0)) (aNil)))))) (sRaise 13) (sNil)) (sSeq (sFldF T0 17 (eVar 0) (eVar 1)) (sRet (eMeth M_waits_ended (eVar 0) aNil))))
noncomputable def F_Heap_would_be_whole : Fn := callF 3 2 (sSeq (sSet 2 (eFld T0 11 (eVar 0))) (sSeq (sIf (tNotF (asB (eFld T0 6 (eVar 1)))) (sSet 2 (eMeth M_end (eVar 1) aNil)) (sNil)) (sRet (eAndF (e2 dNotN (eVar 2) (eC .non)) (e2 dEqV (eCall F_lacking [] (aCons (eMeth M_cover_with (eVar 0) (aCons (eVar 1) (aNil))) (aCons (eVar 2) (aNil)))) (eLst (aNil)))))))
noncomputable def F_Letter_init : Fn := callF 6 6 (sSeq (sIf (tOrF (tNotF (asB (eCall F_is_key [] (aCons (eTup (aCons (eVar 1) (aCons (eVar 2) (aCons (eVar 3) (aNil))))) (aNil))))) (tOrF (tNotF (asB (eCall F_is_body [] (aCons (eVar 4) (aNil))))) (tNotF (asB (eIsi T0 tb0 1 (eVar 5)))))) (sRaise 10) (sNil)) (sDrop (eCall F_Keyed_init [] (aCons (eVar 0) (aCons (eVar 1) (aCons (eVar 2) (aCons (eVar 3) (aCons (eVar 4) (aCons (eVar 5) (aNil))))))))))
noncomputable def Y_size_of_1 : EF := e2 dSub (eVar 2) (eVar 1)
noncomputable def F_size_of : Fn := callF 3 1 (sRet (eA bSum (aCons (eLc (iLst (eVar 0)) (gfTup 2 (gfCons (gfName 1) (gfCons (gfName 2) (gfNil)))) (tYesF) (Y_size_of_1) [1, 2]) (aNil))))
noncomputable def F_Heap_grown_with : Fn := callF 2 2 (sRet (e2 dSub (eCall F_size_of [] (aCons (eMeth M_cover_with (eVar 0) (aCons (eVar 1) (aNil))) (aNil))) (eCall F_size_of [] (aCons (eFld T0 10 (eVar 0)) (aNil)))))
noncomputable def F_Heap_size : Fn := callF 1 1 (sRet (eCall F_size_of [] (aCons (eFld T0 10 (eVar 0)) (aNil))))
noncomputable def M_size : MTab := fun | 7 => some (1, F_Heap_size) | _ => none
noncomputable def Y_Room_bytes_kept_1 : EF := eMeth M_size (eVar 1) aNil
noncomputable def F_Room_bytes_kept : Fn := callF 2 1 (sRet (eA bSum (aCons (eLcT .vals (eFld T0 18 (eVar 0)) (gfName 1) (tYesF) (Y_Room_bytes_kept_1) [1]) (aNil))))
noncomputable def I_Room_first_out_1 : TF := asB (e2 dNeV (eVar 3) (eVar 1))
noncomputable def Y_Room_first_out_2 : EF := eVar 3
noncomputable def Y_Room_first_out_3 : EF := eTup (aCons (e2 dGetF (eFld T0 19 (eVar 0)) (eVar 3)) (aCons (eVar 3) (aNil)))
noncomputable def Y_Room_first_out_4 : EF := eTup (aCons (e2 dSub (eC (.int 0)) (eMeth M_size (e2 dGetF (eFld T0 18 (eVar 0)) (eVar 3)) aNil)) (aCons (eVar 3) (aNil)))
noncomputable def F_Room_first_out : Fn := callF 4 2 (sSeq (sSet 2 (eLcT .keys (eFld T0 18 (eVar 0)) (gfName 3) (I_Room_first_out_1) (Y_Room_first_out_2) [3])) (sSeq (sIf (asB (e2 dEqV (eFld T0 15 (eVar 0)) (eC (.str "oldest")))) (sRet (e2 dIx (eA bMinT (aCons (eLc (iLst (eVar 2)) (gfName 3) (tYesF) (Y_Room_first_out_3) [3]) (aNil))) (eC (.int 1)))) (sNil)) (sRet (e2 dIx (eA bMinT (aCons (eLc (iLst (eVar 2)) (gfName 3) (tYesF) (Y_Room_first_out_4) [3]) (aNil))) (eC (.int 1))))))
noncomputable def M_grown_with : MTab := fun | 7 => some (2, F_Heap_grown_with) | _ => none
noncomputable def M_bytes_kept : MTab := fun | 8 => some (1, F_Room_bytes_kept) | _ => none
noncomputable def M_first_out : MTab := fun | 8 => some (2, F_Room_first_out) | _ => none
noncomputable def W_Room_made_room_1 : TF := asB (e2 dGt (e2 dAdd (eMeth M_bytes_kept (eVar 0) aNil) (eVar 5)) (eFld T0 14 (eVar 0)))
noncomputable def B_Room_made_room_2 : SF := sDrop (eBm tyL mAppend (eVar 4) (aCons (eMeth M_let_go (eVar 0) (aCons (eMeth M_first_out (eVar 0) (aCons (eVar 3) (aNil))) (aCons (eC (.str "room")) (aNil)))) (aNil)))
noncomputable def F_Room_made_room : Fn := callF 6 3 (sSeq (sSet 3 (eMeth M_key (eVar 1) aNil)) (sSeq (sSet 4 (eLstC (aNil))) (sSeq (sSet 5 (eMeth M_grown_with (eVar 2) (aCons (eVar 1) (aNil)))) (sSeq (sIf (tOrF (asB (e2 dGt (e2 dAdd (eMeth M_size (eVar 2) aNil) (eVar 5)) (eFld T0 14 (eVar 0)))) (tAndF (asB (e2 dEqV (eFld T0 15 (eVar 0)) (eC (.str "own")))) (asB (e2 dGt (e2 dAdd (eMeth M_bytes_kept (eVar 0) aNil) (eVar 5)) (eFld T0 14 (eVar 0)))))) (sRet (eLst (aCons (eMeth M_let_go (eVar 0) (aCons (eVar 3) (aCons (eC (.str "room")) (aNil)))) (aNil)))) (sNil)) (sSeq (sWhile (W_Room_made_room_1) (B_Room_made_room_2)) (sSeq (sDrop (eMeth M_take (eVar 2) (aCons (eVar 1) (aNil)))) (sSeq (sIf (asB (e2 (dInD true) (eVar 3) (eFld T0 18 (eVar 0)))) (sSeq (sDPutF (eFld T0 18 (eVar 0)) (eVar 3) (eVar 2)) (sDPutF (eFld T0 19 (eVar 0)) (eVar 3) (eFld T0 17 (eVar 0)))) (sNil)) (sRet (frz (eVar 4))))))))))
noncomputable def M_would_be_whole : MTab := fun | 7 => some (2, F_Heap_would_be_whole) | _ => none
noncomputable def M_made_room : MTab := fun | 8 => some (3, F_Room_made_room) | _ => none
noncomputable def F_Room_looked_at : Fn := callF 4 2 (sSeq (sSet 2 (eMeth M_key (eVar 1) aNil)) (sSeq (sIf (tAndF (asB (e2 dEqV (eFld T0 16 (eVar 0)) (eC (.str "rest")))) (asB (e2 (dInD false) (eVar 2) (eFld T0 20 (eVar 0))))) (sIf (asB (e2 dLt (eFld T0 17 (eVar 0)) (e2 dAdd (e2 dGetF (eFld T0 20 (eVar 0)) (eVar 2)) (eFld T0 13 (eVar 0))))) (sRet (eLst (aCons (eTup (aCons (eC (.str "late")) (aCons (eVar 2) (aNil)))) (aNil)))) (sNil)) (sNil)) (sSeq (sSet 3 (eGet2 (eFld T0 18 (eVar 0)) (eVar 2) (eMake (mkC 7 F_Heap_init) [] (aCons (eFld T0 8 (eVar 0)) (aNil))))) (sSeq (sIf (asB (e2 dNotN (eMeth M_trouble (eVar 3) (aCons (eVar 1) (aNil))) (eC .non))) (sRet (eLst (aCons (eMeth M_let_go (eVar 0) (aCons (eVar 2) (aCons (eC (.str "unlike")) (aNil)))) (aNil)))) (sNil)) (sSeq (sIf (asB (eMeth M_is_strange (eVar 3) (aCons (eVar 1) (aNil)))) (sRet (eLst (aCons (eTup (aCons (eC (.str "strange")) (aCons (eVar 2) (aNil)))) (aNil)))) (sNil)) (sSeq (sIf (asB (eMeth M_would_be_whole (eVar 3) (aCons (eVar 1) (aNil)))) (sSeq (sDrop (eMeth M_take (eVar 3) (aCons (eVar 1) (aNil)))) (sSeq (sDrop (eMeth M_let_go (eVar 0) (aCons (eVar 2) (aCons (eC (.str "whole")) (aNil))))) (sSeq (sDPutF (eFld T0 20 (eVar 0)) (eVar 2) (eFld T0 17 (eVar 0))) (sRet (eLst (aCons (eTup (aCons (eC (.str "whole")) (aCons (eMake (mkF T0 1 F_Letter_init) [.bl false] (aCons (e2 dIx (eVar 2) (eC (.int 0))) (aCons (e2 dIx (eVar 2) (eC (.int 1))) (aCons (e2 dIx (eVar 2) (eC (.int 2))) (aCons (eMeth M_all_bytes (eVar 3) aNil) (aNil)))))) (aNil)))) (aNil))))))) (sNil)) (sRet (eMeth M_made_room (eVar 0) (aCons (eVar 1) (aCons (eVar 3) (aNil)))))))))))
noncomputable def M_tick : MTab := fun | 8 => some (2, F_Room_tick) | _ => none
noncomputable def M_looked_at : MTab := fun | 8 => some (2, F_Room_looked_at) | _ => none
noncomputable def F_Room_come : Fn := callF 3 3 (sSeq (sIf (tNotF (asB (eCall F_is_number [] (aCons (eVar 1) (aCons (eFld T0 17 (eVar 0)) (aNil)))))) (sRaise 13) (sNil)) (sSeq (sIf (tNotF (asB (eIsi T0 tb0 12 (eVar 2)))) (sRaise 11) (sNil)) (sRet (e2 dAdd (eMeth M_tick (eVar 0) (aCons (eVar 1) (aNil))) (eMeth M_looked_at (eVar 0) (aCons (eVar 2) (aNil)))))))
noncomputable def F_Room_check_key : Fn := callF 2 2 (sIf (tOrF (tNotF (asB (eCall F_is_key [] (aCons (eVar 1) (aNil))))) (asB (e2 (dInD true) (eVar 1) (eFld T0 18 (eVar 0))))) (sRaise 14) (sNil))
noncomputable def M_check_key : MTab := fun | 8 => some (2, F_Room_check_key) | _ => none
noncomputable def F_Room_lacks : Fn := callF 2 2 (sSeq (sDrop (eMeth M_check_key (eVar 0) (aCons (eVar 1) (aNil)))) (sRet (eMeth M_lacks_now (e2 dGetF (eFld T0 18 (eVar 0)) (eVar 1)) aNil)))
noncomputable def F_Room_kept : Fn := callF 1 1 (sRet (eA bSortT (aCons (eA bListT (aCons (eFld T0 18 (eVar 0)) (aNil))) (aNil))))
noncomputable def F_Letter_is_like : Fn := callF 2 2 (sRet (e2 dEqV (eTup (aCons (eMeth M_key (eVar 0) aNil) (aCons (eFld T0 3 (eVar 0)) (aCons (eFld T0 4 (eVar 0)) (aNil))))) (eTup (aCons (eMeth M_key (eVar 1) aNil) (aCons (eFld T0 3 (eVar 1)) (aCons (eFld T0 4 (eVar 1)) (aNil)))))))
noncomputable def F_Piece_is_like : Fn := callF 2 2 (sSeq (sIf (asB (e2 dNeV (eTup (aCons (eMeth M_key (eVar 0) aNil) (aCons (eFld T0 3 (eVar 0)) (aCons (eFld T0 4 (eVar 0)) (aNil))))) (eTup (aCons (eMeth M_key (eVar 1) aNil) (aCons (eFld T0 3 (eVar 1)) (aCons (eFld T0 4 (eVar 1)) (aNil))))))) (sRet (eC (.bl false))) (sNil)) (sRet (e2 dEqV (eTup (aCons (eFld T0 5 (eVar 0)) (aCons (eFld T0 6 (eVar 0)) (aNil)))) (eTup (aCons (eFld T0 5 (eVar 1)) (aCons (eFld T0 6 (eVar 1)) (aNil)))))))
noncomputable def M_come : MTab := fun | 8 => some (3, F_Room_come) | _ => none
noncomputable def M_lacks : MTab := fun | 8 => some (2, F_Room_lacks) | _ => none
noncomputable def M_kept : MTab := fun | 8 => some (1, F_Room_kept) | _ => none
noncomputable def M_is_like : MTab := fun | 1 => some (2, F_Letter_is_like) | 2 => some (2, F_Piece_is_like) | _ => none
noncomputable def F__law_event : Fn := callF 7 4 (sSeq (sSet 4 (eTup (aCons (eC (.int 7)) (aCons (eC (.str "ann")) (aCons (eC (.str "bo")) (aNil)))))) (sSeq (sSet 5 (eCall F__law_one_more [] (aCons (eVar 1) (aCons (eVar 2) (aCons (eVar 3) (aNil)))))) (sSeq (sSet 6 (eMeth M_come (eVar 0) (aCons (eC (.int 3)) (aCons (eVar 2) (aNil))))) (sSeq (sIf (asB (e2 dEqV (e2 dIx (eVar 5) (eC (.int 0))) (eC (.str "lacking")))) (sRet (eAndF (e2 dEqV (eVar 6) (eLst (aNil))) (e2 dEqV (eMeth M_lacks (eVar 0) (aCons (eVar 4) (aNil))) (e2 dIx (eVar 5) (eC (.int 1)))))) (sNil)) (sSeq (sIf (asB (e2 dEqV (e2 dIx (eVar 5) (eC (.int 0))) (eC (.str "strange")))) (sRet (e2 dEqV (eVar 6) (eLst (aCons (eTup (aCons (eC (.str "strange")) (aCons (eVar 4) (aNil)))) (aNil))))) (sNil)) (sSeq (sDrop (eBm tyL mClear (eVar 1) aNil)) (sSeq (sIf (tOrF (asB (e2 dNeV (eMeth M_kept (eVar 0) aNil) (eLst (aNil)))) (asB (e2 dNeV (eMeth M_bytes_kept (eVar 0) aNil) (eC (.int 0))))) (sRet (eC (.bl false))) (sNil)) (sSeq (sIf (asB (e2 dEqV (e2 dIx (eVar 5) (eC (.int 0))) (eC (.str "unlike")))) (sRet (e2 dEqV (eVar 6) (eLst (aCons (eTup (aCons (eC (.str "gone")) (aCons (eVar 4) (aCons (eC (.str "unlike")) (aNil))))) (aNil))))) (sNil)) (sSeq (sIf (tOrF (asB (e2 dNeV (eA bLen (aCons (eVar 6) (aNil))) (eC (.int 1)))) (tOrF (asB (e2 dNeV (e2 dIx (e2 dIx (eVar 6) (eC (.int 0))) (eC (.int 0))) (eC (.str "whole")))) (tNotF (asB (eIsi T0 tb0 11 (e2 dIx (e2 dIx (eVar 6) (eC (.int 0))) (eC (.int 1)))))))) (sRet (eC (.bl false))) (sNil)) (sRet (eMeth M_is_like (e2 dIx (e2 dIx (eVar 6) (eC (.int 0))) (eC (.int 1))) (aCons (eMake (mkF T0 1 F_Letter_init) [.bl false] (aCons (eC (.int 7)) (aCons (eC (.str "ann")) (aCons (eC (.str "bo")) (aCons (e2 dIx (eVar 5) (eC (.int 1))) (aNil)))))) (aNil)))))))))))))
noncomputable def Y_law_1 : EF := eCall F__law_piece [] (aCons (eLstC (aCons (eVar 6) (aNil))) (aNil))
noncomputable def B_law_2 : SF := sSeq (sIf (asB (e2 dNeV (eCall F__law_told [] (aCons (eCall F_judged [] (aCons (eSlG dSl (eVar 1) (oNone) (oSome (e2 dAdd (eVar 5) (eC (.int 1))))) (aCons (eVar 2) (aNil)))) (aNil))) (eCall F__law_due [] (aCons (eSlG dSl (eVar 1) (oNone) (oSome (e2 dAdd (eVar 5) (eC (.int 1))))) (aCons (eVar 2) (aNil)))))) (sRet (eC (.bl false))) (sNil)) (sIf (tNotF (asB (eCall F__law_event [] (aCons (eVar 3) (aCons (eVar 4) (aCons (e2 dIx (eVar 1) (eVar 5)) (aCons (eVar 2) (aNil)))))))) (sRet (eC (.bl false))) (sNil))
noncomputable def B_law_3 : SF := sSeq (sSet 3 (eMake (mkC 8 F_Room_init) [] (aCons (eVar 2) (aCons (eC (.int 5)) (aCons (e2 dPow (eC (.int 10)) (eC (.int 6))) (aCons (eC (.str "own")) (aCons (eC (.str "fresh")) (aNil)))))))) (sSeq (sSet 4 (eLstC (aNil))) (sFor (iR1 (aCons (eA bLen (aCons (eVar 1) (aNil))) (aNil))) (gfName 5) (B_law_2)))
noncomputable def F_law : Fn := callF 7 1 (sSeq (sSet 1 (eLc (iLst (eSlG dSl (eVar 0) (oSome (eC (.int 1))) (oSome (eC (.int 11))))) (gfName 6) (tYesF) (Y_law_1) [6])) (sSeq (sFor (iLst (eLst (aCons (eC (.str "first")) (aCons (eC (.str "last")) (aCons (eC (.str "refuse")) (aNil)))))) (gfName 2) (B_law_3)) (sRet (eC (.bl true)))))
structure Txt (K : PySem.W.Frag) (mg : Str → Option Value) (base : Heap) (cls : Nat → Addr) (oq : Nat → List V → Addr → HO) (tb : List (Addr × Str)) : Prop where
  cf : ∀ {w0 : Wd}, CF ⟨K, T0, cls, oq, tb, w0⟩
  kf : ∀ {w0 : Wd}, KitF ⟨K, T0, cls, oq, tb, w0⟩ tb0
  ef : ∀ {w0 : Wd}, ExF ⟨K, T0, cls, oq, tb, w0⟩ exs
  sf : ∀ {w0 : Wd}, SubF ⟨K, T0, cls, oq, tb, w0⟩ sb0
  ra_NoKey : RaF K (cls 14)
  ra_NoLetter : RaF K (cls 10)
  ra_NoPiece : RaF K (cls 11)
  ra_NoRule : RaF K (cls 12)
  ra_NoTime : RaF K (cls 13)
  d__law_digit : ∃ f fd, Fun K "_law_digit" "_law_digit" s__law_digit f fd ∧ mg "_law_digit" = some (.ref f)
  d_is_whole : ∃ f fd, Fun K "is_whole" "is_whole" s_is_whole f fd ∧ mg "is_whole" = some (.ref f)
  d_is_within : ∃ f fd, Fun K "is_within" "is_within" s_is_within f fd ∧ mg "is_within" = some (.ref f)
  d_is_name : ∃ f fd, Fun K "is_name" "is_name" s_is_name f fd ∧ mg "is_name" = some (.ref f)
  d_is_key : ∃ f fd, Fun K "is_key" "is_key" s_is_key f fd ∧ mg "is_key" = some (.ref f)
  d_is_body : ∃ f fd, Fun K "is_body" "is_body" s_is_body f fd ∧ mg "is_body" = some (.ref f)
  d_is_placed : ∃ f fd, Fun K "is_placed" "is_placed" s_is_placed f fd ∧ mg "is_placed" = some (.ref f)
  d__law_piece : ∃ f fd, Fun K "_law_piece" "_law_piece" s__law_piece f fd ∧ mg "_law_piece" = some (.ref f)
  d_check_rule : ∃ f fd, Fun K "check_rule" "check_rule" s_check_rule f fd ∧ mg "check_rule" = some (.ref f)
  d_is_number : ∃ f fd, Fun K "is_number" "is_number" s_is_number f fd ∧ mg "is_number" = some (.ref f)
  d__law_told : ∃ f fd, Fun K "_law_told" "_law_told" s__law_told f fd ∧ mg "_law_told" = some (.ref f)
  d_with_span : ∃ f fd, Fun K "with_span" "with_span" s_with_span f fd ∧ mg "with_span" = some (.ref f)
  d_least_end : ∃ f fd, Fun K "least_end" "least_end" s_least_end f fd ∧ mg "least_end" = some (.ref f)
  d_lacking : ∃ f fd, Fun K "lacking" "lacking" s_lacking f fd ∧ mg "lacking" = some (.ref f)
  d_judged : ∃ f fd, Fun K "judged" "judged" s_judged f fd ∧ mg "judged" = some (.ref f)
  d__law_end : ∃ f fd, Fun K "_law_end" "_law_end" s__law_end f fd ∧ mg "_law_end" = some (.ref f)
  d__law_strange : ∃ f fd, Fun K "_law_strange" "_law_strange" s__law_strange f fd ∧ mg "_law_strange" = some (.ref f)
  d__law_byte : ∃ f fd, Fun K "_law_byte" "_law_byte" s__law_byte f fd ∧ mg "_law_byte" = some (.ref f)
  d__law_unlike : ∃ f fd, Fun K "_law_unlike" "_law_unlike" s__law_unlike f fd ∧ mg "_law_unlike" = some (.ref f)
  d__law_spans : ∃ f fd, Fun K "_law_spans" "_law_spans" s__law_spans f fd ∧ mg "_law_spans" = some (.ref f)
  d__law_one_more : ∃ f fd, Fun K "_law_one_more" "_law_one_more" s__law_one_more f fd ∧ mg "_law_one_more" = some (.ref f)
  d__law_due : ∃ f fd, Fun K "_law_due" "_law_due" s__law_due f fd ∧ mg "_law_due" = some (.ref f)
  d_size_of : ∃ f fd, Fun K "size_of" "size_of" s_size_of f fd ∧ mg "size_of" = some (.ref f)
  d__law_event : ∃ f fd, Fun K "_law_event" "_law_event" s__law_event f fd ∧ mg "_law_event" = some (.ref f)
  d_law : ∃ f fd, Fun K "law" "law" s_law f fd ∧ mg "law" = some (.ref f)
  i_Heap : ∃ f fd, Fun K "__init__" "Heap.__init__" s_Heap_init f fd ∧ mg "Heap" = some (.ref (cls 7)) ∧ Mk K (cls 7) f
  i_Lacking : ∃ f fd, Fun K "__init__" "Lacking.__init__" s_Lacking_init f fd ∧ mg "Lacking" = some (.ref (cls 5)) ∧ Mk K (cls 5) f
  i_Letter : ∃ f fd, FunD K "__init__" "Letter.__init__" (defArgs s_Letter_init) (defBody s_Letter_init) (defScope s_Letter_init) [.bl false] [] f fd ∧ mg "Letter" = some (.ref (cls 1)) ∧ Mk K (cls 1) f
  i_Piece : ∃ f fd, FunD K "__init__" "Piece.__init__" (defArgs s_Piece_init) (defBody s_Piece_init) (defScope s_Piece_init) [.bl false] [] f fd ∧ mg "Piece" = some (.ref (cls 2)) ∧ Mk K (cls 2) f
  i_Room : ∃ f fd, Fun K "__init__" "Room.__init__" s_Room_init f fd ∧ mg "Room" = some (.ref (cls 8)) ∧ Mk K (cls 8) f
  i_Unlike : ∃ f fd, Fun K "__init__" "Unlike.__init__" s_Unlike_init f fd ∧ mg "Unlike" = some (.ref (cls 6)) ∧ Mk K (cls 6) f
  i_Whole : ∃ f fd, Fun K "__init__" "Whole.__init__" s_Whole_init f fd ∧ mg "Whole" = some (.ref (cls 4)) ∧ Mk K (cls 4) f
  x_Keyed_init : ∃ f fd, Fun K "__init__" "Keyed.__init__" s_Keyed_init f fd ∧ mg "Keyed" = some (.ref (cls 0)) ∧ PySem.W.readsIn K (cls 0) (.type "type") = true ∧ PySem.W.findCls K (.ref (cls 0)) (.type "type") "__init__" = some (.val (.ref f)) ∧ PySem.W.keepIn K (.ref f) = true
  m_Heap_all_bytes : ∃ f fd, Fun K "all_bytes" "Heap.all_bytes" s_Heap_all_bytes f fd ∧ Meth K (cls 7) "all_bytes" f
  m_Room_bytes_kept : ∃ f fd, Fun K "bytes_kept" "Room.bytes_kept" s_Room_bytes_kept f fd ∧ Meth K (cls 8) "bytes_kept" f
  m_Room_check_key : ∃ f fd, Fun K "check_key" "Room.check_key" s_Room_check_key f fd ∧ Meth K (cls 8) "check_key" f
  m_Heap_clash : ∃ f fd, Fun K "clash" "Heap.clash" s_Heap_clash f fd ∧ Meth K (cls 7) "clash" f
  m_Room_come : ∃ f fd, Fun K "come" "Room.come" s_Room_come f fd ∧ Meth K (cls 8) "come" f
  m_Heap_cover_with : ∃ f fd, Fun K "cover_with" "Heap.cover_with" s_Heap_cover_with f fd ∧ Meth K (cls 7) "cover_with" f
  m_Piece_end : ∃ f fd, Fun K "end" "Piece.end" s_Piece_end f fd ∧ Meth K (cls 2) "end" f
  m_Room_first_out : ∃ f fd, Fun K "first_out" "Room.first_out" s_Room_first_out f fd ∧ Meth K (cls 8) "first_out" f
  m_Heap_grown_with : ∃ f fd, Fun K "grown_with" "Heap.grown_with" s_Heap_grown_with f fd ∧ Meth K (cls 7) "grown_with" f
  m_Letter_is_like : ∃ f fd, Fun K "is_like" "Letter.is_like" s_Letter_is_like f fd ∧ Meth K (cls 1) "is_like" f
  m_Piece_is_like : ∃ f fd, Fun K "is_like" "Piece.is_like" s_Piece_is_like f fd ∧ Meth K (cls 2) "is_like" f
  m_Heap_is_strange : ∃ f fd, Fun K "is_strange" "Heap.is_strange" s_Heap_is_strange f fd ∧ Meth K (cls 7) "is_strange" f
  m_Room_kept : ∃ f fd, Fun K "kept" "Room.kept" s_Room_kept f fd ∧ Meth K (cls 8) "kept" f
  m_Keyed_key : ∃ f fd, Fun K "key" "Keyed.key" s_Keyed_key f fd ∧ Meth K (cls 0) "key" f
  m_Letter_key : ∃ f fd, Fun K "key" "Keyed.key" s_Keyed_key f fd ∧ Meth K (cls 1) "key" f
  m_Piece_key : ∃ f fd, Fun K "key" "Keyed.key" s_Keyed_key f fd ∧ Meth K (cls 2) "key" f
  m_Room_lacks : ∃ f fd, Fun K "lacks" "Room.lacks" s_Room_lacks f fd ∧ Meth K (cls 8) "lacks" f
  m_Heap_lacks_now : ∃ f fd, Fun K "lacks_now" "Heap.lacks_now" s_Heap_lacks_now f fd ∧ Meth K (cls 7) "lacks_now" f
  m_Room_let_go : ∃ f fd, Fun K "let_go" "Room.let_go" s_Room_let_go f fd ∧ Meth K (cls 8) "let_go" f
  m_Room_looked_at : ∃ f fd, Fun K "looked_at" "Room.looked_at" s_Room_looked_at f fd ∧ Meth K (cls 8) "looked_at" f
  m_Room_made_room : ∃ f fd, Fun K "made_room" "Room.made_room" s_Room_made_room f fd ∧ Meth K (cls 8) "made_room" f
  m_Heap_size : ∃ f fd, Fun K "size" "Heap.size" s_Heap_size f fd ∧ Meth K (cls 7) "size" f
  m_Heap_take : ∃ f fd, Fun K "take" "Heap.take" s_Heap_take f fd ∧ Meth K (cls 7) "take" f
  m_Room_tick : ∃ f fd, Fun K "tick" "Room.tick" s_Room_tick f fd ∧ Meth K (cls 8) "tick" f
  m_Heap_trouble : ∃ f fd, Fun K "trouble" "Heap.trouble" s_Heap_trouble f fd ∧ Meth K (cls 7) "trouble" f
  m_Room_waits_ended : ∃ f fd, Fun K "waits_ended" "Room.waits_ended" s_Room_waits_ended f fd ∧ Meth K (cls 8) "waits_ended" f
  m_Heap_would_be_whole : ∃ f fd, Fun K "would_be_whole" "Heap.would_be_whole" s_Heap_would_be_whole f fd ∧ Meth K (cls 7) "would_be_whole" f
  mc_Lacking : mg "Lacking" = some (.ref (cls 5))
  mc_Letter : mg "Letter" = some (.ref (cls 1))
  mc_NoKey : mg "NoKey" = some (.ref (cls 14))
  mc_NoLetter : mg "NoLetter" = some (.ref (cls 10))
  mc_NoPiece : mg "NoPiece" = some (.ref (cls 11))
  mc_NoRule : mg "NoRule" = some (.ref (cls 12))
  mc_NoTime : mg "NoTime" = some (.ref (cls 13))
  mc_Piece : mg "Piece" = some (.ref (cls 2))
  mc_Unlike : mg "Unlike" = some (.ref (cls 6))
  mc_Whole : mg "Whole" = some (.ref (cls 4))
  k_LETTERS : ∃ u, mg "LETTERS" = some u ∧ RelV (.str "abcdefghijklmnopqrstuvwxyz") u
  k_MOST_BYTES : ∃ u, mg "MOST_BYTES" = some u ∧ RelV (.int 4000) u
  k_RULES : ∃ a, mg "RULES" = some (.ref a) ∧ ∀ H : Hp, SqT K H a [.str "first", .str "last", .str "refuse"]
  b_all : mg "all" = none
  b_bool : mg "bool" = none
  b_int : mg "int" = none
  b_isinstance : mg "isinstance" = none
  b_len : mg "len" = none
  b_list : mg "list" = none
  b_max : mg "max" = none
  b_min : mg "min" = none
  b_range : mg "range" = none
  b_sorted : mg "sorted" = none
  b_str : mg "str" = none
  b_sum : mg "sum" = none
  b_tuple : mg "tuple" = none
section
variable {P : Program} {w : World} {K : PySem.W.Frag} {mg : Str → Option Value} {base : Heap} {cls : Nat → Addr} {oq : Nat → List V → Addr → HO} {tb : List (Addr × Str)} {w0 : Wd}
theorem sc__law_digit : FnScope ["_law_state", "_law_base", "_law_number", "_law_found"] ["_law_state", "_law_base"] (defScope s__law_digit) := ⟨rfl, rfl, rfl, by decide +kernel, rfl, by decide +kernel, by decide +kernel⟩
theorem fn__law_digit (T : Txt K mg base cls oq tb) {f : Addr} {fd : FuncData} (FF : Fun K "_law_digit" "_law_digit" s__law_digit f fd) : FnOk P w K mg base (L2.CX P w) 1 f fd ["_law_state", "_law_base"] (spD ⟨K, T0, cls, oq, tb, w0⟩ 2 F__law_digit) := by
  have sc := sc__law_digit
  refine fun_ok (G := ⟨K, T0, cls, oq, tb, w0⟩) (k := 0) FF sc rfl rfl fun cdv A outer s H E hr => ?_
  have hu : (A.deeper (envOfC "_law_digit" (defScope s__law_digit) s.heap.objs.size f cdv)).units + 64 < cLine := hr.units
  have tk : Takes (cxOf (L2.CX P w) P w K mg base ["_law_state", "_law_base", "_law_number", "_law_found"] "_law_digit" (defScope s__law_digit) f cdv A outer s H E) (fun c d _ H => E c d H) := takes_of rfl rfl rfl rfl
  have hp := passes_of (X := cxOf (L2.CX P w) P w K mg base ["_law_state", "_law_base", "_law_number", "_law_found"] "_law_digit" (defScope s__law_digit) f cdv A outer s H E) rfl
  exact dss_cons (ds_if (dt_cmp (op_eqD hu) o2_eqV (nomark _) (de_callB c_len oa_len rfl T.b_len (by decide +kernel) (da_cons (dv 0) (da_nil))) (de_int))
      (dss_one (ds_expr (de_bm rfl PySem.F.plainAttrs_list PySem.F.slot_list_extend PySem.F.type_list_extend mt_extend om_extend tm_list (dv 0) (da_cons (de_lst (da_cons (de_op op_mod o2_mod (de_ix rfl (dv 0) (de_int)) (de_int)) (da_cons (de_int) (da_nil)))) (da_nil)))))
      (dss_nil))
      (dss_cons (ds_if (dt_cmp op_gt o2_gt (nomark _) (de_ix rfl (dv 0) (de_int)) (de_int))
      (dss_cons (ds_set (i := 3) sc.nd rfl (Or.inl rfl) (de_op op_mod o2_mod (de_ix rfl (dv 0) (de_int)) (dv 1)))
      (dss_cons (ds_setIx (dv 0) (de_int) (de_op op_fdiv o2_div (de_ix rfl (dv 0) (de_int)) (dv 1)))
      (dss_one (ds_ret (dv 3)))))
      (dss_nil))
      (dss_cons (ds_setIx (dv 0) (de_int) (de_op op_add5 o2_add (de_ix rfl (dv 0) (de_int)) (de_int)))
      (dss_cons (ds_set (i := 2) sc.nd rfl (Or.inl rfl) (de_op op_mod o2_mod (de_op op_mul2 o2_mul (de_op op_add5 o2_add (de_op op_add5 o2_add (de_ix rfl (dv 0) (de_int)) (de_op op_mul2 o2_mul (de_int) (de_ix rfl (dv 0) (de_int)))) (de_int)) (de_int)) (de_int)))
      (dss_cons (ds_set (i := 2) sc.nd rfl (Or.inl rfl) (de_op op_mod o2_mod (de_op op_mul2 o2_mul (dv 2) (de_op op_add5 o2_add (de_op op_fdiv o2_div (dv 2) (de_int)) (de_int))) (de_int)))
      (dss_one (ds_ret (de_op op_mod o2_mod (de_op op_mod o2_mod (de_op op_mul2 o2_mul (dv 2) (de_op op_add5 o2_add (de_op op_fdiv o2_div (dv 2) (de_int)) (de_int))) (de_int)) (dv 1))))))))
theorem ok__law_digit (T : Txt K mg base cls oq tb) : Callee P w ⟨K, T0, cls, oq, tb, w0⟩ mg base 1 "_law_digit" 2 [] F__law_digit := by
  obtain ⟨f, fd, FF, m⟩ := T.d__law_digit
  exact ⟨arity_call, f, fd, ["_law_state", "_law_base"], [], [], rfl, fn__law_digit T FF, m, FF.kp, FF.binds fun _ _ _ _ _ _ us hl => match us, hl with | [_, _], _ => rfl, .nil, fun _ => .nil⟩
theorem sc_is_whole : FnScope ["thing"] ["thing"] (defScope s_is_whole) := ⟨rfl, rfl, rfl, by decide +kernel, rfl, by decide +kernel, by decide +kernel⟩
theorem fn_is_whole (T : Txt K mg base cls oq tb) {f : Addr} {fd : FuncData} (FF : Fun K "is_whole" "is_whole" s_is_whole f fd) : FnOk P w K mg base (L2.CX P w) 1 f fd ["thing"] (spD ⟨K, T0, cls, oq, tb, w0⟩ 1 F_is_whole) := by
  have sc := sc_is_whole
  refine fun_ok (G := ⟨K, T0, cls, oq, tb, w0⟩) (k := 0) FF sc rfl rfl fun cdv A outer s H E hr => ?_
  have hu : (A.deeper (envOfC "is_whole" (defScope s_is_whole) s.heap.objs.size f cdv)).units + 64 < cLine := hr.units
  have tk : Takes (cxOf (L2.CX P w) P w K mg base ["thing"] "is_whole" (defScope s_is_whole) f cdv A outer s H E) (fun c d _ H => E c d H) := takes_of rfl rfl rfl rfl
  have hp := passes_of (X := cxOf (L2.CX P w) P w K mg base ["thing"] "is_whole" (defScope s_is_whole) f cdv A outer s H E) rfl
  exact dss_one (ds_ret (de_and (de_isi (t := 2) rfl T.cf T.kf (.ty _) (pe_bltn rfl T.b_int (by decide +kernel) rfl) (dv 0) rfl T.b_isinstance) (de_one (de_not (de_isi (t := 1) rfl T.cf T.kf (.ty _) (pe_bltn rfl T.b_bool (by decide +kernel) rfl) (dv 0) rfl T.b_isinstance)))))
theorem ok_is_whole (T : Txt K mg base cls oq tb) : Callee P w ⟨K, T0, cls, oq, tb, w0⟩ mg base 1 "is_whole" 1 [] F_is_whole := by
  obtain ⟨f, fd, FF, m⟩ := T.d_is_whole
  exact ⟨arity_call, f, fd, ["thing"], [], [], rfl, fn_is_whole T FF, m, FF.kp, FF.binds fun _ _ _ _ _ _ us hl => match us, hl with | [_], _ => rfl, .nil, fun _ => .nil⟩
theorem sc_is_within : FnScope ["thing", "low", "high"] ["thing", "low", "high"] (defScope s_is_within) := ⟨rfl, rfl, rfl, by decide +kernel, rfl, by decide +kernel, by decide +kernel⟩
theorem fn_is_within (T : Txt K mg base cls oq tb) {f : Addr} {fd : FuncData} (FF : Fun K "is_within" "is_within" s_is_within f fd) : FnOk P w K mg base (L2.CX P w) 2 f fd ["thing", "low", "high"] (spD ⟨K, T0, cls, oq, tb, w0⟩ 3 F_is_within) := by
  have sc := sc_is_within
  refine fun_ok (G := ⟨K, T0, cls, oq, tb, w0⟩) (k := 1) FF sc rfl rfl fun cdv A outer s H E hr => ?_
  have hu : (A.deeper (envOfC "is_within" (defScope s_is_within) s.heap.objs.size f cdv)).units + 64 < cLine := hr.units
  have tk : Takes (cxOf (L2.CX P w) P w K mg base ["thing", "low", "high"] "is_within" (defScope s_is_within) f cdv A outer s H E) (fun c d _ H => E c d H) := takes_of rfl rfl rfl rfl
  have hp := passes_of (X := cxOf (L2.CX P w) P w K mg base ["thing", "low", "high"] "is_within" (defScope s_is_within) f cdv A outer s H E) rfl
  exact dss_one (ds_ret (de_and (de_call rfl (ok_is_whole T) (hr.mono (by decide)) rfl tk (da_cons (dv 0) (da_nil))) (de_one (de_chain op_le o2_le op_le o2_le (dv 1) (dv 0) (dv 2)))))
theorem ok_is_within (T : Txt K mg base cls oq tb) : Callee P w ⟨K, T0, cls, oq, tb, w0⟩ mg base 2 "is_within" 3 [] F_is_within := by
  obtain ⟨f, fd, FF, m⟩ := T.d_is_within
  exact ⟨arity_call, f, fd, ["thing", "low", "high"], [], [], rfl, fn_is_within T FF, m, FF.kp, FF.binds fun _ _ _ _ _ _ us hl => match us, hl with | [_, _, _], _ => rfl, .nil, fun _ => .nil⟩
theorem sc_is_name : FnScope ["thing", "sign"] ["thing"] (defScope s_is_name) := ⟨rfl, rfl, rfl, by decide +kernel, rfl, by decide +kernel, by decide +kernel⟩
theorem fn_is_name (T : Txt K mg base cls oq tb) {f : Addr} {fd : FuncData} (FF : Fun K "is_name" "is_name" s_is_name f fd) : FnOk P w K mg base (L2.CX P w) 1 f fd ["thing"] (spD ⟨K, T0, cls, oq, tb, w0⟩ 1 F_is_name) := by
  have sc := sc_is_name
  refine fun_ok (G := ⟨K, T0, cls, oq, tb, w0⟩) (k := 0) FF sc rfl rfl fun cdv A outer s H E hr => ?_
  have hu : (A.deeper (envOfC "is_name" (defScope s_is_name) s.heap.objs.size f cdv)).units + 64 < cLine := hr.units
  have tk : Takes (cxOf (L2.CX P w) P w K mg base ["thing", "sign"] "is_name" (defScope s_is_name) f cdv A outer s H E) (fun c d _ H => E c d H) := takes_of rfl rfl rfl rfl
  have hp := passes_of (X := cxOf (L2.CX P w) P w K mg base ["thing", "sign"] "is_name" (defScope s_is_name) f cdv A outer s H E) rfl
  exact dss_cons (ds_if (dw_pt (dw_or (dt_not (dt_val (de_isi (t := 3) rfl T.cf T.kf (.ty _) (pe_bltn rfl T.b_str (by decide +kernel) rfl) (dv 0) rfl T.b_isinstance))) (dw_or1 (dt_not (dt_chain op_le o2_le op_le o2_le (de_int) (de_callB c_len oa_len rfl T.b_len (by decide +kernel) (da_cons (dv 0) (da_nil))) (de_int))))))
      (dss_one (ds_ret (de_bl)))
      (dss_nil))
      (dss_one (ds_ret (de_callB (cr_all rfl) oa_all rfl T.b_all (by decide +kernel) (da_cons (de_lc (own := [("sign", 1)]) rfl sc.nd (pi_str (DE.pe (dv 0))) (io_str _) (blkOk_by (N := ["thing", "sign"]) (sc := defScope s_is_name) (by decide +kernel)) (g_name) (by decide) (fun _ _ _ _ _ => pg_name (i := 1) sc.nd rfl (Or.inl rfl)) (fun _ _ _ _ _ => dts_nil) (fun _ _ _ _ _ => de_cmp op_in2 o2_in rfl (dv 1) (de_kon rfl T.k_LETTERS (fun _ => .str)))) (da_nil)))))
theorem ok_is_name (T : Txt K mg base cls oq tb) : Callee P w ⟨K, T0, cls, oq, tb, w0⟩ mg base 1 "is_name" 1 [] F_is_name := by
  obtain ⟨f, fd, FF, m⟩ := T.d_is_name
  exact ⟨arity_call, f, fd, ["thing"], [], [], rfl, fn_is_name T FF, m, FF.kp, FF.binds fun _ _ _ _ _ _ us hl => match us, hl with | [_], _ => rfl, .nil, fun _ => .nil⟩
theorem sc_is_key : FnScope ["thing"] ["thing"] (defScope s_is_key) := ⟨rfl, rfl, rfl, by decide +kernel, rfl, by decide +kernel, by decide +kernel⟩
theorem fn_is_key (T : Txt K mg base cls oq tb) {f : Addr} {fd : FuncData} (FF : Fun K "is_key" "is_key" s_is_key f fd) : FnOk P w K mg base (L2.CX P w) 3 f fd ["thing"] (spD ⟨K, T0, cls, oq, tb, w0⟩ 1 F_is_key) := by
  have sc := sc_is_key
  refine fun_ok (G := ⟨K, T0, cls, oq, tb, w0⟩) (k := 2) FF sc rfl rfl fun cdv A outer s H E hr => ?_
  have hu : (A.deeper (envOfC "is_key" (defScope s_is_key) s.heap.objs.size f cdv)).units + 64 < cLine := hr.units
  have tk : Takes (cxOf (L2.CX P w) P w K mg base ["thing"] "is_key" (defScope s_is_key) f cdv A outer s H E) (fun c d _ H => E c d H) := takes_of rfl rfl rfl rfl
  have hp := passes_of (X := cxOf (L2.CX P w) P w K mg base ["thing"] "is_key" (defScope s_is_key) f cdv A outer s H E) rfl
  exact dss_cons (ds_if (dw_pt (dw_or (dt_not (dt_val (de_isi (t := 5) rfl T.cf T.kf (.ty _) (pe_bltn rfl T.b_tuple (by decide +kernel) rfl) (dv 0) rfl T.b_isinstance))) (dw_or1 (dt_cmp (op_neD hu) o2_neV (nomark _) (de_callB c_len oa_len rfl T.b_len (by decide +kernel) (da_cons (dv 0) (da_nil))) (de_int)))))
      (dss_one (ds_ret (de_bl)))
      (dss_nil))
      (dss_one (ds_ret (de_and (de_call rfl (ok_is_within T) (hr.mono (by decide)) rfl tk (da_cons (de_ix rfl (dv 0) (de_int)) (da_cons (de_int) (da_cons (de_int) (da_nil))))) (de_and (de_call rfl (ok_is_name T) (hr.mono (by decide)) rfl tk (da_cons (de_ix rfl (dv 0) (de_int)) (da_nil))) (de_one (de_call rfl (ok_is_name T) (hr.mono (by decide)) rfl tk (da_cons (de_ix rfl (dv 0) (de_int)) (da_nil))))))))
theorem ok_is_key (T : Txt K mg base cls oq tb) : Callee P w ⟨K, T0, cls, oq, tb, w0⟩ mg base 3 "is_key" 1 [] F_is_key := by
  obtain ⟨f, fd, FF, m⟩ := T.d_is_key
  exact ⟨arity_call, f, fd, ["thing"], [], [], rfl, fn_is_key T FF, m, FF.kp, FF.binds fun _ _ _ _ _ _ us hl => match us, hl with | [_], _ => rfl, .nil, fun _ => .nil⟩
theorem sc_is_body : FnScope ["thing", "byte"] ["thing"] (defScope s_is_body) := ⟨rfl, rfl, rfl, by decide +kernel, rfl, by decide +kernel, by decide +kernel⟩
theorem fn_is_body (T : Txt K mg base cls oq tb) {f : Addr} {fd : FuncData} (FF : Fun K "is_body" "is_body" s_is_body f fd) : FnOk P w K mg base (L2.CX P w) 3 f fd ["thing"] (spD ⟨K, T0, cls, oq, tb, w0⟩ 1 F_is_body) := by
  have sc := sc_is_body
  refine fun_ok (G := ⟨K, T0, cls, oq, tb, w0⟩) (k := 2) FF sc rfl rfl fun cdv A outer s H E hr => ?_
  have hu : (A.deeper (envOfC "is_body" (defScope s_is_body) s.heap.objs.size f cdv)).units + 64 < cLine := hr.units
  have tk : Takes (cxOf (L2.CX P w) P w K mg base ["thing", "byte"] "is_body" (defScope s_is_body) f cdv A outer s H E) (fun c d _ H => E c d H) := takes_of rfl rfl rfl rfl
  have hp := passes_of (X := cxOf (L2.CX P w) P w K mg base ["thing", "byte"] "is_body" (defScope s_is_body) f cdv A outer s H E) rfl
  exact dss_cons (ds_if (dw_pt (dw_or (dt_not (dt_val (de_isi (t := 4) rfl T.cf T.kf (.ty _) (pe_bltn rfl T.b_list (by decide +kernel) rfl) (dv 0) rfl T.b_isinstance))) (dw_or1 (dt_not (dt_chain op_le o2_le op_le o2_le (de_int) (de_callB c_len oa_len rfl T.b_len (by decide +kernel) (da_cons (dv 0) (da_nil))) (de_kon rfl T.k_MOST_BYTES (fun _ => .int)))))))
      (dss_one (ds_ret (de_bl)))
      (dss_nil))
      (dss_one (ds_ret (de_callB (cr_all rfl) oa_all rfl T.b_all (by decide +kernel) (da_cons (de_lcK (own := [("byte", 1)]) rfl sc.nd (pi_list (DE.pe (dv 0))) (io_cel _) (blkOk_by (N := ["thing", "byte"]) (sc := defScope s_is_body) (by decide +kernel)) (g_name) (by decide) (fun _ _ _ _ _ => pg_name (i := 1) sc.nd rfl (Or.inl rfl)) (fun _ _ _ _ _ => dts_nil) (fun _ _ _ _ _ => de_call rfl (ok_is_within T) (hr.mono (by decide)) rfl takes0 (da_cons (dv 1) (da_cons (de_int) (da_cons (de_int) (da_nil)))))) (da_nil)))))
theorem ok_is_body (T : Txt K mg base cls oq tb) : Callee P w ⟨K, T0, cls, oq, tb, w0⟩ mg base 3 "is_body" 1 [] F_is_body := by
  obtain ⟨f, fd, FF, m⟩ := T.d_is_body
  exact ⟨arity_call, f, fd, ["thing"], [], [], rfl, fn_is_body T FF, m, FF.kp, FF.binds fun _ _ _ _ _ _ us hl => match us, hl with | [_], _ => rfl, .nil, fun _ => .nil⟩
theorem sc_is_placed : FnScope ["at", "body", "more"] ["at", "body", "more"] (defScope s_is_placed) := ⟨rfl, rfl, rfl, by decide +kernel, rfl, by decide +kernel, by decide +kernel⟩
theorem fn_is_placed (T : Txt K mg base cls oq tb) {f : Addr} {fd : FuncData} (FF : Fun K "is_placed" "is_placed" s_is_placed f fd) : FnOk P w K mg base (L2.CX P w) 3 f fd ["at", "body", "more"] (spD ⟨K, T0, cls, oq, tb, w0⟩ 3 F_is_placed) := by
  have sc := sc_is_placed
  refine fun_ok (G := ⟨K, T0, cls, oq, tb, w0⟩) (k := 2) FF sc rfl rfl fun cdv A outer s H E hr => ?_
  have hu : (A.deeper (envOfC "is_placed" (defScope s_is_placed) s.heap.objs.size f cdv)).units + 64 < cLine := hr.units
  have tk : Takes (cxOf (L2.CX P w) P w K mg base ["at", "body", "more"] "is_placed" (defScope s_is_placed) f cdv A outer s H E) (fun c d _ H => E c d H) := takes_of rfl rfl rfl rfl
  have hp := passes_of (X := cxOf (L2.CX P w) P w K mg base ["at", "body", "more"] "is_placed" (defScope s_is_placed) f cdv A outer s H E) rfl
  exact dss_cons (ds_if (dw_pt (dw_or (dt_not (dt_val (de_call rfl (ok_is_within T) (hr.mono (by decide)) rfl tk (da_cons (dv 0) (da_cons (de_int) (da_cons (de_kon rfl T.k_MOST_BYTES (fun _ => .int)) (da_nil))))))) (dw_or (dt_cmp (op_neD hu) o2_neV (nomark _) (de_op op_mod o2_mod (dv 0) (de_int)) (de_int)) (dw_or1 (dt_not (dt_val (de_isi (t := 1) rfl T.cf T.kf (.ty _) (pe_bltn rfl T.b_bool (by decide +kernel) rfl) (dv 2) rfl T.b_isinstance)))))))
      (dss_one (ds_ret (de_bl)))
      (dss_nil))
      (dss_cons (ds_if (dt_val (dv 2))
      (dss_one (ds_ret (de_and (de_cmp (op_eqD hu) o2_eqV (nomark _) (de_op op_mod o2_mod (de_callB c_len oa_len rfl T.b_len (by decide +kernel) (da_cons (dv 1) (da_nil))) (de_int)) (de_int)) (de_one (de_cmp op_lt o2_lt (nomark _) (de_op op_add5 o2_add (dv 0) (de_callB c_len oa_len rfl T.b_len (by decide +kernel) (da_cons (dv 1) (da_nil)))) (de_kon rfl T.k_MOST_BYTES (fun _ => .int)))))))
      (dss_nil))
      (dss_one (ds_ret (de_cmp op_le o2_le (nomark _) (de_op op_add5 o2_add (dv 0) (de_callB c_len oa_len rfl T.b_len (by decide +kernel) (da_cons (dv 1) (da_nil)))) (de_kon rfl T.k_MOST_BYTES (fun _ => .int))))))
theorem ok_is_placed (T : Txt K mg base cls oq tb) : Callee P w ⟨K, T0, cls, oq, tb, w0⟩ mg base 3 "is_placed" 3 [] F_is_placed := by
  obtain ⟨f, fd, FF, m⟩ := T.d_is_placed
  exact ⟨arity_call, f, fd, ["at", "body", "more"], [], [], rfl, fn_is_placed T FF, m, FF.kp, FF.binds fun _ _ _ _ _ _ us hl => match us, hl with | [_, _, _], _ => rfl, .nil, fun _ => .nil⟩
theorem sc_Keyed_init : FnScope ["self", "number", "sender", "goal", "body", "keep"] ["self", "number", "sender", "goal", "body", "keep"] (defScope s_Keyed_init) := ⟨rfl, rfl, rfl, by decide +kernel, rfl, by decide +kernel, by decide +kernel⟩
theorem fn_Keyed_init (T : Txt K mg base cls oq tb) {f : Addr} {fd : FuncData} (FF : Fun K "__init__" "Keyed.__init__" s_Keyed_init f fd) : FnOk P w K mg base (L2.CX P w) 1 f fd ["self", "number", "sender", "goal", "body", "keep"] (spD ⟨K, T0, cls, oq, tb, w0⟩ 6 F_Keyed_init) := by
  have sc := sc_Keyed_init
  refine fun_ok (G := ⟨K, T0, cls, oq, tb, w0⟩) (k := 0) FF sc rfl rfl fun cdv A outer s H E hr => ?_
  have hu : (A.deeper (envOfC "Keyed.__init__" (defScope s_Keyed_init) s.heap.objs.size f cdv)).units + 64 < cLine := hr.units
  have tk : Takes (cxOf (L2.CX P w) P w K mg base ["self", "number", "sender", "goal", "body", "keep"] "Keyed.__init__" (defScope s_Keyed_init) f cdv A outer s H E) (fun c d _ H => E c d H) := takes_of rfl rfl rfl rfl
  have hp := passes_of (X := cxOf (L2.CX P w) P w K mg base ["self", "number", "sender", "goal", "body", "keep"] "Keyed.__init__" (defScope s_Keyed_init) f cdv A outer s H E) rfl
  exact dss_cons (ds_fld (k := 0) rfl T.cf rfl (dv 0) (dv 1))
      (dss_cons (ds_fld (k := 1) rfl T.cf rfl (dv 0) (dv 2))
      (dss_cons (ds_fld (k := 2) rfl T.cf rfl (dv 0) (dv 3))
      (dss_cons (ds_fld (k := 3) rfl T.cf rfl (dv 0) (de_callT call_list_of oa_list rfl T.b_list (by decide +kernel) (da_cons (dv 4) (da_nil))))
      (dss_one (ds_fld (k := 4) rfl T.cf rfl (dv 0) (dv 5))))))
theorem cm_Keyed_init (T : Txt K mg base cls oq tb) : ClsOk P w ⟨K, T0, cls, oq, tb, w0⟩ mg base 1 "Keyed" "__init__" 6 F_Keyed_init := by
  obtain ⟨f, fd, FF, h1, h2, h3, h4⟩ := T.x_Keyed_init
  exact ⟨arity_call, _, f, fd, ["self", "number", "sender", "goal", "body", "keep"], rfl, fn_Keyed_init T FF, h1, h2, h3, h4, FF.binds fun _ _ _ _ _ _ us hl => match us, hl with | [_, _, _, _, _, _], _ => rfl⟩
theorem sc_Piece_init : FnScope ["self", "number", "sender", "goal", "at", "body", "more", "keep"] ["self", "number", "sender", "goal", "at", "body", "more", "keep"] (defScope s_Piece_init) := ⟨rfl, rfl, rfl, by decide +kernel, rfl, by decide +kernel, by decide +kernel⟩
theorem fn_Piece_init (T : Txt K mg base cls oq tb) {f : Addr} {fd : FuncData} (FF : FunD K "__init__" "Piece.__init__" (defArgs s_Piece_init) (defBody s_Piece_init) (defScope s_Piece_init) [.bl false] [] f fd) : FnOk P w K mg base (L2.CX P w) 4 f fd ["self", "number", "sender", "goal", "at", "body", "more", "keep"] (spD ⟨K, T0, cls, oq, tb, w0⟩ 8 F_Piece_init) := by
  have sc := sc_Piece_init
  refine fun_okD (G := ⟨K, T0, cls, oq, tb, w0⟩) (k := 3) FF sc rfl rfl fun cdv A outer s H E hr => ?_
  have hu : (A.deeper (envOfC "Piece.__init__" (defScope s_Piece_init) s.heap.objs.size f cdv)).units + 64 < cLine := hr.units
  have tk : Takes (cxOf (L2.CX P w) P w K mg base ["self", "number", "sender", "goal", "at", "body", "more", "keep"] "Piece.__init__" (defScope s_Piece_init) f cdv A outer s H E) (fun c d _ H => E c d H) := takes_of rfl rfl rfl rfl
  have hp := passes_of (X := cxOf (L2.CX P w) P w K mg base ["self", "number", "sender", "goal", "at", "body", "more", "keep"] "Piece.__init__" (defScope s_Piece_init) f cdv A outer s H E) rfl
  exact dss_cons (ds_if (dw_pt (dw_or (dt_not (dt_val (de_call rfl (ok_is_key T) (hr.mono (by decide)) rfl tk (da_cons (de_tup (da_cons (dv 1) (da_cons (dv 2) (da_cons (dv 3) (da_nil))))) (da_nil))))) (dw_or (dt_not (dt_val (de_call rfl (ok_is_body T) (hr.mono (by decide)) rfl tk (da_cons (dv 5) (da_nil))))) (dw_or1 (dt_not (dt_val (de_isi (t := 1) rfl T.cf T.kf (.ty _) (pe_bltn rfl T.b_bool (by decide +kernel) rfl) (dv 7) rfl T.b_isinstance)))))))
      (dss_one (ds_raise rfl rfl tk T.ra_NoPiece T.mc_NoPiece rfl))
      (dss_nil))
      (dss_cons (ds_if (dt_not (dt_val (de_call rfl (ok_is_placed T) (hr.mono (by decide)) rfl tk (da_cons (dv 4) (da_cons (dv 5) (da_cons (dv 6) (da_nil)))))))
      (dss_one (ds_raise rfl rfl tk T.ra_NoPiece T.mc_NoPiece rfl))
      (dss_nil))
      (dss_cons (ds_expr (de_clsm rfl (cm_Keyed_init T) (hr.mono (by decide)) rfl tk (da_cons (dv 0) (da_cons (dv 1) (da_cons (dv 2) (da_cons (dv 3) (da_cons (dv 5) (da_cons (dv 7) (da_nil)))))))))
      (dss_cons (ds_fld (k := 5) rfl T.cf rfl (dv 0) (dv 4))
      (dss_one (ds_fld (k := 6) rfl T.cf rfl (dv 0) (dv 6))))))
theorem mk_Piece_1 (T : Txt K mg base cls oq tb) : MakeOk P w ⟨K, T0, cls, oq, tb, w0⟩ mg base 4 "Piece" 2 8 [.bl false] F_Piece_init := by
  obtain ⟨f, fd, FF, m, M⟩ := T.i_Piece
  obtain ⟨ds, hv, hb⟩ := FunD.binds1 FF (ps := ["self", "number", "sender", "goal", "at", "body", "more", "keep"]) 7 0 (by simp) (by simp) fun _ _ _ _ _ _ _ us its h1 h2 => match us, its, h1, h2 with | [_, _, _, _, _, _, _], [_], _, _ => ⟨_, rfl, rfl⟩
  exact ⟨arity_call, f, fd, ["self", "number", "sender", "goal", "at", "body", "more", "keep"], ds, _, rfl, fn_Piece_init T FF, m, M, hb, hv, fun _ => .cons .bl (.nil)⟩
theorem sc__law_piece : FnScope ["_law_state", "_law_more", "_law_size", "_law_at", "_law_few", "_law_body", "_law_k"] ["_law_state"] (defScope s__law_piece) := ⟨rfl, rfl, rfl, by decide +kernel, rfl, by decide +kernel, by decide +kernel⟩
theorem fn__law_piece (T : Txt K mg base cls oq tb) {f : Addr} {fd : FuncData} (FF : Fun K "_law_piece" "_law_piece" s__law_piece f fd) : FnOk P w K mg base (L2.CX P w) 6 f fd ["_law_state"] (spD ⟨K, T0, cls, oq, tb, w0⟩ 1 F__law_piece) := by
  have sc := sc__law_piece
  refine fun_ok (G := ⟨K, T0, cls, oq, tb, w0⟩) (k := 5) FF sc rfl rfl fun cdv A outer s H E hr => ?_
  have hu : (A.deeper (envOfC "_law_piece" (defScope s__law_piece) s.heap.objs.size f cdv)).units + 64 < cLine := hr.units
  have tk : Takes (cxOf (L2.CX P w) P w K mg base ["_law_state", "_law_more", "_law_size", "_law_at", "_law_few", "_law_body", "_law_k"] "_law_piece" (defScope s__law_piece) f cdv A outer s H E) (fun c d _ H => E c d H) := takes_of rfl rfl rfl rfl
  have hp := passes_of (X := cxOf (L2.CX P w) P w K mg base ["_law_state", "_law_more", "_law_size", "_law_at", "_law_few", "_law_body", "_law_k"] "_law_piece" (defScope s__law_piece) f cdv A outer s H E) rfl
  exact dss_cons (ds_set (i := 1) sc.nd rfl (Or.inl rfl) (de_cmp op_gt o2_gt (nomark _) (de_call rfl (ok__law_digit T) (hr.mono (by decide)) rfl tk (da_cons (dv 0) (da_cons (de_int) (da_nil)))) (de_int)))
      (dss_cons (ds_set (i := 2) sc.nd rfl (Or.inl rfl) (de_op op_mul2 o2_mul (de_int) (de_op op_add5 o2_add (de_int) (de_call rfl (ok__law_digit T) (hr.mono (by decide)) rfl tk (da_cons (dv 0) (da_cons (de_int) (da_nil)))))))
      (dss_cons (ds_if (dt_not (dt_val (dv 1)))
      (dss_one (ds_set (i := 2) sc.nd rfl (Or.inl rfl) (de_op op_sub o2_sub (dv 2) (de_call rfl (ok__law_digit T) (hr.mono (by decide)) rfl tk (da_cons (dv 0) (da_cons (de_int) (da_nil)))))))
      (dss_nil))
      (dss_cons (ds_set (i := 3) sc.nd rfl (Or.inl rfl) (de_op op_mul2 o2_mul (de_int) (de_call rfl (ok__law_digit T) (hr.mono (by decide)) rfl tk (da_cons (dv 0) (da_cons (de_int) (da_nil))))))
      (dss_cons (ds_set (i := 4) sc.nd rfl (Or.inr rfl) (de_ix rfl (de_lst (da_cons (de_int) (da_cons (de_int) (da_cons (de_int) (da_cons (de_int) (da_nil)))))) (de_call rfl (ok__law_digit T) (hr.mono (by decide)) rfl tk (da_cons (dv 0) (da_cons (de_int) (da_nil))))))
      (dss_cons (ds_setLcG (own := [("_law_k", 6)]) fin_lst (i := 5) rfl sc.nd rfl rfl (sw_true rfl rfl rfl (by decide +kernel)) (pi_range1 rfl T.b_range (DA.pa (da_cons (dv 2) (da_nil)))) (io_rng1 _) (blkOk_by (N := ["_law_state", "_law_more", "_law_size", "_law_at", "_law_few", "_law_body", "_law_k"]) (sc := defScope s__law_piece) (by decide +kernel)) (g_name) (by decide) (fun _ _ _ _ _ => pg_name (i := 6) sc.nd rfl (Or.inl rfl)) (fun _ _ _ _ _ => dts_nil) (fun _ _ _ _ _ => de_op op_mul2 o2_mul (de_call rfl (ok__law_digit T) (hr.mono (by decide)) rfl takes0 (da_cons (dv 0) (da_cons (dv 4) (da_nil)))) (de_int)))
      (dss_one (ds_ret (de_make (c := 2) rfl (mk_Piece_1 T) (Or.inr rfl) (hr.mono (by decide)) rfl tk (da_cons (de_int) (da_cons (de_str) (da_cons (de_str) (da_cons (dv 3) (da_cons (dv 5) (da_cons (dv 1) (da_nil)))))))))))))))
theorem ok__law_piece (T : Txt K mg base cls oq tb) : Callee P w ⟨K, T0, cls, oq, tb, w0⟩ mg base 6 "_law_piece" 1 [] F__law_piece := by
  obtain ⟨f, fd, FF, m⟩ := T.d__law_piece
  exact ⟨arity_call, f, fd, ["_law_state"], [], [], rfl, fn__law_piece T FF, m, FF.kp, FF.binds fun _ _ _ _ _ _ us hl => match us, hl with | [_], _ => rfl, .nil, fun _ => .nil⟩
theorem sc_check_rule : FnScope ["rule"] ["rule"] (defScope s_check_rule) := ⟨rfl, rfl, rfl, by decide +kernel, rfl, by decide +kernel, by decide +kernel⟩
theorem fn_check_rule (T : Txt K mg base cls oq tb) {f : Addr} {fd : FuncData} (FF : Fun K "check_rule" "check_rule" s_check_rule f fd) : FnOk P w K mg base (L2.CX P w) 1 f fd ["rule"] (spD ⟨K, T0, cls, oq, tb, w0⟩ 1 F_check_rule) := by
  have sc := sc_check_rule
  refine fun_ok (G := ⟨K, T0, cls, oq, tb, w0⟩) (k := 0) FF sc rfl rfl fun cdv A outer s H E hr => ?_
  have hu : (A.deeper (envOfC "check_rule" (defScope s_check_rule) s.heap.objs.size f cdv)).units + 64 < cLine := hr.units
  have tk : Takes (cxOf (L2.CX P w) P w K mg base ["rule"] "check_rule" (defScope s_check_rule) f cdv A outer s H E) (fun c d _ H => E c d H) := takes_of rfl rfl rfl rfl
  have hp := passes_of (X := cxOf (L2.CX P w) P w K mg base ["rule"] "check_rule" (defScope s_check_rule) f cdv A outer s H E) rfl
  exact dss_one (ds_if (dw_pt (dw_or (dt_not (dt_val (de_isi (t := 3) rfl T.cf T.kf (.ty _) (pe_bltn rfl T.b_str (by decide +kernel) rfl) (dv 0) rfl T.b_isinstance))) (dw_or1 (dt_cmp op_nin2 o2_in rfl (dv 0) (de_konT2 rfl rfl T.k_RULES (fun _ => .cons .str (.cons .str (.cons .str (.nil)))))))))
      (dss_one (ds_raise rfl rfl tk T.ra_NoRule T.mc_NoRule rfl))
      (dss_nil))
theorem ok_check_rule (T : Txt K mg base cls oq tb) : Callee P w ⟨K, T0, cls, oq, tb, w0⟩ mg base 1 "check_rule" 1 [] F_check_rule := by
  obtain ⟨f, fd, FF, m⟩ := T.d_check_rule
  exact ⟨arity_call, f, fd, ["rule"], [], [], rfl, fn_check_rule T FF, m, FF.kp, FF.binds fun _ _ _ _ _ _ us hl => match us, hl with | [_], _ => rfl, .nil, fun _ => .nil⟩
theorem sc_is_number : FnScope ["thing", "least"] ["thing", "least"] (defScope s_is_number) := ⟨rfl, rfl, rfl, by decide +kernel, rfl, by decide +kernel, by decide +kernel⟩
theorem fn_is_number (T : Txt K mg base cls oq tb) {f : Addr} {fd : FuncData} (FF : Fun K "is_number" "is_number" s_is_number f fd) : FnOk P w K mg base (L2.CX P w) 1 f fd ["thing", "least"] (spD ⟨K, T0, cls, oq, tb, w0⟩ 2 F_is_number) := by
  have sc := sc_is_number
  refine fun_ok (G := ⟨K, T0, cls, oq, tb, w0⟩) (k := 0) FF sc rfl rfl fun cdv A outer s H E hr => ?_
  have hu : (A.deeper (envOfC "is_number" (defScope s_is_number) s.heap.objs.size f cdv)).units + 64 < cLine := hr.units
  have tk : Takes (cxOf (L2.CX P w) P w K mg base ["thing", "least"] "is_number" (defScope s_is_number) f cdv A outer s H E) (fun c d _ H => E c d H) := takes_of rfl rfl rfl rfl
  have hp := passes_of (X := cxOf (L2.CX P w) P w K mg base ["thing", "least"] "is_number" (defScope s_is_number) f cdv A outer s H E) rfl
  exact dss_one (ds_ret (de_and (de_isi (t := 2) rfl T.cf T.kf (.ty _) (pe_bltn rfl T.b_int (by decide +kernel) rfl) (dv 0) rfl T.b_isinstance) (de_and (de_not (de_isi (t := 1) rfl T.cf T.kf (.ty _) (pe_bltn rfl T.b_bool (by decide +kernel) rfl) (dv 0) rfl T.b_isinstance)) (de_one (de_cmp op_ge o2_ge (nomark _) (dv 0) (dv 1))))))
theorem ok_is_number (T : Txt K mg base cls oq tb) : Callee P w ⟨K, T0, cls, oq, tb, w0⟩ mg base 1 "is_number" 2 [] F_is_number := by
  obtain ⟨f, fd, FF, m⟩ := T.d_is_number
  exact ⟨arity_call, f, fd, ["thing", "least"], [], [], rfl, fn_is_number T FF, m, FF.kp, FF.binds fun _ _ _ _ _ _ us hl => match us, hl with | [_, _], _ => rfl, .nil, fun _ => .nil⟩
theorem sc_Room_init : FnScope ["self", "rule", "wait", "space", "out", "again"] ["self", "rule", "wait", "space", "out", "again"] (defScope s_Room_init) := ⟨rfl, rfl, rfl, by decide +kernel, rfl, by decide +kernel, by decide +kernel⟩
theorem fn_Room_init (T : Txt K mg base cls oq tb) {f : Addr} {fd : FuncData} (FF : Fun K "__init__" "Room.__init__" s_Room_init f fd) : FnOk P w K mg base (L2.CX P w) 2 f fd ["self", "rule", "wait", "space", "out", "again"] (spD ⟨K, T0, cls, oq, tb, w0⟩ 6 F_Room_init) := by
  have sc := sc_Room_init
  refine fun_ok (G := ⟨K, T0, cls, oq, tb, w0⟩) (k := 1) FF sc rfl rfl fun cdv A outer s H E hr => ?_
  have hu : (A.deeper (envOfC "Room.__init__" (defScope s_Room_init) s.heap.objs.size f cdv)).units + 64 < cLine := hr.units
  have tk : Takes (cxOf (L2.CX P w) P w K mg base ["self", "rule", "wait", "space", "out", "again"] "Room.__init__" (defScope s_Room_init) f cdv A outer s H E) (fun c d _ H => E c d H) := takes_of rfl rfl rfl rfl
  have hp := passes_of (X := cxOf (L2.CX P w) P w K mg base ["self", "rule", "wait", "space", "out", "again"] "Room.__init__" (defScope s_Room_init) f cdv A outer s H E) rfl
  exact dss_cons (ds_expr (de_call rfl (ok_check_rule T) (hr.mono (by decide)) rfl tk (da_cons (dv 1) (da_nil))))
      (dss_cons (ds_if (dw_pt (dw_or (dt_not (dt_val (de_call rfl (ok_is_number T) (hr.mono (by decide)) rfl tk (da_cons (dv 2) (da_cons (de_int) (da_nil)))))) (dw_or1 (dt_not (dt_val (de_call rfl (ok_is_number T) (hr.mono (by decide)) rfl tk (da_cons (dv 3) (da_cons (de_int) (da_nil)))))))))
      (dss_one (ds_raise rfl rfl tk T.ra_NoRule T.mc_NoRule rfl))
      (dss_nil))
      (dss_cons (ds_if (dw_pt (dw_or (dt_not (dt_val (de_isi (t := 3) rfl T.cf T.kf (.ty _) (pe_bltn rfl T.b_str (by decide +kernel) rfl) (dv 4) rfl T.b_isinstance))) (dw_or1 (dt_cmp op_nin2 o2_in rfl (dv 4) (de_tup (da_cons (de_str) (da_cons (de_str) (da_cons (de_str) (da_nil)))))))))
      (dss_one (ds_raise rfl rfl tk T.ra_NoRule T.mc_NoRule rfl))
      (dss_nil))
      (dss_cons (ds_if (dw_pt (dw_or (dt_not (dt_val (de_isi (t := 3) rfl T.cf T.kf (.ty _) (pe_bltn rfl T.b_str (by decide +kernel) rfl) (dv 5) rfl T.b_isinstance))) (dw_or1 (dt_cmp op_nin2 o2_in rfl (dv 5) (de_tup (da_cons (de_str) (da_cons (de_str) (da_nil))))))))
      (dss_one (ds_raise rfl rfl tk T.ra_NoRule T.mc_NoRule rfl))
      (dss_nil))
      (dss_cons (ds_fld (k := 8) rfl T.cf rfl (dv 0) (dv 1))
      (dss_cons (ds_fld (k := 13) rfl T.cf rfl (dv 0) (dv 2))
      (dss_cons (ds_fld (k := 14) rfl T.cf rfl (dv 0) (dv 3))
      (dss_cons (ds_fld (k := 15) rfl T.cf rfl (dv 0) (dv 4))
      (dss_cons (ds_fld (k := 16) rfl T.cf rfl (dv 0) (dv 5))
      (dss_cons (ds_fld (k := 17) rfl T.cf rfl (dv 0) (de_int))
      (dss_cons (ds_fld (k := 18) rfl T.cf rfl (dv 0) (de_newT))
      (dss_cons (ds_fld (k := 19) rfl T.cf rfl (dv 0) (de_newT))
      (dss_one (ds_fld (k := 20) rfl T.cf rfl (dv 0) (de_newT))))))))))))))
theorem mk_Room (T : Txt K mg base cls oq tb) : MakeOk P w ⟨K, T0, cls, oq, tb, w0⟩ mg base 2 "Room" 8 6 [] F_Room_init := by
  obtain ⟨f, fd, FF, m, M⟩ := T.i_Room
  exact ⟨arity_call, f, fd, ["self", "rule", "wait", "space", "out", "again"], [], [], rfl, fn_Room_init T FF, m, M, FF.binds fun _ _ _ _ _ _ us hl => match us, hl with | [_, _, _, _, _, _], _ => rfl, .nil, fun _ => .nil⟩
theorem sc__law_told : FnScope ["_law_answer", "_law_kinds"] ["_law_answer"] (defScope s__law_told) := ⟨rfl, rfl, rfl, by decide +kernel, rfl, by decide +kernel, by decide +kernel⟩
theorem fn__law_told (T : Txt K mg base cls oq tb) {f : Addr} {fd : FuncData} (FF : Fun K "_law_told" "_law_told" s__law_told f fd) : FnOk P w K mg base (L2.CX P w) 1 f fd ["_law_answer"] (spD ⟨K, T0, cls, oq, tb, w0⟩ 1 F__law_told) := by
  have sc := sc__law_told
  refine fun_ok (G := ⟨K, T0, cls, oq, tb, w0⟩) (k := 0) FF sc rfl rfl fun cdv A outer s H E hr => ?_
  have hu : (A.deeper (envOfC "_law_told" (defScope s__law_told) s.heap.objs.size f cdv)).units + 64 < cLine := hr.units
  have tk : Takes (cxOf (L2.CX P w) P w K mg base ["_law_answer", "_law_kinds"] "_law_told" (defScope s__law_told) f cdv A outer s H E) (fun c d _ H => E c d H) := takes_of rfl rfl rfl rfl
  have hp := passes_of (X := cxOf (L2.CX P w) P w K mg base ["_law_answer", "_law_kinds"] "_law_told" (defScope s__law_told) f cdv A outer s H E) rfl
  exact dss_cons (ds_set (i := 1) sc.nd rfl (Or.inl rfl) (de_lst (da_cons (de_isi (t := 14) rfl T.cf T.kf (.own _) (pe_glob rfl T.mc_Whole rfl) (dv 0) rfl T.b_isinstance) (da_cons (de_isi (t := 15) rfl T.cf T.kf (.own _) (pe_glob rfl T.mc_Lacking rfl) (dv 0) rfl T.b_isinstance) (da_cons (de_isi (t := 16) rfl T.cf T.kf (.own _) (pe_glob rfl T.mc_Unlike rfl) (dv 0) rfl T.b_isinstance) (da_nil))))))
      (dss_cons (ds_if (dt_cmp (op_eqD hu) o2_eqV (nomark _) (dv 1) (de_lst (da_cons (de_bl) (da_cons (de_bl) (da_cons (de_bl) (da_nil))))))
      (dss_one (ds_ret (de_tup (da_cons (de_str) (da_cons (de_fld (k := 3) rfl T.cf rfl (dv 0)) (da_nil))))))
      (dss_nil))
      (dss_cons (ds_if (dt_cmp (op_eqD hu) o2_eqV (nomark _) (dv 1) (de_lst (da_cons (de_bl) (da_cons (de_bl) (da_cons (de_bl) (da_nil))))))
      (dss_one (ds_ret (de_tup (da_cons (de_str) (da_cons (de_fld (k := 7) rfl T.cf rfl (dv 0)) (da_nil))))))
      (dss_nil))
      (dss_cons (ds_if (dt_cmp (op_eqD hu) o2_eqV (nomark _) (dv 1) (de_lst (da_cons (de_bl) (da_cons (de_bl) (da_cons (de_bl) (da_nil))))))
      (dss_one (ds_ret (de_tup (da_cons (de_str) (da_cons (de_fld (k := 5) rfl T.cf rfl (dv 0)) (da_nil))))))
      (dss_nil))
      (dss_one (ds_ret (de_non))))))
theorem ok__law_told (T : Txt K mg base cls oq tb) : Callee P w ⟨K, T0, cls, oq, tb, w0⟩ mg base 1 "_law_told" 1 [] F__law_told := by
  obtain ⟨f, fd, FF, m⟩ := T.d__law_told
  exact ⟨arity_call, f, fd, ["_law_answer"], [], [], rfl, fn__law_told T FF, m, FF.kp, FF.binds fun _ _ _ _ _ _ us hl => match us, hl with | [_], _ => rfl, .nil, fun _ => .nil⟩
theorem sc_Keyed_key : FnScope ["self"] ["self"] (defScope s_Keyed_key) := ⟨rfl, rfl, rfl, by decide +kernel, rfl, by decide +kernel, by decide +kernel⟩
theorem fn_Keyed_key (T : Txt K mg base cls oq tb) {f : Addr} {fd : FuncData} (FF : Fun K "key" "Keyed.key" s_Keyed_key f fd) : FnOk P w K mg base (L2.CX P w) 1 f fd ["self"] (spD ⟨K, T0, cls, oq, tb, w0⟩ 1 F_Keyed_key) := by
  have sc := sc_Keyed_key
  refine fun_ok (G := ⟨K, T0, cls, oq, tb, w0⟩) (k := 0) FF sc rfl rfl fun cdv A outer s H E hr => ?_
  have hu : (A.deeper (envOfC "Keyed.key" (defScope s_Keyed_key) s.heap.objs.size f cdv)).units + 64 < cLine := hr.units
  have tk : Takes (cxOf (L2.CX P w) P w K mg base ["self"] "Keyed.key" (defScope s_Keyed_key) f cdv A outer s H E) (fun c d _ H => E c d H) := takes_of rfl rfl rfl rfl
  have hp := passes_of (X := cxOf (L2.CX P w) P w K mg base ["self"] "Keyed.key" (defScope s_Keyed_key) f cdv A outer s H E) rfl
  exact dss_one (ds_ret (de_tup (da_cons (de_fld (k := 0) rfl T.cf rfl (dv 0)) (da_cons (de_fld (k := 1) rfl T.cf rfl (dv 0)) (da_cons (de_fld (k := 2) rfl T.cf rfl (dv 0)) (da_nil))))))
theorem sc_Heap_init : FnScope ["self", "rule"] ["self", "rule"] (defScope s_Heap_init) := ⟨rfl, rfl, rfl, by decide +kernel, rfl, by decide +kernel, by decide +kernel⟩
theorem fn_Heap_init (T : Txt K mg base cls oq tb) {f : Addr} {fd : FuncData} (FF : Fun K "__init__" "Heap.__init__" s_Heap_init f fd) : FnOk P w K mg base (L2.CX P w) 1 f fd ["self", "rule"] (spD ⟨K, T0, cls, oq, tb, w0⟩ 2 F_Heap_init) := by
  have sc := sc_Heap_init
  refine fun_ok (G := ⟨K, T0, cls, oq, tb, w0⟩) (k := 0) FF sc rfl rfl fun cdv A outer s H E hr => ?_
  have hu : (A.deeper (envOfC "Heap.__init__" (defScope s_Heap_init) s.heap.objs.size f cdv)).units + 64 < cLine := hr.units
  have tk : Takes (cxOf (L2.CX P w) P w K mg base ["self", "rule"] "Heap.__init__" (defScope s_Heap_init) f cdv A outer s H E) (fun c d _ H => E c d H) := takes_of rfl rfl rfl rfl
  have hp := passes_of (X := cxOf (L2.CX P w) P w K mg base ["self", "rule"] "Heap.__init__" (defScope s_Heap_init) f cdv A outer s H E) rfl
  exact dss_cons (ds_fld (k := 8) rfl T.cf rfl (dv 0) (dv 1))
      (dss_cons (ds_fld (k := 9) rfl T.cf rfl (dv 0) (de_newK))
      (dss_cons (ds_fld (k := 10) rfl T.cf rfl (dv 0) (de_lst (da_nil)))
      (dss_cons (ds_fld (k := 11) rfl T.cf rfl (dv 0) (de_non))
      (dss_one (ds_fld (k := 12) rfl T.cf rfl (dv 0) (de_int))))))
theorem mk_Heap (T : Txt K mg base cls oq tb) : MakeOk P w ⟨K, T0, cls, oq, tb, w0⟩ mg base 1 "Heap" 7 2 [] F_Heap_init := by
  obtain ⟨f, fd, FF, m, M⟩ := T.i_Heap
  exact ⟨arity_call, f, fd, ["self", "rule"], [], [], rfl, fn_Heap_init T FF, m, M, FF.binds fun _ _ _ _ _ _ us hl => match us, hl with | [_, _], _ => rfl, .nil, fun _ => .nil⟩
theorem sc_Piece_end : FnScope ["self"] ["self"] (defScope s_Piece_end) := ⟨rfl, rfl, rfl, by decide +kernel, rfl, by decide +kernel, by decide +kernel⟩
theorem fn_Piece_end (T : Txt K mg base cls oq tb) {f : Addr} {fd : FuncData} (FF : Fun K "end" "Piece.end" s_Piece_end f fd) : FnOk P w K mg base (L2.CX P w) 1 f fd ["self"] (spD ⟨K, T0, cls, oq, tb, w0⟩ 1 F_Piece_end) := by
  have sc := sc_Piece_end
  refine fun_ok (G := ⟨K, T0, cls, oq, tb, w0⟩) (k := 0) FF sc rfl rfl fun cdv A outer s H E hr => ?_
  have hu : (A.deeper (envOfC "Piece.end" (defScope s_Piece_end) s.heap.objs.size f cdv)).units + 64 < cLine := hr.units
  have tk : Takes (cxOf (L2.CX P w) P w K mg base ["self"] "Piece.end" (defScope s_Piece_end) f cdv A outer s H E) (fun c d _ H => E c d H) := takes_of rfl rfl rfl rfl
  have hp := passes_of (X := cxOf (L2.CX P w) P w K mg base ["self"] "Piece.end" (defScope s_Piece_end) f cdv A outer s H E) rfl
  exact dss_one (ds_ret (de_op op_add5 o2_add (de_fld (k := 5) rfl T.cf rfl (dv 0)) (de_callB c_len oa_len rfl T.b_len (by decide +kernel) (da_cons (de_fld (k := 3) rfl T.cf rfl (dv 0)) (da_nil)))))
theorem mo_end (T : Txt K mg base cls oq tb) : MethOk P w ⟨K, T0, cls, oq, tb, w0⟩ mg base 1 "end" M_end := ⟨fun c np F h => by
  unfold M_end at h
  split at h
  · cases h
    obtain ⟨f, fd, FF, mm⟩ := T.m_Piece_end
    exact meth_ok T.cf (by show (2 : Nat) < T0.ncl; decide) (by show _ ∉ (T0.fl 2).map T0.nm; decide) arity_call (ps := ["self"]) rfl (fn_Piece_end T FF) mm (FF.binds fun _ _ _ _ _ _ us hl => match us, hl with | [_], _ => rfl)
  · cases h⟩
theorem sc_Heap_is_strange : FnScope ["self", "piece"] ["self", "piece"] (defScope s_Heap_is_strange) := ⟨rfl, rfl, rfl, by decide +kernel, rfl, by decide +kernel, by decide +kernel⟩
theorem fn_Heap_is_strange (T : Txt K mg base cls oq tb) {f : Addr} {fd : FuncData} (FF : Fun K "is_strange" "Heap.is_strange" s_Heap_is_strange f fd) : FnOk P w K mg base (L2.CX P w) 2 f fd ["self", "piece"] (spD ⟨K, T0, cls, oq, tb, w0⟩ 2 F_Heap_is_strange) := by
  have sc := sc_Heap_is_strange
  refine fun_ok (G := ⟨K, T0, cls, oq, tb, w0⟩) (k := 1) FF sc rfl rfl fun cdv A outer s H E hr => ?_
  have hu : (A.deeper (envOfC "Heap.is_strange" (defScope s_Heap_is_strange) s.heap.objs.size f cdv)).units + 64 < cLine := hr.units
  have tk : Takes (cxOf (L2.CX P w) P w K mg base ["self", "piece"] "Heap.is_strange" (defScope s_Heap_is_strange) f cdv A outer s H E) (fun c d _ H => E c d H) := takes_of rfl rfl rfl rfl
  have hp := passes_of (X := cxOf (L2.CX P w) P w K mg base ["self", "piece"] "Heap.is_strange" (defScope s_Heap_is_strange) f cdv A outer s H E) rfl
  exact dss_cons (ds_if (dt_cmp op_notN o2_notN (nomark _) (de_fld (k := 11) rfl T.cf rfl (dv 0)) (de_non))
      (dss_cons (ds_if (dw_pt (dw_or (dt_cmp op_gt o2_gt (nomark _) (de_meth0 rfl (mo_end T) (hr.mono (by decide)) tk (dv 1)) (de_fld (k := 11) rfl T.cf rfl (dv 0))) (dw_or1 (dt_cmp (op_eqD hu) o2_eqV (nomark _) (de_cmp (op_eqD hu) o2_eqV (nomark _) (de_meth0 rfl (mo_end T) (hr.mono (by decide)) tk (dv 1)) (de_fld (k := 11) rfl T.cf rfl (dv 0))) (de_fld (k := 6) rfl T.cf rfl (dv 1))))))
      (dss_one (ds_ret (de_bl)))
      (dss_nil))
      (dss_one (ds_ret (de_and (de_not (de_fld (k := 6) rfl T.cf rfl (dv 1))) (de_one (de_cmp (op_neD hu) o2_neV (nomark _) (de_meth0 rfl (mo_end T) (hr.mono (by decide)) tk (dv 1)) (de_fld (k := 11) rfl T.cf rfl (dv 0))))))))
      (dss_nil))
      (dss_one (ds_ret (de_and (de_not (de_fld (k := 6) rfl T.cf rfl (dv 1))) (de_one (de_cmp op_le o2_le (nomark _) (de_meth0 rfl (mo_end T) (hr.mono (by decide)) tk (dv 1)) (de_fld (k := 12) rfl T.cf rfl (dv 0)))))))
theorem sc_Heap_clash : FnScope ["self", "piece", "k"] ["self", "piece"] (defScope s_Heap_clash) := ⟨rfl, rfl, rfl, by decide +kernel, rfl, by decide +kernel, by decide +kernel⟩
theorem fn_Heap_clash (T : Txt K mg base cls oq tb) {f : Addr} {fd : FuncData} (FF : Fun K "clash" "Heap.clash" s_Heap_clash f fd) : FnOk P w K mg base (L2.CX P w) 1 f fd ["self", "piece"] (spD ⟨K, T0, cls, oq, tb, w0⟩ 2 F_Heap_clash) := by
  have sc := sc_Heap_clash
  refine fun_ok (G := ⟨K, T0, cls, oq, tb, w0⟩) (k := 0) FF sc rfl rfl fun cdv A outer s H E hr => ?_
  have hu : (A.deeper (envOfC "Heap.clash" (defScope s_Heap_clash) s.heap.objs.size f cdv)).units + 64 < cLine := hr.units
  have tk : Takes (cxOf (L2.CX P w) P w K mg base ["self", "piece", "k"] "Heap.clash" (defScope s_Heap_clash) f cdv A outer s H E) (fun c d _ H => E c d H) := takes_of rfl rfl rfl rfl
  have hp := passes_of (X := cxOf (L2.CX P w) P w K mg base ["self", "piece", "k"] "Heap.clash" (defScope s_Heap_clash) f cdv A outer s H E) rfl
  exact dss_cons (ds_for hp rfl (pi_range1 rfl T.b_range (DA.pa (da_cons (de_callB c_len oa_len rfl T.b_len (by decide +kernel) (da_cons (de_fld (k := 3) rfl T.cf rfl (dv 1)) (da_nil))) (da_nil)))) (io_rng1 _) (pg_name (i := 2) sc.nd rfl (Or.inl rfl)) (g_name)
      (dss_one (ds_if (dt_cmp (op_neD hu) o2_neV (nomark _) (de_get2 hu (de_fld (k := 9) rfl T.cf rfl (dv 0)) (de_op op_add5 o2_add (de_fld (k := 5) rfl T.cf rfl (dv 1)) (dv 2)) (de_ix rfl (de_fld (k := 3) rfl T.cf rfl (dv 1)) (dv 2)) ⟨rfl, rfl, rfl, rfl⟩) (de_ix rfl (de_fld (k := 3) rfl T.cf rfl (dv 1)) (dv 2)))
      (dss_one (ds_ret (de_op op_add5 o2_add (de_fld (k := 5) rfl T.cf rfl (dv 1)) (dv 2))))
      (dss_nil))))
      (dss_one (ds_ret (de_non)))
theorem mo_is_strange (T : Txt K mg base cls oq tb) : MethOk P w ⟨K, T0, cls, oq, tb, w0⟩ mg base 2 "is_strange" M_is_strange := ⟨fun c np F h => by
  unfold M_is_strange at h
  split at h
  · cases h
    obtain ⟨f, fd, FF, mm⟩ := T.m_Heap_is_strange
    exact meth_ok T.cf (by show (7 : Nat) < T0.ncl; decide) (by show _ ∉ (T0.fl 7).map T0.nm; decide) arity_call (ps := ["self", "piece"]) rfl (fn_Heap_is_strange T FF) mm (FF.binds fun _ _ _ _ _ _ us hl => match us, hl with | [_, _], _ => rfl)
  · cases h⟩
theorem mo_clash (T : Txt K mg base cls oq tb) : MethOk P w ⟨K, T0, cls, oq, tb, w0⟩ mg base 1 "clash" M_clash := ⟨fun c np F h => by
  unfold M_clash at h
  split at h
  · cases h
    obtain ⟨f, fd, FF, mm⟩ := T.m_Heap_clash
    exact meth_ok T.cf (by show (7 : Nat) < T0.ncl; decide) (by show _ ∉ (T0.fl 7).map T0.nm; decide) arity_call (ps := ["self", "piece"]) rfl (fn_Heap_clash T FF) mm (FF.binds fun _ _ _ _ _ _ us hl => match us, hl with | [_, _], _ => rfl)
  · cases h⟩
theorem sc_Heap_trouble : FnScope ["self", "piece"] ["self", "piece"] (defScope s_Heap_trouble) := ⟨rfl, rfl, rfl, by decide +kernel, rfl, by decide +kernel, by decide +kernel⟩
theorem fn_Heap_trouble (T : Txt K mg base cls oq tb) {f : Addr} {fd : FuncData} (FF : Fun K "trouble" "Heap.trouble" s_Heap_trouble f fd) : FnOk P w K mg base (L2.CX P w) 3 f fd ["self", "piece"] (spD ⟨K, T0, cls, oq, tb, w0⟩ 2 F_Heap_trouble) := by
  have sc := sc_Heap_trouble
  refine fun_ok (G := ⟨K, T0, cls, oq, tb, w0⟩) (k := 2) FF sc rfl rfl fun cdv A outer s H E hr => ?_
  have hu : (A.deeper (envOfC "Heap.trouble" (defScope s_Heap_trouble) s.heap.objs.size f cdv)).units + 64 < cLine := hr.units
  have tk : Takes (cxOf (L2.CX P w) P w K mg base ["self", "piece"] "Heap.trouble" (defScope s_Heap_trouble) f cdv A outer s H E) (fun c d _ H => E c d H) := takes_of rfl rfl rfl rfl
  have hp := passes_of (X := cxOf (L2.CX P w) P w K mg base ["self", "piece"] "Heap.trouble" (defScope s_Heap_trouble) f cdv A outer s H E) rfl
  exact dss_cons (ds_if (dt_cmp (op_neD hu) o2_neV (nomark _) (de_fld (k := 8) rfl T.cf rfl (dv 0)) (de_str))
      (dss_one (ds_ret (de_non)))
      (dss_nil))
      (dss_cons (ds_if (dt_val (de_meth rfl (mo_is_strange T) (hr.mono (by decide)) tk (dv 0) (da_cons (dv 1) (da_nil))))
      (dss_one (ds_ret (de_fld (k := 5) rfl T.cf rfl (dv 1))))
      (dss_nil))
      (dss_one (ds_ret (de_meth rfl (mo_clash T) (hr.mono (by decide)) tk (dv 0) (da_cons (dv 1) (da_nil))))))
theorem sc_Unlike_init : FnScope ["self", "at"] ["self", "at"] (defScope s_Unlike_init) := ⟨rfl, rfl, rfl, by decide +kernel, rfl, by decide +kernel, by decide +kernel⟩
theorem fn_Unlike_init (T : Txt K mg base cls oq tb) {f : Addr} {fd : FuncData} (FF : Fun K "__init__" "Unlike.__init__" s_Unlike_init f fd) : FnOk P w K mg base (L2.CX P w) 1 f fd ["self", "at"] (spD ⟨K, T0, cls, oq, tb, w0⟩ 2 F_Unlike_init) := by
  have sc := sc_Unlike_init
  refine fun_ok (G := ⟨K, T0, cls, oq, tb, w0⟩) (k := 0) FF sc rfl rfl fun cdv A outer s H E hr => ?_
  have hu : (A.deeper (envOfC "Unlike.__init__" (defScope s_Unlike_init) s.heap.objs.size f cdv)).units + 64 < cLine := hr.units
  have tk : Takes (cxOf (L2.CX P w) P w K mg base ["self", "at"] "Unlike.__init__" (defScope s_Unlike_init) f cdv A outer s H E) (fun c d _ H => E c d H) := takes_of rfl rfl rfl rfl
  have hp := passes_of (X := cxOf (L2.CX P w) P w K mg base ["self", "at"] "Unlike.__init__" (defScope s_Unlike_init) f cdv A outer s H E) rfl
  exact dss_one (ds_fld (k := 5) rfl T.cf rfl (dv 0) (dv 1))
theorem mk_Unlike (T : Txt K mg base cls oq tb) : MakeOk P w ⟨K, T0, cls, oq, tb, w0⟩ mg base 1 "Unlike" 6 2 [] F_Unlike_init := by
  obtain ⟨f, fd, FF, m, M⟩ := T.i_Unlike
  exact ⟨arity_call, f, fd, ["self", "at"], [], [], rfl, fn_Unlike_init T FF, m, M, FF.binds fun _ _ _ _ _ _ us hl => match us, hl with | [_, _], _ => rfl, .nil, fun _ => .nil⟩
theorem sc_with_span : FnScope ["cover", "span", "ahead", "behind", "low", "high", "begin", "end"] ["cover", "span"] (defScope s_with_span) := ⟨rfl, rfl, rfl, by decide +kernel, rfl, by decide +kernel, by decide +kernel⟩
theorem fn_with_span (T : Txt K mg base cls oq tb) {f : Addr} {fd : FuncData} (FF : Fun K "with_span" "with_span" s_with_span f fd) : FnOk P w K mg base (L2.CX P w) 1 f fd ["cover", "span"] (spD ⟨K, T0, cls, oq, tb, w0⟩ 2 F_with_span) := by
  have sc := sc_with_span
  refine fun_ok (G := ⟨K, T0, cls, oq, tb, w0⟩) (k := 0) FF sc rfl rfl fun cdv A outer s H E hr => ?_
  have hu : (A.deeper (envOfC "with_span" (defScope s_with_span) s.heap.objs.size f cdv)).units + 64 < cLine := hr.units
  have tk : Takes (cxOf (L2.CX P w) P w K mg base ["cover", "span", "ahead", "behind", "low", "high", "begin", "end"] "with_span" (defScope s_with_span) f cdv A outer s H E) (fun c d _ H => E c d H) := takes_of rfl rfl rfl rfl
  have hp := passes_of (X := cxOf (L2.CX P w) P w K mg base ["cover", "span", "ahead", "behind", "low", "high", "begin", "end"] "with_span" (defScope s_with_span) f cdv A outer s H E) rfl
  exact dss_cons (ds_asg (dv 1) (pg_tup rfl (pgs_cons (pg_name (i := 4) sc.nd rfl (Or.inl rfl)) (pgs_cons (pg_name (i := 5) sc.nd rfl (Or.inl rfl)) (pgs_nil)))) (g_tup (g_cons (g_name) (g_cons (g_name) (g_nil)))))
      (dss_cons (ds_set (i := 2) sc.nd rfl (Or.inl rfl) (de_lstC (da_nil)))
      (dss_cons (ds_set (i := 3) sc.nd rfl (Or.inl rfl) (de_lstC (da_nil)))
      (dss_cons (ds_for hp rfl (pi_list (DE.pe (dv 0))) (io_list _) (pg_tup rfl (pgs_cons (pg_name (i := 6) sc.nd rfl (Or.inl rfl)) (pgs_cons (pg_name (i := 7) sc.nd rfl (Or.inl rfl)) (pgs_nil)))) (g_tup (g_cons (g_name) (g_cons (g_name) (g_nil))))
      (dss_one (ds_if (dt_cmp op_lt o2_lt (nomark _) (dv 7) (dv 4))
      (dss_one (ds_expr (de_bm rfl PySem.F.plainAttrs_list PySem.F.slot_list_append PySem.F.type_list_append mt_append om_append tm_list (dv 2) (da_cons (de_tup (da_cons (dv 6) (da_cons (dv 7) (da_nil)))) (da_nil)))))
      (dss_one (ds_if (dt_cmp op_gt o2_gt (nomark _) (dv 6) (dv 5))
      (dss_one (ds_expr (de_bm rfl PySem.F.plainAttrs_list PySem.F.slot_list_append PySem.F.type_list_append mt_append om_append tm_list (dv 3) (da_cons (de_tup (da_cons (dv 6) (da_cons (dv 7) (da_nil)))) (da_nil)))))
      (dss_cons (ds_set (i := 4) sc.nd rfl (Or.inl rfl) (de_callB (call_min2 rfl) oa_min2 rfl T.b_min (by decide +kernel) (da_cons (dv 4) (da_cons (dv 6) (da_nil)))))
      (dss_one (ds_set (i := 5) sc.nd rfl (Or.inl rfl) (de_callB (call_max2 rfl) oa_max2 rfl T.b_max (by decide +kernel) (da_cons (dv 5) (da_cons (dv 7) (da_nil))))))))))))
      (dss_one (ds_ret (de_op op_add5 o2_add (de_op op_add5 o2_add (dv 2) (de_lst (da_cons (de_tup (da_cons (dv 4) (da_cons (dv 5) (da_nil)))) (da_nil)))) (dv 3)))))))
theorem ok_with_span (T : Txt K mg base cls oq tb) : Callee P w ⟨K, T0, cls, oq, tb, w0⟩ mg base 1 "with_span" 2 [] F_with_span := by
  obtain ⟨f, fd, FF, m⟩ := T.d_with_span
  exact ⟨arity_call, f, fd, ["cover", "span"], [], [], rfl, fn_with_span T FF, m, FF.kp, FF.binds fun _ _ _ _ _ _ us hl => match us, hl with | [_, _], _ => rfl, .nil, fun _ => .nil⟩
theorem sc_Heap_cover_with : FnScope ["self", "piece"] ["self", "piece"] (defScope s_Heap_cover_with) := ⟨rfl, rfl, rfl, by decide +kernel, rfl, by decide +kernel, by decide +kernel⟩
theorem fn_Heap_cover_with (T : Txt K mg base cls oq tb) {f : Addr} {fd : FuncData} (FF : Fun K "cover_with" "Heap.cover_with" s_Heap_cover_with f fd) : FnOk P w K mg base (L2.CX P w) 2 f fd ["self", "piece"] (spD ⟨K, T0, cls, oq, tb, w0⟩ 2 F_Heap_cover_with) := by
  have sc := sc_Heap_cover_with
  refine fun_ok (G := ⟨K, T0, cls, oq, tb, w0⟩) (k := 1) FF sc rfl rfl fun cdv A outer s H E hr => ?_
  have hu : (A.deeper (envOfC "Heap.cover_with" (defScope s_Heap_cover_with) s.heap.objs.size f cdv)).units + 64 < cLine := hr.units
  have tk : Takes (cxOf (L2.CX P w) P w K mg base ["self", "piece"] "Heap.cover_with" (defScope s_Heap_cover_with) f cdv A outer s H E) (fun c d _ H => E c d H) := takes_of rfl rfl rfl rfl
  have hp := passes_of (X := cxOf (L2.CX P w) P w K mg base ["self", "piece"] "Heap.cover_with" (defScope s_Heap_cover_with) f cdv A outer s H E) rfl
  exact dss_one (ds_ret (de_call rfl (ok_with_span T) (hr.mono (by decide)) rfl tk (da_cons (de_fld (k := 10) rfl T.cf rfl (dv 0)) (da_cons (de_tup (da_cons (de_fld (k := 5) rfl T.cf rfl (dv 1)) (da_cons (de_meth0 rfl (mo_end T) (hr.mono (by decide)) tk (dv 1)) (da_nil)))) (da_nil)))))
theorem mo_cover_with (T : Txt K mg base cls oq tb) : MethOk P w ⟨K, T0, cls, oq, tb, w0⟩ mg base 2 "cover_with" M_cover_with := ⟨fun c np F h => by
  unfold M_cover_with at h
  split at h
  · cases h
    obtain ⟨f, fd, FF, mm⟩ := T.m_Heap_cover_with
    exact meth_ok T.cf (by show (7 : Nat) < T0.ncl; decide) (by show _ ∉ (T0.fl 7).map T0.nm; decide) arity_call (ps := ["self", "piece"]) rfl (fn_Heap_cover_with T FF) mm (FF.binds fun _ _ _ _ _ _ us hl => match us, hl with | [_, _], _ => rfl)
  · cases h⟩
theorem sc_Heap_take : FnScope ["self", "piece", "k"] ["self", "piece"] (defScope s_Heap_take) := ⟨rfl, rfl, rfl, by decide +kernel, rfl, by decide +kernel, by decide +kernel⟩
theorem fn_Heap_take (T : Txt K mg base cls oq tb) {f : Addr} {fd : FuncData} (FF : Fun K "take" "Heap.take" s_Heap_take f fd) : FnOk P w K mg base (L2.CX P w) 3 f fd ["self", "piece"] (spD ⟨K, T0, cls, oq, tb, w0⟩ 2 F_Heap_take) := by
  have sc := sc_Heap_take
  refine fun_ok (G := ⟨K, T0, cls, oq, tb, w0⟩) (k := 2) FF sc rfl rfl fun cdv A outer s H E hr => ?_
  have hu : (A.deeper (envOfC "Heap.take" (defScope s_Heap_take) s.heap.objs.size f cdv)).units + 64 < cLine := hr.units
  have tk : Takes (cxOf (L2.CX P w) P w K mg base ["self", "piece", "k"] "Heap.take" (defScope s_Heap_take) f cdv A outer s H E) (fun c d _ H => E c d H) := takes_of rfl rfl rfl rfl
  have hp := passes_of (X := cxOf (L2.CX P w) P w K mg base ["self", "piece", "k"] "Heap.take" (defScope s_Heap_take) f cdv A outer s H E) rfl
  exact dss_cons (ds_for hp rfl (pi_range1 rfl T.b_range (DA.pa (da_cons (de_callB c_len oa_len rfl T.b_len (by decide +kernel) (da_cons (de_fld (k := 3) rfl T.cf rfl (dv 1)) (da_nil))) (da_nil)))) (io_rng1 _) (pg_name (i := 2) sc.nd rfl (Or.inl rfl)) (g_name)
      (dss_one (ds_if (dw_pt (dw_or (dt_cmp (op_eqD hu) o2_eqV (nomark _) (de_fld (k := 8) rfl T.cf rfl (dv 0)) (de_str)) (dw_or1 (dt_dnin hu (de_op op_add5 o2_add (de_fld (k := 5) rfl T.cf rfl (dv 1)) (dv 2)) (de_fld (k := 9) rfl T.cf rfl (dv 0))))))
      (dss_one (ds_dput hu (de_fld (k := 9) rfl T.cf rfl (dv 0)) (de_op op_add5 o2_add (de_fld (k := 5) rfl T.cf rfl (dv 1)) (dv 2)) (de_ix rfl (de_fld (k := 3) rfl T.cf rfl (dv 1)) (dv 2))))
      (dss_nil))))
      (dss_cons (ds_fld (k := 10) rfl T.cf rfl (dv 0) (de_meth rfl (mo_cover_with T) (hr.mono (by decide)) tk (dv 0) (da_cons (dv 1) (da_nil))))
      (dss_one (ds_if (dt_val (de_fld (k := 6) rfl T.cf rfl (dv 1)))
      (dss_one (ds_fld (k := 12) rfl T.cf rfl (dv 0) (de_callB (call_max2 rfl) oa_max2 rfl T.b_max (by decide +kernel) (da_cons (de_fld (k := 12) rfl T.cf rfl (dv 0)) (da_cons (de_meth0 rfl (mo_end T) (hr.mono (by decide)) tk (dv 1)) (da_nil))))))
      (dss_one (ds_fld (k := 11) rfl T.cf rfl (dv 0) (de_meth0 rfl (mo_end T) (hr.mono (by decide)) tk (dv 1)))))))
theorem sc_least_end : FnScope ["low", "end"] ["low", "end"] (defScope s_least_end) := ⟨rfl, rfl, rfl, by decide +kernel, rfl, by decide +kernel, by decide +kernel⟩
theorem fn_least_end (T : Txt K mg base cls oq tb) {f : Addr} {fd : FuncData} (FF : Fun K "least_end" "least_end" s_least_end f fd) : FnOk P w K mg base (L2.CX P w) 1 f fd ["low", "end"] (spD ⟨K, T0, cls, oq, tb, w0⟩ 2 F_least_end) := by
  have sc := sc_least_end
  refine fun_ok (G := ⟨K, T0, cls, oq, tb, w0⟩) (k := 0) FF sc rfl rfl fun cdv A outer s H E hr => ?_
  have hu : (A.deeper (envOfC "least_end" (defScope s_least_end) s.heap.objs.size f cdv)).units + 64 < cLine := hr.units
  have tk : Takes (cxOf (L2.CX P w) P w K mg base ["low", "end"] "least_end" (defScope s_least_end) f cdv A outer s H E) (fun c d _ H => E c d H) := takes_of rfl rfl rfl rfl
  have hp := passes_of (X := cxOf (L2.CX P w) P w K mg base ["low", "end"] "least_end" (defScope s_least_end) f cdv A outer s H E) rfl
  exact dss_cons (ds_if (dt_cmp op_isN o2_isN (nomark _) (dv 1) (de_non))
      (dss_one (ds_ret (dv 0)))
      (dss_nil))
      (dss_one (ds_ret (de_callB (call_min2 rfl) oa_min2 rfl T.b_min (by decide +kernel) (da_cons (dv 0) (da_cons (dv 1) (da_nil))))))
theorem ok_least_end (T : Txt K mg base cls oq tb) : Callee P w ⟨K, T0, cls, oq, tb, w0⟩ mg base 1 "least_end" 2 [] F_least_end := by
  obtain ⟨f, fd, FF, m⟩ := T.d_least_end
  exact ⟨arity_call, f, fd, ["low", "end"], [], [], rfl, fn_least_end T FF, m, FF.kp, FF.binds fun _ _ _ _ _ _ us hl => match us, hl with | [_, _], _ => rfl, .nil, fun _ => .nil⟩
theorem sc_lacking : FnScope ["cover", "end", "found", "at", "low", "high"] ["cover", "end"] (defScope s_lacking) := ⟨rfl, rfl, rfl, by decide +kernel, rfl, by decide +kernel, by decide +kernel⟩
theorem fn_lacking (T : Txt K mg base cls oq tb) {f : Addr} {fd : FuncData} (FF : Fun K "lacking" "lacking" s_lacking f fd) : FnOk P w K mg base (L2.CX P w) 2 f fd ["cover", "end"] (spD ⟨K, T0, cls, oq, tb, w0⟩ 2 F_lacking) := by
  have sc := sc_lacking
  refine fun_ok (G := ⟨K, T0, cls, oq, tb, w0⟩) (k := 1) FF sc rfl rfl fun cdv A outer s H E hr => ?_
  have hu : (A.deeper (envOfC "lacking" (defScope s_lacking) s.heap.objs.size f cdv)).units + 64 < cLine := hr.units
  have tk : Takes (cxOf (L2.CX P w) P w K mg base ["cover", "end", "found", "at", "low", "high"] "lacking" (defScope s_lacking) f cdv A outer s H E) (fun c d _ H => E c d H) := takes_of rfl rfl rfl rfl
  have hp := passes_of (X := cxOf (L2.CX P w) P w K mg base ["cover", "end", "found", "at", "low", "high"] "lacking" (defScope s_lacking) f cdv A outer s H E) rfl
  exact dss_cons (ds_set (i := 2) sc.nd rfl (Or.inl rfl) (de_lstC (da_nil)))
      (dss_cons (ds_set (i := 3) sc.nd rfl (Or.inl rfl) (de_int))
      (dss_cons (ds_for hp rfl (pi_list (DE.pe (dv 0))) (io_list _) (pg_tup rfl (pgs_cons (pg_name (i := 4) sc.nd rfl (Or.inl rfl)) (pgs_cons (pg_name (i := 5) sc.nd rfl (Or.inl rfl)) (pgs_nil)))) (g_tup (g_cons (g_name) (g_cons (g_name) (g_nil))))
      (dss_cons (ds_if (dw_pt (dw_and (dt_cmp op_lt o2_lt (nomark _) (dv 3) (dv 4)) (dw_and1 (dw_pt (dw_or (dt_cmp op_isN o2_isN (nomark _) (dv 1) (de_non)) (dw_or1 (dt_cmp op_lt o2_lt (nomark _) (dv 3) (dv 1))))))))
      (dss_one (ds_expr (de_bm rfl PySem.F.plainAttrs_list PySem.F.slot_list_append PySem.F.type_list_append mt_append om_append tm_list (dv 2) (da_cons (de_tup (da_cons (dv 3) (da_cons (de_call rfl (ok_least_end T) (hr.mono (by decide)) rfl tk (da_cons (dv 4) (da_cons (dv 1) (da_nil)))) (da_nil)))) (da_nil)))))
      (dss_nil))
      (dss_one (ds_set (i := 3) sc.nd rfl (Or.inl rfl) (dv 5)))))
      (dss_cons (ds_if (dw_pt (dw_or (dt_cmp op_isN o2_isN (nomark _) (dv 1) (de_non)) (dw_or1 (dt_cmp op_lt o2_lt (nomark _) (dv 3) (dv 1)))))
      (dss_one (ds_expr (de_bm rfl PySem.F.plainAttrs_list PySem.F.slot_list_append PySem.F.type_list_append mt_append om_append tm_list (dv 2) (da_cons (de_tup (da_cons (dv 3) (da_cons (dv 1) (da_nil)))) (da_nil)))))
      (dss_nil))
      (dss_one (ds_ret (de_frz (dv 2)))))))
theorem ok_lacking (T : Txt K mg base cls oq tb) : Callee P w ⟨K, T0, cls, oq, tb, w0⟩ mg base 2 "lacking" 2 [] F_lacking := by
  obtain ⟨f, fd, FF, m⟩ := T.d_lacking
  exact ⟨arity_call, f, fd, ["cover", "end"], [], [], rfl, fn_lacking T FF, m, FF.kp, FF.binds fun _ _ _ _ _ _ us hl => match us, hl with | [_, _], _ => rfl, .nil, fun _ => .nil⟩
theorem sc_Heap_lacks_now : FnScope ["self"] ["self"] (defScope s_Heap_lacks_now) := ⟨rfl, rfl, rfl, by decide +kernel, rfl, by decide +kernel, by decide +kernel⟩
theorem fn_Heap_lacks_now (T : Txt K mg base cls oq tb) {f : Addr} {fd : FuncData} (FF : Fun K "lacks_now" "Heap.lacks_now" s_Heap_lacks_now f fd) : FnOk P w K mg base (L2.CX P w) 3 f fd ["self"] (spD ⟨K, T0, cls, oq, tb, w0⟩ 1 F_Heap_lacks_now) := by
  have sc := sc_Heap_lacks_now
  refine fun_ok (G := ⟨K, T0, cls, oq, tb, w0⟩) (k := 2) FF sc rfl rfl fun cdv A outer s H E hr => ?_
  have hu : (A.deeper (envOfC "Heap.lacks_now" (defScope s_Heap_lacks_now) s.heap.objs.size f cdv)).units + 64 < cLine := hr.units
  have tk : Takes (cxOf (L2.CX P w) P w K mg base ["self"] "Heap.lacks_now" (defScope s_Heap_lacks_now) f cdv A outer s H E) (fun c d _ H => E c d H) := takes_of rfl rfl rfl rfl
  have hp := passes_of (X := cxOf (L2.CX P w) P w K mg base ["self"] "Heap.lacks_now" (defScope s_Heap_lacks_now) f cdv A outer s H E) rfl
  exact dss_one (ds_ret (de_call rfl (ok_lacking T) (hr.mono (by decide)) rfl tk (da_cons (de_fld (k := 10) rfl T.cf rfl (dv 0)) (da_cons (de_fld (k := 11) rfl T.cf rfl (dv 0)) (da_nil)))))
theorem sc_Whole_init : FnScope ["self", "body"] ["self", "body"] (defScope s_Whole_init) := ⟨rfl, rfl, rfl, by decide +kernel, rfl, by decide +kernel, by decide +kernel⟩
theorem fn_Whole_init (T : Txt K mg base cls oq tb) {f : Addr} {fd : FuncData} (FF : Fun K "__init__" "Whole.__init__" s_Whole_init f fd) : FnOk P w K mg base (L2.CX P w) 1 f fd ["self", "body"] (spD ⟨K, T0, cls, oq, tb, w0⟩ 2 F_Whole_init) := by
  have sc := sc_Whole_init
  refine fun_ok (G := ⟨K, T0, cls, oq, tb, w0⟩) (k := 0) FF sc rfl rfl fun cdv A outer s H E hr => ?_
  have hu : (A.deeper (envOfC "Whole.__init__" (defScope s_Whole_init) s.heap.objs.size f cdv)).units + 64 < cLine := hr.units
  have tk : Takes (cxOf (L2.CX P w) P w K mg base ["self", "body"] "Whole.__init__" (defScope s_Whole_init) f cdv A outer s H E) (fun c d _ H => E c d H) := takes_of rfl rfl rfl rfl
  have hp := passes_of (X := cxOf (L2.CX P w) P w K mg base ["self", "body"] "Whole.__init__" (defScope s_Whole_init) f cdv A outer s H E) rfl
  exact dss_one (ds_fld (k := 3) rfl T.cf rfl (dv 0) (de_callT call_list_of oa_list rfl T.b_list (by decide +kernel) (da_cons (dv 1) (da_nil))))
theorem mk_Whole (T : Txt K mg base cls oq tb) : MakeOk P w ⟨K, T0, cls, oq, tb, w0⟩ mg base 1 "Whole" 4 2 [] F_Whole_init := by
  obtain ⟨f, fd, FF, m, M⟩ := T.i_Whole
  exact ⟨arity_call, f, fd, ["self", "body"], [], [], rfl, fn_Whole_init T FF, m, M, FF.binds fun _ _ _ _ _ _ us hl => match us, hl with | [_, _], _ => rfl, .nil, fun _ => .nil⟩
theorem sc_Heap_all_bytes : FnScope ["self", "k"] ["self"] (defScope s_Heap_all_bytes) := ⟨rfl, rfl, rfl, by decide +kernel, rfl, by decide +kernel, by decide +kernel⟩
theorem fn_Heap_all_bytes (T : Txt K mg base cls oq tb) {f : Addr} {fd : FuncData} (FF : Fun K "all_bytes" "Heap.all_bytes" s_Heap_all_bytes f fd) : FnOk P w K mg base (L2.CX P w) 1 f fd ["self"] (spD ⟨K, T0, cls, oq, tb, w0⟩ 1 F_Heap_all_bytes) := by
  have sc := sc_Heap_all_bytes
  refine fun_ok (G := ⟨K, T0, cls, oq, tb, w0⟩) (k := 0) FF sc rfl rfl fun cdv A outer s H E hr => ?_
  have hu : (A.deeper (envOfC "Heap.all_bytes" (defScope s_Heap_all_bytes) s.heap.objs.size f cdv)).units + 64 < cLine := hr.units
  have tk : Takes (cxOf (L2.CX P w) P w K mg base ["self", "k"] "Heap.all_bytes" (defScope s_Heap_all_bytes) f cdv A outer s H E) (fun c d _ H => E c d H) := takes_of rfl rfl rfl rfl
  have hp := passes_of (X := cxOf (L2.CX P w) P w K mg base ["self", "k"] "Heap.all_bytes" (defScope s_Heap_all_bytes) f cdv A outer s H E) rfl
  exact dss_one (ds_ret (de_lc (own := [("k", 1)]) rfl sc.nd (pi_range1 rfl T.b_range (DA.pa (da_cons (de_fld (k := 11) rfl T.cf rfl (dv 0)) (da_nil)))) (io_rng1 _) (blkOk_by (N := ["self", "k"]) (sc := defScope s_Heap_all_bytes) (by decide +kernel)) (g_name) (by decide) (fun _ _ _ _ _ => pg_name (i := 1) sc.nd rfl (Or.inl rfl)) (fun _ _ _ _ _ => dts_nil) (fun _ _ _ _ _ => de_dget hu (de_fld (k := 9) rfl T.cf rfl (dv 0)) (dv 1))))
theorem sc_Lacking_init : FnScope ["self", "spans"] ["self", "spans"] (defScope s_Lacking_init) := ⟨rfl, rfl, rfl, by decide +kernel, rfl, by decide +kernel, by decide +kernel⟩
theorem fn_Lacking_init (T : Txt K mg base cls oq tb) {f : Addr} {fd : FuncData} (FF : Fun K "__init__" "Lacking.__init__" s_Lacking_init f fd) : FnOk P w K mg base (L2.CX P w) 1 f fd ["self", "spans"] (spD ⟨K, T0, cls, oq, tb, w0⟩ 2 F_Lacking_init) := by
  have sc := sc_Lacking_init
  refine fun_ok (G := ⟨K, T0, cls, oq, tb, w0⟩) (k := 0) FF sc rfl rfl fun cdv A outer s H E hr => ?_
  have hu : (A.deeper (envOfC "Lacking.__init__" (defScope s_Lacking_init) s.heap.objs.size f cdv)).units + 64 < cLine := hr.units
  have tk : Takes (cxOf (L2.CX P w) P w K mg base ["self", "spans"] "Lacking.__init__" (defScope s_Lacking_init) f cdv A outer s H E) (fun c d _ H => E c d H) := takes_of rfl rfl rfl rfl
  have hp := passes_of (X := cxOf (L2.CX P w) P w K mg base ["self", "spans"] "Lacking.__init__" (defScope s_Lacking_init) f cdv A outer s H E) rfl
  exact dss_one (ds_fld (k := 7) rfl T.cf rfl (dv 0) (de_callT call_list_of oa_list rfl T.b_list (by decide +kernel) (da_cons (dv 1) (da_nil))))
theorem mk_Lacking (T : Txt K mg base cls oq tb) : MakeOk P w ⟨K, T0, cls, oq, tb, w0⟩ mg base 1 "Lacking" 5 2 [] F_Lacking_init := by
  obtain ⟨f, fd, FF, m, M⟩ := T.i_Lacking
  exact ⟨arity_call, f, fd, ["self", "spans"], [], [], rfl, fn_Lacking_init T FF, m, M, FF.binds fun _ _ _ _ _ _ us hl => match us, hl with | [_, _], _ => rfl, .nil, fun _ => .nil⟩
theorem mo_key (T : Txt K mg base cls oq tb) : MethOk P w ⟨K, T0, cls, oq, tb, w0⟩ mg base 1 "key" M_key := ⟨fun c np F h => by
  unfold M_key at h
  split at h
  · cases h
    obtain ⟨f, fd, FF, mm⟩ := T.m_Keyed_key
    exact meth_ok T.cf (by show (0 : Nat) < T0.ncl; decide) (by show _ ∉ (T0.fl 0).map T0.nm; decide) arity_call (ps := ["self"]) rfl (fn_Keyed_key T FF) mm (FF.binds fun _ _ _ _ _ _ us hl => match us, hl with | [_], _ => rfl)
  · cases h
    obtain ⟨f, fd, FF, mm⟩ := T.m_Letter_key
    exact meth_ok T.cf (by show (1 : Nat) < T0.ncl; decide) (by show _ ∉ (T0.fl 1).map T0.nm; decide) arity_call (ps := ["self"]) rfl (fn_Keyed_key T FF) mm (FF.binds fun _ _ _ _ _ _ us hl => match us, hl with | [_], _ => rfl)
  · cases h
    obtain ⟨f, fd, FF, mm⟩ := T.m_Piece_key
    exact meth_ok T.cf (by show (2 : Nat) < T0.ncl; decide) (by show _ ∉ (T0.fl 2).map T0.nm; decide) arity_call (ps := ["self"]) rfl (fn_Keyed_key T FF) mm (FF.binds fun _ _ _ _ _ _ us hl => match us, hl with | [_], _ => rfl)
  · cases h⟩
theorem mo_trouble (T : Txt K mg base cls oq tb) : MethOk P w ⟨K, T0, cls, oq, tb, w0⟩ mg base 3 "trouble" M_trouble := ⟨fun c np F h => by
  unfold M_trouble at h
  split at h
  · cases h
    obtain ⟨f, fd, FF, mm⟩ := T.m_Heap_trouble
    exact meth_ok T.cf (by show (7 : Nat) < T0.ncl; decide) (by show _ ∉ (T0.fl 7).map T0.nm; decide) arity_call (ps := ["self", "piece"]) rfl (fn_Heap_trouble T FF) mm (FF.binds fun _ _ _ _ _ _ us hl => match us, hl with | [_, _], _ => rfl)
  · cases h⟩
theorem mo_take (T : Txt K mg base cls oq tb) : MethOk P w ⟨K, T0, cls, oq, tb, w0⟩ mg base 3 "take" M_take := ⟨fun c np F h => by
  unfold M_take at h
  split at h
  · cases h
    obtain ⟨f, fd, FF, mm⟩ := T.m_Heap_take
    exact meth_ok T.cf (by show (7 : Nat) < T0.ncl; decide) (by show _ ∉ (T0.fl 7).map T0.nm; decide) arity_call (ps := ["self", "piece"]) rfl (fn_Heap_take T FF) mm (FF.binds fun _ _ _ _ _ _ us hl => match us, hl with | [_, _], _ => rfl)
  · cases h⟩
theorem mo_lacks_now (T : Txt K mg base cls oq tb) : MethOk P w ⟨K, T0, cls, oq, tb, w0⟩ mg base 3 "lacks_now" M_lacks_now := ⟨fun c np F h => by
  unfold M_lacks_now at h
  split at h
  · cases h
    obtain ⟨f, fd, FF, mm⟩ := T.m_Heap_lacks_now
    exact meth_ok T.cf (by show (7 : Nat) < T0.ncl; decide) (by show _ ∉ (T0.fl 7).map T0.nm; decide) arity_call (ps := ["self"]) rfl (fn_Heap_lacks_now T FF) mm (FF.binds fun _ _ _ _ _ _ us hl => match us, hl with | [_], _ => rfl)
  · cases h⟩
theorem mo_all_bytes (T : Txt K mg base cls oq tb) : MethOk P w ⟨K, T0, cls, oq, tb, w0⟩ mg base 1 "all_bytes" M_all_bytes := ⟨fun c np F h => by
  unfold M_all_bytes at h
  split at h
  · cases h
    obtain ⟨f, fd, FF, mm⟩ := T.m_Heap_all_bytes
    exact meth_ok T.cf (by show (7 : Nat) < T0.ncl; decide) (by show _ ∉ (T0.fl 7).map T0.nm; decide) arity_call (ps := ["self"]) rfl (fn_Heap_all_bytes T FF) mm (FF.binds fun _ _ _ _ _ _ us hl => match us, hl with | [_], _ => rfl)
  · cases h⟩
theorem sc_judged : FnScope ["pieces", "rule", "heap", "piece", "at"] ["pieces", "rule"] (defScope s_judged) := ⟨rfl, rfl, rfl, by decide +kernel, rfl, by decide +kernel, by decide +kernel⟩
theorem fn_judged (T : Txt K mg base cls oq tb) {f : Addr} {fd : FuncData} (FF : Fun K "judged" "judged" s_judged f fd) : FnOk P w K mg base (L2.CX P w) 4 f fd ["pieces", "rule"] (spD ⟨K, T0, cls, oq, tb, w0⟩ 2 F_judged) := by
  have sc := sc_judged
  refine fun_ok (G := ⟨K, T0, cls, oq, tb, w0⟩) (k := 3) FF sc rfl rfl fun cdv A outer s H E hr => ?_
  have hu : (A.deeper (envOfC "judged" (defScope s_judged) s.heap.objs.size f cdv)).units + 64 < cLine := hr.units
  have tk : Takes (cxOf (L2.CX P w) P w K mg base ["pieces", "rule", "heap", "piece", "at"] "judged" (defScope s_judged) f cdv A outer s H E) (fun c d _ H => E c d H) := takes_of rfl rfl rfl rfl
  have hp := passes_of (X := cxOf (L2.CX P w) P w K mg base ["pieces", "rule", "heap", "piece", "at"] "judged" (defScope s_judged) f cdv A outer s H E) rfl
  exact dss_cons (ds_expr (de_call rfl (ok_check_rule T) (hr.mono (by decide)) rfl tk (da_cons (dv 1) (da_nil))))
      (dss_cons (ds_if (dw_pt (dw_or (dt_cmp (op_eqL hu) (o2_listL false) (nomark _) (dv 0) (de_lst (da_nil))) (dw_or1 (dt_not (dt_val (de_callB (cr_all rfl) oa_all rfl T.b_all (by decide +kernel) (da_cons (de_lc (own := [("piece", 3)]) rfl sc.nd (pi_list (DE.pe (dv 0))) (io_list _) (blkOk_by (N := ["pieces", "rule", "heap", "piece", "at"]) (sc := defScope s_judged) (by decide +kernel)) (g_name) (by decide) (fun _ _ _ _ _ => pg_name (i := 3) sc.nd rfl (Or.inl rfl)) (fun _ _ _ _ _ => dts_nil) (fun _ _ _ _ _ => de_isi (t := 12) rfl T.cf T.kf (.own _) (pe_glob rfl T.mc_Piece rfl) (dv 3) rfl T.b_isinstance)) (da_nil))))))))
      (dss_one (ds_raise rfl rfl tk T.ra_NoPiece T.mc_NoPiece rfl))
      (dss_nil))
      (dss_cons (ds_if (dt_not (dt_val (de_callB (cr_all rfl) oa_all rfl T.b_all (by decide +kernel) (da_cons (de_lc (own := [("piece", 3)]) rfl sc.nd (pi_list (DE.pe (dv 0))) (io_list _) (blkOk_by (N := ["pieces", "rule", "heap", "piece", "at"]) (sc := defScope s_judged) (by decide +kernel)) (g_name) (by decide) (fun _ _ _ _ _ => pg_name (i := 3) sc.nd rfl (Or.inl rfl)) (fun _ _ _ _ _ => dts_nil) (fun _ _ _ _ _ => de_cmp (op_eqD hu) o2_eqV (nomark _) (de_meth0 rfl (mo_key T) (hr.mono (by decide)) takes0 (dv 3)) (de_meth0 rfl (mo_key T) (hr.mono (by decide)) takes0 (de_ix rfl (dv 0) (de_int))))) (da_nil)))))
      (dss_one (ds_raise rfl rfl tk T.ra_NoPiece T.mc_NoPiece rfl))
      (dss_nil))
      (dss_cons (ds_set (i := 2) sc.nd rfl (Or.inl rfl) (de_make (c := 7) rfl (mk_Heap T) (Or.inl rfl) (hr.mono (by decide)) rfl tk (da_cons (dv 1) (da_nil))))
      (dss_cons (ds_for hp rfl (pi_list (DE.pe (dv 0))) (io_list _) (pg_name (i := 3) sc.nd rfl (Or.inl rfl)) (g_name)
      (dss_cons (ds_set (i := 4) sc.nd rfl (Or.inl rfl) (de_meth rfl (mo_trouble T) (hr.mono (by decide)) tk (dv 2) (da_cons (dv 3) (da_nil))))
      (dss_cons (ds_if (dt_cmp op_notN o2_notN (nomark _) (dv 4) (de_non))
      (dss_one (ds_ret (de_make (c := 6) rfl (mk_Unlike T) (Or.inr rfl) (hr.mono (by decide)) rfl tk (da_cons (dv 4) (da_nil)))))
      (dss_nil))
      (dss_one (ds_if (dt_not (dt_val (de_meth rfl (mo_is_strange T) (hr.mono (by decide)) tk (dv 2) (da_cons (dv 3) (da_nil)))))
      (dss_cons (ds_expr (de_meth rfl (mo_take T) (hr.mono (by decide)) tk (dv 2) (da_cons (dv 3) (da_nil))))
      (dss_one (ds_if (dt_cmp (op_eqD hu) o2_eqV (nomark _) (de_meth0 rfl (mo_lacks_now T) (hr.mono (by decide)) tk (dv 2)) (de_lst (da_nil)))
      (dss_one (ds_ret (de_make (c := 4) rfl (mk_Whole T) (Or.inr rfl) (hr.mono (by decide)) rfl tk (da_cons (de_meth0 rfl (mo_all_bytes T) (hr.mono (by decide)) tk (dv 2)) (da_nil)))))
      (dss_nil))))
      (dss_nil))))))
      (dss_one (ds_ret (de_make (c := 5) rfl (mk_Lacking T) (Or.inr rfl) (hr.mono (by decide)) rfl tk (da_cons (de_meth0 rfl (mo_lacks_now T) (hr.mono (by decide)) tk (dv 2)) (da_nil)))))))))
theorem ok_judged (T : Txt K mg base cls oq tb) : Callee P w ⟨K, T0, cls, oq, tb, w0⟩ mg base 4 "judged" 2 [] F_judged := by
  obtain ⟨f, fd, FF, m⟩ := T.d_judged
  exact ⟨arity_call, f, fd, ["pieces", "rule"], [], [], rfl, fn_judged T FF, m, FF.kp, FF.binds fun _ _ _ _ _ _ us hl => match us, hl with | [_, _], _ => rfl, .nil, fun _ => .nil⟩
theorem sc__law_end : FnScope ["_law_taken", "_law_piece_here"] ["_law_taken"] (defScope s__law_end) := ⟨rfl, rfl, rfl, by decide +kernel, rfl, by decide +kernel, by decide +kernel⟩
theorem fn__law_end (T : Txt K mg base cls oq tb) {f : Addr} {fd : FuncData} (FF : Fun K "_law_end" "_law_end" s__law_end f fd) : FnOk P w K mg base (L2.CX P w) 2 f fd ["_law_taken"] (spD ⟨K, T0, cls, oq, tb, w0⟩ 1 F__law_end) := by
  have sc := sc__law_end
  refine fun_ok (G := ⟨K, T0, cls, oq, tb, w0⟩) (k := 1) FF sc rfl rfl fun cdv A outer s H E hr => ?_
  have hu : (A.deeper (envOfC "_law_end" (defScope s__law_end) s.heap.objs.size f cdv)).units + 64 < cLine := hr.units
  have tk : Takes (cxOf (L2.CX P w) P w K mg base ["_law_taken", "_law_piece_here"] "_law_end" (defScope s__law_end) f cdv A outer s H E) (fun c d _ H => E c d H) := takes_of rfl rfl rfl rfl
  have hp := passes_of (X := cxOf (L2.CX P w) P w K mg base ["_law_taken", "_law_piece_here"] "_law_end" (defScope s__law_end) f cdv A outer s H E) rfl
  exact dss_cons (ds_forK hp rfl (pi_list (DE.pe (dv 0))) (io_cel _) (pg_name (i := 1) sc.nd rfl (Or.inl rfl)) (g_name)
      (dss_one (ds_if (dt_not (dt_val (de_fld (k := 6) rfl T.cf rfl (dv 1))))
      (dss_one (ds_ret (de_meth0 rfl (mo_end T) (hr.mono (by decide)) tk (dv 1))))
      (dss_nil))))
      (dss_one (ds_ret (de_non)))
theorem ok__law_end (T : Txt K mg base cls oq tb) : Callee P w ⟨K, T0, cls, oq, tb, w0⟩ mg base 2 "_law_end" 1 [] F__law_end := by
  obtain ⟨f, fd, FF, m⟩ := T.d__law_end
  exact ⟨arity_call, f, fd, ["_law_taken"], [], [], rfl, fn__law_end T FF, m, FF.kp, FF.binds fun _ _ _ _ _ _ us hl => match us, hl with | [_], _ => rfl, .nil, fun _ => .nil⟩
theorem sc__law_strange : FnScope ["_law_taken", "_law_piece_here", "_law_end_here", "_law_one"] ["_law_taken", "_law_piece_here"] (defScope s__law_strange) := ⟨rfl, rfl, rfl, by decide +kernel, rfl, by decide +kernel, by decide +kernel⟩
theorem fn__law_strange (T : Txt K mg base cls oq tb) {f : Addr} {fd : FuncData} (FF : Fun K "_law_strange" "_law_strange" s__law_strange f fd) : FnOk P w K mg base (L2.CX P w) 3 f fd ["_law_taken", "_law_piece_here"] (spD ⟨K, T0, cls, oq, tb, w0⟩ 2 F__law_strange) := by
  have sc := sc__law_strange
  refine fun_ok (G := ⟨K, T0, cls, oq, tb, w0⟩) (k := 2) FF sc rfl rfl fun cdv A outer s H E hr => ?_
  have hu : (A.deeper (envOfC "_law_strange" (defScope s__law_strange) s.heap.objs.size f cdv)).units + 64 < cLine := hr.units
  have tk : Takes (cxOf (L2.CX P w) P w K mg base ["_law_taken", "_law_piece_here", "_law_end_here", "_law_one"] "_law_strange" (defScope s__law_strange) f cdv A outer s H E) (fun c d _ H => E c d H) := takes_of rfl rfl rfl rfl
  have hp := passes_of (X := cxOf (L2.CX P w) P w K mg base ["_law_taken", "_law_piece_here", "_law_end_here", "_law_one"] "_law_strange" (defScope s__law_strange) f cdv A outer s H E) rfl
  exact dss_cons (ds_set (i := 2) sc.nd rfl (Or.inl rfl) (de_call rfl (ok__law_end T) (hr.mono (by decide)) rfl tk (da_cons (dv 0) (da_nil))))
      (dss_cons (ds_if (dw_pt (dw_and (dt_cmp op_notN o2_notN (nomark _) (dv 2) (de_non)) (dw_and1 (dt_cmp op_gt o2_gt (nomark _) (de_meth0 rfl (mo_end T) (hr.mono (by decide)) tk (dv 1)) (dv 2)))))
      (dss_one (ds_ret (de_bl)))
      (dss_nil))
      (dss_cons (ds_if (dt_val (de_fld (k := 6) rfl T.cf rfl (dv 1)))
      (dss_one (ds_ret (de_cmp (op_eqD hu) o2_eqV (nomark _) (de_meth0 rfl (mo_end T) (hr.mono (by decide)) tk (dv 1)) (dv 2))))
      (dss_nil))
      (dss_cons (ds_if (dw_pt (dw_and (dt_cmp op_notN o2_notN (nomark _) (dv 2) (de_non)) (dw_and1 (dt_cmp (op_neD hu) o2_neV (nomark _) (de_meth0 rfl (mo_end T) (hr.mono (by decide)) tk (dv 1)) (dv 2)))))
      (dss_one (ds_ret (de_bl)))
      (dss_nil))
      (dss_one (ds_ret (de_cmp (op_neL hu) (o2_listL true) (nomark _) (de_lcK (own := [("_law_one", 3)]) rfl sc.nd (pi_list (DE.pe (dv 0))) (io_cel _) (blkOk_by (N := ["_law_taken", "_law_piece_here", "_law_end_here", "_law_one"]) (sc := defScope s__law_strange) (by decide +kernel)) (g_name) (by decide) (fun _ _ _ _ _ => pg_name (i := 3) sc.nd rfl (Or.inl rfl)) (fun _ _ _ _ _ => dts_one (dw_pt (dw_and (dt_val (de_fld (k := 6) rfl T.cf rfl (dv 3))) (dw_and1 (dt_cmp op_le o2_le (nomark _) (de_meth0 rfl (mo_end T) (hr.mono (by decide)) takes0 (dv 1)) (de_meth0 rfl (mo_end T) (hr.mono (by decide)) takes0 (dv 3))))))) (fun _ _ _ _ _ => dv 3)) (de_lst (da_nil))))))))
theorem ok__law_strange (T : Txt K mg base cls oq tb) : Callee P w ⟨K, T0, cls, oq, tb, w0⟩ mg base 3 "_law_strange" 2 [] F__law_strange := by
  obtain ⟨f, fd, FF, m⟩ := T.d__law_strange
  exact ⟨arity_call, f, fd, ["_law_taken", "_law_piece_here"], [], [], rfl, fn__law_strange T FF, m, FF.kp, FF.binds fun _ _ _ _ _ _ us hl => match us, hl with | [_, _], _ => rfl, .nil, fun _ => .nil⟩
theorem sc__law_byte : FnScope ["_law_taken", "_law_rule", "_law_number", "_law_some", "_law_one"] ["_law_taken", "_law_rule", "_law_number"] (defScope s__law_byte) := ⟨rfl, rfl, rfl, by decide +kernel, rfl, by decide +kernel, by decide +kernel⟩
theorem fn__law_byte (T : Txt K mg base cls oq tb) {f : Addr} {fd : FuncData} (FF : Fun K "_law_byte" "_law_byte" s__law_byte f fd) : FnOk P w K mg base (L2.CX P w) 2 f fd ["_law_taken", "_law_rule", "_law_number"] (spD ⟨K, T0, cls, oq, tb, w0⟩ 3 F__law_byte) := by
  have sc := sc__law_byte
  refine fun_ok (G := ⟨K, T0, cls, oq, tb, w0⟩) (k := 1) FF sc rfl rfl fun cdv A outer s H E hr => ?_
  have hu : (A.deeper (envOfC "_law_byte" (defScope s__law_byte) s.heap.objs.size f cdv)).units + 64 < cLine := hr.units
  have tk : Takes (cxOf (L2.CX P w) P w K mg base ["_law_taken", "_law_rule", "_law_number", "_law_some", "_law_one"] "_law_byte" (defScope s__law_byte) f cdv A outer s H E) (fun c d _ H => E c d H) := takes_of rfl rfl rfl rfl
  have hp := passes_of (X := cxOf (L2.CX P w) P w K mg base ["_law_taken", "_law_rule", "_law_number", "_law_some", "_law_one"] "_law_byte" (defScope s__law_byte) f cdv A outer s H E) rfl
  exact dss_cons (ds_setLcK (own := [("_law_one", 4)]) fin_lst (i := 3) rfl sc.nd rfl rfl (sw_true rfl rfl rfl (by decide +kernel)) (pi_list (DE.pe (dv 0))) (io_cel _) (blkOk_by (N := ["_law_taken", "_law_rule", "_law_number", "_law_some", "_law_one"]) (sc := defScope s__law_byte) (by decide +kernel)) (g_name) (by decide) (fun _ _ _ _ _ => pg_name (i := 4) sc.nd rfl (Or.inl rfl)) (fun _ _ _ _ _ => dts_one (dt_chain op_le o2_le op_lt o2_lt (de_fld (k := 5) rfl T.cf rfl (dv 4)) (dv 2) (de_meth0 rfl (mo_end T) (hr.mono (by decide)) takes0 (dv 4)))) (fun _ _ _ _ _ => de_ix rfl (de_fld (k := 3) rfl T.cf rfl (dv 4)) (de_op op_sub o2_sub (dv 2) (de_fld (k := 5) rfl T.cf rfl (dv 4)))))
      (dss_cons (ds_if (dt_cmp (op_eqD hu) o2_eqV (nomark _) (dv 3) (de_lst (da_nil)))
      (dss_one (ds_ret (de_non)))
      (dss_nil))
      (dss_one (ds_ret (de_ix rfl (dv 3) (de_ix rfl (de_lst (da_cons (de_int) (da_cons (de_neg (de_int)) (da_nil)))) (de_callT call_int1 oa_int rfl T.b_int (by decide +kernel) (da_cons (de_cmp (op_eqD hu) o2_eqV (nomark _) (dv 1) (de_str)) (da_nil))))))))
theorem ok__law_byte (T : Txt K mg base cls oq tb) : Callee P w ⟨K, T0, cls, oq, tb, w0⟩ mg base 2 "_law_byte" 3 [] F__law_byte := by
  obtain ⟨f, fd, FF, m⟩ := T.d__law_byte
  exact ⟨arity_call, f, fd, ["_law_taken", "_law_rule", "_law_number"], [], [], rfl, fn__law_byte T FF, m, FF.kp, FF.binds fun _ _ _ _ _ _ us hl => match us, hl with | [_, _, _], _ => rfl, .nil, fun _ => .nil⟩
theorem sc__law_unlike : FnScope ["_law_taken", "_law_piece_here", "_law_number"] ["_law_taken", "_law_piece_here"] (defScope s__law_unlike) := ⟨rfl, rfl, rfl, by decide +kernel, rfl, by decide +kernel, by decide +kernel⟩
theorem fn__law_unlike (T : Txt K mg base cls oq tb) {f : Addr} {fd : FuncData} (FF : Fun K "_law_unlike" "_law_unlike" s__law_unlike f fd) : FnOk P w K mg base (L2.CX P w) 3 f fd ["_law_taken", "_law_piece_here"] (spD ⟨K, T0, cls, oq, tb, w0⟩ 2 F__law_unlike) := by
  have sc := sc__law_unlike
  refine fun_ok (G := ⟨K, T0, cls, oq, tb, w0⟩) (k := 2) FF sc rfl rfl fun cdv A outer s H E hr => ?_
  have hu : (A.deeper (envOfC "_law_unlike" (defScope s__law_unlike) s.heap.objs.size f cdv)).units + 64 < cLine := hr.units
  have tk : Takes (cxOf (L2.CX P w) P w K mg base ["_law_taken", "_law_piece_here", "_law_number"] "_law_unlike" (defScope s__law_unlike) f cdv A outer s H E) (fun c d _ H => E c d H) := takes_of rfl rfl rfl rfl
  have hp := passes_of (X := cxOf (L2.CX P w) P w K mg base ["_law_taken", "_law_piece_here", "_law_number"] "_law_unlike" (defScope s__law_unlike) f cdv A outer s H E) rfl
  exact dss_cons (ds_for hp rfl (pi_range2 rfl T.b_range (DA.pa (da_cons (de_fld (k := 5) rfl T.cf rfl (dv 1)) (da_cons (de_meth0 rfl (mo_end T) (hr.mono (by decide)) tk (dv 1)) (da_nil))))) (io_rng2 _) (pg_name (i := 2) sc.nd rfl (Or.inl rfl)) (g_name)
      (dss_one (ds_if (dt_cmp op_nin2 o2_in rfl (de_call rfl (ok__law_byte T) (hr.mono (by decide)) rfl tk (da_cons (dv 0) (da_cons (de_str) (da_cons (dv 2) (da_nil))))) (de_tup (da_cons (de_non) (da_cons (de_ix rfl (de_fld (k := 3) rfl T.cf rfl (dv 1)) (de_op op_sub o2_sub (dv 2) (de_fld (k := 5) rfl T.cf rfl (dv 1)))) (da_nil)))))
      (dss_one (ds_ret (dv 2)))
      (dss_nil))))
      (dss_one (ds_ret (de_non)))
theorem ok__law_unlike (T : Txt K mg base cls oq tb) : Callee P w ⟨K, T0, cls, oq, tb, w0⟩ mg base 3 "_law_unlike" 2 [] F__law_unlike := by
  obtain ⟨f, fd, FF, m⟩ := T.d__law_unlike
  exact ⟨arity_call, f, fd, ["_law_taken", "_law_piece_here"], [], [], rfl, fn__law_unlike T FF, m, FF.kp, FF.binds fun _ _ _ _ _ _ us hl => match us, hl with | [_, _], _ => rfl, .nil, fun _ => .nil⟩
theorem sc__law_spans : FnScope ["_law_taken", "_law_end_here", "_law_top", "_law_lack", "_law_found", "_law_number", "_law_one"] ["_law_taken"] (defScope s__law_spans) := ⟨rfl, rfl, rfl, by decide +kernel, rfl, by decide +kernel, by decide +kernel⟩
theorem fn__law_spans (T : Txt K mg base cls oq tb) {f : Addr} {fd : FuncData} (FF : Fun K "_law_spans" "_law_spans" s__law_spans f fd) : FnOk P w K mg base (L2.CX P w) 3 f fd ["_law_taken"] (spD ⟨K, T0, cls, oq, tb, w0⟩ 1 F__law_spans) := by
  have sc := sc__law_spans
  refine fun_ok (G := ⟨K, T0, cls, oq, tb, w0⟩) (k := 2) FF sc rfl rfl fun cdv A outer s H E hr => ?_
  have hu : (A.deeper (envOfC "_law_spans" (defScope s__law_spans) s.heap.objs.size f cdv)).units + 64 < cLine := hr.units
  have tk : Takes (cxOf (L2.CX P w) P w K mg base ["_law_taken", "_law_end_here", "_law_top", "_law_lack", "_law_found", "_law_number", "_law_one"] "_law_spans" (defScope s__law_spans) f cdv A outer s H E) (fun c d _ H => E c d H) := takes_of rfl rfl rfl rfl
  have hp := passes_of (X := cxOf (L2.CX P w) P w K mg base ["_law_taken", "_law_end_here", "_law_top", "_law_lack", "_law_found", "_law_number", "_law_one"] "_law_spans" (defScope s__law_spans) f cdv A outer s H E) rfl
  exact dss_cons (ds_set (i := 1) sc.nd rfl (Or.inl rfl) (de_call rfl (ok__law_end T) (hr.mono (by decide)) rfl tk (da_cons (dv 0) (da_nil))))
      (dss_cons (ds_set (i := 2) sc.nd rfl (Or.inl rfl) (de_mxD rfl (cr_maxD rfl hu) (fun _ _ _ _ h => h) rfl T.b_max (by decide +kernel) (de_lcK (own := [("_law_one", 6)]) rfl sc.nd (pi_list (DE.pe (dv 0))) (io_cel _) (blkOk_by (N := ["_law_taken", "_law_end_here", "_law_top", "_law_lack", "_law_found", "_law_number", "_law_one"]) (sc := defScope s__law_spans) (by decide +kernel)) (g_name) (by decide) (fun _ _ _ _ _ => pg_name (i := 6) sc.nd rfl (Or.inl rfl)) (fun _ _ _ _ _ => dts_nil) (fun _ _ _ _ _ => de_meth0 rfl (mo_end T) (hr.mono (by decide)) takes0 (dv 6))) (de_int)))
      (dss_cons (ds_if (dt_cmp op_notN o2_notN (nomark _) (dv 1) (de_non))
      (dss_one (ds_set (i := 2) sc.nd rfl (Or.inl rfl) (dv 1)))
      (dss_nil))
      (dss_cons (ds_setLcG (own := [("_law_number", 5)]) fin_lst (i := 3) rfl sc.nd rfl rfl (sw_true rfl rfl rfl (by decide +kernel)) (pi_range1 rfl T.b_range (DA.pa (da_cons (dv 2) (da_nil)))) (io_rng1 _) (blkOk_by (N := ["_law_taken", "_law_end_here", "_law_top", "_law_lack", "_law_found", "_law_number", "_law_one"]) (sc := defScope s__law_spans) (by decide +kernel)) (g_name) (by decide) (fun _ _ _ _ _ => pg_name (i := 5) sc.nd rfl (Or.inl rfl)) (fun _ _ _ _ _ => dts_one (dt_cmp op_isN o2_isN (nomark _) (de_call rfl (ok__law_byte T) (hr.mono (by decide)) rfl takes0 (da_cons (dv 0) (da_cons (de_str) (da_cons (dv 5) (da_nil))))) (de_non))) (fun _ _ _ _ _ => dv 5))
      (dss_cons (ds_set (i := 4) sc.nd rfl (Or.inl rfl) (de_lstC (da_nil)))
      (dss_cons (ds_for hp rfl (pi_list (DE.pe (dv 3))) (io_list _) (pg_name (i := 5) sc.nd rfl (Or.inl rfl)) (g_name)
      (dss_one (ds_if (dw_pt (dw_and (dt_cmp (op_neD hu) o2_neV (nomark _) (dv 4) (de_lst (da_nil))) (dw_and1 (dt_cmp (op_eqD hu) o2_eqV (nomark _) (de_ix rfl (de_ix rfl (dv 4) (de_neg (de_int))) (de_int)) (dv 5)))))
      (dss_one (ds_setIx (dv 4) (de_neg (de_int)) (de_tup (da_cons (de_ix rfl (de_ix rfl (dv 4) (de_neg (de_int))) (de_int)) (da_cons (de_op op_add5 o2_add (dv 5) (de_int)) (da_nil))))))
      (dss_one (ds_expr (de_bm rfl PySem.F.plainAttrs_list PySem.F.slot_list_append PySem.F.type_list_append mt_append om_append tm_list (dv 4) (da_cons (de_tup (da_cons (dv 5) (da_cons (de_op op_add5 o2_add (dv 5) (de_int)) (da_nil)))) (da_nil))))))))
      (dss_cons (ds_if (dt_cmp op_isN o2_isN (nomark _) (dv 1) (de_non))
      (dss_one (ds_expr (de_bm rfl PySem.F.plainAttrs_list PySem.F.slot_list_append PySem.F.type_list_append mt_append om_append tm_list (dv 4) (da_cons (de_tup (da_cons (dv 2) (da_cons (de_non) (da_nil)))) (da_nil)))))
      (dss_nil))
      (dss_one (ds_ret (de_frz (dv 4))))))))))
theorem ok__law_spans (T : Txt K mg base cls oq tb) : Callee P w ⟨K, T0, cls, oq, tb, w0⟩ mg base 3 "_law_spans" 1 [] F__law_spans := by
  obtain ⟨f, fd, FF, m⟩ := T.d__law_spans
  exact ⟨arity_call, f, fd, ["_law_taken"], [], [], rfl, fn__law_spans T FF, m, FF.kp, FF.binds fun _ _ _ _ _ _ us hl => match us, hl with | [_], _ => rfl, .nil, fun _ => .nil⟩
theorem sc__law_one_more : FnScope ["_law_taken", "_law_piece_here", "_law_rule", "_law_number"] ["_law_taken", "_law_piece_here", "_law_rule"] (defScope s__law_one_more) := ⟨rfl, rfl, rfl, by decide +kernel, rfl, by decide +kernel, by decide +kernel⟩
theorem fn__law_one_more (T : Txt K mg base cls oq tb) {f : Addr} {fd : FuncData} (FF : Fun K "_law_one_more" "_law_one_more" s__law_one_more f fd) : FnOk P w K mg base (L2.CX P w) 4 f fd ["_law_taken", "_law_piece_here", "_law_rule"] (spD ⟨K, T0, cls, oq, tb, w0⟩ 3 F__law_one_more) := by
  have sc := sc__law_one_more
  refine fun_ok (G := ⟨K, T0, cls, oq, tb, w0⟩) (k := 3) FF sc rfl rfl fun cdv A outer s H E hr => ?_
  have hu : (A.deeper (envOfC "_law_one_more" (defScope s__law_one_more) s.heap.objs.size f cdv)).units + 64 < cLine := hr.units
  have tk : Takes (cxOf (L2.CX P w) P w K mg base ["_law_taken", "_law_piece_here", "_law_rule", "_law_number"] "_law_one_more" (defScope s__law_one_more) f cdv A outer s H E) (fun c d _ H => E c d H) := takes_of rfl rfl rfl rfl
  have hp := passes_of (X := cxOf (L2.CX P w) P w K mg base ["_law_taken", "_law_piece_here", "_law_rule", "_law_number"] "_law_one_more" (defScope s__law_one_more) f cdv A outer s H E) rfl
  exact dss_cons (ds_if (dt_val (de_call rfl (ok__law_strange T) (hr.mono (by decide)) rfl tk (da_cons (dv 0) (da_cons (dv 1) (da_nil)))))
      (dss_cons (ds_if (dt_cmp (op_eqD hu) o2_eqV (nomark _) (dv 2) (de_str))
      (dss_one (ds_ret (de_tup (da_cons (de_str) (da_cons (de_fld (k := 5) rfl T.cf rfl (dv 1)) (da_nil))))))
      (dss_nil))
      (dss_one (ds_ret (de_tup (da_cons (de_str) (da_nil))))))
      (dss_nil))
      (dss_cons (ds_if (dw_pt (dw_and (dt_cmp (op_eqD hu) o2_eqV (nomark _) (dv 2) (de_str)) (dw_and1 (dt_cmp op_notN o2_notN (nomark _) (de_call rfl (ok__law_unlike T) (hr.mono (by decide)) rfl tk (da_cons (dv 0) (da_cons (dv 1) (da_nil)))) (de_non)))))
      (dss_one (ds_ret (de_tup (da_cons (de_str) (da_cons (de_call rfl (ok__law_unlike T) (hr.mono (by decide)) rfl tk (da_cons (dv 0) (da_cons (dv 1) (da_nil)))) (da_nil))))))
      (dss_nil))
      (dss_cons (ds_expr (de_bm rfl PySem.F.plainAttrs_list PySem.F.slot_list_append PySem.F.type_list_append mt_append om_append tm_list (dv 0) (da_cons (dv 1) (da_nil))))
      (dss_cons (ds_if (dt_cmp (op_eqD hu) o2_eqV (nomark _) (de_call rfl (ok__law_spans T) (hr.mono (by decide)) rfl tk (da_cons (dv 0) (da_nil))) (de_lst (da_nil)))
      (dss_one (ds_ret (de_tup (da_cons (de_str) (da_cons (de_lc (own := [("_law_number", 3)]) rfl sc.nd (pi_range1 rfl T.b_range (DA.pa (da_cons (de_call rfl (ok__law_end T) (hr.mono (by decide)) rfl tk (da_cons (dv 0) (da_nil))) (da_nil)))) (io_rng1 _) (blkOk_by (N := ["_law_taken", "_law_piece_here", "_law_rule", "_law_number"]) (sc := defScope s__law_one_more) (by decide +kernel)) (g_name) (by decide) (fun _ _ _ _ _ => pg_name (i := 3) sc.nd rfl (Or.inl rfl)) (fun _ _ _ _ _ => dts_nil) (fun _ _ _ _ _ => de_call rfl (ok__law_byte T) (hr.mono (by decide)) rfl takes0 (da_cons (dv 0) (da_cons (dv 2) (da_cons (dv 3) (da_nil)))))) (da_nil))))))
      (dss_nil))
      (dss_one (ds_ret (de_tup (da_cons (de_str) (da_cons (de_call rfl (ok__law_spans T) (hr.mono (by decide)) rfl tk (da_cons (dv 0) (da_nil))) (da_nil)))))))))
theorem ok__law_one_more (T : Txt K mg base cls oq tb) : Callee P w ⟨K, T0, cls, oq, tb, w0⟩ mg base 4 "_law_one_more" 3 [] F__law_one_more := by
  obtain ⟨f, fd, FF, m⟩ := T.d__law_one_more
  exact ⟨arity_call, f, fd, ["_law_taken", "_law_piece_here", "_law_rule"], [], [], rfl, fn__law_one_more T FF, m, FF.kp, FF.binds fun _ _ _ _ _ _ us hl => match us, hl with | [_, _, _], _ => rfl, .nil, fun _ => .nil⟩
theorem sc__law_due : FnScope ["_law_pieces", "_law_rule", "_law_taken", "_law_told_here", "_law_piece_here"] ["_law_pieces", "_law_rule"] (defScope s__law_due) := ⟨rfl, rfl, rfl, by decide +kernel, rfl, by decide +kernel, by decide +kernel⟩
theorem fn__law_due (T : Txt K mg base cls oq tb) {f : Addr} {fd : FuncData} (FF : Fun K "_law_due" "_law_due" s__law_due f fd) : FnOk P w K mg base (L2.CX P w) 5 f fd ["_law_pieces", "_law_rule"] (spD ⟨K, T0, cls, oq, tb, w0⟩ 2 F__law_due) := by
  have sc := sc__law_due
  refine fun_ok (G := ⟨K, T0, cls, oq, tb, w0⟩) (k := 4) FF sc rfl rfl fun cdv A outer s H E hr => ?_
  have hu : (A.deeper (envOfC "_law_due" (defScope s__law_due) s.heap.objs.size f cdv)).units + 64 < cLine := hr.units
  have tk : Takes (cxOf (L2.CX P w) P w K mg base ["_law_pieces", "_law_rule", "_law_taken", "_law_told_here", "_law_piece_here"] "_law_due" (defScope s__law_due) f cdv A outer s H E) (fun c d _ H => E c d H) := takes_of rfl rfl rfl rfl
  have hp := passes_of (X := cxOf (L2.CX P w) P w K mg base ["_law_pieces", "_law_rule", "_law_taken", "_law_told_here", "_law_piece_here"] "_law_due" (defScope s__law_due) f cdv A outer s H E) rfl
  exact dss_cons (ds_set (i := 2) sc.nd rfl (Or.inl rfl) (de_lstC (da_nil)))
      (dss_cons (ds_set (i := 3) sc.nd rfl (Or.inl rfl) (de_non))
      (dss_cons (ds_for hp rfl (pi_list (DE.pe (dv 0))) (io_list _) (pg_name (i := 4) sc.nd rfl (Or.inl rfl)) (g_name)
      (dss_cons (ds_set (i := 3) sc.nd rfl (Or.inl rfl) (de_call rfl (ok__law_one_more T) (hr.mono (by decide)) rfl tk (da_cons (dv 2) (da_cons (dv 4) (da_cons (dv 1) (da_nil))))))
      (dss_one (ds_if (dt_cmp op_in2 o2_in rfl (de_ix rfl (dv 3) (de_int)) (de_tup (da_cons (de_str) (da_cons (de_str) (da_nil)))))
      (dss_one (ds_ret (dv 3)))
      (dss_nil)))))
      (dss_one (ds_ret (de_tup (da_cons (de_str) (da_cons (de_call rfl (ok__law_spans T) (hr.mono (by decide)) rfl tk (da_cons (dv 2) (da_nil))) (da_nil))))))))
theorem ok__law_due (T : Txt K mg base cls oq tb) : Callee P w ⟨K, T0, cls, oq, tb, w0⟩ mg base 5 "_law_due" 2 [] F__law_due := by
  obtain ⟨f, fd, FF, m⟩ := T.d__law_due
  exact ⟨arity_call, f, fd, ["_law_pieces", "_law_rule"], [], [], rfl, fn__law_due T FF, m, FF.kp, FF.binds fun _ _ _ _ _ _ us hl => match us, hl with | [_, _], _ => rfl, .nil, fun _ => .nil⟩
theorem sc_Room_let_go : FnScope ["self", "key", "reason"] ["self", "key", "reason"] (defScope s_Room_let_go) := ⟨rfl, rfl, rfl, by decide +kernel, rfl, by decide +kernel, by decide +kernel⟩
theorem fn_Room_let_go (T : Txt K mg base cls oq tb) {f : Addr} {fd : FuncData} (FF : Fun K "let_go" "Room.let_go" s_Room_let_go f fd) : FnOk P w K mg base (L2.CX P w) 1 f fd ["self", "key", "reason"] (spD ⟨K, T0, cls, oq, tb, w0⟩ 3 F_Room_let_go) := by
  have sc := sc_Room_let_go
  refine fun_ok (G := ⟨K, T0, cls, oq, tb, w0⟩) (k := 0) FF sc rfl rfl fun cdv A outer s H E hr => ?_
  have hu : (A.deeper (envOfC "Room.let_go" (defScope s_Room_let_go) s.heap.objs.size f cdv)).units + 64 < cLine := hr.units
  have tk : Takes (cxOf (L2.CX P w) P w K mg base ["self", "key", "reason"] "Room.let_go" (defScope s_Room_let_go) f cdv A outer s H E) (fun c d _ H => E c d H) := takes_of rfl rfl rfl rfl
  have hp := passes_of (X := cxOf (L2.CX P w) P w K mg base ["self", "key", "reason"] "Room.let_go" (defScope s_Room_let_go) f cdv A outer s H E) rfl
  exact dss_cons (ds_expr (de_bm rfl PySem.F.plainAttrs_dict PySem.F.slot_dict_pop PySem.F.type_dict_pop (L2.DX.mt_popT (Nat.lt_of_le_of_lt (Nat.add_le_add_left (by decide : 1 ≤ 64) _) hu)) om_popT tm_dictT (de_fld (k := 18) rfl T.cf rfl (dv 0)) (da_cons (dv 1) (da_cons (de_non) (da_nil)))))
      (dss_cons (ds_expr (de_bm rfl PySem.F.plainAttrs_dict PySem.F.slot_dict_pop PySem.F.type_dict_pop (L2.DX.mt_popT (Nat.lt_of_le_of_lt (Nat.add_le_add_left (by decide : 1 ≤ 64) _) hu)) om_popT tm_dictT (de_fld (k := 19) rfl T.cf rfl (dv 0)) (da_cons (dv 1) (da_cons (de_non) (da_nil)))))
      (dss_one (ds_ret (de_tup (da_cons (de_str) (da_cons (dv 1) (da_cons (dv 2) (da_nil))))))))
theorem mo_let_go (T : Txt K mg base cls oq tb) : MethOk P w ⟨K, T0, cls, oq, tb, w0⟩ mg base 1 "let_go" M_let_go := ⟨fun c np F h => by
  unfold M_let_go at h
  split at h
  · cases h
    obtain ⟨f, fd, FF, mm⟩ := T.m_Room_let_go
    exact meth_ok T.cf (by show (8 : Nat) < T0.ncl; decide) (by show _ ∉ (T0.fl 8).map T0.nm; decide) arity_call (ps := ["self", "key", "reason"]) rfl (fn_Room_let_go T FF) mm (FF.binds fun _ _ _ _ _ _ us hl => match us, hl with | [_, _, _], _ => rfl)
  · cases h⟩
theorem sc_Room_waits_ended : FnScope ["self", "over", "key", "since"] ["self"] (defScope s_Room_waits_ended) := ⟨rfl, rfl, rfl, by decide +kernel, rfl, by decide +kernel, by decide +kernel⟩
theorem fn_Room_waits_ended (T : Txt K mg base cls oq tb) {f : Addr} {fd : FuncData} (FF : Fun K "waits_ended" "Room.waits_ended" s_Room_waits_ended f fd) : FnOk P w K mg base (L2.CX P w) 2 f fd ["self"] (spD ⟨K, T0, cls, oq, tb, w0⟩ 1 F_Room_waits_ended) := by
  have sc := sc_Room_waits_ended
  refine fun_ok (G := ⟨K, T0, cls, oq, tb, w0⟩) (k := 1) FF sc rfl rfl fun cdv A outer s H E hr => ?_
  have hu : (A.deeper (envOfC "Room.waits_ended" (defScope s_Room_waits_ended) s.heap.objs.size f cdv)).units + 64 < cLine := hr.units
  have tk : Takes (cxOf (L2.CX P w) P w K mg base ["self", "over", "key", "since"] "Room.waits_ended" (defScope s_Room_waits_ended) f cdv A outer s H E) (fun c d _ H => E c d H) := takes_of rfl rfl rfl rfl
  have hp := passes_of (X := cxOf (L2.CX P w) P w K mg base ["self", "over", "key", "since"] "Room.waits_ended" (defScope s_Room_waits_ended) f cdv A outer s H E) rfl
  exact dss_cons (ds_setLcT .items (own := [("key", 2), ("since", 3)]) fin_lst (i := 1) (pi_itemsT (DE.pe (de_fld (k := 19) rfl T.cf rfl (dv 0)))) rfl sc.nd rfl rfl (sw_true rfl rfl rfl (by decide +kernel)) (blkOk_by (N := ["self", "over", "key", "since"]) (sc := defScope s_Room_waits_ended) (by decide +kernel)) (g_tup (g_cons (g_name) (g_cons (g_name) (g_nil)))) (by decide) (fun _ _ _ _ _ => pg_tup rfl (pgs_cons (pg_name (i := 2) sc.nd rfl (Or.inl rfl)) (pgs_cons (pg_name (i := 3) sc.nd rfl (Or.inl rfl)) (pgs_nil)))) (fun _ _ _ _ _ => dts_one (dt_cmp op_le o2_le (nomark _) (de_op op_add5 o2_add (dv 3) (de_fld (k := 13) rfl T.cf rfl (dv 0))) (de_fld (k := 17) rfl T.cf rfl (dv 0)))) (fun _ _ _ _ _ => de_tup (da_cons (dv 3) (da_cons (dv 2) (da_nil)))))
      (dss_one (ds_ret (de_lc (own := [("since", 3), ("key", 2)]) rfl sc.nd (pi_list (DE.pe (de_callB (cr_sortedD hu) oa_sortT rfl T.b_sorted (by decide +kernel) (da_cons (dv 1) (da_nil))))) (io_list _) (blkOk_by (N := ["self", "over", "key", "since"]) (sc := defScope s_Room_waits_ended) (by decide +kernel)) (g_tup (g_cons (g_name) (g_cons (g_name) (g_nil)))) (by decide) (fun _ _ _ _ _ => pg_tup rfl (pgs_cons (pg_name (i := 3) sc.nd rfl (Or.inl rfl)) (pgs_cons (pg_name (i := 2) sc.nd rfl (Or.inl rfl)) (pgs_nil)))) (fun _ _ _ _ _ => dts_nil) (fun _ _ _ _ _ => de_meth rfl (mo_let_go T) (hr.mono (by decide)) takes0 (dv 0) (da_cons (dv 2) (da_cons (de_str) (da_nil)))))))
theorem mo_waits_ended (T : Txt K mg base cls oq tb) : MethOk P w ⟨K, T0, cls, oq, tb, w0⟩ mg base 2 "waits_ended" M_waits_ended := ⟨fun c np F h => by
  unfold M_waits_ended at h
  split at h
  · cases h
    obtain ⟨f, fd, FF, mm⟩ := T.m_Room_waits_ended
    exact meth_ok T.cf (by show (8 : Nat) < T0.ncl; decide) (by show _ ∉ (T0.fl 8).map T0.nm; decide) arity_call (ps := ["self"]) rfl (fn_Room_waits_ended T FF) mm (FF.binds fun _ _ _ _ _ _ us hl => match us, hl with | [_], _ => rfl)
  · cases h⟩
theorem sc_Room_tick : FnScope ["self", "time"] ["self", "time"] (defScope s_Room_tick) := ⟨rfl, rfl, rfl, by decide +kernel, rfl, by decide +kernel, by decide +kernel⟩
theorem fn_Room_tick (T : Txt K mg base cls oq tb) {f : Addr} {fd : FuncData} (FF : Fun K "tick" "Room.tick" s_Room_tick f fd) : FnOk P w K mg base (L2.CX P w) 3 f fd ["self", "time"] (spD ⟨K, T0, cls, oq, tb, w0⟩ 2 F_Room_tick) := by
  have sc := sc_Room_tick
  refine fun_ok (G := ⟨K, T0, cls, oq, tb, w0⟩) (k := 2) FF sc rfl rfl fun cdv A outer s H E hr => ?_
  have hu : (A.deeper (envOfC "Room.tick" (defScope s_Room_tick) s.heap.objs.size f cdv)).units + 64 < cLine := hr.units
  have tk : Takes (cxOf (L2.CX P w) P w K mg base ["self", "time"] "Room.tick" (defScope s_Room_tick) f cdv A outer s H E) (fun c d _ H => E c d H) := takes_of rfl rfl rfl rfl
  have hp := passes_of (X := cxOf (L2.CX P w) P w K mg base ["self", "time"] "Room.tick" (defScope s_Room_tick) f cdv A outer s H E) rfl
  exact dss_cons (ds_if (dt_not (dt_val (de_call rfl (ok_is_number T) (hr.mono (by decide)) rfl tk (da_cons (dv 1) (da_cons (de_fld (k := 17) rfl T.cf rfl (dv 0)) (da_nil))))))
      (dss_one (ds_raise rfl rfl tk T.ra_NoTime T.mc_NoTime rfl))
      (dss_nil))
      (dss_cons (ds_fld (k := 17) rfl T.cf rfl (dv 0) (dv 1))
      (dss_one (ds_ret (de_meth0 rfl (mo_waits_ended T) (hr.mono (by decide)) tk (dv 0)))))
theorem sc_Heap_would_be_whole : FnScope ["self", "piece", "end"] ["self", "piece"] (defScope s_Heap_would_be_whole) := ⟨rfl, rfl, rfl, by decide +kernel, rfl, by decide +kernel, by decide +kernel⟩
theorem fn_Heap_would_be_whole (T : Txt K mg base cls oq tb) {f : Addr} {fd : FuncData} (FF : Fun K "would_be_whole" "Heap.would_be_whole" s_Heap_would_be_whole f fd) : FnOk P w K mg base (L2.CX P w) 3 f fd ["self", "piece"] (spD ⟨K, T0, cls, oq, tb, w0⟩ 2 F_Heap_would_be_whole) := by
  have sc := sc_Heap_would_be_whole
  refine fun_ok (G := ⟨K, T0, cls, oq, tb, w0⟩) (k := 2) FF sc rfl rfl fun cdv A outer s H E hr => ?_
  have hu : (A.deeper (envOfC "Heap.would_be_whole" (defScope s_Heap_would_be_whole) s.heap.objs.size f cdv)).units + 64 < cLine := hr.units
  have tk : Takes (cxOf (L2.CX P w) P w K mg base ["self", "piece", "end"] "Heap.would_be_whole" (defScope s_Heap_would_be_whole) f cdv A outer s H E) (fun c d _ H => E c d H) := takes_of rfl rfl rfl rfl
  have hp := passes_of (X := cxOf (L2.CX P w) P w K mg base ["self", "piece", "end"] "Heap.would_be_whole" (defScope s_Heap_would_be_whole) f cdv A outer s H E) rfl
  exact dss_cons (ds_set (i := 2) sc.nd rfl (Or.inl rfl) (de_fld (k := 11) rfl T.cf rfl (dv 0)))
      (dss_cons (ds_if (dt_not (dt_val (de_fld (k := 6) rfl T.cf rfl (dv 1))))
      (dss_one (ds_set (i := 2) sc.nd rfl (Or.inl rfl) (de_meth0 rfl (mo_end T) (hr.mono (by decide)) tk (dv 1))))
      (dss_nil))
      (dss_one (ds_ret (de_and (de_cmp op_notN o2_notN (nomark _) (dv 2) (de_non)) (de_one (de_cmp (op_eqD hu) o2_eqV (nomark _) (de_call rfl (ok_lacking T) (hr.mono (by decide)) rfl tk (da_cons (de_meth rfl (mo_cover_with T) (hr.mono (by decide)) tk (dv 0) (da_cons (dv 1) (da_nil))) (da_cons (dv 2) (da_nil)))) (de_lst (da_nil))))))))
theorem sc_Letter_init : FnScope ["self", "number", "sender", "goal", "body", "keep"] ["self", "number", "sender", "goal", "body", "keep"] (defScope s_Letter_init) := ⟨rfl, rfl, rfl, by decide +kernel, rfl, by decide +kernel, by decide +kernel⟩
theorem fn_Letter_init (T : Txt K mg base cls oq tb) {f : Addr} {fd : FuncData} (FF : FunD K "__init__" "Letter.__init__" (defArgs s_Letter_init) (defBody s_Letter_init) (defScope s_Letter_init) [.bl false] [] f fd) : FnOk P w K mg base (L2.CX P w) 4 f fd ["self", "number", "sender", "goal", "body", "keep"] (spD ⟨K, T0, cls, oq, tb, w0⟩ 6 F_Letter_init) := by
  have sc := sc_Letter_init
  refine fun_okD (G := ⟨K, T0, cls, oq, tb, w0⟩) (k := 3) FF sc rfl rfl fun cdv A outer s H E hr => ?_
  have hu : (A.deeper (envOfC "Letter.__init__" (defScope s_Letter_init) s.heap.objs.size f cdv)).units + 64 < cLine := hr.units
  have tk : Takes (cxOf (L2.CX P w) P w K mg base ["self", "number", "sender", "goal", "body", "keep"] "Letter.__init__" (defScope s_Letter_init) f cdv A outer s H E) (fun c d _ H => E c d H) := takes_of rfl rfl rfl rfl
  have hp := passes_of (X := cxOf (L2.CX P w) P w K mg base ["self", "number", "sender", "goal", "body", "keep"] "Letter.__init__" (defScope s_Letter_init) f cdv A outer s H E) rfl
  exact dss_cons (ds_if (dw_pt (dw_or (dt_not (dt_val (de_call rfl (ok_is_key T) (hr.mono (by decide)) rfl tk (da_cons (de_tup (da_cons (dv 1) (da_cons (dv 2) (da_cons (dv 3) (da_nil))))) (da_nil))))) (dw_or (dt_not (dt_val (de_call rfl (ok_is_body T) (hr.mono (by decide)) rfl tk (da_cons (dv 4) (da_nil))))) (dw_or1 (dt_not (dt_val (de_isi (t := 1) rfl T.cf T.kf (.ty _) (pe_bltn rfl T.b_bool (by decide +kernel) rfl) (dv 5) rfl T.b_isinstance)))))))
      (dss_one (ds_raise rfl rfl tk T.ra_NoLetter T.mc_NoLetter rfl))
      (dss_nil))
      (dss_one (ds_expr (de_clsm rfl (cm_Keyed_init T) (hr.mono (by decide)) rfl tk (da_cons (dv 0) (da_cons (dv 1) (da_cons (dv 2) (da_cons (dv 3) (da_cons (dv 4) (da_cons (dv 5) (da_nil))))))))))
theorem mk_Letter_1 (T : Txt K mg base cls oq tb) : MakeOk P w ⟨K, T0, cls, oq, tb, w0⟩ mg base 4 "Letter" 1 6 [.bl false] F_Letter_init := by
  obtain ⟨f, fd, FF, m, M⟩ := T.i_Letter
  obtain ⟨ds, hv, hb⟩ := FunD.binds1 FF (ps := ["self", "number", "sender", "goal", "body", "keep"]) 5 0 (by simp) (by simp) fun _ _ _ _ _ _ _ us its h1 h2 => match us, its, h1, h2 with | [_, _, _, _, _], [_], _, _ => ⟨_, rfl, rfl⟩
  exact ⟨arity_call, f, fd, ["self", "number", "sender", "goal", "body", "keep"], ds, _, rfl, fn_Letter_init T FF, m, M, hb, hv, fun _ => .cons .bl (.nil)⟩
theorem sc_size_of : FnScope ["cover", "low", "high"] ["cover"] (defScope s_size_of) := ⟨rfl, rfl, rfl, by decide +kernel, rfl, by decide +kernel, by decide +kernel⟩
theorem fn_size_of (T : Txt K mg base cls oq tb) {f : Addr} {fd : FuncData} (FF : Fun K "size_of" "size_of" s_size_of f fd) : FnOk P w K mg base (L2.CX P w) 1 f fd ["cover"] (spD ⟨K, T0, cls, oq, tb, w0⟩ 1 F_size_of) := by
  have sc := sc_size_of
  refine fun_ok (G := ⟨K, T0, cls, oq, tb, w0⟩) (k := 0) FF sc rfl rfl fun cdv A outer s H E hr => ?_
  have hu : (A.deeper (envOfC "size_of" (defScope s_size_of) s.heap.objs.size f cdv)).units + 64 < cLine := hr.units
  have tk : Takes (cxOf (L2.CX P w) P w K mg base ["cover", "low", "high"] "size_of" (defScope s_size_of) f cdv A outer s H E) (fun c d _ H => E c d H) := takes_of rfl rfl rfl rfl
  have hp := passes_of (X := cxOf (L2.CX P w) P w K mg base ["cover", "low", "high"] "size_of" (defScope s_size_of) f cdv A outer s H E) rfl
  exact dss_one (ds_ret (de_callB (cr_sum rfl) oa_sum rfl T.b_sum (by decide +kernel) (da_cons (de_lc (own := [("low", 1), ("high", 2)]) rfl sc.nd (pi_list (DE.pe (dv 0))) (io_list _) (blkOk_by (N := ["cover", "low", "high"]) (sc := defScope s_size_of) (by decide +kernel)) (g_tup (g_cons (g_name) (g_cons (g_name) (g_nil)))) (by decide) (fun _ _ _ _ _ => pg_tup rfl (pgs_cons (pg_name (i := 1) sc.nd rfl (Or.inl rfl)) (pgs_cons (pg_name (i := 2) sc.nd rfl (Or.inl rfl)) (pgs_nil)))) (fun _ _ _ _ _ => dts_nil) (fun _ _ _ _ _ => de_op op_sub o2_sub (dv 2) (dv 1))) (da_nil))))
theorem ok_size_of (T : Txt K mg base cls oq tb) : Callee P w ⟨K, T0, cls, oq, tb, w0⟩ mg base 1 "size_of" 1 [] F_size_of := by
  obtain ⟨f, fd, FF, m⟩ := T.d_size_of
  exact ⟨arity_call, f, fd, ["cover"], [], [], rfl, fn_size_of T FF, m, FF.kp, FF.binds fun _ _ _ _ _ _ us hl => match us, hl with | [_], _ => rfl, .nil, fun _ => .nil⟩
theorem sc_Heap_grown_with : FnScope ["self", "piece"] ["self", "piece"] (defScope s_Heap_grown_with) := ⟨rfl, rfl, rfl, by decide +kernel, rfl, by decide +kernel, by decide +kernel⟩
theorem fn_Heap_grown_with (T : Txt K mg base cls oq tb) {f : Addr} {fd : FuncData} (FF : Fun K "grown_with" "Heap.grown_with" s_Heap_grown_with f fd) : FnOk P w K mg base (L2.CX P w) 3 f fd ["self", "piece"] (spD ⟨K, T0, cls, oq, tb, w0⟩ 2 F_Heap_grown_with) := by
  have sc := sc_Heap_grown_with
  refine fun_ok (G := ⟨K, T0, cls, oq, tb, w0⟩) (k := 2) FF sc rfl rfl fun cdv A outer s H E hr => ?_
  have hu : (A.deeper (envOfC "Heap.grown_with" (defScope s_Heap_grown_with) s.heap.objs.size f cdv)).units + 64 < cLine := hr.units
  have tk : Takes (cxOf (L2.CX P w) P w K mg base ["self", "piece"] "Heap.grown_with" (defScope s_Heap_grown_with) f cdv A outer s H E) (fun c d _ H => E c d H) := takes_of rfl rfl rfl rfl
  have hp := passes_of (X := cxOf (L2.CX P w) P w K mg base ["self", "piece"] "Heap.grown_with" (defScope s_Heap_grown_with) f cdv A outer s H E) rfl
  exact dss_one (ds_ret (de_op op_sub o2_sub (de_call rfl (ok_size_of T) (hr.mono (by decide)) rfl tk (da_cons (de_meth rfl (mo_cover_with T) (hr.mono (by decide)) tk (dv 0) (da_cons (dv 1) (da_nil))) (da_nil))) (de_call rfl (ok_size_of T) (hr.mono (by decide)) rfl tk (da_cons (de_fld (k := 10) rfl T.cf rfl (dv 0)) (da_nil)))))
theorem sc_Heap_size : FnScope ["self"] ["self"] (defScope s_Heap_size) := ⟨rfl, rfl, rfl, by decide +kernel, rfl, by decide +kernel, by decide +kernel⟩
theorem fn_Heap_size (T : Txt K mg base cls oq tb) {f : Addr} {fd : FuncData} (FF : Fun K "size" "Heap.size" s_Heap_size f fd) : FnOk P w K mg base (L2.CX P w) 2 f fd ["self"] (spD ⟨K, T0, cls, oq, tb, w0⟩ 1 F_Heap_size) := by
  have sc := sc_Heap_size
  refine fun_ok (G := ⟨K, T0, cls, oq, tb, w0⟩) (k := 1) FF sc rfl rfl fun cdv A outer s H E hr => ?_
  have hu : (A.deeper (envOfC "Heap.size" (defScope s_Heap_size) s.heap.objs.size f cdv)).units + 64 < cLine := hr.units
  have tk : Takes (cxOf (L2.CX P w) P w K mg base ["self"] "Heap.size" (defScope s_Heap_size) f cdv A outer s H E) (fun c d _ H => E c d H) := takes_of rfl rfl rfl rfl
  have hp := passes_of (X := cxOf (L2.CX P w) P w K mg base ["self"] "Heap.size" (defScope s_Heap_size) f cdv A outer s H E) rfl
  exact dss_one (ds_ret (de_call rfl (ok_size_of T) (hr.mono (by decide)) rfl tk (da_cons (de_fld (k := 10) rfl T.cf rfl (dv 0)) (da_nil))))
theorem mo_size (T : Txt K mg base cls oq tb) : MethOk P w ⟨K, T0, cls, oq, tb, w0⟩ mg base 2 "size" M_size := ⟨fun c np F h => by
  unfold M_size at h
  split at h
  · cases h
    obtain ⟨f, fd, FF, mm⟩ := T.m_Heap_size
    exact meth_ok T.cf (by show (7 : Nat) < T0.ncl; decide) (by show _ ∉ (T0.fl 7).map T0.nm; decide) arity_call (ps := ["self"]) rfl (fn_Heap_size T FF) mm (FF.binds fun _ _ _ _ _ _ us hl => match us, hl with | [_], _ => rfl)
  · cases h⟩
theorem sc_Room_bytes_kept : FnScope ["self", "heap"] ["self"] (defScope s_Room_bytes_kept) := ⟨rfl, rfl, rfl, by decide +kernel, rfl, by decide +kernel, by decide +kernel⟩
theorem fn_Room_bytes_kept (T : Txt K mg base cls oq tb) {f : Addr} {fd : FuncData} (FF : Fun K "bytes_kept" "Room.bytes_kept" s_Room_bytes_kept f fd) : FnOk P w K mg base (L2.CX P w) 3 f fd ["self"] (spD ⟨K, T0, cls, oq, tb, w0⟩ 1 F_Room_bytes_kept) := by
  have sc := sc_Room_bytes_kept
  refine fun_ok (G := ⟨K, T0, cls, oq, tb, w0⟩) (k := 2) FF sc rfl rfl fun cdv A outer s H E hr => ?_
  have hu : (A.deeper (envOfC "Room.bytes_kept" (defScope s_Room_bytes_kept) s.heap.objs.size f cdv)).units + 64 < cLine := hr.units
  have tk : Takes (cxOf (L2.CX P w) P w K mg base ["self", "heap"] "Room.bytes_kept" (defScope s_Room_bytes_kept) f cdv A outer s H E) (fun c d _ H => E c d H) := takes_of rfl rfl rfl rfl
  have hp := passes_of (X := cxOf (L2.CX P w) P w K mg base ["self", "heap"] "Room.bytes_kept" (defScope s_Room_bytes_kept) f cdv A outer s H E) rfl
  exact dss_one (ds_ret (de_callB (cr_sum rfl) oa_sum rfl T.b_sum (by decide +kernel) (da_cons (de_lcT .vals (own := [("heap", 1)]) (pi_valuesT (DE.pe (de_fld (k := 18) rfl T.cf rfl (dv 0)))) rfl sc.nd (blkOk_by (N := ["self", "heap"]) (sc := defScope s_Room_bytes_kept) (by decide +kernel)) (g_name) (by decide) (fun _ _ _ _ _ => pg_name (i := 1) sc.nd rfl (Or.inl rfl)) (fun _ _ _ _ _ => dts_nil) (fun _ _ _ _ _ => de_meth0 rfl (mo_size T) (hr.mono (by decide)) takes0 (dv 1))) (da_nil))))
theorem sc_Room_first_out : FnScope ["self", "own", "others", "key"] ["self", "own"] (defScope s_Room_first_out) := ⟨rfl, rfl, rfl, by decide +kernel, rfl, by decide +kernel, by decide +kernel⟩
theorem fn_Room_first_out (T : Txt K mg base cls oq tb) {f : Addr} {fd : FuncData} (FF : Fun K "first_out" "Room.first_out" s_Room_first_out f fd) : FnOk P w K mg base (L2.CX P w) 3 f fd ["self", "own"] (spD ⟨K, T0, cls, oq, tb, w0⟩ 2 F_Room_first_out) := by
  have sc := sc_Room_first_out
  refine fun_ok (G := ⟨K, T0, cls, oq, tb, w0⟩) (k := 2) FF sc rfl rfl fun cdv A outer s H E hr => ?_
  have hu : (A.deeper (envOfC "Room.first_out" (defScope s_Room_first_out) s.heap.objs.size f cdv)).units + 64 < cLine := hr.units
  have tk : Takes (cxOf (L2.CX P w) P w K mg base ["self", "own", "others", "key"] "Room.first_out" (defScope s_Room_first_out) f cdv A outer s H E) (fun c d _ H => E c d H) := takes_of rfl rfl rfl rfl
  have hp := passes_of (X := cxOf (L2.CX P w) P w K mg base ["self", "own", "others", "key"] "Room.first_out" (defScope s_Room_first_out) f cdv A outer s H E) rfl
  exact dss_cons (ds_setLcT .keys (own := [("key", 3)]) fin_lst (i := 2) (pi_keysT (de_fld (k := 18) rfl T.cf rfl (dv 0))) rfl sc.nd rfl rfl (sw_true rfl rfl rfl (by decide +kernel)) (blkOk_by (N := ["self", "own", "others", "key"]) (sc := defScope s_Room_first_out) (by decide +kernel)) (g_name) (by decide) (fun _ _ _ _ _ => pg_name (i := 3) sc.nd rfl (Or.inl rfl)) (fun _ _ _ _ _ => dts_one (dt_cmp (op_neD hu) o2_neV (nomark _) (dv 3) (dv 1))) (fun _ _ _ _ _ => dv 3))
      (dss_cons (ds_if (dt_cmp (op_eqD hu) o2_eqV (nomark _) (de_fld (k := 15) rfl T.cf rfl (dv 0)) (de_str))
      (dss_one (ds_ret (de_ix rfl (de_callB (cr_minD hu rfl) oa_minT rfl T.b_min (by decide +kernel) (da_cons (de_lc (own := [("key", 3)]) rfl sc.nd (pi_list (DE.pe (dv 2))) (io_list _) (blkOk_by (N := ["self", "own", "others", "key"]) (sc := defScope s_Room_first_out) (by decide +kernel)) (g_name) (by decide) (fun _ _ _ _ _ => pg_name (i := 3) sc.nd rfl (Or.inl rfl)) (fun _ _ _ _ _ => dts_nil) (fun _ _ _ _ _ => de_tup (da_cons (de_dget hu (de_fld (k := 19) rfl T.cf rfl (dv 0)) (dv 3)) (da_cons (dv 3) (da_nil))))) (da_nil))) (de_int))))
      (dss_nil))
      (dss_one (ds_ret (de_ix rfl (de_callB (cr_minD hu rfl) oa_minT rfl T.b_min (by decide +kernel) (da_cons (de_lc (own := [("key", 3)]) rfl sc.nd (pi_list (DE.pe (dv 2))) (io_list _) (blkOk_by (N := ["self", "own", "others", "key"]) (sc := defScope s_Room_first_out) (by decide +kernel)) (g_name) (by decide) (fun _ _ _ _ _ => pg_name (i := 3) sc.nd rfl (Or.inl rfl)) (fun _ _ _ _ _ => dts_nil) (fun _ _ _ _ _ => de_tup (da_cons (de_op op_sub o2_sub (de_int) (de_meth0 rfl (mo_size T) (hr.mono (by decide)) takes0 (de_dget hu (de_fld (k := 18) rfl T.cf rfl (dv 0)) (dv 3)))) (da_cons (dv 3) (da_nil))))) (da_nil))) (de_int)))))
theorem mo_grown_with (T : Txt K mg base cls oq tb) : MethOk P w ⟨K, T0, cls, oq, tb, w0⟩ mg base 3 "grown_with" M_grown_with := ⟨fun c np F h => by
  unfold M_grown_with at h
  split at h
  · cases h
    obtain ⟨f, fd, FF, mm⟩ := T.m_Heap_grown_with
    exact meth_ok T.cf (by show (7 : Nat) < T0.ncl; decide) (by show _ ∉ (T0.fl 7).map T0.nm; decide) arity_call (ps := ["self", "piece"]) rfl (fn_Heap_grown_with T FF) mm (FF.binds fun _ _ _ _ _ _ us hl => match us, hl with | [_, _], _ => rfl)
  · cases h⟩
theorem mo_bytes_kept (T : Txt K mg base cls oq tb) : MethOk P w ⟨K, T0, cls, oq, tb, w0⟩ mg base 3 "bytes_kept" M_bytes_kept := ⟨fun c np F h => by
  unfold M_bytes_kept at h
  split at h
  · cases h
    obtain ⟨f, fd, FF, mm⟩ := T.m_Room_bytes_kept
    exact meth_ok T.cf (by show (8 : Nat) < T0.ncl; decide) (by show _ ∉ (T0.fl 8).map T0.nm; decide) arity_call (ps := ["self"]) rfl (fn_Room_bytes_kept T FF) mm (FF.binds fun _ _ _ _ _ _ us hl => match us, hl with | [_], _ => rfl)
  · cases h⟩
theorem mo_first_out (T : Txt K mg base cls oq tb) : MethOk P w ⟨K, T0, cls, oq, tb, w0⟩ mg base 3 "first_out" M_first_out := ⟨fun c np F h => by
  unfold M_first_out at h
  split at h
  · cases h
    obtain ⟨f, fd, FF, mm⟩ := T.m_Room_first_out
    exact meth_ok T.cf (by show (8 : Nat) < T0.ncl; decide) (by show _ ∉ (T0.fl 8).map T0.nm; decide) arity_call (ps := ["self", "own"]) rfl (fn_Room_first_out T FF) mm (FF.binds fun _ _ _ _ _ _ us hl => match us, hl with | [_, _], _ => rfl)
  · cases h⟩
theorem sc_Room_made_room : FnScope ["self", "piece", "heap", "key", "events", "grown"] ["self", "piece", "heap"] (defScope s_Room_made_room) := ⟨rfl, rfl, rfl, by decide +kernel, rfl, by decide +kernel, by decide +kernel⟩
theorem fn_Room_made_room (T : Txt K mg base cls oq tb) {f : Addr} {fd : FuncData} (FF : Fun K "made_room" "Room.made_room" s_Room_made_room f fd) : FnOk P w K mg base (L2.CX P w) 4 f fd ["self", "piece", "heap"] (spD ⟨K, T0, cls, oq, tb, w0⟩ 3 F_Room_made_room) := by
  have sc := sc_Room_made_room
  refine fun_ok (G := ⟨K, T0, cls, oq, tb, w0⟩) (k := 3) FF sc rfl rfl fun cdv A outer s H E hr => ?_
  have hu : (A.deeper (envOfC "Room.made_room" (defScope s_Room_made_room) s.heap.objs.size f cdv)).units + 64 < cLine := hr.units
  have tk : Takes (cxOf (L2.CX P w) P w K mg base ["self", "piece", "heap", "key", "events", "grown"] "Room.made_room" (defScope s_Room_made_room) f cdv A outer s H E) (fun c d _ H => E c d H) := takes_of rfl rfl rfl rfl
  have hp := passes_of (X := cxOf (L2.CX P w) P w K mg base ["self", "piece", "heap", "key", "events", "grown"] "Room.made_room" (defScope s_Room_made_room) f cdv A outer s H E) rfl
  exact dss_cons (ds_set (i := 3) sc.nd rfl (Or.inl rfl) (de_meth0 rfl (mo_key T) (hr.mono (by decide)) tk (dv 1)))
      (dss_cons (ds_set (i := 4) sc.nd rfl (Or.inl rfl) (de_lstC (da_nil)))
      (dss_cons (ds_set (i := 5) sc.nd rfl (Or.inl rfl) (de_meth rfl (mo_grown_with T) (hr.mono (by decide)) tk (dv 2) (da_cons (dv 1) (da_nil))))
      (dss_cons (ds_if (dw_pt (dw_or (dt_cmp op_gt o2_gt (nomark _) (de_op op_add5 o2_add (de_meth0 rfl (mo_size T) (hr.mono (by decide)) tk (dv 2)) (dv 5)) (de_fld (k := 14) rfl T.cf rfl (dv 0))) (dw_or1 (dw_pt (dw_and (dt_cmp (op_eqD hu) o2_eqV (nomark _) (de_fld (k := 15) rfl T.cf rfl (dv 0)) (de_str)) (dw_and1 (dt_cmp op_gt o2_gt (nomark _) (de_op op_add5 o2_add (de_meth0 rfl (mo_bytes_kept T) (hr.mono (by decide)) tk (dv 0)) (dv 5)) (de_fld (k := 14) rfl T.cf rfl (dv 0)))))))))
      (dss_one (ds_ret (de_lst (da_cons (de_meth rfl (mo_let_go T) (hr.mono (by decide)) tk (dv 0) (da_cons (dv 3) (da_cons (de_str) (da_nil)))) (da_nil)))))
      (dss_nil))
      (dss_cons (ds_while hp (dt_cmp op_gt o2_gt (nomark _) (de_op op_add5 o2_add (de_meth0 rfl (mo_bytes_kept T) (hr.mono (by decide)) tk (dv 0)) (dv 5)) (de_fld (k := 14) rfl T.cf rfl (dv 0))) (dss_one (ds_expr (de_bm rfl PySem.F.plainAttrs_list PySem.F.slot_list_append PySem.F.type_list_append mt_append om_append tm_list (dv 4) (da_cons (de_meth rfl (mo_let_go T) (hr.mono (by decide)) tk (dv 0) (da_cons (de_meth rfl (mo_first_out T) (hr.mono (by decide)) tk (dv 0) (da_cons (dv 3) (da_nil))) (da_cons (de_str) (da_nil)))) (da_nil))))))
      (dss_cons (ds_expr (de_meth rfl (mo_take T) (hr.mono (by decide)) tk (dv 2) (da_cons (dv 1) (da_nil))))
      (dss_cons (ds_if (dt_dnin hu (dv 3) (de_fld (k := 18) rfl T.cf rfl (dv 0)))
      (dss_cons (ds_dput hu (de_fld (k := 18) rfl T.cf rfl (dv 0)) (dv 3) (dv 2))
      (dss_one (ds_dput hu (de_fld (k := 19) rfl T.cf rfl (dv 0)) (dv 3) (de_fld (k := 17) rfl T.cf rfl (dv 0)))))
      (dss_nil))
      (dss_one (ds_ret (de_frz (dv 4))))))))))
theorem mo_would_be_whole (T : Txt K mg base cls oq tb) : MethOk P w ⟨K, T0, cls, oq, tb, w0⟩ mg base 3 "would_be_whole" M_would_be_whole := ⟨fun c np F h => by
  unfold M_would_be_whole at h
  split at h
  · cases h
    obtain ⟨f, fd, FF, mm⟩ := T.m_Heap_would_be_whole
    exact meth_ok T.cf (by show (7 : Nat) < T0.ncl; decide) (by show _ ∉ (T0.fl 7).map T0.nm; decide) arity_call (ps := ["self", "piece"]) rfl (fn_Heap_would_be_whole T FF) mm (FF.binds fun _ _ _ _ _ _ us hl => match us, hl with | [_, _], _ => rfl)
  · cases h⟩
theorem mo_made_room (T : Txt K mg base cls oq tb) : MethOk P w ⟨K, T0, cls, oq, tb, w0⟩ mg base 4 "made_room" M_made_room := ⟨fun c np F h => by
  unfold M_made_room at h
  split at h
  · cases h
    obtain ⟨f, fd, FF, mm⟩ := T.m_Room_made_room
    exact meth_ok T.cf (by show (8 : Nat) < T0.ncl; decide) (by show _ ∉ (T0.fl 8).map T0.nm; decide) arity_call (ps := ["self", "piece", "heap"]) rfl (fn_Room_made_room T FF) mm (FF.binds fun _ _ _ _ _ _ us hl => match us, hl with | [_, _, _], _ => rfl)
  · cases h⟩
theorem sc_Room_looked_at : FnScope ["self", "piece", "key", "heap"] ["self", "piece"] (defScope s_Room_looked_at) := ⟨rfl, rfl, rfl, by decide +kernel, rfl, by decide +kernel, by decide +kernel⟩
theorem fn_Room_looked_at (T : Txt K mg base cls oq tb) {f : Addr} {fd : FuncData} (FF : Fun K "looked_at" "Room.looked_at" s_Room_looked_at f fd) : FnOk P w K mg base (L2.CX P w) 6 f fd ["self", "piece"] (spD ⟨K, T0, cls, oq, tb, w0⟩ 2 F_Room_looked_at) := by
  have sc := sc_Room_looked_at
  refine fun_ok (G := ⟨K, T0, cls, oq, tb, w0⟩) (k := 5) FF sc rfl rfl fun cdv A outer s H E hr => ?_
  have hu : (A.deeper (envOfC "Room.looked_at" (defScope s_Room_looked_at) s.heap.objs.size f cdv)).units + 64 < cLine := hr.units
  have tk : Takes (cxOf (L2.CX P w) P w K mg base ["self", "piece", "key", "heap"] "Room.looked_at" (defScope s_Room_looked_at) f cdv A outer s H E) (fun c d _ H => E c d H) := takes_of rfl rfl rfl rfl
  have hp := passes_of (X := cxOf (L2.CX P w) P w K mg base ["self", "piece", "key", "heap"] "Room.looked_at" (defScope s_Room_looked_at) f cdv A outer s H E) rfl
  exact dss_cons (ds_set (i := 2) sc.nd rfl (Or.inl rfl) (de_meth0 rfl (mo_key T) (hr.mono (by decide)) tk (dv 1)))
      (dss_cons (ds_if (dw_pt (dw_and (dt_cmp (op_eqD hu) o2_eqV (nomark _) (de_fld (k := 16) rfl T.cf rfl (dv 0)) (de_str)) (dw_and1 (dt_din hu (dv 2) (de_fld (k := 20) rfl T.cf rfl (dv 0))))))
      (dss_one (ds_if (dt_cmp op_lt o2_lt (nomark _) (de_fld (k := 17) rfl T.cf rfl (dv 0)) (de_op op_add5 o2_add (de_dget hu (de_fld (k := 20) rfl T.cf rfl (dv 0)) (dv 2)) (de_fld (k := 13) rfl T.cf rfl (dv 0))))
      (dss_one (ds_ret (de_lst (da_cons (de_tup (da_cons (de_str) (da_cons (dv 2) (da_nil)))) (da_nil)))))
      (dss_nil)))
      (dss_nil))
      (dss_cons (ds_set (i := 3) sc.nd rfl (Or.inl rfl) (de_get2 hu (de_fld (k := 18) rfl T.cf rfl (dv 0)) (dv 2) (de_make (c := 7) rfl (mk_Heap T) (Or.inl rfl) (hr.mono (by decide)) rfl tk (da_cons (de_fld (k := 8) rfl T.cf rfl (dv 0)) (da_nil))) ⟨rfl, rfl, rfl, rfl⟩))
      (dss_cons (ds_if (dt_cmp op_notN o2_notN (nomark _) (de_meth rfl (mo_trouble T) (hr.mono (by decide)) tk (dv 3) (da_cons (dv 1) (da_nil))) (de_non))
      (dss_one (ds_ret (de_lst (da_cons (de_meth rfl (mo_let_go T) (hr.mono (by decide)) tk (dv 0) (da_cons (dv 2) (da_cons (de_str) (da_nil)))) (da_nil)))))
      (dss_nil))
      (dss_cons (ds_if (dt_val (de_meth rfl (mo_is_strange T) (hr.mono (by decide)) tk (dv 3) (da_cons (dv 1) (da_nil))))
      (dss_one (ds_ret (de_lst (da_cons (de_tup (da_cons (de_str) (da_cons (dv 2) (da_nil)))) (da_nil)))))
      (dss_nil))
      (dss_cons (ds_if (dt_val (de_meth rfl (mo_would_be_whole T) (hr.mono (by decide)) tk (dv 3) (da_cons (dv 1) (da_nil))))
      (dss_cons (ds_expr (de_meth rfl (mo_take T) (hr.mono (by decide)) tk (dv 3) (da_cons (dv 1) (da_nil))))
      (dss_cons (ds_expr (de_meth rfl (mo_let_go T) (hr.mono (by decide)) tk (dv 0) (da_cons (dv 2) (da_cons (de_str) (da_nil)))))
      (dss_cons (ds_dput hu (de_fld (k := 20) rfl T.cf rfl (dv 0)) (dv 2) (de_fld (k := 17) rfl T.cf rfl (dv 0)))
      (dss_one (ds_ret (de_lst (da_cons (de_tup (da_cons (de_str) (da_cons (de_make (c := 1) rfl (mk_Letter_1 T) (Or.inr rfl) (hr.mono (by decide)) rfl tk (da_cons (de_ix rfl (dv 2) (de_int)) (da_cons (de_ix rfl (dv 2) (de_int)) (da_cons (de_ix rfl (dv 2) (de_int)) (da_cons (de_meth0 rfl (mo_all_bytes T) (hr.mono (by decide)) tk (dv 3)) (da_nil)))))) (da_nil)))) (da_nil))))))))
      (dss_nil))
      (dss_one (ds_ret (de_meth rfl (mo_made_room T) (hr.mono (by decide)) tk (dv 0) (da_cons (dv 1) (da_cons (dv 3) (da_nil)))))))))))
theorem mo_tick (T : Txt K mg base cls oq tb) : MethOk P w ⟨K, T0, cls, oq, tb, w0⟩ mg base 3 "tick" M_tick := ⟨fun c np F h => by
  unfold M_tick at h
  split at h
  · cases h
    obtain ⟨f, fd, FF, mm⟩ := T.m_Room_tick
    exact meth_ok T.cf (by show (8 : Nat) < T0.ncl; decide) (by show _ ∉ (T0.fl 8).map T0.nm; decide) arity_call (ps := ["self", "time"]) rfl (fn_Room_tick T FF) mm (FF.binds fun _ _ _ _ _ _ us hl => match us, hl with | [_, _], _ => rfl)
  · cases h⟩
theorem mo_looked_at (T : Txt K mg base cls oq tb) : MethOk P w ⟨K, T0, cls, oq, tb, w0⟩ mg base 6 "looked_at" M_looked_at := ⟨fun c np F h => by
  unfold M_looked_at at h
  split at h
  · cases h
    obtain ⟨f, fd, FF, mm⟩ := T.m_Room_looked_at
    exact meth_ok T.cf (by show (8 : Nat) < T0.ncl; decide) (by show _ ∉ (T0.fl 8).map T0.nm; decide) arity_call (ps := ["self", "piece"]) rfl (fn_Room_looked_at T FF) mm (FF.binds fun _ _ _ _ _ _ us hl => match us, hl with | [_, _], _ => rfl)
  · cases h⟩
theorem sc_Room_come : FnScope ["self", "time", "piece"] ["self", "time", "piece"] (defScope s_Room_come) := ⟨rfl, rfl, rfl, by decide +kernel, rfl, by decide +kernel, by decide +kernel⟩
theorem fn_Room_come (T : Txt K mg base cls oq tb) {f : Addr} {fd : FuncData} (FF : Fun K "come" "Room.come" s_Room_come f fd) : FnOk P w K mg base (L2.CX P w) 7 f fd ["self", "time", "piece"] (spD ⟨K, T0, cls, oq, tb, w0⟩ 3 F_Room_come) := by
  have sc := sc_Room_come
  refine fun_ok (G := ⟨K, T0, cls, oq, tb, w0⟩) (k := 6) FF sc rfl rfl fun cdv A outer s H E hr => ?_
  have hu : (A.deeper (envOfC "Room.come" (defScope s_Room_come) s.heap.objs.size f cdv)).units + 64 < cLine := hr.units
  have tk : Takes (cxOf (L2.CX P w) P w K mg base ["self", "time", "piece"] "Room.come" (defScope s_Room_come) f cdv A outer s H E) (fun c d _ H => E c d H) := takes_of rfl rfl rfl rfl
  have hp := passes_of (X := cxOf (L2.CX P w) P w K mg base ["self", "time", "piece"] "Room.come" (defScope s_Room_come) f cdv A outer s H E) rfl
  exact dss_cons (ds_if (dt_not (dt_val (de_call rfl (ok_is_number T) (hr.mono (by decide)) rfl tk (da_cons (dv 1) (da_cons (de_fld (k := 17) rfl T.cf rfl (dv 0)) (da_nil))))))
      (dss_one (ds_raise rfl rfl tk T.ra_NoTime T.mc_NoTime rfl))
      (dss_nil))
      (dss_cons (ds_if (dt_not (dt_val (de_isi (t := 12) rfl T.cf T.kf (.own _) (pe_glob rfl T.mc_Piece rfl) (dv 2) rfl T.b_isinstance)))
      (dss_one (ds_raise rfl rfl tk T.ra_NoPiece T.mc_NoPiece rfl))
      (dss_nil))
      (dss_one (ds_ret (de_op op_add5 o2_add (de_meth rfl (mo_tick T) (hr.mono (by decide)) tk (dv 0) (da_cons (dv 1) (da_nil))) (de_meth rfl (mo_looked_at T) (hr.mono (by decide)) tk (dv 0) (da_cons (dv 2) (da_nil)))))))
theorem sc_Room_check_key : FnScope ["self", "key"] ["self", "key"] (defScope s_Room_check_key) := ⟨rfl, rfl, rfl, by decide +kernel, rfl, by decide +kernel, by decide +kernel⟩
theorem fn_Room_check_key (T : Txt K mg base cls oq tb) {f : Addr} {fd : FuncData} (FF : Fun K "check_key" "Room.check_key" s_Room_check_key f fd) : FnOk P w K mg base (L2.CX P w) 4 f fd ["self", "key"] (spD ⟨K, T0, cls, oq, tb, w0⟩ 2 F_Room_check_key) := by
  have sc := sc_Room_check_key
  refine fun_ok (G := ⟨K, T0, cls, oq, tb, w0⟩) (k := 3) FF sc rfl rfl fun cdv A outer s H E hr => ?_
  have hu : (A.deeper (envOfC "Room.check_key" (defScope s_Room_check_key) s.heap.objs.size f cdv)).units + 64 < cLine := hr.units
  have tk : Takes (cxOf (L2.CX P w) P w K mg base ["self", "key"] "Room.check_key" (defScope s_Room_check_key) f cdv A outer s H E) (fun c d _ H => E c d H) := takes_of rfl rfl rfl rfl
  have hp := passes_of (X := cxOf (L2.CX P w) P w K mg base ["self", "key"] "Room.check_key" (defScope s_Room_check_key) f cdv A outer s H E) rfl
  exact dss_one (ds_if (dw_pt (dw_or (dt_not (dt_val (de_call rfl (ok_is_key T) (hr.mono (by decide)) rfl tk (da_cons (dv 1) (da_nil))))) (dw_or1 (dt_dnin hu (dv 1) (de_fld (k := 18) rfl T.cf rfl (dv 0))))))
      (dss_one (ds_raise rfl rfl tk T.ra_NoKey T.mc_NoKey rfl))
      (dss_nil))
theorem mo_check_key (T : Txt K mg base cls oq tb) : MethOk P w ⟨K, T0, cls, oq, tb, w0⟩ mg base 4 "check_key" M_check_key := ⟨fun c np F h => by
  unfold M_check_key at h
  split at h
  · cases h
    obtain ⟨f, fd, FF, mm⟩ := T.m_Room_check_key
    exact meth_ok T.cf (by show (8 : Nat) < T0.ncl; decide) (by show _ ∉ (T0.fl 8).map T0.nm; decide) arity_call (ps := ["self", "key"]) rfl (fn_Room_check_key T FF) mm (FF.binds fun _ _ _ _ _ _ us hl => match us, hl with | [_, _], _ => rfl)
  · cases h⟩
theorem sc_Room_lacks : FnScope ["self", "key"] ["self", "key"] (defScope s_Room_lacks) := ⟨rfl, rfl, rfl, by decide +kernel, rfl, by decide +kernel, by decide +kernel⟩
theorem fn_Room_lacks (T : Txt K mg base cls oq tb) {f : Addr} {fd : FuncData} (FF : Fun K "lacks" "Room.lacks" s_Room_lacks f fd) : FnOk P w K mg base (L2.CX P w) 5 f fd ["self", "key"] (spD ⟨K, T0, cls, oq, tb, w0⟩ 2 F_Room_lacks) := by
  have sc := sc_Room_lacks
  refine fun_ok (G := ⟨K, T0, cls, oq, tb, w0⟩) (k := 4) FF sc rfl rfl fun cdv A outer s H E hr => ?_
  have hu : (A.deeper (envOfC "Room.lacks" (defScope s_Room_lacks) s.heap.objs.size f cdv)).units + 64 < cLine := hr.units
  have tk : Takes (cxOf (L2.CX P w) P w K mg base ["self", "key"] "Room.lacks" (defScope s_Room_lacks) f cdv A outer s H E) (fun c d _ H => E c d H) := takes_of rfl rfl rfl rfl
  have hp := passes_of (X := cxOf (L2.CX P w) P w K mg base ["self", "key"] "Room.lacks" (defScope s_Room_lacks) f cdv A outer s H E) rfl
  exact dss_cons (ds_expr (de_meth rfl (mo_check_key T) (hr.mono (by decide)) tk (dv 0) (da_cons (dv 1) (da_nil))))
      (dss_one (ds_ret (de_meth0 rfl (mo_lacks_now T) (hr.mono (by decide)) tk (de_dget hu (de_fld (k := 18) rfl T.cf rfl (dv 0)) (dv 1)))))
theorem sc_Room_kept : FnScope ["self"] ["self"] (defScope s_Room_kept) := ⟨rfl, rfl, rfl, by decide +kernel, rfl, by decide +kernel, by decide +kernel⟩
theorem fn_Room_kept (T : Txt K mg base cls oq tb) {f : Addr} {fd : FuncData} (FF : Fun K "kept" "Room.kept" s_Room_kept f fd) : FnOk P w K mg base (L2.CX P w) 1 f fd ["self"] (spD ⟨K, T0, cls, oq, tb, w0⟩ 1 F_Room_kept) := by
  have sc := sc_Room_kept
  refine fun_ok (G := ⟨K, T0, cls, oq, tb, w0⟩) (k := 0) FF sc rfl rfl fun cdv A outer s H E hr => ?_
  have hu : (A.deeper (envOfC "Room.kept" (defScope s_Room_kept) s.heap.objs.size f cdv)).units + 64 < cLine := hr.units
  have tk : Takes (cxOf (L2.CX P w) P w K mg base ["self"] "Room.kept" (defScope s_Room_kept) f cdv A outer s H E) (fun c d _ H => E c d H) := takes_of rfl rfl rfl rfl
  have hp := passes_of (X := cxOf (L2.CX P w) P w K mg base ["self"] "Room.kept" (defScope s_Room_kept) f cdv A outer s H E) rfl
  exact dss_one (ds_ret (de_callB (cr_sortedD hu) oa_sortT rfl T.b_sorted (by decide +kernel) (da_cons (de_callT (call_list_dT rfl) oa_listT rfl T.b_list (by decide +kernel) (da_cons (de_fld (k := 18) rfl T.cf rfl (dv 0)) (da_nil))) (da_nil))))
theorem sc_Letter_is_like : FnScope ["self", "other"] ["self", "other"] (defScope s_Letter_is_like) := ⟨rfl, rfl, rfl, by decide +kernel, rfl, by decide +kernel, by decide +kernel⟩
theorem fn_Letter_is_like (T : Txt K mg base cls oq tb) {f : Addr} {fd : FuncData} (FF : Fun K "is_like" "Letter.is_like" s_Letter_is_like f fd) : FnOk P w K mg base (L2.CX P w) 2 f fd ["self", "other"] (spD ⟨K, T0, cls, oq, tb, w0⟩ 2 F_Letter_is_like) := by
  have sc := sc_Letter_is_like
  refine fun_ok (G := ⟨K, T0, cls, oq, tb, w0⟩) (k := 1) FF sc rfl rfl fun cdv A outer s H E hr => ?_
  have hu : (A.deeper (envOfC "Letter.is_like" (defScope s_Letter_is_like) s.heap.objs.size f cdv)).units + 64 < cLine := hr.units
  have tk : Takes (cxOf (L2.CX P w) P w K mg base ["self", "other"] "Letter.is_like" (defScope s_Letter_is_like) f cdv A outer s H E) (fun c d _ H => E c d H) := takes_of rfl rfl rfl rfl
  have hp := passes_of (X := cxOf (L2.CX P w) P w K mg base ["self", "other"] "Letter.is_like" (defScope s_Letter_is_like) f cdv A outer s H E) rfl
  exact dss_one (ds_ret (de_cmp (op_eqD hu) o2_eqV (nomark _) (de_tup (da_cons (de_meth0 rfl (mo_key T) (hr.mono (by decide)) tk (dv 0)) (da_cons (de_fld (k := 3) rfl T.cf rfl (dv 0)) (da_cons (de_fld (k := 4) rfl T.cf rfl (dv 0)) (da_nil))))) (de_tup (da_cons (de_meth0 rfl (mo_key T) (hr.mono (by decide)) tk (dv 1)) (da_cons (de_fld (k := 3) rfl T.cf rfl (dv 1)) (da_cons (de_fld (k := 4) rfl T.cf rfl (dv 1)) (da_nil)))))))
theorem sc_Piece_is_like : FnScope ["self", "other"] ["self", "other"] (defScope s_Piece_is_like) := ⟨rfl, rfl, rfl, by decide +kernel, rfl, by decide +kernel, by decide +kernel⟩
theorem fn_Piece_is_like (T : Txt K mg base cls oq tb) {f : Addr} {fd : FuncData} (FF : Fun K "is_like" "Piece.is_like" s_Piece_is_like f fd) : FnOk P w K mg base (L2.CX P w) 2 f fd ["self", "other"] (spD ⟨K, T0, cls, oq, tb, w0⟩ 2 F_Piece_is_like) := by
  have sc := sc_Piece_is_like
  refine fun_ok (G := ⟨K, T0, cls, oq, tb, w0⟩) (k := 1) FF sc rfl rfl fun cdv A outer s H E hr => ?_
  have hu : (A.deeper (envOfC "Piece.is_like" (defScope s_Piece_is_like) s.heap.objs.size f cdv)).units + 64 < cLine := hr.units
  have tk : Takes (cxOf (L2.CX P w) P w K mg base ["self", "other"] "Piece.is_like" (defScope s_Piece_is_like) f cdv A outer s H E) (fun c d _ H => E c d H) := takes_of rfl rfl rfl rfl
  have hp := passes_of (X := cxOf (L2.CX P w) P w K mg base ["self", "other"] "Piece.is_like" (defScope s_Piece_is_like) f cdv A outer s H E) rfl
  exact dss_cons (ds_if (dt_cmp (op_neD hu) o2_neV (nomark _) (de_tup (da_cons (de_meth0 rfl (mo_key T) (hr.mono (by decide)) tk (dv 0)) (da_cons (de_fld (k := 3) rfl T.cf rfl (dv 0)) (da_cons (de_fld (k := 4) rfl T.cf rfl (dv 0)) (da_nil))))) (de_tup (da_cons (de_meth0 rfl (mo_key T) (hr.mono (by decide)) tk (dv 1)) (da_cons (de_fld (k := 3) rfl T.cf rfl (dv 1)) (da_cons (de_fld (k := 4) rfl T.cf rfl (dv 1)) (da_nil))))))
      (dss_one (ds_ret (de_bl)))
      (dss_nil))
      (dss_one (ds_ret (de_cmp (op_eqD hu) o2_eqV (nomark _) (de_tup (da_cons (de_fld (k := 5) rfl T.cf rfl (dv 0)) (da_cons (de_fld (k := 6) rfl T.cf rfl (dv 0)) (da_nil)))) (de_tup (da_cons (de_fld (k := 5) rfl T.cf rfl (dv 1)) (da_cons (de_fld (k := 6) rfl T.cf rfl (dv 1)) (da_nil)))))))
theorem mo_come (T : Txt K mg base cls oq tb) : MethOk P w ⟨K, T0, cls, oq, tb, w0⟩ mg base 7 "come" M_come := ⟨fun c np F h => by
  unfold M_come at h
  split at h
  · cases h
    obtain ⟨f, fd, FF, mm⟩ := T.m_Room_come
    exact meth_ok T.cf (by show (8 : Nat) < T0.ncl; decide) (by show _ ∉ (T0.fl 8).map T0.nm; decide) arity_call (ps := ["self", "time", "piece"]) rfl (fn_Room_come T FF) mm (FF.binds fun _ _ _ _ _ _ us hl => match us, hl with | [_, _, _], _ => rfl)
  · cases h⟩
theorem mo_lacks (T : Txt K mg base cls oq tb) : MethOk P w ⟨K, T0, cls, oq, tb, w0⟩ mg base 5 "lacks" M_lacks := ⟨fun c np F h => by
  unfold M_lacks at h
  split at h
  · cases h
    obtain ⟨f, fd, FF, mm⟩ := T.m_Room_lacks
    exact meth_ok T.cf (by show (8 : Nat) < T0.ncl; decide) (by show _ ∉ (T0.fl 8).map T0.nm; decide) arity_call (ps := ["self", "key"]) rfl (fn_Room_lacks T FF) mm (FF.binds fun _ _ _ _ _ _ us hl => match us, hl with | [_, _], _ => rfl)
  · cases h⟩
theorem mo_kept (T : Txt K mg base cls oq tb) : MethOk P w ⟨K, T0, cls, oq, tb, w0⟩ mg base 1 "kept" M_kept := ⟨fun c np F h => by
  unfold M_kept at h
  split at h
  · cases h
    obtain ⟨f, fd, FF, mm⟩ := T.m_Room_kept
    exact meth_ok T.cf (by show (8 : Nat) < T0.ncl; decide) (by show _ ∉ (T0.fl 8).map T0.nm; decide) arity_call (ps := ["self"]) rfl (fn_Room_kept T FF) mm (FF.binds fun _ _ _ _ _ _ us hl => match us, hl with | [_], _ => rfl)
  · cases h⟩
theorem mo_is_like (T : Txt K mg base cls oq tb) : MethOk P w ⟨K, T0, cls, oq, tb, w0⟩ mg base 2 "is_like" M_is_like := ⟨fun c np F h => by
  unfold M_is_like at h
  split at h
  · cases h
    obtain ⟨f, fd, FF, mm⟩ := T.m_Letter_is_like
    exact meth_ok T.cf (by show (1 : Nat) < T0.ncl; decide) (by show _ ∉ (T0.fl 1).map T0.nm; decide) arity_call (ps := ["self", "other"]) rfl (fn_Letter_is_like T FF) mm (FF.binds fun _ _ _ _ _ _ us hl => match us, hl with | [_, _], _ => rfl)
  · cases h
    obtain ⟨f, fd, FF, mm⟩ := T.m_Piece_is_like
    exact meth_ok T.cf (by show (2 : Nat) < T0.ncl; decide) (by show _ ∉ (T0.fl 2).map T0.nm; decide) arity_call (ps := ["self", "other"]) rfl (fn_Piece_is_like T FF) mm (FF.binds fun _ _ _ _ _ _ us hl => match us, hl with | [_, _], _ => rfl)
  · cases h⟩
theorem sc__law_event : FnScope ["_law_room", "_law_taken", "_law_piece_here", "_law_rule", "_law_key", "_law_told_here", "_law_found"] ["_law_room", "_law_taken", "_law_piece_here", "_law_rule"] (defScope s__law_event) := ⟨rfl, rfl, rfl, by decide +kernel, rfl, by decide +kernel, by decide +kernel⟩
theorem fn__law_event (T : Txt K mg base cls oq tb) {f : Addr} {fd : FuncData} (FF : Fun K "_law_event" "_law_event" s__law_event f fd) : FnOk P w K mg base (L2.CX P w) 8 f fd ["_law_room", "_law_taken", "_law_piece_here", "_law_rule"] (spD ⟨K, T0, cls, oq, tb, w0⟩ 4 F__law_event) := by
  have sc := sc__law_event
  refine fun_ok (G := ⟨K, T0, cls, oq, tb, w0⟩) (k := 7) FF sc rfl rfl fun cdv A outer s H E hr => ?_
  have hu : (A.deeper (envOfC "_law_event" (defScope s__law_event) s.heap.objs.size f cdv)).units + 64 < cLine := hr.units
  have tk : Takes (cxOf (L2.CX P w) P w K mg base ["_law_room", "_law_taken", "_law_piece_here", "_law_rule", "_law_key", "_law_told_here", "_law_found"] "_law_event" (defScope s__law_event) f cdv A outer s H E) (fun c d _ H => E c d H) := takes_of rfl rfl rfl rfl
  have hp := passes_of (X := cxOf (L2.CX P w) P w K mg base ["_law_room", "_law_taken", "_law_piece_here", "_law_rule", "_law_key", "_law_told_here", "_law_found"] "_law_event" (defScope s__law_event) f cdv A outer s H E) rfl
  exact dss_cons (ds_set (i := 4) sc.nd rfl (Or.inl rfl) (de_tup (da_cons (de_int) (da_cons (de_str) (da_cons (de_str) (da_nil))))))
      (dss_cons (ds_set (i := 5) sc.nd rfl (Or.inl rfl) (de_call rfl (ok__law_one_more T) (hr.mono (by decide)) rfl tk (da_cons (dv 1) (da_cons (dv 2) (da_cons (dv 3) (da_nil))))))
      (dss_cons (ds_set (i := 6) sc.nd rfl (Or.inl rfl) (de_meth rfl (mo_come T) (hr.mono (by decide)) tk (dv 0) (da_cons (de_int) (da_cons (dv 2) (da_nil)))))
      (dss_cons (ds_if (dt_cmp (op_eqD hu) o2_eqV (nomark _) (de_ix rfl (dv 5) (de_int)) (de_str))
      (dss_one (ds_ret (de_and (de_cmp (op_eqD hu) o2_eqV (nomark _) (dv 6) (de_lst (da_nil))) (de_one (de_cmp (op_eqD hu) o2_eqV (nomark _) (de_meth rfl (mo_lacks T) (hr.mono (by decide)) tk (dv 0) (da_cons (dv 4) (da_nil))) (de_ix rfl (dv 5) (de_int)))))))
      (dss_nil))
      (dss_cons (ds_if (dt_cmp (op_eqD hu) o2_eqV (nomark _) (de_ix rfl (dv 5) (de_int)) (de_str))
      (dss_one (ds_ret (de_cmp (op_eqD hu) o2_eqV (nomark _) (dv 6) (de_lst (da_cons (de_tup (da_cons (de_str) (da_cons (dv 4) (da_nil)))) (da_nil))))))
      (dss_nil))
      (dss_cons (ds_expr (de_bm0 rfl PySem.F.plainAttrs_list PySem.F.slot_list_clear PySem.F.type_list_clear mt_clear om_clear tm_list (dv 1)))
      (dss_cons (ds_if (dw_pt (dw_or (dt_cmp (op_neD hu) o2_neV (nomark _) (de_meth0 rfl (mo_kept T) (hr.mono (by decide)) tk (dv 0)) (de_lst (da_nil))) (dw_or1 (dt_cmp (op_neD hu) o2_neV (nomark _) (de_meth0 rfl (mo_bytes_kept T) (hr.mono (by decide)) tk (dv 0)) (de_int)))))
      (dss_one (ds_ret (de_bl)))
      (dss_nil))
      (dss_cons (ds_if (dt_cmp (op_eqD hu) o2_eqV (nomark _) (de_ix rfl (dv 5) (de_int)) (de_str))
      (dss_one (ds_ret (de_cmp (op_eqD hu) o2_eqV (nomark _) (dv 6) (de_lst (da_cons (de_tup (da_cons (de_str) (da_cons (dv 4) (da_cons (de_str) (da_nil))))) (da_nil))))))
      (dss_nil))
      (dss_cons (ds_if (dw_pt (dw_or (dt_cmp (op_neD hu) o2_neV (nomark _) (de_callB c_len oa_len rfl T.b_len (by decide +kernel) (da_cons (dv 6) (da_nil))) (de_int)) (dw_or (dt_cmp (op_neD hu) o2_neV (nomark _) (de_ix rfl (de_ix rfl (dv 6) (de_int)) (de_int)) (de_str)) (dw_or1 (dt_not (dt_val (de_isi (t := 11) rfl T.cf T.kf (.own _) (pe_glob rfl T.mc_Letter rfl) (de_ix rfl (de_ix rfl (dv 6) (de_int)) (de_int)) rfl T.b_isinstance)))))))
      (dss_one (ds_ret (de_bl)))
      (dss_nil))
      (dss_one (ds_ret (de_meth rfl (mo_is_like T) (hr.mono (by decide)) tk (de_ix rfl (de_ix rfl (dv 6) (de_int)) (de_int)) (da_cons (de_make (c := 1) rfl (mk_Letter_1 T) (Or.inr rfl) (hr.mono (by decide)) rfl tk (da_cons (de_int) (da_cons (de_str) (da_cons (de_str) (da_cons (de_ix rfl (dv 5) (de_int)) (da_nil)))))) (da_nil)))))))))))))
theorem ok__law_event (T : Txt K mg base cls oq tb) : Callee P w ⟨K, T0, cls, oq, tb, w0⟩ mg base 8 "_law_event" 4 [] F__law_event := by
  obtain ⟨f, fd, FF, m⟩ := T.d__law_event
  exact ⟨arity_call, f, fd, ["_law_room", "_law_taken", "_law_piece_here", "_law_rule"], [], [], rfl, fn__law_event T FF, m, FF.kp, FF.binds fun _ _ _ _ _ _ us hl => match us, hl with | [_, _, _, _], _ => rfl, .nil, fun _ => .nil⟩
theorem sc_law : FnScope ["_law_script", "_law_pieces", "_law_rule", "_law_room", "_law_taken", "_law_k", "_law_cell"] ["_law_script"] (defScope s_law) := ⟨rfl, rfl, rfl, by decide +kernel, rfl, by decide +kernel, by decide +kernel⟩
theorem fn_law (T : Txt K mg base cls oq tb) {f : Addr} {fd : FuncData} (FF : Fun K "law" "law" s_law f fd) : FnOk P w K mg base (L2.CX P w) 9 f fd ["_law_script"] (spD ⟨K, T0, cls, oq, tb, w0⟩ 1 F_law) := by
  have sc := sc_law
  refine fun_ok (G := ⟨K, T0, cls, oq, tb, w0⟩) (k := 8) FF sc rfl rfl fun cdv A outer s H E hr => ?_
  have hu : (A.deeper (envOfC "law" (defScope s_law) s.heap.objs.size f cdv)).units + 64 < cLine := hr.units
  have tk : Takes (cxOf (L2.CX P w) P w K mg base ["_law_script", "_law_pieces", "_law_rule", "_law_room", "_law_taken", "_law_k", "_law_cell"] "law" (defScope s_law) f cdv A outer s H E) (fun c d _ H => E c d H) := takes_of rfl rfl rfl rfl
  have hp := passes_of (X := cxOf (L2.CX P w) P w K mg base ["_law_script", "_law_pieces", "_law_rule", "_law_room", "_law_taken", "_law_k", "_law_cell"] "law" (defScope s_law) f cdv A outer s H E) rfl
  exact dss_cons (ds_setLcG (own := [("_law_cell", 6)]) fin_lst (i := 1) rfl sc.nd rfl rfl (sw_true rfl rfl rfl (by decide +kernel)) (pi_list (DE.pe (de_sl rfl (dv 0) (do_some (de_int)) (do_some (de_int))))) (io_list _) (blkOk_by (N := ["_law_script", "_law_pieces", "_law_rule", "_law_room", "_law_taken", "_law_k", "_law_cell"]) (sc := defScope s_law) (by decide +kernel)) (g_name) (by decide) (fun _ _ _ _ _ => pg_name (i := 6) sc.nd rfl (Or.inl rfl)) (fun _ _ _ _ _ => dts_nil) (fun _ _ _ _ _ => de_call rfl (ok__law_piece T) (hr.mono (by decide)) rfl takes0 (da_cons (de_lstC (da_cons (dv 6) (da_nil))) (da_nil))))
      (dss_cons (ds_for hp rfl (pi_list (DE.pe (de_lst (da_cons (de_str) (da_cons (de_str) (da_cons (de_str) (da_nil))))))) (io_list _) (pg_name (i := 2) sc.nd rfl (Or.inl rfl)) (g_name)
      (dss_cons (ds_set (i := 3) sc.nd rfl (Or.inl rfl) (de_make (c := 8) rfl (mk_Room T) (Or.inl rfl) (hr.mono (by decide)) rfl tk (da_cons (dv 2) (da_cons (de_int) (da_cons (de_op op_pow o2_pow (de_int) (de_int)) (da_cons (de_str) (da_cons (de_str) (da_nil))))))))
      (dss_cons (ds_set (i := 4) sc.nd rfl (Or.inl rfl) (de_lstC (da_nil)))
      (dss_one (ds_for hp rfl (pi_range1 rfl T.b_range (DA.pa (da_cons (de_callB c_len oa_len rfl T.b_len (by decide +kernel) (da_cons (dv 1) (da_nil))) (da_nil)))) (io_rng1 _) (pg_name (i := 5) sc.nd rfl (Or.inl rfl)) (g_name)
      (dss_cons (ds_if (dt_cmp (op_neD hu) o2_neV (nomark _) (de_call rfl (ok__law_told T) (hr.mono (by decide)) rfl tk (da_cons (de_call rfl (ok_judged T) (hr.mono (by decide)) rfl tk (da_cons (de_sl rfl (dv 1) (do_none) (do_some (de_op op_add5 o2_add (dv 5) (de_int)))) (da_cons (dv 2) (da_nil)))) (da_nil))) (de_call rfl (ok__law_due T) (hr.mono (by decide)) rfl tk (da_cons (de_sl rfl (dv 1) (do_none) (do_some (de_op op_add5 o2_add (dv 5) (de_int)))) (da_cons (dv 2) (da_nil)))))
      (dss_one (ds_ret (de_bl)))
      (dss_nil))
      (dss_one (ds_if (dt_not (dt_val (de_call rfl (ok__law_event T) (hr.mono (by decide)) rfl tk (da_cons (dv 3) (da_cons (dv 4) (da_cons (de_ix rfl (dv 1) (dv 5)) (da_cons (dv 2) (da_nil))))))))
      (dss_one (ds_ret (de_bl)))
      (dss_nil)))))))))
      (dss_one (ds_ret (de_bl))))
end
end K93

set_option Elab.async false
set_option linter.all false
set_option maxRecDepth 100000
set_option maxHeartbeats 1000000
set_option autoImplicit false
namespace K93
open PySem PySem.Spec PyProof.Rows L2 DL
/-! the law's digits -/
theorem cmul_r {i j : Int} (h : -(2 ^ 64) < j ∧ j < 2 ^ 64) : CMul i j := .inr h
theorem cmul_l {i j : Int} (h : -(2 ^ 64) < i ∧ i < 2 ^ 64) : CMul i j := .inl h
/-- a state: new, or begun -/
def Stt (C : Cells) (n : Nat) : Prop := (∃ x : Int, C.get n = some (.lst [.int x])) ∨ ∃ x y z : Int, C.get n = some (.lst [.int x, .int y, .int z])
theorem digit3 {C : Cells} {n : Nat} {x y z : Int} (e : C.get n = some (.lst [.int x, .int y, .int z])) (b : Int) (hb : 0 < b ∧ b < 1073741824) : ∃ C' v, F__law_digit [.cel n, .int b] C = .ok (.int v) C' ∧ 0 ≤ v ∧ v < b ∧ Stt C' n ∧ Ext [n] C C' := by
  have i0 : dIx (.cel n) (.int 0) C = .ok (.int x) C := by simp [dIx, e, atI, ixN]
  have i1 : dIx (.cel n) (.int 1) C = .ok (.int y) C := by simp [dIx, e, atI, ixN]
  have i2 : dIx (.cel n) (.int 2) C = .ok (.int z) C := by simp [dIx, e, atI, ixN]
  have l3 : bLen [.cel n] C = .ok (.int 3) C := by simp [bLen, e]
  by_cases q : 0 < x
  · refine ⟨C.set n (.lst [.int (x / b), .int y, .int z]), x % b, ?_, Int.emod_nonneg _ (by omega), Int.emod_lt_of_pos _ hb.1, .inr ⟨_, _, _, get_set e⟩, Ext.refl.set (.inl (by simp))⟩
    simp [F__law_digit, l3, i0, q, dMod_i hb.1, dDiv_i hb, setIx, e, ixN]
  · have e2 : (C.set n (.lst [.int x, .int y, .int (z + 1)])).get n = some (.lst [.int x, .int y, .int (z + 1)]) := get_set e
    generalize hC : C.set n (.lst [.int x, .int y, .int (z + 1)]) = C1 at e2
    have ex : Ext [n] C C1 := hC ▸ Ext.refl.set (.inl (by simp))
    have j1 : dIx (.cel n) (.int 1) C1 = .ok (.int y) C1 := by simp [dIx, e2, atI, ixN]
    have j2 : dIx (.cel n) (.int 2) C1 = .ok (.int (z + 1)) C1 := by simp [dIx, e2, atI, ixN]
    have st : setIx (.cel n) (.int 2) (.int (z + 1)) C = some C1 := by simp [setIx, e, ixN, hC]
    have h1 : 0 ≤ (y + 7919 * (z + 1) + 1) * 48271 % 2147483647 ∧ (y + 7919 * (z + 1) + 1) * 48271 % 2147483647 < 2147483647 := ⟨Int.emod_nonneg _ (by decide), Int.emod_lt_of_pos _ (by decide)⟩
    generalize hu : (y + 7919 * (z + 1) + 1) * 48271 % 2147483647 = u at h1
    have h2 : 0 ≤ u * (u / 1009 + 69621) % 2147483647 ∧ u * (u / 1009 + 69621) % 2147483647 < 2147483647 := ⟨Int.emod_nonneg _ (by decide), Int.emod_lt_of_pos _ (by decide)⟩
    generalize hw : u * (u / 1009 + 69621) % 2147483647 = w at h2
    refine ⟨C1, w * (w / 2003 + 40692) % 2147483399 % b, ?_, Int.emod_nonneg _ (by omega), Int.emod_lt_of_pos _ hb.1, .inr ⟨_, _, _, e2⟩, ex⟩
    simp [F__law_digit, l3, i0, q, i2, st, j1, j2, dMul_i (cmul_l (i := 7919) (j := z + 1) (by decide)), dMul_i (cmul_r (i := y + 7919 * (z + 1) + 1) (j := 48271) (by decide)), dMod_i, hu, dDiv_i, dMul_i (cmul_l (i := u) (j := u / 1009 + 69621) (by omega)), hw,
      dMul_i (cmul_l (i := w) (j := w / 2003 + 40692) (by omega)), dMod_i hb.1]
theorem digit_ok {C : Cells} {n : Nat} (h : Stt C n) (b : Int) (hb : 0 < b ∧ b < 1073741824) : ∃ C' v, F__law_digit [.cel n, .int b] C = .ok (.int v) C' ∧ 0 ≤ v ∧ v < b ∧ Stt C' n ∧ Ext [n] C C' := by
  rcases h with ⟨x, e⟩ | ⟨x, y, z, e⟩
  · have e2 : (C.set n (.lst [.int x, .int (x % 2147483647), .int 0])).get n = some (.lst [.int x, .int (x % 2147483647), .int 0]) := get_set e
    have ex : Ext [n] C (C.set n (.lst [.int x, .int (x % 2147483647), .int 0])) := Ext.refl.set (.inl (by simp))
    have i0 : dIx (.cel n) (.int 0) C = .ok (.int x) C := by simp [dIx, e, atI, ixN]
    have l1 : bLen [.cel n] C = .ok (.int 1) C := by simp [bLen, e]
    have xt : mExtend (.cel n) [.lst [.int (x % 2147483647), .int 0]] C = .ok .non (C.set n (.lst [.int x, .int (x % 2147483647), .int 0])) := by simp [mExtend, atL, e]
    have ty : tyL C (.cel n) = true := tyL_cel e
    generalize C.set n (.lst [.int x, .int (x % 2147483647), .int 0]) = C1 at e2 ex xt
    obtain ⟨C', v, f, h1, h2, h3, h4⟩ := digit3 e2 b hb
    refine ⟨C', v, ?_, h1, h2, h3, ex.trans h4⟩
    rw [← f]
    have l3 : bLen [.cel n] C1 = .ok (.int 3) C1 := by simp [bLen, e2]
    simp [F__law_digit, l1, l3, i0, dMod_i, ty, xt]
  · exact digit3 e b hb
theorem Stt.keep {C C' : Cells} {n : Nat} {S : List Nat} (h : Stt C n) (x : Ext S C C') (k : n ∉ S) : Stt C' n := by
  rcases h with ⟨a, e⟩ | ⟨a, b, c, e⟩
  · exact .inl ⟨a, x.keep e k⟩
  · exact .inr ⟨a, b, c, x.keep e k⟩
theorem Stt.lt {C : Cells} {n : Nat} (h : Stt C n) : n < C.nx := by
  rcases h with ⟨a, e⟩ | ⟨a, b, c, e⟩ <;> exact lt_of_get e
/-! names, keys, bodies -/
def LT : Str := "abcdefghijklmnopqrstuvwxyz"
theorem lt_list : LT.cps.toList = (List.range 26).map (97 + ·) := by decide +kernel
structure Nm (s : Str) : Prop where
  lo : 1 ≤ s.length
  hi : s.length ≤ 8
  al : ∀ c ∈ s.cps.toList, 97 ≤ c ∧ c < 123
theorem Nm.ok {s : Str} (h : Nm s) : PyData.strOk s = true := by
  unfold PyData.strOk
  rw [← Array.all_toList, List.all_eq_true]
  intro c m
  have := h.al c m
  simp; omega
structure Ky (n : Int) (a b : Str) : Prop where
  n : 0 ≤ n ∧ n ≤ 65535
  a : Nm a
  b : Nm b
structure Bd (bs : List Int) : Prop where
  lo : 1 ≤ bs.length
  hi : bs.length ≤ 4000
  al : ∀ b ∈ bs, 0 ≤ b ∧ b ≤ 255
/-! what is a letter's key, a body -/
@[simp] theorem tn2 : T0.ncl = 9 := rfl
@[simp] theorem knd_int (i : Int) (C : Cells) : knd C (.int i) = some 2 := rfl
@[simp] theorem knd_bl (i : Bool) (C : Cells) : knd C (.bl i) = some 1 := rfl
@[simp] theorem knd_str (i : Str) (C : Cells) : knd C (.str i) = some 3 := rfl
@[simp] theorem knd_tup (l : List D) (C : Cells) : knd C (.tup l) = some 5 := rfl
theorem whole_ok (i : Int) (C : Cells) : F_is_whole [.int i] C = .ok (.bl true) C := by
  have h1 : isT tb0 2 2 = some true := rfl
  have h2 : isT tb0 1 2 = some false := rfl
  simp [F_is_whole, h1, h2]
theorem within_ok (i a b : Int) (C : Cells) (h : a ≤ i ∧ i ≤ b) : F_is_within [.int i, .int a, .int b] C = .ok (.bl true) C := by
  simp [F_is_within, whole_ok, h.1, h.2]
theorem isname_ok (s : Str) (C : Cells) (h : Nm s) : F_is_name [.str s] C = .ok (.bl true) C := by
  have h1 : isT tb0 3 3 = some true := rfl
  have hl : bLen [.str s] C = .ok (.int s.length) C := if_pos (Nat.le_trans h.hi (by decide))
  have l1 : (1 : Int) ≤ s.length := by have := h.lo; omega
  have l2 : (s.length : Int) ≤ 8 := by have := h.hi; omega
  have lc := lcF_pure (tg := gfName 1) (t := tYesF) (f := Y_is_name_1) (vs := [1]) (s := [some (.str s), none]) (C := C) (fun _ => true) (fun _ => .bl true) (s.cps.toList.map fun c => D.str ⟨#[c]⟩) (fun d m => by
    obtain ⟨c, hc, rfl⟩ := List.mem_map.1 m
    refine ⟨_, rfl, rfl, fun _ => ?_⟩
    have hb := h.al c hc
    have e : c ∈ LT.cps.toList := by
      rw [lt_list, List.mem_map]
      exact ⟨c - 97, List.mem_range.2 (by omega), by omega⟩
    unfold LT at e
    simp [Y_is_name_1, c_LETTERS, wipeD, dInG, sgn1] at e ⊢
    simp [e])
  have le : s.cps.size ≤ 16777216 := by have := h.hi; unfold PySem.Str.length at this; omega
  have al : bAll [.lst (List.map (fun _ => D.bl true) s.cps.toList)] C = .ok (.bl true) C := bAll_true fun x m => by
    obtain ⟨_, _, rfl⟩ := List.mem_map.1 m; rfl
  rw [List.filter_eq_self.2 (by simp), List.map_map] at lc
  simp [F_is_name, h1, hl, l1, l2, iSt, lc, le]
  simp [Function.comp_def, al]
theorem iskey_ok (n : Int) (a b : Str) (C : Cells) (h : Ky n a b) : F_is_key [.tup [.int n, .str a, .str b]] C = .ok (.bl true) C := by
  have h1 : isT tb0 5 5 = some true := rfl
  have hl : bLen [.tup [.int n, .str a, .str b]] C = .ok (.int 3) C := by simp [bLen]
  have i0 : dIx (.tup [.int n, .str a, .str b]) (.int 0) C = .ok (.int n) C := by simp [dIx, atI, ixN]
  have i1 : dIx (.tup [.int n, .str a, .str b]) (.int 1) C = .ok (.str a) C := by simp [dIx, atI, ixN]
  have i2 : dIx (.tup [.int n, .str a, .str b]) (.int 2) C = .ok (.str b) C := by simp [dIx, atI, ixN]
  simp [F_is_key, h1, hl, i0, i1, i2, within_ok _ _ _ _ h.n, isname_ok _ _ h.a, isname_ok _ _ h.b]
/-- a list, known or a cell's -/
def IsL (C : Cells) (x : D) (l : List D) : Prop := x = .lst l ∨ ∃ n, x = .cel n ∧ C.get n = some (.lst l)
theorem IsL.knd {C : Cells} {x : D} {l : List D} (h : IsL C x l) : knd C x = some 4 := by
  rcases h with rfl | ⟨n, rfl, e⟩
  · rfl
  · simp [e]
theorem IsL.lst {C : Cells} {x : D} {l : List D} (h : IsL C x l) : lstOf C x = some l := by
  rcases h with rfl | ⟨n, rfl, e⟩
  · rfl
  · simp [e]
theorem IsL.len {C : Cells} {x : D} {l : List D} (h : IsL C x l) : bLen [x] C = .ok (.int l.length) C := by
  rcases h with rfl | ⟨n, rfl, e⟩
  · simp [bLen]
  · simp [bLen, e]
theorem IsL.blist {C : Cells} {x : D} {l : List D} (h : IsL C x l) : bList [x] C = .ok (.lst l) C := by
  rcases h with rfl | ⟨n, rfl, e⟩
  · simp [bList]
  · simp [bList, e]
theorem IsL.ext {C C' : Cells} {x : D} {l : List D} {S : List Nat} (h : IsL C x l) (e : Ext S C C') (k : ∀ n, x = .cel n → n ∉ S) : IsL C' x l := by
  rcases h with rfl | ⟨n, rfl, g⟩
  · exact .inl rfl
  · exact .inr ⟨n, rfl, e.keep g (k n rfl)⟩
theorem IsL.celK {C : Cells} {x : D} {l : List D} (h : IsL C x l) : ∃ kp : Cells → Prop, celK x C = .ok (l, kp) C ∧ kp C := by
  rcases h with rfl | ⟨n, rfl, e⟩
  · exact ⟨_, rfl, trivial⟩
  · exact ⟨_, celK_cel e, e⟩
theorem isbody_ok (x : D) (bs : List Int) (C : Cells) (hx : IsL C x (bs.map D.int)) (h : Bd bs) : F_is_body [x] C = .ok (.bl true) C := by
  have h1 : isT tb0 4 4 = some true := rfl
  obtain ⟨kp, hk, hkp⟩ := hx.celK
  have l1 : (1 : Int) ≤ bs.length := by have := h.lo; omega
  have l2 : (bs.length : Int) ≤ 4000 := by have := h.hi; omega
  have lc := lcK_pure (tg := gfName 1) (t := tYesF) (f := Y_is_body_1) (vs := [1]) (s := [some x, none]) (C := C) (kp := kp) (fun _ => true) (fun _ => .bl true) hkp (bs.map D.int) (fun d m => by
    obtain ⟨c, hc, rfl⟩ := List.mem_map.1 m
    refine ⟨_, rfl, rfl, fun _ => ?_⟩
    simp [Y_is_body_1, wipeD, within_ok _ _ _ _ (h.al c hc)])
  have le : bs.length ≤ 16777216 := by have := h.hi; omega
  have al : bAll [.lst (List.map (fun _ => D.bl true) bs)] C = .ok (.bl true) C := bAll_true fun x m => by
    obtain ⟨_, _, rfl⟩ := List.mem_map.1 m; rfl
  rw [List.filter_eq_self.2 (by simp), List.map_map] at lc
  have hl := hx.len
  simp at hl
  simp [F_is_body, hx.knd, h1, hl, c_MOST_BYTES, l1, l2, hk, lc, le]
  simp [Function.comp_def, al]
theorem pl_key {n : Int} {a b : Str} (h : Ky n a b) : DL.plain 30 (.tup [.int n, .str a, .str b]) = true := by
  simp [DL.plain, h.a.ok, h.b.ok]
theorem pl_ints (bs : List Int) : DL.plain 30 (.lst (bs.map D.int)) = true := by
  show List.all _ (DL.plain 29) = true
  rw [List.all_eq_true]; intro x m
  obtain ⟨i, _, rfl⟩ := List.mem_map.1 m; rfl
/-! pieces -/
def pce (n : Int) (a b : Str) (bs : List Int) (k : Bool) (at_ : Int) (mo : Bool) : D := .obj 2 [.int n, .str a, .str b, .lst (bs.map D.int), .bl k, .int at_, .bl mo]
structure Pl (at_ len : Int) (mo : Bool) : Prop where
  a : 0 ≤ at_ ∧ at_ ≤ 4000
  m : at_ % 8 = 0
  e : if mo = true then len % 8 = 0 ∧ at_ + len < 4000 else at_ + len ≤ 4000
theorem placed_ok (at_ : Int) (x : D) (bs : List Int) (mo : Bool) (C : Cells) (hx : IsL C x (bs.map D.int)) (h : Pl at_ bs.length mo) : F_is_placed [.int at_, x, .bl mo] C = .ok (.bl true) C := by
  have h1 : isT tb0 1 1 = some true := rfl
  have hl := hx.len
  simp at hl
  have w := within_ok at_ 0 4000 C h.a
  have e := h.e
  cases mo with
  | true =>
    rw [if_pos rfl] at e
    simp [F_is_placed, c_MOST_BYTES, w, dMod_i, h.m, h1, hl, e.1, e.2]
  | false =>
    rw [if_neg (by decide)] at e
    simp [F_is_placed, c_MOST_BYTES, w, dMod_i, h.m, h1, hl, e]
theorem piece_ok (n : Int) (a b : Str) (x : D) (bs : List Int) (k : Bool) (at_ : Int) (mo : Bool) (C : Cells) (hk : Ky n a b) (hx : IsL C x (bs.map D.int)) (hb : Bd bs) (hp : Pl at_ bs.length mo) :
    mkF T0 2 F_Piece_init [.int n, .str a, .str b, .int at_, x, .bl mo, .bl k] C = .ok (pce n a b bs k at_ mo) (C.bump 1) := by
  have h1 : isT tb0 1 1 = some true := rfl
  have hc : ∀ l, IsL (C.new (.obj 2 l)) x (bs.map D.int) := fun l => hx.ext (S := []) Ext.refl.new (by simp)
  have b1 := isbody_ok x bs _ (hc []) hb
  have p1 := placed_ok at_ x bs mo _ (hc []) hp
  have k1 := iskey_ok n a b (C.new (.obj 2 [])) hk
  have st : ∀ (l : List D) (j : Nat) (d : D), j = l.length → j < 7 → setFld T0 j (.cel C.nx) d (C.new (.obj 2 l)) = some (C.new (.obj 2 (l ++ [d]))) := by
    intro l j d e hj
    have hm : 2 < T0.ncl ∧ j ∈ T0.fl 2 := by
      refine ⟨by decide, ?_⟩
      have : j = 0 ∨ j = 1 ∨ j = 2 ∨ j = 3 ∨ j = 4 ∨ j = 5 ∨ j = 6 := by omega
      rcases this with h | h | h | h | h | h | h <;> rw [h] <;> decide
    have hi : (T0.fl 2).idxOf j = l.length := by
      rw [← e]
      have : j = 0 ∨ j = 1 ∨ j = 2 ∨ j = 3 ∨ j = 4 ∨ j = 5 ∨ j = 6 := by omega
      rcases this with h | h | h | h | h | h | h <;> rw [h] <;> decide
    unfold setFld
    simp only [get_new, if_pos hm, hi, Nat.lt_irrefl, if_false, if_true, new_set]
  have i0 : F_Keyed_init [.cel C.nx, .int n, .str a, .str b, x, .bl k] (C.new (.obj 2 [])) = .ok .non (C.new (.obj 2 [.int n, .str a, .str b, .lst (bs.map D.int), .bl k])) := by
    have s0 := st [] 0 (.int n) rfl (by decide)
    have s1 := st [.int n] 1 (.str a) rfl (by decide)
    have s2 := st [.int n, .str a] 2 (.str b) rfl (by decide)
    have s3 := st [.int n, .str a, .str b] 3 (.lst (bs.map D.int)) rfl (by decide)
    have s4 := st [.int n, .str a, .str b, .lst (bs.map D.int)] 4 (.bl k) rfl (by decide)
    simp at s0 s1 s2 s3 s4
    simp [F_Keyed_init, s0, s1, s2, (hc _).blist, s3, s4]
  have i1 : F_Piece_init [.cel C.nx, .int n, .str a, .str b, .int at_, x, .bl mo, .bl k] (C.new (.obj 2 [])) = .ok .non (C.new (.obj 2 [.int n, .str a, .str b, .lst (bs.map D.int), .bl k, .int at_, .bl mo])) := by
    have s5 := st [.int n, .str a, .str b, .lst (bs.map D.int), .bl k] 5 (.int at_) rfl (by decide)
    have s6 := st [.int n, .str a, .str b, .lst (bs.map D.int), .bl k, .int at_] 6 (.bl mo) rfl (by decide)
    simp at s5 s6
    simp [F_Piece_init, k1, b1, h1, p1, i0, s5, s6]
  unfold mkF
  rw [i1]
  simp only [get_new]
  rw [if_pos ⟨trivial, rfl⟩, new_del]; rfl
theorem fld_pce {n : Int} {a b : Str} {bs : List Int} {k : Bool} {at_ : Int} {mo : Bool} {C : Cells} : fld T0 0 (pce n a b bs k at_ mo) C = .ok (.int n) C ∧ fld T0 1 (pce n a b bs k at_ mo) C = .ok (.str a) C ∧ fld T0 2 (pce n a b bs k at_ mo) C = .ok (.str b) C ∧
    fld T0 3 (pce n a b bs k at_ mo) C = .ok (.lst (bs.map D.int)) C ∧ fld T0 4 (pce n a b bs k at_ mo) C = .ok (.bl k) C ∧ fld T0 5 (pce n a b bs k at_ mo) C = .ok (.int at_) C ∧ fld T0 6 (pce n a b bs k at_ mo) C = .ok (.bl mo) C := ⟨rfl, rfl, rfl, rfl, rfl, rfl, rfl⟩
theorem keyp_ok {n : Int} {a b : Str} {bs : List Int} {k : Bool} {at_ : Int} {mo : Bool} {C : Cells} : F_Keyed_key [pce n a b bs k at_ mo] C = .ok (.tup [.int n, .str a, .str b]) C := by
  obtain ⟨f0, f1, f2, f3, f4, _, _⟩ := fld_pce (n := n) (a := a) (b := b) (bs := bs) (k := k) (at_ := at_) (mo := mo) (C := C)
  simp [F_Keyed_key, f0, f1, f2]
/-! letters -/
def ltr (n : Int) (a b : Str) (bs : List Int) (k : Bool) : D := .obj 1 [.int n, .str a, .str b, .lst (bs.map D.int), .bl k]
theorem new_get_ne {C : Cells} {m : Nat} {o : O} (h : m < C.nx) : (C.new o).get m = C.get m := get_new_ne (by omega)
theorem letter_ok (n : Int) (a b : Str) (x : D) (bs : List Int) (k : Bool) (C : Cells) (hk : Ky n a b) (hx : IsL C x (bs.map D.int)) (hb : Bd bs) :
    mkF T0 1 F_Letter_init [.int n, .str a, .str b, x, .bl k] C = .ok (ltr n a b bs k) (C.bump 1) := by
  have h1 : isT tb0 1 1 = some true := rfl
  have hc : ∀ l, IsL (C.new (.obj 1 l)) x (bs.map D.int) := fun l => hx.ext (S := []) Ext.refl.new (by simp)
  have b1 := isbody_ok x bs _ (hc []) hb
  have k1 := iskey_ok n a b (C.new (.obj 1 [])) hk
  have st : ∀ (l : List D) (j : Nat) (d : D), j = l.length → j < 5 → setFld T0 j (.cel C.nx) d (C.new (.obj 1 l)) = some (C.new (.obj 1 (l ++ [d]))) := by
    intro l j d e hj
    have hm : 1 < T0.ncl ∧ j ∈ T0.fl 1 := by
      refine ⟨by decide, ?_⟩
      have : j = 0 ∨ j = 1 ∨ j = 2 ∨ j = 3 ∨ j = 4 := by omega
      rcases this with h | h | h | h | h <;> rw [h] <;> decide
    have hi : (T0.fl 1).idxOf j = l.length := by
      rw [← e]
      have : j = 0 ∨ j = 1 ∨ j = 2 ∨ j = 3 ∨ j = 4 := by omega
      rcases this with h | h | h | h | h <;> rw [h] <;> decide
    unfold setFld
    simp only [get_new, if_pos hm, hi, Nat.lt_irrefl, if_false, if_true, new_set]
  have i0 : F_Keyed_init [.cel C.nx, .int n, .str a, .str b, x, .bl k] (C.new (.obj 1 [])) = .ok .non (C.new (.obj 1 [.int n, .str a, .str b, .lst (bs.map D.int), .bl k])) := by
    have s0 := st [] 0 (.int n) rfl (by decide)
    have s1 := st [.int n] 1 (.str a) rfl (by decide)
    have s2 := st [.int n, .str a] 2 (.str b) rfl (by decide)
    have s3 := st [.int n, .str a, .str b] 3 (.lst (bs.map D.int)) rfl (by decide)
    have s4 := st [.int n, .str a, .str b, .lst (bs.map D.int)] 4 (.bl k) rfl (by decide)
    simp at s0 s1 s2 s3 s4
    simp [F_Keyed_init, s0, s1, s2, (hc _).blist, s3, s4]
  have i1 : F_Letter_init [.cel C.nx, .int n, .str a, .str b, x, .bl k] (C.new (.obj 1 [])) = .ok .non (C.new (.obj 1 [.int n, .str a, .str b, .lst (bs.map D.int), .bl k])) := by
    simp [F_Letter_init, k1, b1, h1, i0]
  unfold mkF
  rw [i1]
  simp only [get_new]
  rw [if_pos ⟨trivial, rfl⟩, new_del]; rfl
theorem fld_ltr {n : Int} {a b : Str} {bs : List Int} {k : Bool} {C : Cells} : fld T0 0 (ltr n a b bs k) C = .ok (.int n) C ∧ fld T0 1 (ltr n a b bs k) C = .ok (.str a) C ∧ fld T0 2 (ltr n a b bs k) C = .ok (.str b) C ∧
    fld T0 3 (ltr n a b bs k) C = .ok (.lst (bs.map D.int)) C ∧ fld T0 4 (ltr n a b bs k) C = .ok (.bl k) C := ⟨rfl, rfl, rfl, rfl, rfl⟩
theorem endp_ok {n : Int} {a b : Str} {bs : List Int} {k : Bool} {at_ : Int} {mo : Bool} {C : Cells} : F_Piece_end [pce n a b bs k at_ mo] C = .ok (.int (at_ + bs.length)) C := by
  obtain ⟨f0, f1, f2, f3, f4, f5, _⟩ := fld_pce (n := n) (a := a) (b := b) (bs := bs) (k := k) (at_ := at_) (mo := mo) (C := C)
  simp [F_Piece_end, f5, f3, bLen]
/-! spans -/
theorem with_span_ok (C : Cells) (c : Cov.C) (lo hi : Int) (h : Cov.Cv c) (b : Int) (hb : ∀ p ∈ c, b < p.1) (hl : lo < hi) (hc : c.length ≤ 10000) :
    ∃ C' r, F_with_span [.lst (c.map pr), .tup [.int lo, .int hi]] C = .ok (.lst (r.map pr)) C' ∧ Cov.Cv r ∧ (∀ x, Cov.In x r ↔ Cov.In x c ∨ (lo ≤ x ∧ x < hi)) ∧ r.length ≤ c.length + 1 ∧ Ext [] C C' := by
  let C2 := (C.new (.lst [])).new (.lst [])
  have loop := forF_inv (tg := gfTup 2 (gfCons (gfName 6) (gfCons (gfName 7) gfNil))) (b := B_with_span_1)
    (P := fun ds s C1 => ∃ (pre rest ahead behind : Cov.C) (lo1 hi1 e : Int) (x6 x7 : Option D), ds = rest.map pr ∧ c = pre ++ rest ∧
      s = [some (.lst (c.map pr)), some (.tup [.int lo, .int hi]), some (.cel C.nx), some (.cel (C.nx + 1)), some (.int lo1), some (.int hi1), x6, x7] ∧
      C1.get C.nx = some (.lst (ahead.map pr)) ∧ C1.get (C.nx + 1) = some (.lst (behind.map pr)) ∧ Ext [] C C1 ∧ Cov.WS pre rest ahead behind lo1 hi1 lo hi e ∧ ahead.length + behind.length ≤ pre.length)
    (hs := by
      rintro d r s C1 ⟨pre, rest, ahead, behind, lo1, hi1, e, x6, x7, e1, e2, rfl, g1, g2, ex, ws, len⟩
      cases rest with
      | nil => cases e1
      | cons p rest =>
        cases e1
        have hlen : pre.length + (rest.length + 1) = c.length := by rw [e2]; simp
        refine ⟨_, rfl, ?_⟩
        by_cases q1 : p.2 < lo1
        · refine ⟨_, C1.set C.nx (.lst (ahead.map pr ++ [pr p])), .inl (by
            simp [B_with_span_1, q1, tyL, g1, append_cel g1 _ (show (ahead.map pr).length < 16777216 by simp; omega), pr]; rfl), ?_⟩
          refine ⟨pre ++ [p], rest, ahead ++ [p], behind, lo1, hi1, _, _, _, rfl, by simp [e2], rfl, by rw [get_set g1]; simp, ?_, ex.set (.inr (Nat.le_refl _)), ws.ahead q1 (.inr trivial), by simp; omega⟩
          rw [get_set_ne (by omega)]; exact g2
        · by_cases q2 : hi1 < p.1
          · refine ⟨_, C1.set (C.nx + 1) (.lst (behind.map pr ++ [pr p])), .inl (by
              simp [B_with_span_1, q1, q2, tyL, g2, append_cel g2 _ (show (behind.map pr).length < 16777216 by simp; omega), pr]; rfl), ?_⟩
            refine ⟨pre ++ [p], rest, ahead, behind ++ [p], lo1, hi1, _, _, _, rfl, by simp [e2], rfl, ?_, by rw [get_set g2]; simp, ex.set (.inr (by omega)), ws.behind q2, by simp; omega⟩
            rw [get_set_ne (by omega)]; exact g1
          · refine ⟨_, C1, .inl (by simp [B_with_span_1, q1, q2, pr]; rfl), ?_⟩
            exact ⟨pre ++ [p], rest, ahead, behind, _, _, _, _, _, rfl, by simp [e2], rfl, g1, g2, ex, ws.merge q1 q2, by simp; omega⟩)
    (c.map pr) [some (.lst (c.map pr)), some (.tup [.int lo, .int hi]), some (.cel C.nx), some (.cel (C.nx + 1)), some (.int lo), some (.int hi), none, none] C2
    ⟨[], c, [], [], lo, hi, b, none, none, rfl, rfl, rfl, (get_new_ne (by simp)).trans get_new, get_new, Ext.refl.new.new, Cov.ws0 h hl hb, by simp⟩
  obtain ⟨s', C1, e, pre, rest, ahead, behind, lo1, hi1, e', x6, x7, e1, e2, rfl, g1, g2, ex, ws, len⟩ := loop
  obtain rfl : rest = [] := by cases rest with | nil => rfl | cons => cases e1
  rw [List.append_nil] at e2
  subst e2
  refine ⟨C1, ahead ++ [(lo1, hi1)] ++ behind, ?_, ws.cv, ws.ins, by simp; omega, ex⟩
  have l1 : ahead.length ≤ 10000 := by omega
  have l2 : ahead.length + 1 ≤ 16777216 := by omega
  have l3 : ahead.length + 1 + behind.length ≤ 16777216 := by omega
  simp [F_with_span, e, C2] 
  simp [C2] at e
  simp [e, dAdd, dCatL, g1, l2, g2, l3, pr]
theorem with_span_ok' (C : Cells) (c : Cov.C) (lo hi : Int) (h : Cov.Cv c) (hl : lo < hi) (hc : c.length ≤ 10000) :
    ∃ C' r, F_with_span [.lst (c.map pr), .tup [.int lo, .int hi]] C = .ok (.lst (r.map pr)) C' ∧ Cov.Cv r ∧ (∀ x, Cov.In x r ↔ Cov.In x c ∨ (lo ≤ x ∧ x < hi)) ∧ r.length ≤ c.length + 1 ∧ Ext [] C C' := by
  cases c with
  | nil => exact with_span_ok C [] lo hi h 0 (by simp) hl hc
  | cons p r =>
    have hb : ∀ q ∈ p :: r, p.1 - 1 < q.1 := fun q m => by
      rcases List.mem_cons.1 m with e | m
      · rw [e]; omega
      · have := h.head.2 q m
        have := h.head.1
        omega
    exact with_span_ok C (p :: r) lo hi h (p.1 - 1) hb hl hc
theorem leastend_ok (low : Int) (e : Option Int) (C : Cells) : F_least_end [.int low, dE e] C = .ok (.int (capE e low)) C := by
  cases e <;> simp [F_least_end, dE, capE]
theorem lacking_ok (C : Cells) (c : Cov.C) (e : Option Int) (hc : c.length ≤ 10000) :
    ∃ C', F_lacking [.lst (c.map pr), dE e] C = .ok (.lst (lackD e 0 c)) C' ∧ Ext [] C C' := by
  have loop := forF_inv (tg := gfTup 2 (gfCons (gfName 4) (gfCons (gfName 5) gfNil))) (b := B_lacking_1)
    (P := fun ds s C1 => ∃ (pre rest : Cov.C) (F : List D) (a : Int) (x4 x5 : Option D), ds = rest.map pr ∧ c = pre ++ rest ∧
      s = [some (.lst (c.map pr)), some (dE e), some (.cel C.nx), some (.int a), x4, x5] ∧ C1 = C.new (.lst F) ∧ F.length ≤ pre.length ∧ lackD e 0 c = F ++ lackD e a rest)
    (hs := by
      rintro d r s C1 ⟨pre, rest, F, a, x4, x5, e1, e2, rfl, rfl, len, eq⟩
      cases rest with
      | nil => cases e1
      | cons p rest =>
        cases e1
        have hlen : pre.length + (rest.length + 1) = c.length := by rw [e2]; simp
        refine ⟨_, rfl, ?_⟩
        by_cases q : a < p.1 ∧ (e = none ∨ ∃ k, e = some k ∧ a < k)
        · refine ⟨[some (.lst (c.map pr)), some (dE e), some (.cel C.nx), some (.int p.2), some (.int p.1), some (.int p.2)], C.new (.lst (F ++ [.tup [.int a, .int (capE e p.1)]])), .inl ?_, pre ++ [p], rest, _, p.2, _, _, rfl, by simp [e2], rfl, rfl, by simp; omega, ?_⟩
          · have ap := append_cel (C := C.new (.lst F)) (n := C.nx) (l := F) get_new (.tup [.int a, .int (capE e p.1)]) (by omega)
            rcases q with ⟨q1, rfl | ⟨k, rfl, q2⟩⟩
            · simp only [dE] at ap ⊢
              simp [B_lacking_1, dE, pr, q1, tyL, leastend_ok _ none, leastend_ok _ none, ap]
              have := leastend_ok p.1 none (C.new (.lst F))
              simp [dE] at this
              simp [this, ap]
            · simp only [dE] at ap ⊢
              simp [B_lacking_1, dE, pr, q1, q2, tyL]
              have := leastend_ok p.1 (some k) (C.new (.lst F))
              simp [dE] at this
              simp [this, ap]
          · rw [eq]; conv => lhs; unfold lackD
            rw [if_pos q]; simp
        · refine ⟨[some (.lst (c.map pr)), some (dE e), some (.cel C.nx), some (.int p.2), some (.int p.1), some (.int p.2)], C.new (.lst F), .inl ?_, pre ++ [p], rest, _, p.2, _, _, rfl, by simp [e2], rfl, rfl, by simp; omega, ?_⟩
          · by_cases q1 : a < p.1
            · have q2 : ¬ (e = none ∨ ∃ k, e = some k ∧ a < k) := fun z => q ⟨q1, z⟩
              cases e with
              | none => exact absurd (.inl rfl) q2
              | some k =>
                have q3 : ¬ a < k := fun z => q2 (.inr ⟨k, rfl, z⟩)
                simp [B_lacking_1, dE, pr, q1, q3]
            · simp [B_lacking_1, dE, pr, q1]
          · rw [eq]; conv => lhs; unfold lackD
            rw [if_neg q]; simp)
    (c.map pr) [some (.lst (c.map pr)), some (dE e), some (.cel C.nx), some (.int 0), none, none] (C.new (.lst []))
    ⟨[], c, [], 0, none, none, rfl, rfl, rfl, rfl, by simp, by simp⟩
  obtain ⟨s', C1, h, pre, rest, F, a, x4, x5, e1, e2, rfl, rfl, len, eq⟩ := loop
  obtain rfl : rest = [] := by cases rest with | nil => rfl | cons => cases e1
  rw [List.append_nil] at e2
  subst e2
  refine ⟨(C.new (.lst (lackD e 0 c))).del C.nx, ?_, (Ext.refl.new).del (.inr (Nat.le_refl _))⟩
  simp [F_lacking, h]
  rw [eq]
  unfold lackD
  by_cases q : e = none ∨ ∃ k, e = some k ∧ a < k
  · rw [if_pos q]
    have ap := append_cel (C := C.new (.lst F)) (n := C.nx) (l := F) get_new (.tup [.int a, dE e]) (by omega)
    rcases q with rfl | ⟨k, rfl, q2⟩
    · simp [dE] at ap ⊢; simp [tyL, ap]
    · simp [dE] at ap ⊢; simp [q2, tyL, ap]
  · rw [if_neg q]
    cases e with
    | none => exact absurd (.inl rfl) q
    | some k =>
      have q3 : ¬ a < k := fun z => q (.inr ⟨k, rfl, z⟩)
      simp [dE, q3]
/-! pieces, known or cells; heaps -/
def pcL (x : Pc) : List D := [.int x.n, .str x.a, .str x.b, .lst (x.bs.map D.int), .bl x.k, .int x.at_, .bl x.mo]
/-- a piece -/
def IsPc (C : Cells) (d : D) (x : Pc) : Prop := d = .obj 2 (pcL x) ∨ ∃ n, d = .cel n ∧ C.get n = some (.obj 2 (pcL x))
section
variable {C C' : Cells} {d : D} {x : Pc}
theorem IsPc.ext {S : List Nat} (h : IsPc C d x) (e : Ext S C C') (k : ∀ n, d = .cel n → n ∉ S) : IsPc C' d x := by
  rcases h with h | ⟨n, rfl, g⟩
  · exact .inl h
  · exact .inr ⟨n, rfl, e.keep g (k n rfl)⟩
theorem IsPc.obj (h : IsPc C d x) : objOf C d = some (2, pcL x) := by
  rcases h with rfl | ⟨n, rfl, g⟩
  · rfl
  · exact objOf_cel g
theorem IsPc.fld' (h : IsPc C d x) (k : Nat) {v : D} (hk : 2 < T0.ncl ∧ k ∈ T0.fl 2) (hv : (pcL x)[(T0.fl 2).idxOf k]? = some v) : fld T0 k d C = .ok v C := by
  unfold fld
  rw [h.obj]
  simp only
  rw [if_pos hk, hv]
theorem IsPc.f0 (h : IsPc C d x) : fld T0 0 d C = .ok (.int x.n) C := h.fld' 0 (by decide) rfl
theorem IsPc.f1 (h : IsPc C d x) : fld T0 1 d C = .ok (.str x.a) C := h.fld' 1 (by decide) rfl
theorem IsPc.f2 (h : IsPc C d x) : fld T0 2 d C = .ok (.str x.b) C := h.fld' 2 (by decide) rfl
theorem IsPc.f3 (h : IsPc C d x) : fld T0 3 d C = .ok (.lst (x.bs.map D.int)) C := h.fld' 3 (by decide) rfl
theorem IsPc.f5 (h : IsPc C d x) : fld T0 5 d C = .ok (.int x.at_) C := h.fld' 5 (by decide) rfl
theorem IsPc.f6 (h : IsPc C d x) : fld T0 6 d C = .ok (.bl x.mo) C := h.fld' 6 (by decide) rfl
theorem IsPc.knd (h : IsPc C d x) : knd C d = some (10 + 2) := by
  rcases h with rfl | ⟨n, rfl, g⟩
  · rfl
  · simp [g]; rfl
theorem IsPc.key (h : IsPc C d x) : F_Keyed_key [d] C = .ok (.tup [.int x.n, .str x.a, .str x.b]) C := by
  have f0 := h.f0
  have f1 := h.f1
  have f2 := h.f2
  simp [F_Keyed_key, f0, f1, f2]
theorem blen_i (l : List Int) (C : Cells) : bLen [.lst (l.map D.int)] C = .ok (.int l.length) C := by simp [bLen]
theorem IsPc.end_ (h : IsPc C d x) : F_Piece_end [d] C = .ok (.int (endP x)) C := by
  have f5 := h.f5
  have f3 := h.f3
  have bl := blen_i x.bs C
  unfold endP
  simp [F_Piece_end, f5, f3, bl]
end
theorem mend : M_end 2 = some (1, F_Piece_end) := rfl
theorem mkey : M_key 2 = some (1, F_Keyed_key) := rfl
def hpL (r : Rule) (nb : Nat) (c : Cov.C) (s : Hs) : List D := [.str r.s, .cel nb, .lst (c.map pr), dE s.lend, .int s.most]
structure HpAt (C : Cells) (h nb : Nat) (r : Rule) (s : Hs) (c : Cov.C) : Prop where
  o : C.get h = some (.obj 7 (hpL r nb c s))
  d : C.get nb = some (.dk s.bt)
  ne : h ≠ nb
  cv : Hcv c s.bt
  ok : Hok s
section
variable {C C' : Cells} {h nb : Nat} {r : Rule} {s : Hs} {c : Cov.C} {d : D} {x : Pc}
theorem HpAt.ext {S : List Nat} (H : HpAt C h nb r s c) (e : Ext S C C') (k : h ∉ S) (k2 : nb ∉ S) : HpAt C' h nb r s c := ⟨e.keep H.o k, e.keep H.d k2, H.ne, H.cv, H.ok⟩
theorem HpAt.fr (H : HpAt C h nb r s c) : fld T0 8 (.cel h) C = .ok (.str r.s) C := fld_cel H.o (by decide) rfl rfl
theorem HpAt.fb (H : HpAt C h nb r s c) : fld T0 9 (.cel h) C = .ok (.cel nb) C := fld_cel H.o (by decide) rfl rfl
theorem HpAt.fc (H : HpAt C h nb r s c) : fld T0 10 (.cel h) C = .ok (.lst (c.map pr)) C := fld_cel H.o (by decide) rfl rfl
theorem HpAt.fe (H : HpAt C h nb r s c) : fld T0 11 (.cel h) C = .ok (dE s.lend) C := fld_cel H.o (by decide) rfl rfl
theorem HpAt.fm (H : HpAt C h nb r s c) : fld T0 12 (.cel h) C = .ok (.int s.most) C := fld_cel H.o (by decide) rfl rfl
theorem HpAt.ob (H : HpAt C h nb r s c) : objOf C (.cel h) = some (7, hpL r nb c s) := objOf_cel H.o
theorem strange_ok (H : HpAt C h nb r s c) (P : IsPc C d x) : F_Heap_is_strange [.cel h, d] C = .ok (.bl (s.strange x)) C := by
  have fe := H.fe
  have fm := H.fm
  have f6 := P.f6
  have ob := P.obj
  have en := P.end_
  have mm := mend
  unfold Hs.strange
  generalize endP x = E at *
  generalize s.lend = L at *
  generalize s.most = M at *
  generalize x.mo = mo at *
  cases L with
  | none =>
    have i0 : isN D.non = true := rfl
    simp only [dE] at fe
    cases mo <;> simp [F_Heap_is_strange, fe, fm, f6, ob, mm, en, strangeH, i0]
  | some k =>
    have i0 : isN (D.int k) = false := rfl
    simp only [dE] at fe
    by_cases q : k < E
    · cases mo <;> simp [F_Heap_is_strange, fe, fm, f6, ob, mm, en, strangeH, i0, q]
    · by_cases z : E = k
      · subst z
        cases mo <;> simp [F_Heap_is_strange, fe, fm, f6, ob, mm, en, strangeH, i0]
      · have z' : (E == k) = false := by simpa using z
        cases mo <;> simp [F_Heap_is_strange, fe, fm, f6, ob, mm, en, strangeH, i0, q, z, z']
theorem ix_i (l : List Int) (i : Nat) (b : Int) (h : l[i]? = some b) (C : Cells) : dIx (.lst (l.map D.int)) (.int i) C = .ok (.int b) C := by
  simp only [dIx, seqOf_lst]
  rw [atI_get (x := D.int b) (by omega) (by rw [List.getElem?_map, show (i : Int).toNat = i by omega, h]; rfl)]
theorem clash_step (H : HpAt C h nb r s c) (P : IsPc C d x) {i : Nat} {b : Int} (hb : x.bs[i]? = some b) :
    B_Heap_clash_1 [some (.cel h), some d, some (.int i)] C = if difF s.bt (x.at_ + i) b = true then .ret (.int (x.at_ + i)) C else .nxt [some (.cel h), some d, some (.int i)] C := by
  have fb := H.fb
  have f5 := P.f5
  have f3 := P.f3
  have ix := ix_i x.bs i b hb C
  have df := (dif_ok H.ok.b (x.at_ + i) b C).2
  have gt : eGet2 (eFld T0 9 (eVar 0)) (e2 dAdd (eFld T0 5 (eVar 1)) (eVar 2)) (e2 dIx (eFld T0 3 (eVar 1)) (eVar 2)) [some (.cel h), some d, some (.int i)] C = .ok ((lookD s.bt (.inl (x.at_ + i))).getD (.int b)) C :=
    get2_ok (by simp [fb]) H.d (by simp [f5]) (by simp [f3, ix])
  cases hq : difF s.bt (x.at_ + i) b with
  | true =>
    rw [hq] at df
    simp [-eGet2_ap, B_Heap_clash_1, gt, f3, ix, df, f5]
  | false =>
    rw [hq] at df
    simp [-eGet2_ap, B_Heap_clash_1, gt, f3, ix, df, f5]
theorem clash_loop (H : HpAt C h nb r s c) (P : IsPc C d x) : ∀ (rest : List Int) (k : Nat) (t2 : Option D), x.bs.drop k = rest → ∃ t2', forF (gfName 2) B_Heap_clash_1 ((List.range' k rest.length).map fun (i : Nat) => D.int i) [some (.cel h), some d, t2] C =
    match clashF s.bt (x.at_ + k) rest with | some a => .ret (.int a) C | none => .nxt [some (.cel h), some d, t2'] C
  | [], k, t2, _ => ⟨t2, rfl⟩
  | b :: rest, k, t2, e => by
    have hb : x.bs[k]? = some b := by
      have := congrArg List.head? e
      rw [List.head?_drop] at this
      exact this
    have e' : x.bs.drop (k + 1) = rest := by rw [← List.drop_drop, e]; rfl
    obtain ⟨t2', ih⟩ := clash_loop H P rest (k + 1) (some (.int k)) e'
    have st := clash_step H P hb
    refine ⟨t2', ?_⟩
    rw [List.length_cons, List.range'_succ, List.map_cons, forF_cons, gfName_ap]
    show (match B_Heap_clash_1 [some (.cel h), some d, some (.int k)] C with | .nxt s C => _ | .cnt s C => _ | .brk s C => _ | x => x) = _
    rw [st]
    show _ = match (if difF s.bt (x.at_ + k) b = true then some (x.at_ + (k : Int)) else clashF s.bt (x.at_ + k + 1) rest) with | some a => _ | none => _
    cases difF s.bt (x.at_ + k) b with
    | true => rfl
    | false =>
      have e3 : x.at_ + ((k + 1 : Nat) : Int) = x.at_ + k + 1 := by omega
      rw [e3] at ih
      exact ih
theorem rngD_0 (n : Nat) : rngD 0 n = (List.range' 0 n).map fun (i : Nat) => D.int i := by
  unfold rngD
  rw [List.range_eq_range']
  apply List.map_congr_left
  intro i _
  rw [Int.zero_add]
theorem clash_ok (H : HpAt C h nb r s c) (P : IsPc C d x) (hl : x.bs.length ≤ 4001) : F_Heap_clash [.cel h, d] C = .ok (dE (clashF s.bt x.at_ x.bs)) C := by
  have f3 := P.f3
  have bl := blen_i x.bs C
  have it : iR1 (aCons (eA bLen (aCons (eFld T0 3 (eVar 1)) (aNil))) (aNil)) [some (.cel h), some d, none] C = .ok (rngD 0 x.bs.length) C := iR1_of (by simp [f3, bl]) (by omega)
  obtain ⟨t2', lp⟩ := clash_loop H P x.bs 0 none rfl
  rw [← rngD_0] at lp
  have e0 : x.at_ + ((0 : Nat) : Int) = x.at_ := by omega
  rw [e0] at lp
  unfold F_Heap_clash
  cases hc : clashF s.bt x.at_ x.bs with
  | none =>
    rw [hc] at lp
    refine callF_r [some (.cel h), some d, none] rfl rfl ?_
    rw [sq, sFor_of it lp, sn]
    rfl
  | some a =>
    rw [hc] at lp
    refine callF_r [some (.cel h), some d, none] rfl rfl ?_
    rw [sq, sFor_of it lp]
    rfl
theorem mstr : M_is_strange 7 = some (2, F_Heap_is_strange) := rfl
theorem mcl : M_clash 7 = some (2, F_Heap_clash) := rfl
theorem trouble_ok (H : HpAt C h nb r s c) (P : IsPc C d x) (hl : x.bs.length ≤ 4001) : F_Heap_trouble [.cel h, d] C = .ok (dE (s.trouble r.r x)) C := by
  have fr := H.fr
  have ne := (r.ne C).2
  have ob := H.ob
  have st := strange_ok H P
  have cl := clash_ok H P hl
  have f5 := P.f5
  have m1 := mstr
  have m2 := mcl
  unfold Hs.trouble
  cases hr : r.r with
  | false =>
    rw [hr] at ne
    simp [F_Heap_trouble, fr, ne]; rfl
  | true =>
    rw [hr] at ne
    cases hs : s.strange x with
    | true =>
      rw [hs] at st
      simp [F_Heap_trouble, fr, ne, ob, m1, st, f5]; rfl
    | false =>
      rw [hs] at st
      simp [F_Heap_trouble, fr, ne, ob, m1, st, m2, cl]
end
section
variable {C C' : Cells} {h nb : Nat} {r : Rule} {s : Hs} {c : Cov.C} {d : D} {x : Pc}
/-- a piece's bounds -/
structure Pb (x : Pc) : Prop where
  a : 0 ≤ x.at_
  l : 1 ≤ x.bs.length
  e : endP x ≤ 4000
theorem Pb.len (p : Pb x) : x.bs.length ≤ 4000 := by
  have := p.a
  have := p.e
  unfold endP at this
  omega
theorem coverw_ok (H : HpAt C h nb r s c) (P : IsPc C d x) (p : Pb x) : ∃ C' c', F_Heap_cover_with [.cel h, d] C = .ok (.lst (c'.map pr)) C' ∧ Ext [] C C' ∧ ∀ l, Hcv c' (putF l s.bt x.at_ x.bs) := by
  have fc := H.fc
  have f5 := P.f5
  have ob := P.obj
  have en := P.end_
  have mm := mend
  have pl := p.len
  have pe := p.e
  have pll := p.l
  have lt : x.at_ < endP x := by unfold endP; omega
  have cl := H.cv.len H.ok.b
  obtain ⟨C', c', f, cv, ins, len, ex⟩ := with_span_ok' C c x.at_ (endP x) H.cv.cv lt (by omega)
  refine ⟨C', c', ?_, ex, fun l => ⟨cv, fun y => ?_⟩⟩
  · simp [F_Heap_cover_with, fc, f5, ob, mm, en, f]
  · rw [ins, H.cv.ins]
    have := (putF_ok l x.bs s.bt x.at_ H.ok.b p.a pe).2 y
    rw [this]
    unfold endP
    simp
theorem take_step' (fr : fld T0 8 (.cel h) C = .ok (.str r.s) C) (fb : fld T0 9 (.cel h) C = .ok (.cel nb) C) (P : IsPc C d x) {bt : Bt} (hd : C.get nb = some (.dk bt)) (hbt : bt.length ≤ 4001) {i : Nat} {b : Int} (hb : x.bs[i]? = some b) : ∃ C',
    B_Heap_take_1 [some (.cel h), some d, some (.int i)] C = .nxt [some (.cel h), some d, some (.int i)] C' ∧ C'.get nb = some (.dk (if r.l = true ∨ has bt (x.at_ + i) = false then putD bt (.inl (x.at_ + i)) (.int b) else bt)) ∧ Ext [nb] C C' := by
  have f5 := P.f5
  have f3 := P.f3
  have ix := ix_i x.bs i b hb C
  have eq := (r.eq C).2
  have gi : dInD true (.int (x.at_ + i)) (.cel nb) C = .ok (.bl (!has bt (x.at_ + i))) C := by
    unfold dInD
    rw [dget_cel hd rfl]; rfl
  have pu : dPutK C (.cel nb) (.int (x.at_ + i)) (.int b) = some (C.set nb (.dk (putD bt (.inl (x.at_ + i)) (.int b)))) := dput_cel hd rfl (by omega)
  by_cases q : r.l = true ∨ has bt (x.at_ + i) = false
  · refine ⟨C.set nb (.dk (putD bt (.inl (x.at_ + i)) (.int b))), ?_, by rw [if_pos q]; exact get_set hd, Ext.refl.set (.inl (by simp))⟩
    cases hl : r.l with
    | true =>
      rw [hl] at eq
      simp [B_Heap_take_1, fr, eq, f5, fb, f3, ix, pu]
    | false =>
      rw [hl] at eq q
      have hh : has bt (x.at_ + i) = false := by simpa using q
      rw [hh] at gi
      simp [B_Heap_take_1, fr, eq, f5, fb, gi, f3, ix, pu]
  · refine ⟨C, ?_, by rw [if_neg q]; exact hd, Ext.refl⟩
    have hl : r.l = false := by
      cases z : r.l with
      | false => rfl
      | true => exact absurd (.inl z) q
    have hh : has bt (x.at_ + i) = true := by
      cases z : has bt (x.at_ + i) with
      | true => rfl
      | false => exact absurd (.inr z) q
    rw [hl] at eq
    rw [hh] at gi
    simp [B_Heap_take_1, fr, eq, f5, fb, gi]
/-- the heap's object stands; the bytes' dict is under way -/
theorem take_loop (H0 : C.get h = some (.obj 7 (hpL r nb c s))) (hne : h ≠ nb) (P : ∀ C', Ext [nb] C C' → IsPc C' d x) : ∀ (rest : List Int) (k : Nat) (t2 : Option D) (bt : Bt) (C1 : Cells), x.bs.drop k = rest → Bts bt → 0 ≤ x.at_ → endP x ≤ 4000 → C1.get nb = some (.dk bt) → Ext [nb] C C1 → ∃ t2' C2,
    forF (gfName 2) B_Heap_take_1 ((List.range' k rest.length).map fun (i : Nat) => D.int i) [some (.cel h), some d, t2] C1 = .nxt [some (.cel h), some d, t2'] C2 ∧ C2.get nb = some (.dk (putF r.l bt (x.at_ + k) rest)) ∧ Ext [nb] C C2
  | [], k, t2, bt, C1, _, _, _, _, g, ex => ⟨t2, C1, rfl, g, ex⟩
  | b :: rest, k, t2, bt, C1, e, hb, h0, h1, g, ex => by
    have hbk : x.bs[k]? = some b := by
      have := congrArg List.head? e
      rw [List.head?_drop] at this
      exact this
    have e' : x.bs.drop (k + 1) = rest := by rw [← List.drop_drop, e]; rfl
    have hk : k < x.bs.length := by
      by_cases q : k < x.bs.length
      · exact q
      · rw [List.getElem?_eq_none (by omega)] at hbk; cases hbk
    have hlen := hb.len
    have hbd : Bts (if r.l = true ∨ has bt (x.at_ + k) = false then putD bt (.inl (x.at_ + k)) (.int b) else bt) := by
      split
      · refine hb.put ⟨by omega, ?_⟩
        unfold endP at h1; omega
      · exact hb
    have fr : fld T0 8 (.cel h) C1 = .ok (.str r.s) C1 := fld_cel (ex.keep H0 (by simp; exact hne)) (by decide) rfl rfl
    have fb : fld T0 9 (.cel h) C1 = .ok (.cel nb) C1 := fld_cel (ex.keep H0 (by simp; exact hne)) (by decide) rfl rfl
    obtain ⟨C2, f2, g2, ex2⟩ := take_step' (r := r) fr fb (P C1 ex) g (by omega) hbk
    obtain ⟨t2', C3, f3, g3, ex3⟩ := take_loop H0 hne P rest (k + 1) (some (.int k)) _ C2 e' hbd h0 h1 g2 (ex.trans ex2)
    refine ⟨t2', C3, ?_, ?_, ex3⟩
    · rw [List.length_cons, List.range'_succ, List.map_cons, forF_cons, gfName_ap]
      show (match B_Heap_take_1 [some (.cel h), some d, some (.int k)] C1 with | .nxt s C => _ | .cnt s C => _ | .brk s C => _ | x => x) = _
      rw [f2]
      exact f3
    · rw [g3]
      have e3 : x.at_ + ((k + 1 : Nat) : Int) = x.at_ + k + 1 := by omega
      rw [e3]; rfl
end
theorem mcov : M_cover_with 7 = some (2, F_Heap_cover_with) := rfl
theorem dE_some (k : Int) : dE (some k) = .int k := rfl
section
variable {C C' : Cells} {h nb : Nat} {r : Rule} {s : Hs} {c : Cov.C} {d : D} {x : Pc}
theorem hok_at {C : Cells} {h nb : Nat} {r : Rule} {s : Hs} {l : List D} (o : C.get h = some (.obj 7 l)) (k : Nat) (i : Nat) (v : D) (hk : 7 < T0.ncl ∧ k ∈ T0.fl 7) (hi : (T0.fl 7).idxOf k = i) (hl : i < l.length) : setFld T0 k (.cel h) v C = some (C.set h (.obj 7 (l.set i v))) := setFld_cel o hk hi hl
theorem take_ok (H : HpAt C h nb r s c) (P : IsPc C d x) (hd : d ≠ .cel h) (hdb : d ≠ .cel nb) (p : Pb x) : ∃ C' c', F_Heap_take [.cel h, d] C = .ok .non C' ∧ HpAt C' h nb r (s.take r.l x) c' ∧ Ext [h, nb] C C' := by
  have pl := p.len
  have bl := blen_i x.bs C
  have f3 := P.f3
  have PX : ∀ C', Ext [nb] C C' → IsPc C' d x := fun C' e => P.ext e fun n z => by
    simp only [List.mem_singleton]
    rintro rfl
    exact hdb z
  have it : iR1 (aCons (eA bLen (aCons (eFld T0 3 (eVar 1)) (aNil))) (aNil)) [some (.cel h), some d, none] C = .ok (rngD 0 x.bs.length) C := iR1_of (by simp [f3, bl]) (by omega)
  obtain ⟨t2', C1, f1, g1, ex1⟩ := take_loop H.o H.ne PX x.bs 0 none s.bt C rfl H.ok.b p.a p.e H.d Ext.refl
  rw [← rngD_0] at f1
  rw [show x.at_ + ((0 : Nat) : Int) = x.at_ by omega] at g1
  obtain ⟨b1, b2⟩ := putF_ok r.l x.bs s.bt x.at_ H.ok.b p.a p.e
  -- the cover, of the heap as it stands behind the bytes
  have o1 : C1.get h = some (.obj 7 (hpL r nb c s)) := ex1.keep H.o (by simp; exact H.ne)
  have P1 := PX C1 ex1
  have fc : fld T0 10 (.cel h) C1 = .ok (.lst (c.map pr)) C1 := fld_cel o1 (by decide) rfl rfl
  have f5 := P1.f5
  have ob := P1.obj
  have en := P1.end_
  have mm := mend
  have pll := p.l
  have lt : x.at_ < endP x := by unfold endP; omega
  have cl := H.cv.len H.ok.b
  obtain ⟨C2, c', fw, cv, ins, len, ex2⟩ := with_span_ok' C1 c x.at_ (endP x) H.cv.cv lt (by omega)
  have hcv : Hcv c' (putF r.l s.bt x.at_ x.bs) := ⟨cv, fun y => by
    rw [ins, H.cv.ins, b2 y]
    unfold endP
    simp⟩
  have fcw : F_Heap_cover_with [.cel h, d] C1 = .ok (.lst (c'.map pr)) C2 := by
    simp [F_Heap_cover_with, fc, f5, ob, mm, en, fw]
  have o2 : C2.get h = some (.obj 7 (hpL r nb c s)) := ex2.keep o1
  have d2 : C2.get nb = some (.dk (putF r.l s.bt x.at_ x.bs)) := ex2.keep g1
  have s3 : setFld T0 10 (.cel h) (.lst (c'.map pr)) C2 = some (C2.set h (.obj 7 ((hpL r nb c s).set 2 (.lst (c'.map pr))))) := setFld_cel o2 (by decide) rfl (by show 2 < 5; decide)
  have o3 : (C2.set h (.obj 7 ((hpL r nb c s).set 2 (.lst (c'.map pr))))).get h = some (.obj 7 ((hpL r nb c s).set 2 (.lst (c'.map pr)))) := get_set o2
  have d3 : (C2.set h (.obj 7 ((hpL r nb c s).set 2 (.lst (c'.map pr))))).get nb = some (.dk (putF r.l s.bt x.at_ x.bs)) := (get_set_ne (Ne.symm H.ne)).trans d2
  have ex3 : Ext [h, nb] C (C2.set h (.obj 7 ((hpL r nb c s).set 2 (.lst (c'.map pr))))) := ((ex1.mono (by simp)).trans (ex2.mono (by simp))).set (.inl (by simp))
  generalize C2.set h (.obj 7 ((hpL r nb c s).set 2 (.lst (c'.map pr)))) = C3 at s3 o3 d3 ex3
  have P3 : IsPc C3 d x := P.ext ex3 fun n z => by
    simp only [List.mem_cons, List.not_mem_nil, or_false, not_or]
    constructor
    · rintro rfl; exact hd z
    · rintro rfl; exact hdb z
  have f6 := P3.f6
  have ob3 := P3.obj
  have en3 := P3.end_
  have obh := objOf_cel o1
  have mc := mcov
  have ok' : Hok (s.take r.l x) := H.ok.take r.l p.a p.l p.e
  cases hm : x.mo with
  | true =>
    rw [hm] at f6
    have fm : fld T0 12 (.cel h) C3 = .ok (.int s.most) C3 := fld_cel o3 (by decide) rfl rfl
    have mx : bMax2 [.int s.most, .int (endP x)] C3 = .ok (.int (if endP x > s.most then endP x else s.most)) C3 := rfl
    have s4 : setFld T0 12 (.cel h) (.int (if endP x > s.most then endP x else s.most)) C3 = some (C3.set h (.obj 7 (((hpL r nb c s).set 2 (.lst (c'.map pr))).set 4 (.int (if endP x > s.most then endP x else s.most))))) := setFld_cel o3 (by decide) rfl (by show 4 < 5; decide)
    refine ⟨C3.set h (.obj 7 (((hpL r nb c s).set 2 (.lst (c'.map pr))).set 4 (.int (if endP x > s.most then endP x else s.most)))), c', ?_, ⟨?_, (get_set_ne (Ne.symm H.ne)).trans d3, H.ne, hcv, ok'⟩, ex3.set (.inl (by simp))⟩
    · generalize (if endP x > s.most then endP x else s.most) = M at mx s4 ⊢
      unfold F_Heap_take
      refine callF_n (s' := [some (.cel h), some d, t2']) [some (.cel h), some d, none] rfl rfl ?_
      rw [sq, sFor_of it f1, sn]
      rw [sq]
      conv => lhs; arg 1; simp [obh, mc, fcw, s3]
      rw [sn]
      simp [-max2_ap, f6, fm, ob3, mm, en3, mx, s4]
    · rw [get_set o3]
      unfold Hs.take
      simp only [hm, if_true]
      rfl
  | false =>
    rw [hm] at f6
    have s4 : setFld T0 11 (.cel h) (.int (endP x)) C3 = some (C3.set h (.obj 7 (((hpL r nb c s).set 2 (.lst (c'.map pr))).set 3 (.int (endP x))))) := setFld_cel o3 (by decide) rfl (by show 3 < 5; decide)
    refine ⟨C3.set h (.obj 7 (((hpL r nb c s).set 2 (.lst (c'.map pr))).set 3 (.int (endP x)))), c', ?_, ⟨?_, (get_set_ne (Ne.symm H.ne)).trans d3, H.ne, hcv, ok'⟩, ex3.set (.inl (by simp))⟩
    · generalize endP x = E at *
      unfold F_Heap_take
      refine callF_n (s' := [some (.cel h), some d, t2']) [some (.cel h), some d, none] rfl rfl ?_
      rw [sq, sFor_of it f1, sn]
      rw [sq]
      conv => lhs; arg 1; simp [obh, mc, fcw, s3]
      rw [sn]
      simp [f6, ob3, mm, en3, s4]
    · rw [get_set o3]
      unfold Hs.take
      simp only [hm]
      rfl
theorem hlacks_ok (H : HpAt C h nb r s c) : ∃ C', F_Heap_lacks_now [.cel h] C = .ok (.lst s.lacks) C' ∧ Ext [] C C' := by
  have fc := H.fc
  have fe := H.fe
  have cl := H.cv.len H.ok.b
  obtain ⟨C', f, ex⟩ := lacking_ok C c s.lend (by omega)
  rw [H.cv.lacks H.ok.b] at f
  refine ⟨C', ?_, ex⟩
  have e : s.lacks = lacksP s.bt s.lend := rfl
  rw [e]
  simp [F_Heap_lacks_now, fc, fe, f]
theorem hbytes_ok (H : HpAt C h nb r s c) {k : Int} (hk : s.lend = some k) (ha : ∀ x, 0 ≤ x → x < k → has s.bt x = true) : F_Heap_all_bytes [.cel h] C = .ok (.lst s.bytes) C := by
  have fe := H.fe
  have fb := H.fb
  rw [hk, dE_some] at fe
  have kb := H.ok.e k hk
  have it : iR1 (aCons (eFld T0 11 (eVar 0)) (aNil)) [some (.cel h), none] C = .ok (rngD 0 k.toNat) C := iR1_of (by rw [Int.toNat_of_nonneg (by omega)]; simp [fe]) (by omega)
  have lc := lcF_pure (tg := gfName 1) (t := tYesF) (f := Y_Heap_all_bytes_1) (vs := [1]) (s := [some (.cel h), none]) (C := C) (fun _ => true) (fun d => match d with | .int i => (lookD s.bt (.inl i)).getD .non | d => d) (rngD 0 k.toNat) (fun d m => by
    rw [rngD_eq] at m
    obtain ⟨i, hi, rfl⟩ := List.mem_map.1 m
    have hi := mem_rng.1 hi
    obtain ⟨v, hv, _, _⟩ := H.ok.b.has (ha i hi.1 (by omega))
    refine ⟨_, rfl, rfl, fun _ => ?_⟩
    have g : dGetF (.cel nb) (.int i) C = .ok (.int v) C := by
      unfold dGetF
      rw [dget_cel H.d (keyOf_i _), hv]
    show Y_Heap_all_bytes_1 _ C = .ok ((lookD s.bt (.inl i)).getD .non) C
    rw [hv]
    simp [Y_Heap_all_bytes_1, wipeD, fb, g])
  rw [List.filter_eq_self.2 (by simp)] at lc
  have e : (rngD 0 k.toNat).map (fun d => match d with | .int i => (lookD s.bt (.inl i)).getD .non | d => d) = s.bytes := by
    unfold Hs.bytes
    rw [hk, rngD_eq, List.map_map]
    rfl
  rw [e] at lc
  have lz : (rngD 0 k.toNat).length ≤ 16777216 := by rw [rngD_eq, List.length_map, rng_len]; omega
  unfold F_Heap_all_bytes
  refine callF_r [some (.cel h), none] rfl rfl ?_
  rw [sRet_ap, eLc_ap, lcG_ap, it, bind_ok]
  simp [lc, lz]
theorem hinit_ok (r : Rule) (C : Cells) : ∃ C', mkC 7 F_Heap_init [.str r.s] C = .ok (.cel C.nx) C' ∧ HpAt C' C.nx (C.nx + 1) r Hs0 [] ∧ Ext [] C C' := by
  have hm : ∀ (C1 : Cells) (l : List D) (k i : Nat) (v : D), C1.get C.nx = some (.obj 7 l) → (T0.fl 7).idxOf k = i → i = l.length → 7 < T0.ncl ∧ k ∈ T0.fl 7 → setFld T0 k (.cel C.nx) v C1 = some (C1.set C.nx (.obj 7 (l ++ [v]))) := fun C1 l k i v h1 h2 h3 h4 => setFld_add h1 h4 h2 h3
  have g0 : (C.new (.obj 7 [])).get C.nx = some (.obj 7 []) := get_new
  have e0 : Ext [] C (C.new (.obj 7 [])) := Ext.refl.new
  have n0 : (C.new (.obj 7 [])).nx = C.nx + 1 := rfl
  have s0 := hm _ _ 8 0 (.str r.s) g0 rfl rfl (by decide)
  have g1 : ((C.new (.obj 7 [])).set C.nx (.obj 7 ([] ++ [.str r.s]))).get C.nx = some (.obj 7 ([] ++ [.str r.s])) := get_set g0
  have n1 : ((C.new (.obj 7 [])).set C.nx (.obj 7 ([] ++ [.str r.s]))).nx = C.nx + 1 := rfl
  have e1 : Ext [] C ((C.new (.obj 7 [])).set C.nx (.obj 7 ([] ++ [.str r.s]))) := e0.set (.inr (Nat.le_refl _))
  generalize ((C.new (.obj 7 [])).set C.nx (.obj 7 ([] ++ [.str r.s]))) = C1 at s0 g1 n1 e1
  have g2 : (C1.new (.dk [])).get C.nx = some (.obj 7 ([] ++ [.str r.s])) := get_new_old g1
  have d2 : (C1.new (.dk [])).get (C.nx + 1) = some (.dk []) := by rw [← n1]; exact get_new
  have e2 : Ext [] C (C1.new (.dk [])) := e1.new
  have s2 := hm _ _ 9 1 (.cel (C.nx + 1)) g2 rfl rfl (by decide)
  have g3 := get_set (o := .obj 7 ([] ++ [.str r.s] ++ [.cel (C.nx + 1)])) g2
  have d3 : ((C1.new (.dk [])).set C.nx (.obj 7 ([] ++ [.str r.s] ++ [.cel (C.nx + 1)]))).get (C.nx + 1) = some (.dk []) := (get_set_ne (by omega)).trans d2
  have e3 : Ext [] C ((C1.new (.dk [])).set C.nx (.obj 7 ([] ++ [.str r.s] ++ [.cel (C.nx + 1)]))) := e2.set (.inr (Nat.le_refl _))
  generalize ((C1.new (.dk [])).set C.nx (.obj 7 ([] ++ [.str r.s] ++ [.cel (C.nx + 1)]))) = C3 at s2 g3 d3 e3
  have s4 := hm _ _ 10 2 (.lst []) g3 rfl rfl (by decide)
  have g4 := get_set (o := .obj 7 ([] ++ [.str r.s] ++ [.cel (C.nx + 1)] ++ [.lst []])) g3
  have d4 : (C3.set C.nx (.obj 7 ([] ++ [.str r.s] ++ [.cel (C.nx + 1)] ++ [.lst []]))).get (C.nx + 1) = some (.dk []) := (get_set_ne (by omega)).trans d3
  have e4 : Ext [] C (C3.set C.nx (.obj 7 ([] ++ [.str r.s] ++ [.cel (C.nx + 1)] ++ [.lst []]))) := e3.set (.inr (Nat.le_refl _))
  generalize (C3.set C.nx (.obj 7 ([] ++ [.str r.s] ++ [.cel (C.nx + 1)] ++ [.lst []]))) = C4 at s4 g4 d4 e4
  have s5 := hm _ _ 11 3 .non g4 rfl rfl (by decide)
  have g5 := get_set (o := .obj 7 ([] ++ [.str r.s] ++ [.cel (C.nx + 1)] ++ [.lst []] ++ [.non])) g4
  have d5 : (C4.set C.nx (.obj 7 ([] ++ [.str r.s] ++ [.cel (C.nx + 1)] ++ [.lst []] ++ [.non]))).get (C.nx + 1) = some (.dk []) := (get_set_ne (by omega)).trans d4
  have e5 : Ext [] C (C4.set C.nx (.obj 7 ([] ++ [.str r.s] ++ [.cel (C.nx + 1)] ++ [.lst []] ++ [.non]))) := e4.set (.inr (Nat.le_refl _))
  generalize (C4.set C.nx (.obj 7 ([] ++ [.str r.s] ++ [.cel (C.nx + 1)] ++ [.lst []] ++ [.non]))) = C5 at s5 g5 d5 e5
  have s6 := hm _ _ 12 4 (.int 0) g5 rfl rfl (by decide)
  have g6 := get_set (o := .obj 7 ([] ++ [.str r.s] ++ [.cel (C.nx + 1)] ++ [.lst []] ++ [.non] ++ [.int 0])) g5
  refine ⟨C5.set C.nx (.obj 7 ([] ++ [.str r.s] ++ [.cel (C.nx + 1)] ++ [.lst []] ++ [.non] ++ [.int 0])), ?_, ⟨g6, (get_set_ne (by omega)).trans d5, by omega, ⟨⟨by simp, by simp⟩, fun x => by simp [Cov.In, Hs0, has, lookD]⟩, hok0⟩, e5.set (.inr (Nat.le_refl _))⟩
  have fi : F_Heap_init [.cel C.nx, .str r.s] (C.new (.obj 7 [])) = .ok .non (C5.set C.nx (.obj 7 ([] ++ [.str r.s] ++ [.cel (C.nx + 1)] ++ [.lst []] ++ [.non] ++ [.int 0]))) := by
    unfold F_Heap_init
    refine callF_n (s' := [some (.cel C.nx), some (.str r.s)]) [some (.cel C.nx), some (.str r.s)] rfl rfl ?_
    rw [sq, sFldF_ap]
    simp only [eVar_ap, List.getElem?_cons_succ, List.getElem?_cons_zero, toS_ok, s0]
    rw [sn, sq, sFldF_ap]
    simp only [eNewK_ap, n1, eVar_ap, List.getElem?_cons_succ, List.getElem?_cons_zero, toS_ok, s2]
    rw [sn, sq, sFldF_ap]
    simp only [eLst_ap, aNil_ap, bind_ok, List.length_nil, mxl_le, Nat.zero_le, if_true, eVar_ap, List.getElem?_cons_succ, List.getElem?_cons_zero, toS_ok, s4]
    rw [sn, sq, sFldF_ap]
    simp only [eC_ap, eVar_ap, List.getElem?_cons_succ, List.getElem?_cons_zero, toS_ok, s5]
    rw [sn, sFldF_ap]
    simp only [eC_ap, eVar_ap, List.getElem?_cons_succ, List.getElem?_cons_zero, toS_ok, s6]
  unfold mkC
  rw [fi]
end
/-! judged -/
inductive Pcs (C : Cells) : List D → List Pc → Prop
  | nil : Pcs C [] []
  | cons {d : D} {x : Pc} {ds : List D} {xs : List Pc} : IsPc C d x → Pcs C ds xs → Pcs C (d :: ds) (x :: xs)
theorem Pcs.len {C : Cells} : ∀ {ds : List D} {xs : List Pc}, Pcs C ds xs → ds.length = xs.length
  | _, _, .nil => rfl
  | _, _, .cons _ t => by simp [t.len]
theorem Pcs.mem {C : Cells} : ∀ {ds : List D} {xs : List Pc}, Pcs C ds xs → ∀ d ∈ ds, ∃ x ∈ xs, IsPc C d x
  | _, _, .nil, d, h => by simp at h
  | _, _, .cons h t, d, m => by
    rcases List.mem_cons.1 m with rfl | m
    · exact ⟨_, by simp, h⟩
    · obtain ⟨x, hx, p⟩ := t.mem d m
      exact ⟨x, by simp [hx], p⟩
theorem Pcs.ext {C C' : Cells} (e : Ext [] C C') : ∀ {ds : List D} {xs : List Pc}, Pcs C ds xs → Pcs C' ds xs
  | _, _, .nil => .nil
  | _, _, .cons h t => .cons (h.ext e (by simp)) (t.ext e)
theorem Pcs.take {C : Cells} : ∀ {ds : List D} {xs : List Pc} (n : Nat), Pcs C ds xs → Pcs C (ds.take n) (xs.take n)
  | _, _, 0, _ => .nil
  | _, _, n + 1, .nil => .nil
  | _, _, n + 1, .cons h t => .cons h (t.take n)
theorem Pcs.app {C : Cells} : ∀ {ds es : List D} {xs ys : List Pc}, Pcs C ds xs → Pcs C es ys → Pcs C (ds ++ es) (xs ++ ys)
  | _, _, _, _, .nil, q => q
  | _, _, _, _, .cons h t, q => .cons h (t.app q)
/-- an answer -/
def AnsAt (C : Cells) (A : D) : Ans → Prop
  | .whole l => A = .obj 4 [.lst l]
  | .lacking l => A = .obj 5 [.lst l]
  | .unlike a => A = .obj 6 [.int a]
section
variable {C C' : Cells} {h nb : Nat} {r : Rule} {s : Hs} {c : Cov.C} {d : D} {x : Pc}
theorem mk1 (cl k : Nat) (F : Fn) (v : D) (C : Cells) (C1 : Cells) (e1 : Ext [] C C1) (g1 : C1.get C.nx = some (.obj cl [])) (hf : F [.cel C.nx, v] (C.new (.obj cl [])) = .ok .non (C1.set C.nx (.obj cl [v]))) (hc : cl < T0.ncl) (hl : (T0.fl cl).length = 1) :
    mkF T0 cl F [v] C = .ok (.obj cl [v]) ((C1.set C.nx (.obj cl [v])).del C.nx) := by
  unfold mkF
  rw [hf]
  simp only [get_set g1]
  rw [if_pos ⟨trivial, by rw [hl]; rfl⟩]
theorem unlike_ok (a : Int) (C : Cells) : ∃ C', mkF T0 6 F_Unlike_init [.int a] C = .ok (.obj 6 [.int a]) C' ∧ Ext [] C C' := by
  have g0 : (C.new (.obj 6 [])).get C.nx = some (.obj 6 []) := get_new
  have st := setFld_add (T := T0) (k := 5) (d := .int a) g0 (by decide) rfl rfl
  refine ⟨_, mk1 6 5 F_Unlike_init (.int a) C (C.new (.obj 6 [])) Ext.refl.new g0 ?_ (by decide) rfl, (Ext.refl.new.set (.inr (Nat.le_refl _))).del (.inr (Nat.le_refl _))⟩
  simp only [List.nil_append] at st
  simp [F_Unlike_init, st]
theorem lst_obj (cl k : Nat) (F : Fn) (l : List D) (C : Cells) (hF : F = callF 2 2 (sFldF T0 k (eVar 0) (eA bList (aCons (eVar 1) (aNil))))) (hk : cl < T0.ncl ∧ k ∈ T0.fl cl) (hi : (T0.fl cl).idxOf k = 0) (hl : (T0.fl cl).length = 1) :
    ∃ C', mkF T0 cl F [.lst l] C = .ok (.obj cl [.lst l]) C' ∧ Ext [] C C' := by
  have g0 : (C.new (.obj cl [])).get C.nx = some (.obj cl []) := get_new
  have bl : bList [.lst l] (C.new (.obj cl [])) = .ok (.lst l) (C.new (.obj cl [])) := by simp [bList]
  have st := setFld_add (T := T0) (k := k) (d := .lst l) g0 hk hi rfl
  refine ⟨_, mk1 cl k F (.lst l) C (C.new (.obj cl [])) Ext.refl.new g0 ?_ hk.1 hl, (Ext.refl.new.set (.inr (Nat.le_refl _))).del (.inr (Nat.le_refl _))⟩
  simp only [List.nil_append] at st
  subst hF
  simp [bl, st]
theorem whole_ok' (l : List D) (C : Cells) : ∃ C' A, mkF T0 4 F_Whole_init [.lst l] C = .ok A C' ∧ AnsAt C' A (.whole l) ∧ Ext [] C C' := by
  obtain ⟨C', h1, h3⟩ := lst_obj 4 3 F_Whole_init l C rfl (by decide) rfl rfl
  exact ⟨C', _, h1, rfl, h3⟩
theorem lackingo_ok (l : List D) (C : Cells) : ∃ C' A, mkF T0 5 F_Lacking_init [.lst l] C = .ok A C' ∧ AnsAt C' A (.lacking l) ∧ Ext [] C C' := by
  obtain ⟨C', h1, h3⟩ := lst_obj 5 7 F_Lacking_init l C rfl (by decide) rfl rfl
  exact ⟨C', _, h1, rfl, h3⟩
theorem mtro : M_trouble 7 = some (2, F_Heap_trouble) := rfl
theorem mtak : M_take 7 = some (2, F_Heap_take) := rfl
theorem mlac : M_lacks_now 7 = some (1, F_Heap_lacks_now) := rfl
theorem mall : M_all_bytes 7 = some (1, F_Heap_all_bytes) := rfl
theorem nil_eq (l : List D) (hp : DL.plain 30 (.lst l) = true) (C : Cells) : dEq (.lst l) (.lst []) C = .ok (.bl l.isEmpty) C ∧ dEqV (.lst l) (.lst []) C = .ok (.bl l.isEmpty) C := by
  have h2 : DL.plain 30 (.lst []) = true := rfl
  have e : eqD (.lst l) (.lst []) = l.isEmpty := by
    unfold eqD
    rw [eqDs_nil]
  constructor
  · unfold dEq
    simp only [vw_lst, hp, h2, e]; rfl
  · rw [eqV_p hp h2, e]
theorem pl_lacks (bt : Bt) (e : Option Int) : DL.plain 30 (.lst (lacksP bt e)) = true := by
  cases e with
  | some k => exact pl_prL _
  | none =>
    show List.all _ (DL.plain 29) = true
    unfold lacksP
    rw [List.all_append, pl_pr 27]; rfl
/-- one piece more -/
theorem judged_step (H : HpAt C h nb r s c) (P : IsPc C d x) (hd : d ≠ .cel h) (hdb : d ≠ .cel nb) (p : Pb x) {x0 x1 x4 : Option D} :
    (∃ a C' A, s.trouble r.r x = some a ∧ B_judged_3 [x0, x1, some (.cel h), some d, x4] C = .ret A C' ∧ AnsAt C' A (.unlike a) ∧ Ext [h, nb] C C') ∨
    (s.trouble r.r x = none ∧ s.strange x = true ∧ B_judged_3 [x0, x1, some (.cel h), some d, x4] C = .nxt [x0, x1, some (.cel h), some d, some .non] C) ∨
    (s.trouble r.r x = none ∧ s.strange x = false ∧ (s.take r.l x).lacks = [] ∧ ∃ C' A, B_judged_3 [x0, x1, some (.cel h), some d, x4] C = .ret A C' ∧ AnsAt C' A (.whole (s.take r.l x).bytes) ∧ Ext [h, nb] C C') ∨
    (s.trouble r.r x = none ∧ s.strange x = false ∧ (s.take r.l x).lacks ≠ [] ∧ ∃ C' c', B_judged_3 [x0, x1, some (.cel h), some d, x4] C = .nxt [x0, x1, some (.cel h), some d, some .non] C' ∧ HpAt C' h nb r (s.take r.l x) c' ∧ Ext [h, nb] C C') := by
  have pl := p.len
  have tr := trouble_ok H P (by omega)
  have ob := H.ob
  have m1 := mtro
  have m2 := mstr
  have m3 := mtak
  have m4 := mlac
  have m5 := mall
  cases ht : s.trouble r.r x with
  | some a =>
    rw [ht, dE_some] at tr
    obtain ⟨C', f, ex⟩ := unlike_ok a C
    refine .inl ⟨a, C', _, rfl, ?_, rfl, ex.mono (by simp)⟩
    have iN : isN (D.int a) = false := rfl
    simp [B_judged_3, ob, m1, tr, iN, f]
  | none =>
    rw [ht] at tr
    have tr : F_Heap_trouble [.cel h, d] C = .ok .non C := tr
    have st := strange_ok H P
    have iN : isN D.non = true := rfl
    cases hs : s.strange x with
    | true =>
      rw [hs] at st
      exact .inr (.inl ⟨rfl, rfl, by simp [B_judged_3, ob, m1, tr, iN, m2, st]⟩)
    | false =>
      rw [hs] at st
      obtain ⟨C1, c', ft, H1, e1⟩ := take_ok H P hd hdb p
      obtain ⟨C2, fl, e2⟩ := hlacks_ok H1
      have H2 := H1.ext e2 (by simp) (by simp)
      have ob1 := H1.ob
      have ob2 := H2.ob
      have ne := (nil_eq (s.take r.l x).lacks (pl_lacks _ _) C2).2
      by_cases hl : (s.take r.l x).lacks = []
      · obtain ⟨k, hk, ha⟩ := lacks_nil hl
        have fb := hbytes_ok H2 hk ha
        obtain ⟨C3, A, fw, aw, e3⟩ := whole_ok' (s.take r.l x).bytes C2
        rw [hl] at fl ne
        refine .inr (.inr (.inl ⟨rfl, rfl, hl, C3, A, ?_, aw, (e1.trans (e2.mono (by simp))).trans (e3.mono (by simp))⟩))
        simp [B_judged_3, ob, m1, tr, iN, m2, st, m3, ft, ob1, m4, fl, ne, ob2, m5, fb, fw]
      · refine .inr (.inr (.inr ⟨rfl, rfl, hl, C2, c', ?_, H2, e1.trans (e2.mono (by simp))⟩))
        have e0 : (s.take r.l x).lacks.isEmpty = false := by simpa using hl
        rw [e0] at ne
        simp [B_judged_3, ob, m1, tr, iN, m2, st, m3, ft, ob1, m4, fl, ne]
theorem judged_loop {Cs : Cells} : ∀ {ds : List D} {xs : List Pc}, Pcs Cs ds xs → (∀ x ∈ xs, Pb x) → ∀ {C : Cells} {s : Hs} {c : Cov.C} {x0 x1 x3 x4 : Option D}, Ext [] Cs C → Cs.nx ≤ h → Cs.nx ≤ nb → HpAt C h nb r s c →
    (∃ A C', forF (gfName 3) B_judged_3 ds [x0, x1, some (.cel h), x3, x4] C = .ret A C' ∧ AnsAt C' A (judgeP r.r r.l s xs) ∧ Ext [] Cs C') ∨
    (∃ t3 t4 s' c' C', forF (gfName 3) B_judged_3 ds [x0, x1, some (.cel h), x3, x4] C = .nxt [x0, x1, some (.cel h), t3, t4] C' ∧ HpAt C' h nb r s' c' ∧ judgeP r.r r.l s xs = .lacking s'.lacks ∧ Ext [] Cs C')
  | _, _, .nil, _, C, s, c, x0, x1, x3, x4, e, h1, h2, H => .inr ⟨x3, x4, s, c, C, rfl, H, rfl, e⟩
  | _, _, .cons (d := d) (x := x) (ds := ds) (xs := xs) P0 t, hb, C, s, c, x0, x1, x3, x4, e, h1, h2, H => by
    have P := P0.ext e (by simp)
    have lt : ∀ n, d = .cel n → n < Cs.nx := fun n z => by
      rcases P0 with q | ⟨m, q, g⟩
      · rw [q] at z; cases z
      · rw [q] at z; cases z; exact lt_of_get g
    have hd : d ≠ .cel h := fun z => by have := lt _ z; omega
    have hdb : d ≠ .cel nb := fun z => by have := lt _ z; omega
    have ex' : ∀ C', Ext [h, nb] C C' → Ext [] Cs C' := fun C' e' => ⟨Nat.le_trans e.nx e'.nx, fun n a b => by
      have := e.nx
      rw [e'.get n (by omega) (by simp; omega), e.get n a b]⟩
    have go : ∀ {C' : Cells} {s' : Hs} {c' : Cov.C}, B_judged_3 [x0, x1, some (.cel h), some d, x4] C = .nxt [x0, x1, some (.cel h), some d, some .non] C' → HpAt C' h nb r s' c' → Ext [h, nb] C C' → judgeP r.r r.l s (x :: xs) = judgeP r.r r.l s' xs →
        (∃ A C', forF (gfName 3) B_judged_3 (d :: ds) [x0, x1, some (.cel h), x3, x4] C = .ret A C' ∧ AnsAt C' A (judgeP r.r r.l s (x :: xs)) ∧ Ext [] Cs C') ∨
        (∃ t3 t4 s' c' C', forF (gfName 3) B_judged_3 (d :: ds) [x0, x1, some (.cel h), x3, x4] C = .nxt [x0, x1, some (.cel h), t3, t4] C' ∧ HpAt C' h nb r s' c' ∧ judgeP r.r r.l s (x :: xs) = .lacking s'.lacks ∧ Ext [] Cs C') := by
      intro C' s' c' f H' e' ej
      have ih := judged_loop t (fun y m => hb y (by simp [m])) (x0 := x0) (x1 := x1) (x3 := some d) (x4 := some .non) (ex' C' e') h1 h2 H'
      rw [ej]
      have ef : forF (gfName 3) B_judged_3 (d :: ds) [x0, x1, some (.cel h), x3, x4] C = forF (gfName 3) B_judged_3 ds [x0, x1, some (.cel h), some d, some .non] C' := by
        rw [forF_cons, gfName_ap]
        show (match B_judged_3 [x0, x1, some (.cel h), some d, x4] C with | .nxt s C => _ | .cnt s C => _ | .brk s C => _ | x => x) = _
        rw [f]
      rw [ef]; exact ih
    have re : ∀ {A : D} {C' : Cells}, B_judged_3 [x0, x1, some (.cel h), some d, x4] C = .ret A C' → forF (gfName 3) B_judged_3 (d :: ds) [x0, x1, some (.cel h), x3, x4] C = .ret A C' := by
      intro A C' f
      rw [forF_cons, gfName_ap]
      show (match B_judged_3 [x0, x1, some (.cel h), some d, x4] C with | .nxt s C => _ | .cnt s C => _ | .brk s C => _ | x => x) = _
      rw [f]
    rcases judged_step H P hd hdb (hb x (by simp)) (x0 := x0) (x1 := x1) (x4 := x4) with ⟨a, C', A, ht, f, ha, e'⟩ | ⟨ht, hs, f⟩ | ⟨ht, hs, hl, C', A, f, ha, e'⟩ | ⟨ht, hs, hl, C', c', f, H', e'⟩
    · refine .inl ⟨A, C', re f, ?_, ex' C' e'⟩
      unfold judgeP; rw [ht]; exact ha
    · refine go f H Ext.refl ?_
      conv => lhs; unfold judgeP
      rw [ht]; simp only [hs, if_true]
    · refine .inl ⟨A, C', re f, ?_, ex' C' e'⟩
      unfold judgeP; rw [ht]; simp only [hs, hl, if_true]; exact ha
    · refine go f H' e' ?_
      conv => lhs; unfold judgeP
      rw [ht]; simp only [hs, hl, if_false]; rfl
end
/-! lists: +, slices, items -/
theorem addL (a b : List D) (h : a.length + b.length ≤ 16777216) (C : Cells) : dAdd (.lst a) (.lst b) C = .ok (.lst (a ++ b)) C := by simp [dAdd, dCatL, h]
theorem cutI (l : List D) (v : Nat) (C : Cells) : dSl (.lst l) none (some (v : Int)) C = .ok (.lst (l.take v)) C ∧ dSl (.lst l) (some (v : Int)) none C = .ok (.lst (l.drop v)) C := by
  simp [dSl, cutD_take, cutD_drop]
theorem dix_mem {l : List D} {v : Int} {C : Cells} (h : 0 ≤ v ∧ v < l.length) : ∃ d, dIx (.lst l) (.int v) C = .ok d C ∧ d ∈ l := by
  have hv : v.toNat < l.length := by omega
  refine ⟨l[v.toNat], ?_, List.getElem_mem hv⟩
  simp only [dIx, seqOf_lst]
  rw [atI_get (x := l[v.toNat]) h.1 (List.getElem?_eq_getElem hv)]
theorem dix_at {l : List D} {i : Nat} {d : D} {C : Cells} (h : l[i]? = some d) : dIx (.lst l) (.int (i : Int)) C = .ok d C := by
  simp only [dIx, seqOf_lst]
  rw [atI_get (x := d) (by omega) (by simpa using h)]
theorem bAll_false {l : List D} {C : Cells} (h : ∀ x ∈ l, ∃ b, x = .bl b) (hf : D.bl false ∈ l) : bAll [.lst l] C = .ok (.bl false) C := by
  have : ∃ bs : List Bool, l = bs.map D.bl ∧ false ∈ bs := by
    induction l with
    | nil => cases hf
    | cons x r ih =>
      obtain ⟨b, rfl⟩ := h x (by simp)
      rcases List.mem_cons.1 hf with e | e
      · cases e
        have : ∃ bs : List Bool, r = bs.map D.bl := by
          clear ih hf
          have h' := fun y (m : y ∈ r) => h y (by simp [m])
          clear h
          induction r with
          | nil => exact ⟨[], rfl⟩
          | cons y r ih =>
            obtain ⟨c, rfl⟩ := h' y (by simp)
            obtain ⟨bs, rfl⟩ := ih fun z m => h' z (by simp [m])
            exact ⟨c :: bs, rfl⟩
        obtain ⟨bs, rfl⟩ := this
        exact ⟨false :: bs, rfl, by simp⟩
      · obtain ⟨bs, rfl, m⟩ := ih (fun y m => h y (by simp [m])) e
        exact ⟨b :: bs, rfl, by simp [m]⟩
  obtain ⟨bs, rfl, m⟩ := this
  have : bs.all id = false := by
    rw [List.all_eq_false]; exact ⟨false, m, by simp⟩
  simp [bAll, this]
structure Vl (x : Pc) : Prop where
  ky : Ky x.n x.a x.b
  bd : Bd x.bs
  pl : Pl x.at_ x.bs.length x.mo
theorem Vl.pb {x : Pc} (h : Vl x) : Pb x := by
  have a := h.pl.a
  have e := h.pl.e
  refine ⟨a.1, h.bd.lo, ?_⟩
  unfold endP
  split at e <;> omega
section
variable {C C' : Cells} {h nb : Nat} {s : Hs} {x : Pc} {r : Rule}
theorem crule_ok (r : Rule) (C : Cells) : F_check_rule [.str r.s] C = .ok .non C := by
  have h3 : isT tb0 3 3 = some true := rfl
  have m := r.mem C
  simp [F_check_rule, h3, c_RULES, m]
theorem judged_ok {ds : List D} {xs : List Pc} {C : Cells} (P : Pcs C ds xs) (hne : ds ≠ []) (hv : ∀ x ∈ xs, Vl x) {n : Int} {a b : Str} (ky : Ky n a b) (hk : ∀ x ∈ xs, x.n = n ∧ x.a = a ∧ x.b = b) (hl : ds.length ≤ 10000) (r : Rule) :
    ∃ A C', F_judged [.lst ds, .str r.s] C = .ok A C' ∧ AnsAt C' A (r.judge xs) ∧ Ext [] C C' := by
  have cr := crule_ok r C
  have ne : dEqL (.lst ds) (.lst []) C = .ok (.bl false) C := by
    have : ¬ ds.length = ([] : List D).length := fun z => hne (List.length_eq_zero_iff.1 z)
    show (if ds.length = ([] : List D).length then _ else _) = _
    rw [if_neg this]
  have lz : ds.length ≤ 16777216 := by omega
  have l1 := lcF_pure (tg := gfName 3) (t := tYesF) (f := Y_judged_1) (vs := [3]) (s := [some (.lst ds), some (.str r.s), none, none, none]) (C := C) (fun _ => true) (fun _ => .bl true) ds (fun d m => by
    obtain ⟨x, hx, px⟩ := P.mem d m
    refine ⟨_, rfl, rfl, fun _ => ?_⟩
    have kn := px.knd
    have it : isT tb0 (10 + 2) (10 + 2) = some true := rfl
    simp [Y_judged_1, wipeD, kn, it])
  have l2 := lcF_pure (tg := gfName 3) (t := tYesF) (f := Y_judged_2) (vs := [3]) (s := [some (.lst ds), some (.str r.s), none, none, none]) (C := C) (fun _ => true) (fun _ => .bl true) ds (fun d m => by
    obtain ⟨x, hx, px⟩ := P.mem d m
    obtain ⟨d0, dr, e0⟩ : ∃ d0 dr, ds = d0 :: dr := by
      cases ds with
      | nil => exact absurd rfl hne
      | cons a r => exact ⟨a, r, rfl⟩
    obtain ⟨y, hy, py⟩ := P.mem d0 (by rw [e0]; simp)
    refine ⟨_, rfl, rfl, fun _ => ?_⟩
    have k1 := px.key
    have k2 := py.key
    obtain ⟨a1, a2, a3⟩ := hk x hx
    obtain ⟨b1, b2, b3⟩ := hk y hy
    rw [a1, a2, a3] at k1
    rw [b1, b2, b3] at k2
    have ob1 := px.obj
    have ob2 := py.obj
    have mk := mkey
    have ix : dIx (.lst ds) (.int 0) C = .ok d0 C := by rw [e0]; simp [dIx, atI, ixN]
    have q1 := dEq_same (C := C) (x := .tup [.int n, .str a, .str b]) (y := .tup [.int n, .str a, .str b]) rfl (pl_key ky)
    have q2 := eqV_pl (C := C) (pl_key ky)
    generalize D.tup [.int n, .str a, .str b] = KT at *
    generalize D.lst ds = DS at *
    simp [Y_judged_2, wipeD, ob1, mk, k1, ix, ob2, k2, q1, q2])
  rw [List.filter_eq_self.2 (by simp)] at l1 l2
  have al : bAll [.lst (ds.map fun _ => D.bl true)] C = .ok (.bl true) C := bAll_true fun x m => by
    obtain ⟨_, _, rfl⟩ := List.mem_map.1 m; rfl
  obtain ⟨C1, f1, H, e1⟩ := hinit_ok r C
  have pb : ∀ x ∈ xs, Pb x := fun x m => (hv x m).pb
  rcases judged_loop P pb (x0 := some (.lst ds)) (x1 := some (.str r.s)) (x3 := none) (x4 := none) e1 (Nat.le_refl _) (Nat.le_succ _) H with ⟨A, C', f, ha, e⟩ | ⟨t3, t4, s', c', C', f, H', ej, e⟩
  · refine ⟨A, C', ?_, ha, e⟩
    generalize (ds.map fun _ => D.bl true) = TL at *
    unfold F_judged
    refine callF_r [some (.lst ds), some (.str r.s), none, none, none] rfl rfl ?_
    rw [sq]
    conv => lhs; arg 1; simp [cr]
    rw [sn]
    rw [sq]
    conv => lhs; arg 1; simp [ne, l1, lz, al]
    rw [sn]
    rw [sq]
    conv => lhs; arg 1; simp [l2, lz, al]
    rw [sn]
    rw [sq]
    conv => lhs; arg 1; simp [f1]
    rw [sn]
    rw [sq, sFor_of (C1 := C1) (ds := ds) (by simp) f]
    rfl
  · obtain ⟨C2, fl, e2⟩ := hlacks_ok H'
    obtain ⟨C3, A, fw, ha, e3⟩ := lackingo_ok s'.lacks C2
    refine ⟨A, C3, ?_, ?_, (e.trans e2).trans e3⟩
    · have ob := H'.ob
      have ml := mlac
      generalize (ds.map fun _ => D.bl true) = TL at *
      unfold F_judged
      refine callF_r [some (.lst ds), some (.str r.s), none, none, none] rfl rfl ?_
      rw [sq]
      conv => lhs; arg 1; simp [cr]
      rw [sn]
      rw [sq]
      conv => lhs; arg 1; simp [ne, l1, lz, al]
      rw [sn]
      rw [sq]
      conv => lhs; arg 1; simp [l2, lz, al]
      rw [sn]
      rw [sq]
      conv => lhs; arg 1; simp [f1]
      rw [sn]
      rw [sq, sFor_of (C1 := C1) (ds := ds) (by simp) f, sn]
      simp [ob, ml, fl, fw]
    · unfold Rule.judge
      rw [ej]; exact ha
end
/-! rooms -/
structure Ent where
  k : List Key
  h : Nat
  nb : Nat
  t : Int
  s : Hs
  c : Cov.C
structure Rm where
  r : Rule
  w : Int
  sp : Int
  out : Str
  ag : Str
  now : Int
  wh : List (List Key × Int)
def rmL (R : Rm) (nh ng nw : Nat) : List D := [.str R.r.s, .int R.w, .int R.sp, .str R.out, .str R.ag, .int R.now, .cel nh, .cel ng, .cel nw]
def esH (es : List Ent) : List (List Key × D) := es.map fun e => (e.k, .cel e.h)
def esG (es : List Ent) : List (List Key × D) := es.map fun e => (e.k, .int e.t)
def whD (wh : List (List Key × Int)) : List (List Key × D) := wh.map fun p => (p.1, .int p.2)
def without (es : List Ent) (k : List Key) : List Ent := es.filter fun e => !decide (e.k = k)
structure RoomAt (C : Cells) (n nh ng nw : Nat) (R : Rm) (es : List Ent) : Prop where
  o : C.get n = some (.obj 8 (rmL R nh ng nw))
  dh : C.get nh = some (.dt (esH es))
  dg : C.get ng = some (.dt (esG es))
  dw : C.get nw = some (.dt (whD R.wh))
  hp : ∀ e ∈ es, HpAt C e.h e.nb R.r e.s e.c
  nd : (n :: nh :: ng :: nw :: es.flatMap fun e => [e.h, e.nb]).Nodup
  kd : (es.map (·.k)).Nodup
  ln : es.length ≤ 1000
  lw : R.wh.length ≤ 1000
theorem keyOf_D (k : Key) : keyOf (keyD k) = some k := by cases k <;> rfl
theorem keysOf_D : ∀ k : List Key, keysOf (k.map keyD) = some k
  | [] => rfl
  | a :: k => by
    have ih := keysOf_D k
    simp [keysOf, keyOf_D, ih]
theorem look_es (g : Ent → D) (es : List Ent) (k : List Key) : lookD (es.map fun e => (e.k, g e)) k = (es.find? fun e => decide (e.k = k)).map g := by
  unfold lookD
  rw [List.find?_map, Option.map_map]
  rfl
theorem drop_es (g : Ent → D) (es : List Ent) (k : List Key) : dropD (es.map fun e => (e.k, g e)) k = (without es k).map fun e => (e.k, g e) := by
  unfold dropD without
  rw [List.filter_map]
  congr 1
  apply List.filter_congr
  intro e _
  simp
theorem without_none {es : List Ent} {k : List Key} (h : es.find? (fun e => decide (e.k = k)) = none) : without es k = es := by
  unfold without
  apply List.filter_eq_self.2
  intro e m
  have := List.find?_eq_none.1 h e m
  simpa using this
theorem sub_flat {f : Ent → List Nat} : ∀ {l m : List Ent}, List.Sublist l m → List.Sublist (l.flatMap f) (m.flatMap f)
  | _, _, .slnil => List.Sublist.refl _
  | _, _, .cons a h => by
    rw [List.flatMap_cons]
    exact (sub_flat h).trans (List.sublist_append_right _ _)
  | _, _, .cons_cons a h => by
    rw [List.flatMap_cons, List.flatMap_cons]
    exact List.Sublist.append (List.Sublist.refl _) (sub_flat h)
section
variable {C C' : Cells} {n nh ng nw : Nat} {R : Rm} {es : List Ent} {S : List Nat}
theorem RoomAt.nes (H : RoomAt C n nh ng nw R es) : n ≠ nh ∧ n ≠ ng ∧ n ≠ nw ∧ nh ≠ ng ∧ nh ≠ nw ∧ ng ≠ nw := by
  have := H.nd
  simp only [List.nodup_cons, List.mem_cons, not_or] at this
  exact ⟨this.1.1, this.1.2.1, this.1.2.2.1, this.2.1.1, this.2.1.2.1, this.2.2.1.1⟩
theorem RoomAt.neh (H : RoomAt C n nh ng nw R es) {e : Ent} (m : e ∈ es) : (e.h ≠ n ∧ e.h ≠ nh ∧ e.h ≠ ng ∧ e.h ≠ nw) ∧ e.nb ≠ n ∧ e.nb ≠ nh ∧ e.nb ≠ ng ∧ e.nb ≠ nw := by
  have := H.nd
  simp only [List.nodup_cons, List.mem_cons, not_or] at this
  have mh : e.h ∈ es.flatMap fun e => [e.h, e.nb] := List.mem_flatMap.2 ⟨e, m, by simp⟩
  have mb : e.nb ∈ es.flatMap fun e => [e.h, e.nb] := List.mem_flatMap.2 ⟨e, m, by simp⟩
  have no : ∀ {a b : Nat}, a ∈ (es.flatMap fun e => [e.h, e.nb]) → ¬ b ∈ (es.flatMap fun e => [e.h, e.nb]) → a ≠ b := fun h1 h2 e => h2 (e ▸ h1)
  exact ⟨⟨no mh this.1.2.2.2, no mh this.2.1.2.2, no mh this.2.2.1.2, no mh this.2.2.2.1⟩, no mb this.1.2.2.2, no mb this.2.1.2.2, no mb this.2.2.1.2, no mb this.2.2.2.1⟩
theorem RoomAt.ext (H : RoomAt C n nh ng nw R es) (e : Ext S C C') (k : ∀ m ∈ n :: nh :: ng :: nw :: (es.flatMap fun e => [e.h, e.nb]), m ∉ S) : RoomAt C' n nh ng nw R es :=
  ⟨e.keep H.o (k n (by simp)), e.keep H.dh (k nh (by simp)), e.keep H.dg (k ng (by simp)), e.keep H.dw (k nw (by simp)),
    fun x m => (H.hp x m).ext e (k x.h (by simp only [List.mem_cons, List.mem_flatMap]; exact .inr (.inr (.inr (.inr ⟨x, m, by simp⟩))))) (k x.nb (by simp only [List.mem_cons, List.mem_flatMap]; exact .inr (.inr (.inr (.inr ⟨x, m, by simp⟩))))), H.nd, H.kd, H.ln, H.lw⟩
theorem RoomAt.fr (H : RoomAt C n nh ng nw R es) : fld T0 8 (.cel n) C = .ok (.str R.r.s) C := fld_cel H.o (by decide) rfl rfl
theorem RoomAt.fw (H : RoomAt C n nh ng nw R es) : fld T0 13 (.cel n) C = .ok (.int R.w) C := fld_cel H.o (by decide) rfl rfl
theorem RoomAt.fs (H : RoomAt C n nh ng nw R es) : fld T0 14 (.cel n) C = .ok (.int R.sp) C := fld_cel H.o (by decide) rfl rfl
theorem RoomAt.fo (H : RoomAt C n nh ng nw R es) : fld T0 15 (.cel n) C = .ok (.str R.out) C := fld_cel H.o (by decide) rfl rfl
theorem RoomAt.fa (H : RoomAt C n nh ng nw R es) : fld T0 16 (.cel n) C = .ok (.str R.ag) C := fld_cel H.o (by decide) rfl rfl
theorem RoomAt.fn (H : RoomAt C n nh ng nw R es) : fld T0 17 (.cel n) C = .ok (.int R.now) C := fld_cel H.o (by decide) rfl rfl
theorem RoomAt.fh (H : RoomAt C n nh ng nw R es) : fld T0 18 (.cel n) C = .ok (.cel nh) C := fld_cel H.o (by decide) rfl rfl
theorem RoomAt.fb (H : RoomAt C n nh ng nw R es) : fld T0 19 (.cel n) C = .ok (.cel ng) C := fld_cel H.o (by decide) rfl rfl
theorem RoomAt.fz (H : RoomAt C n nh ng nw R es) : fld T0 20 (.cel n) C = .ok (.cel nw) C := fld_cel H.o (by decide) rfl rfl
theorem RoomAt.ob (H : RoomAt C n nh ng nw R es) : objOf C (.cel n) = some (8, rmL R nh ng nw) := objOf_cel H.o
theorem tyT_of {n : Nat} {l : List (List Key × D)} (g : C.get n = some (.dt l)) : tyT C (.cel n) = true := by
  unfold tyT; simp only [g]
theorem popT_some {n : Nat} {l : List (List Key × D)} {k : List Key} {d y : D} (g : C.get n = some (.dt l)) (e : lookD l k = some y) : mPopT (.cel n) [keyT k, d] C = .ok y (C.set n (.dt (dropD l k))) := by
  unfold mPopT keyT
  simp only [g, keysOf_D, e]
theorem popT_none {n : Nat} {l : List (List Key × D)} {k : List Key} {d : D} (g : C.get n = some (.dt l)) (e : lookD l k = none) : mPopT (.cel n) [keyT k, d] C = .ok d C := by
  unfold mPopT keyT
  simp only [g, keysOf_D, e]
/-- a key is let go -/
theorem letgo_ok (H : RoomAt C n nh ng nw R es) (k : List Key) (why : Str) : ∃ C', F_Room_let_go [.cel n, keyT k, .str why] C = .ok (.tup [.str "gone", keyT k, .str why]) C' ∧ RoomAt C' n nh ng nw R (without es k) ∧ Ext [nh, ng] C C' := by
  have fh := H.fh
  have fb := H.fb
  obtain ⟨n1, n2, n3, n4, n5, n6⟩ := H.nes
  have lh := look_es (fun e => .cel e.h) es k
  have lg := look_es (fun e => .int e.t) es k
  have th := tyT_of H.dh
  cases hf : es.find? fun e => decide (e.k = k) with
  | none =>
    rw [hf] at lh lg
    have p1 := popT_none (d := .non) H.dh lh
    have p2 := popT_none (d := .non) H.dg lg
    have tg := tyT_of H.dg
    refine ⟨C, ?_, by rw [without_none hf]; exact H, Ext.refl⟩
    generalize keyT k = K at *
    simp [F_Room_let_go, fh, fb, th, tg, p1, p2]
  | some e0 =>
    rw [hf] at lh lg
    have p1 := popT_some (d := .non) H.dh lh
    obtain ⟨C1, hC1⟩ : ∃ C1, C1 = C.set nh (.dt (dropD (esH es) k)) := ⟨_, rfl⟩
    have e1 : Ext [nh] C C1 := hC1 ▸ Ext.refl.set (.inl (by simp))
    have dg1 := e1.keep H.dg (by simp [n4.symm])
    have o1 := e1.keep H.o (by simp [n1])
    have fb1 : fld T0 19 (.cel n) C1 = .ok (.cel ng) C1 := fld_cel o1 (by decide) rfl rfl
    have tg1 := tyT_of dg1
    have p2 := popT_some (d := .non) dg1 lg
    obtain ⟨C2, hC2⟩ : ∃ C2, C2 = C1.set ng (.dt (dropD (esG es) k)) := ⟨_, rfl⟩
    have e2 : Ext [ng] C1 C2 := hC2 ▸ Ext.refl.set (.inl (by simp))
    have e12 : Ext [nh, ng] C C2 := (e1.mono (fun m h => .inl (by simp at h ⊢; exact .inl h))).trans (e2.mono (fun m h => .inl (by simp at h ⊢; exact .inr h)))
    rw [← hC1] at p1
    rw [← hC2] at p2
    have sub : ∀ e ∈ without es k, e ∈ es := fun e m => (List.mem_filter.1 m).1
    have sl : List.Sublist (without es k) es := List.filter_sublist
    refine ⟨C2, ?_, ⟨e12.keep H.o (by simp [n1, n2]), ?_, ?_, e12.keep H.dw (by simp [n5.symm, n6.symm]), fun e m => ?_, ?_, ?_, ?_, H.lw⟩, e12⟩
    · generalize keyT k = K at *
      simp [F_Room_let_go, fh, fb1, th, tg1, p1, p2]
    · have : C1.get nh = some (.dt (dropD (esH es) k)) := by rw [hC1]; exact get_set H.dh
      rw [e2.keep this (by simp [n4])]
      unfold esH; rw [drop_es]
    · rw [hC2, get_set dg1]
      unfold esG; rw [drop_es]
    · obtain ⟨⟨a1, a2, a3, a4⟩, b1, b2, b3, b4⟩ := H.neh (sub e m)
      exact (H.hp e (sub e m)).ext e12 (by simp [a2, a3]) (by simp [b2, b3])
    · refine H.nd.sublist ?_
      exact ((((sub_flat sl).cons_cons _).cons_cons _).cons_cons _).cons_cons _
    · exact H.kd.sublist (sl.map _)
    · exact Nat.le_trans sl.length_le H.ln
end
theorem size_okL (C : Cells) (c : Cov.C) (hc : c.length ≤ 5000) : F_size_of [.lst (c.map pr)] C = .ok (.int (Cov.sz c)) C := by
  have h := lcF_pure (tg := gfTup 2 (gfCons (gfName 1) (gfCons (gfName 2) gfNil))) (t := tYesF) (f := Y_size_of_1) (vs := [1, 2]) (s := [some (.lst (c.map pr)), none, none]) (C := C) (fun _ => true)
    (fun d => match d with | .tup [.int a, .int b] => .int (b - a) | _ => .non) (c.map pr) (fun d m => by
      obtain ⟨p, _, rfl⟩ := List.mem_map.1 m
      exact ⟨_, rfl, rfl, fun _ => rfl⟩)
  have e : ((c.map pr).filter fun _ => true).map (fun d => match d with | .tup [.int a, .int b] => D.int (b - a) | _ => .non) = (c.map fun p => p.2 - p.1).map D.int := by
    rw [List.filter_eq_self.2 (by simp), List.map_map, List.map_map]; rfl
  rw [e] at h
  have hl : c.length ≤ 16777216 := by omega
  simp [F_size_of, h, hl, bSum, Cov.sz]
  rw [← List.map_map, asInts_ints]; simp
section
variable {C C' : Cells} {h nb : Nat} {r : Rule} {s : Hs} {c : Cov.C} {d : D} {x : Pc}
theorem hsize_ok (H : HpAt C h nb r s c) : F_Heap_size [.cel h] C = .ok (.int (Cov.sz c)) C := by
  have fc := H.fc
  have z := size_okL C c (by have := H.cv.len H.ok.b; omega)
  generalize c.map pr = CL at *
  simp [F_Heap_size, fc, z]
theorem hgrown_ok (H : HpAt C h nb r s c) (P : IsPc C d x) (p : Pb x) : ∃ C' c', F_Heap_grown_with [.cel h, d] C = .ok (.int (Cov.sz c' - Cov.sz c)) C' ∧ Ext [] C C' ∧ ∀ l, Hcv c' (putF l s.bt x.at_ x.bs) := by
  obtain ⟨C', c', f, ex, hc⟩ := coverw_ok H P p
  have fc := (H.ext ex (by simp) (by simp)).fc
  have z := size_okL C' c (by have := H.cv.len H.ok.b; omega)
  have b' := (putF_ok true x.bs s.bt x.at_ H.ok.b p.a p.e).1
  have z' := size_okL C' c' (by have := (hc true).len b'; omega)
  have ob := H.ob
  have mm := mcov
  refine ⟨C', c', ?_, ex, hc⟩
  generalize c.map pr = CL at *
  generalize c'.map pr = CL' at *
  simp [F_Heap_grown_with, ob, mm, f, fc, z, z']
theorem take_mo (x : Pc) (l : Bool) (s : Hs) : (s.take l x).lend = if x.mo = true then s.lend else some (endP x) := rfl
/-- nothing lacks any more with the piece -/
theorem hwould_ok (H : HpAt C h nb r s c) (P : IsPc C d x) (p : Pb x) : ∃ C', F_Heap_would_be_whole [.cel h, d] C = .ok (.bl ((s.take r.l x).lacks.isEmpty)) C' ∧ Ext [] C C' := by
  have f6 := P.f6
  have fe := H.fe
  have ob := P.obj
  have en := P.end_
  have mm := mend
  obtain ⟨C1, c', f, ex, hc⟩ := coverw_ok H P p
  have obh := H.ob
  have mc := mcov
  have b' := (putF_ok r.l x.bs s.bt x.at_ H.ok.b p.a p.e).1
  have cl := (hc r.l).len b'
  have core : ∀ e : Int, (s.take r.l x).lend = some e → ∃ C2, F_lacking [.lst (c'.map pr), .int e] C1 = .ok (.lst (s.take r.l x).lacks) C2 ∧ Ext [] C1 C2 := fun e he => by
    obtain ⟨C2, g, e2⟩ := lacking_ok C1 c' (some e) (by omega)
    rw [(hc r.l).lacks b'] at g
    refine ⟨C2, ?_, e2⟩
    unfold Hs.lacks
    rw [he]
    exact g
  have plk : DL.plain 30 (.lst (s.take r.l x).lacks) = true := pl_lacks _ _
  cases hm : x.mo with
  | false =>
    have he : (s.take r.l x).lend = some (endP x) := by rw [take_mo, hm]; rfl
    obtain ⟨C2, g, e2⟩ := core _ he
    have q := (nil_eq _ plk C2).2
    rw [hm] at f6
    refine ⟨C2, ?_, ex.trans e2⟩
    generalize (s.take r.l x).lacks = LK at *
    generalize c'.map pr = CL' at *
    have nn : dNotN (.int (endP x)) .non C = .ok (.bl true) C := rfl
    simp [F_Heap_would_be_whole, f6, fe, ob, en, mm, obh, mc, f, g, q, nn]
  | true =>
    have he : (s.take r.l x).lend = s.lend := by rw [take_mo, hm]; rfl
    rw [hm] at f6
    cases hl : s.lend with
    | none =>
      rw [hl] at fe he
      have ne : (s.take r.l x).lacks.isEmpty = false := by
        unfold Hs.lacks lacksP
        rw [he]
        simp
      have nn : dNotN (dE none) .non C = .ok (.bl false) C := rfl
      exact ⟨C, by rw [ne]; simp [F_Heap_would_be_whole, f6, fe, nn], Ext.refl⟩
    | some e =>
      rw [hl] at fe he
      obtain ⟨C2, g, e2⟩ := core _ he
      have q := (nil_eq _ plk C2).2
      have nn : dNotN (dE (some e)) .non C = .ok (.bl true) C := rfl
      rw [dE_some] at fe nn
      refine ⟨C2, ?_, ex.trans e2⟩
      generalize (s.take r.l x).lacks = LK at *
      generalize c'.map pr = CL' at *
      simp [F_Heap_would_be_whole, f6, fe, obh, mc, f, g, q, nn]
end
theorem msz : M_size 7 = some (1, F_Heap_size) := rfl
section
variable {C : Cells} {m : Nat} {l : List (List Key × D)} {fo : EF} {tg : GF} {t : TF} {f : EF} {vs : List Nat} {s : Sl} {k : Wk}
theorem eLcT_pure (hf : fo s C = .ok (.cel m) C) (hm : C.get m = some (.dt l)) (hd : fo s (C.del m) = .ok (.cel m) (C.del m)) (hl : l.length ≤ mxl) (p : D → Bool) (g : D → D)
    (h : ∀ d ∈ k.ds l, ∃ s', tg d (wipeD s vs) (C.del m) = some s' ∧ t s' (C.del m) = .ok (p d) (C.del m) ∧ (p d = true → f s' (C.del m) = .ok (g d) (C.del m))) :
    eLcT k fo tg t f vs s C = .ok (.lst (((k.ds l).filter p).map g)) C := by
  have lc := lcF_pure (tg := tg) (t := t) (f := f) (vs := vs) (s := s) (C := C.del m) p g (k.ds l) h
  unfold eLcT lcTG
  simp only [hf, hm, hd, if_true, lc, if_pos hl]
  rw [del_put hm]
end
section
variable {C C' : Cells} {n nh ng nw : Nat} {R : Rm} {es : List Ent} {S : List Nat}
def szs (es : List Ent) : Int := (es.map fun e => Cov.sz e.c).sum
theorem bkept_ok (H : RoomAt C n nh ng nw R es) : F_Room_bytes_kept [.cel n] C = .ok (.int (szs es)) C := by
  have e1 : Ext [nh] C (C.del nh) := Ext.refl.del (.inl (by simp))
  obtain ⟨n1, n2, n3, n4, n5, n6⟩ := H.nes
  have o1 := e1.keep H.o (by simp [n1])
  have fh := H.fh
  have fh1 : fld T0 18 (.cel n) (C.del nh) = .ok (.cel nh) (C.del nh) := fld_cel o1 (by decide) rfl rfl
  have ll : (esH es).length ≤ mxl := by
    have := H.ln
    show (esH es).length ≤ 16777216
    unfold esH; rw [List.length_map]; omega
  have sz1 : ∀ e ∈ es, F_Heap_size [.cel e.h] (C.del nh) = .ok (.int (Cov.sz e.c)) (C.del nh) ∧ objOf (C.del nh) (.cel e.h) = some (7, hpL R.r e.nb e.c e.s) := fun e m => by
    obtain ⟨⟨a1, a2, a3, a4⟩, b1, b2, b3, b4⟩ := H.neh m
    have h1 := (H.hp e m).ext e1 (by simp [a2]) (by simp [b2])
    exact ⟨hsize_ok h1, h1.ob⟩
  have key : ∀ d ∈ Wk.vals.ds (esH es), ∃ e ∈ es, d = .cel e.h := fun d m => by
    unfold Wk.ds esH at m
    simp only [List.map_map, List.mem_map] at m
    obtain ⟨e, me, rfl⟩ := m
    exact ⟨e, me, rfl⟩
  have hc := eLcT_pure (k := .vals) (fo := eFld T0 18 (eVar 0)) (tg := gfName 1) (t := tYesF) (f := Y_Room_bytes_kept_1) (vs := [1]) (s := [some (.cel n), none]) (by simp [fh]) H.dh (by simp [fh1]) ll (fun _ => true)
    (fun d => match F_Heap_size [d] (C.del nh) with | .ok z _ => z | _ => .non) (fun d m => by
      obtain ⟨e, me, rfl⟩ := key d m
      obtain ⟨z, o⟩ := sz1 e me
      have mm := msz
      refine ⟨_, rfl, rfl, fun _ => ?_⟩
      simp [Y_Room_bytes_kept_1, wipeD, o, mm, z])
  have ee : (((Wk.vals.ds (esH es)).filter fun _ => true).map fun d => match F_Heap_size [d] (C.del nh) with | .ok z _ => z | _ => .non) = (es.map fun e => Cov.sz e.c).map D.int := by
    rw [List.filter_eq_self.2 (by simp)]
    unfold Wk.ds esH
    rw [List.map_map, List.map_map, List.map_map]
    apply List.map_congr_left
    intro e me
    simp [(sz1 e me).1]
  rw [ee] at hc
  have bs : bSum [.lst ((es.map fun e => Cov.sz e.c).map D.int)] C = .ok (.int (szs es)) C := by
    unfold szs
    generalize (es.map fun e => Cov.sz e.c) = L
    simp only [bSum, lstOf_lst, Option.bind_some, asInts_ints]
  generalize (es.map fun e => Cov.sz e.c).map D.int = L at *
  simp [F_Room_bytes_kept, hc, bs]
end
section
variable {C C' : Cells} {n nh ng nw : Nat} {R : Rm} {es : List Ent} {S : List Nat}
theorem sortT_nil (C : Cells) : bSortT [.lst []] C = .ok (.lst []) C := by
  have ok : SortOk [] := ⟨by simp, by intro x m; simp at m, .inl (by simp), by simp⟩
  have e : sortT [] = [] := by simp [sortT]
  simp only [bSortT, lstOf_lst, if_pos ok, e]
/-- no wait is over -/
theorem waits_none (H : RoomAt C n nh ng nw R es) (hw : ∀ e ∈ es, R.now < e.t + R.w) : F_Room_waits_ended [.cel n] C = .ok (.lst []) C := by
  have e1 : Ext [ng] C (C.del ng) := Ext.refl.del (.inl (by simp))
  obtain ⟨n1, n2, n3, n4, n5, n6⟩ := H.nes
  have o1 := e1.keep H.o (by simp [n2])
  have fb := H.fb
  have fb1 : fld T0 19 (.cel n) (C.del ng) = .ok (.cel ng) (C.del ng) := fld_cel o1 (by decide) rfl rfl
  have fw1 : fld T0 13 (.cel n) (C.del ng) = .ok (.int R.w) (C.del ng) := fld_cel o1 (by decide) rfl rfl
  have fn1 : fld T0 17 (.cel n) (C.del ng) = .ok (.int R.now) (C.del ng) := fld_cel o1 (by decide) rfl rfl
  have ll : (esG es).length ≤ mxl := by
    have := H.ln
    show (esG es).length ≤ 16777216
    unfold esG; rw [List.length_map]; omega
  have hc := eLcT_pure (k := .items) (fo := eFld T0 19 (eVar 0)) (tg := gfTup 2 (gfCons (gfName 2) (gfCons (gfName 3) gfNil))) (t := I_Room_waits_ended_1) (f := Y_Room_waits_ended_2) (vs := [2, 3]) (s := [some (.cel n), none, none, none]) (by simp [fb]) H.dg (by simp [fb1]) ll (fun _ => false)
    (fun _ => .non) (fun d m => by
      unfold Wk.ds esG at m
      simp only [List.map_map, List.mem_map] at m
      obtain ⟨e, me, rfl⟩ := m
      refine ⟨[some (.cel n), none, some (keyT e.k), some (.int e.t)], rfl, ?_, fun h => by cases h⟩
      have lt := hw e me
      have le : dLe (.int (e.t + R.w)) (.int R.now) (C.del ng) = .ok (.bl false) (C.del ng) := by
        show Res.ok (D.bl (decide (e.t + R.w ≤ R.now))) _ = _
        rw [decide_eq_false (by omega)]
      simp [I_Room_waits_ended_1, fw1, fn1, -dLe_i, le])
  have ee : (((Wk.items.ds (esG es)).filter fun _ => false).map fun _ => D.non) = [] := by simp
  rw [ee] at hc
  have so := sortT_nil C
  simp [F_Room_waits_ended, hc, so, lcF]
theorem isnum_ok (a b : Int) (h : b ≤ a) (C : Cells) : F_is_number [.int a, .int b] C = .ok (.bl true) C := by
  have t2 : isT tb0 2 2 = some true := rfl
  have t1 : isT tb0 1 2 = some false := rfl
  have ge : dGe (.int a) (.int b) C = .ok (.bl true) C := by
    show Res.ok (D.bl (decide (b ≤ a))) _ = _
    rw [decide_eq_true h]
  simp [F_is_number, t2, t1, -dGe_i, ge]
def Rm.at_ (R : Rm) (t : Int) : Rm := { R with now := t }
theorem mwe : M_waits_ended 8 = some (1, F_Room_waits_ended) := rfl
theorem tick_ok (H : RoomAt C n nh ng nw R es) {t : Int} (ht : R.now ≤ t) (hw : ∀ e ∈ es, t < e.t + R.w) : ∃ C', F_Room_tick [.cel n, .int t] C = .ok (.lst []) C' ∧ RoomAt C' n nh ng nw (R.at_ t) es ∧ Ext [n] C C' := by
  obtain ⟨n1, n2, n3, n4, n5, n6⟩ := H.nes
  have fn := H.fn
  have is := isnum_ok t R.now ht C
  obtain ⟨C1, hC1⟩ : ∃ C1, C1 = C.set n (.obj 8 (rmL (R.at_ t) nh ng nw)) := ⟨_, rfl⟩
  have sf : setFld T0 17 (.cel n) (.int t) C = some C1 := by
    rw [setFld_cel H.o (i := 5) (by decide) rfl (by show 5 < 9; decide), hC1]; rfl
  have e1 : Ext [n] C C1 := hC1 ▸ Ext.refl.set (.inl (by simp))
  have H1 : RoomAt C1 n nh ng nw (R.at_ t) es := ⟨by rw [hC1]; exact get_set H.o, e1.keep H.dh (by simp [n1.symm]), e1.keep H.dg (by simp [n2.symm]), e1.keep H.dw (by simp [n3.symm]), fun e m => by
    obtain ⟨⟨a1, a2, a3, a4⟩, b1, b2, b3, b4⟩ := H.neh m
    exact (H.hp e m).ext e1 (by simp [a1]) (by simp [b1]), H.nd, H.kd, H.ln, H.lw⟩
  have ob := H1.ob
  have mm := mwe
  have w := waits_none H1 hw
  refine ⟨C1, ?_, H1, e1⟩
  simp [F_Room_tick, fn, is, sf, ob, mm, w]
theorem kx_eq (x : Pc) : D.tup [.int x.n, .str x.a, .str x.b] = keyT [.inl x.n, .inr x.a, .inr x.b] := rfl
theorem getK_T {m : Nat} {l : List (List Key × D)} (g : C.get m = some (.dt l)) (k : List Key) : dGetK C (.cel m) (keyT k) = some (lookD l k) := by
  unfold dGetK keyT
  simp only [g, keysOf_D, Option.map_some]
theorem inT_ok {m : Nat} {l : List (List Key × D)} (g : C.get m = some (.dt l)) (k : List Key) (neg : Bool) : dInD neg (keyT k) (.cel m) C = .ok (.bl (if neg then !(lookD l k).isSome else (lookD l k).isSome)) C := by
  unfold dInD
  rw [getK_T g]
theorem get2T {fo fi fd : EF} {s : Sl} {C C1 : Cells} {m : Nat} {l : List (List Key × D)} {k : List Key} {z : D} (ho : fo s C = .ok (.cel m) C) (g : C.get m = some (.dt l)) (hi : fi s C = .ok (keyT k) C) (hd : fd s C = .ok z C1) (g1 : C1.get m = some (.dt l)) :
    eGet2 fo fi fd s C = .ok ((lookD l k).getD z) C1 := by
  have k1 := getK_T g ([] : List Key)
  have k1 : dGetK C (.cel m) (.tup []) = some (lookD l []) := k1
  have k2 := getK_T g1 k
  have k0 : dGetK C (.cel m) (.int 0) = none := by
    unfold dGetK; simp only [g]
  unfold eGet2
  simp only [ho, bind_ok, k0, k1, hi, hd, k2]
  cases lookD l k <;> rfl
theorem putT {m : Nat} {l : List (List Key × D)} (g : C.get m = some (.dt l)) (k : List Key) (d : D) (hl : l.length < 16777216) : dPutK C (.cel m) (keyT k) d = some (C.set m (.dt (putD l k d))) := by
  unfold dPutK keyT
  simp only [g, keysOf_D]
  exact if_pos hl
end
theorem while0 {t : TF} {b : SF} {s : Sl} {C C' : Cells} (h : t s C = .ok false C') : sWhile t b s C = .nxt s C' := by
  rw [sWhile_ap]
  show whileF t b (999999 + 1) s C = _
  unfold whileF
  rw [h]
  rfl
def rcells (n nh ng nw : Nat) (es : List Ent) : List Nat := n :: nh :: ng :: nw :: es.flatMap fun e => [e.h, e.nb]
theorem key_uniq : ∀ {es : List Ent}, (es.map (·.k)).Nodup → ∀ {e e' : Ent}, e ∈ es → e' ∈ es → e.k = e'.k → e = e'
  | [], _, _, _, m, _, _ => by cases m
  | a :: es, nd, e, e', m, m', q => by
    rw [List.map_cons, List.nodup_cons] at nd
    rcases List.mem_cons.1 m with z | z
    · rcases List.mem_cons.1 m' with z' | z'
      · rw [z, z']
      · exact absurd (List.mem_map.2 ⟨e', z', q.symm.trans (by rw [z])⟩) nd.1
    · rcases List.mem_cons.1 m' with z' | z'
      · exact absurd (List.mem_map.2 ⟨e, z, q.trans (by rw [z'])⟩) nd.1
      · exact key_uniq nd.2 z z' q
theorem cell_uniq : ∀ {es : List Ent}, (es.flatMap fun e => [e.h, e.nb]).Nodup → ∀ {e e' : Ent}, e ∈ es → e' ∈ es → e ≠ e' → ∀ a ∈ [e.h, e.nb], ∀ b ∈ [e'.h, e'.nb], a ≠ b
  | [], _, _, _, m, _, _, _, _, _, _ => by cases m
  | x :: es, nd, e, e', m, m', q, a, ha, b, hb => by
    rw [List.flatMap_cons, List.nodup_append] at nd
    rcases List.mem_cons.1 m with z | z
    · rcases List.mem_cons.1 m' with z' | z'
      · exact absurd (z.trans z'.symm) q
      · exact nd.2.2 a (z ▸ ha) b (List.mem_flatMap.2 ⟨e', z', hb⟩)
    · rcases List.mem_cons.1 m' with z' | z'
      · exact (nd.2.2 b (z' ▸ hb) a (List.mem_flatMap.2 ⟨e, z, ha⟩)).symm
      · exact cell_uniq nd.2.1 z z' q a ha b hb
def updE (es : List Ent) (k : List Key) (s : Hs) (c : Cov.C) : List Ent := es.map fun e => if e.k = k then { e with s := s, c := c } else e
/-- the heap of a key: one of the room's, or a new one -/
def Mine (es : List Ent) (n nh ng nw : Nat) (k : List Key) (h nb : Nat) : Prop :=
  (∃ e ∈ es, e.k = k ∧ e.h = h ∧ e.nb = nb) ∨ ((es.find? fun e => decide (e.k = k)) = none ∧ h ∉ rcells n nh ng nw es ∧ nb ∉ rcells n nh ng nw es)
section
variable {C C' : Cells} {n nh ng nw : Nat} {R : Rm} {es : List Ent} {S : List Nat} {h nb : Nat} {s : Hs} {c : Cov.C} {d : D} {x : Pc} {k : List Key}
theorem Mine.ne (M : Mine es n nh ng nw k h nb) (H : RoomAt C n nh ng nw R es) : (h ≠ n ∧ h ≠ nh ∧ h ≠ ng ∧ h ≠ nw) ∧ nb ≠ n ∧ nb ≠ nh ∧ nb ≠ ng ∧ nb ≠ nw := by
  rcases M with ⟨e, m, _, rfl, rfl⟩ | ⟨_, h1, h2⟩
  · exact H.neh m
  · unfold rcells at h1 h2
    simp only [List.mem_cons, not_or] at h1 h2
    exact ⟨⟨h1.1, h1.2.1, h1.2.2.1, h1.2.2.2.1⟩, h2.1, h2.2.1, h2.2.2.1, h2.2.2.2.1⟩
theorem mgw : M_grown_with 7 = some (2, F_Heap_grown_with) := rfl
theorem mbk : M_bytes_kept 8 = some (1, F_Room_bytes_kept) := rfl
theorem mwb : M_would_be_whole 7 = some (2, F_Heap_would_be_whole) := rfl
theorem mmr : M_made_room 8 = some (3, F_Room_made_room) := rfl
theorem mlg : M_let_go 8 = some (3, F_Room_let_go) := rfl
theorem mist : M_is_strange 7 = some (2, F_Heap_is_strange) := rfl
/-- the room behind a heap's taking: the entry's -/
theorem RoomAt.took (H : RoomAt C n nh ng nw R es) {e0 : Ent} (m0 : e0 ∈ es) (e : Ext [e0.h, e0.nb] C C') {s' : Hs} {c' : Cov.C} (A : HpAt C' e0.h e0.nb R.r s' c') : RoomAt C' n nh ng nw R (updE es e0.k s' c') := by
  obtain ⟨⟨a1, a2, a3, a4⟩, b1, b2, b3, b4⟩ := H.neh m0
  have ek : (updE es e0.k s' c').map (·.k) = es.map (·.k) := by
    unfold updE; rw [List.map_map]; apply List.map_congr_left; intro e _; simp only [Function.comp]; split <;> rfl
  have eH : esH (updE es e0.k s' c') = esH es := by
    unfold updE esH; rw [List.map_map]; apply List.map_congr_left; intro e _; simp only [Function.comp]; split <;> rfl
  have eG : esG (updE es e0.k s' c') = esG es := by
    unfold updE esG; rw [List.map_map]; apply List.map_congr_left; intro e _; simp only [Function.comp]; split <;> rfl
  have eC : (updE es e0.k s' c').flatMap (fun e => [e.h, e.nb]) = es.flatMap fun e => [e.h, e.nb] := by
    unfold updE
    rw [List.flatMap_map]
    congr 1
    funext e
    split <;> rfl
  refine ⟨e.keep H.o (by simp [a1.symm, b1.symm]), ?_, ?_, e.keep H.dw (by simp [a4.symm, b4.symm]), fun x m => ?_, by rw [eC]; exact H.nd, by rw [ek]; exact H.kd, by unfold updE; rw [List.length_map]; exact H.ln, H.lw⟩
  · rw [eH]; exact e.keep H.dh (by simp [a2.symm, b2.symm])
  · rw [eG]; exact e.keep H.dg (by simp [a3.symm, b3.symm])
  · obtain ⟨y, my, rfl⟩ := List.mem_map.1 m
    by_cases q : y.k = e0.k
    · have : y = e0 := key_uniq H.kd my m0 q
      subst this
      rw [if_pos rfl]
      exact A
    · rw [if_neg q]
      have ny : y ≠ e0 := fun z => q (by rw [z])
      have nd4 := H.nd
      simp only [List.nodup_cons] at nd4
      have cu := cell_uniq nd4.2.2.2.2 my m0 ny
      have c1 := cu y.h (by simp) e0.h (by simp)
      have c2 := cu y.h (by simp) e0.nb (by simp)
      have c3 := cu y.nb (by simp) e0.h (by simp)
      have c4 := cu y.nb (by simp) e0.nb (by simp)
      exact (H.hp y my).ext e (by simp [c1, c2]) (by simp [c3, c4])
/-- .. a new heap comes in -/
theorem RoomAt.came (H : RoomAt C n nh ng nw R es) (hf : (es.find? fun e => decide (e.k = k)) = none) (h1 : h ∉ rcells n nh ng nw es) (h2 : nb ∉ rcells n nh ng nw es) (A : HpAt C h nb R.r s c) (hl : es.length < 1000) :
    RoomAt ((C.set nh (.dt (putD (esH es) k (.cel h)))).set ng (.dt (putD (esG es) k (.int R.now)))) n nh ng nw R (es ++ [⟨k, h, nb, R.now, s, c⟩]) ∧ Ext [nh, ng] C ((C.set nh (.dt (putD (esH es) k (.cel h)))).set ng (.dt (putD (esG es) k (.int R.now)))) := by
  obtain ⟨n1, n2, n3, n4, n5, n6⟩ := H.nes
  have lh := look_es (fun e => .cel e.h) es k
  have lg := look_es (fun e => .int e.t) es k
  rw [hf] at lh lg
  have pH : putD (esH es) k (.cel h) = esH (es ++ [⟨k, h, nb, R.now, s, c⟩]) := by
    unfold putD
    rw [lookD_any]
    have : lookD (esH es) k = none := lh
    rw [this]
    simp [esH]
  have pG : putD (esG es) k (.int R.now) = esG (es ++ [⟨k, h, nb, R.now, s, c⟩]) := by
    unfold putD
    rw [lookD_any]
    have : lookD (esG es) k = none := lg
    rw [this]
    simp [esG]
  rw [pH, pG]
  have e1 : Ext [nh, ng] C (C.set nh (.dt (esH (es ++ [⟨k, h, nb, R.now, s, c⟩])))) := Ext.refl.set (.inl (by simp))
  have e2 : Ext [nh, ng] C ((C.set nh (.dt (esH (es ++ [⟨k, h, nb, R.now, s, c⟩])))).set ng (.dt (esG (es ++ [⟨k, h, nb, R.now, s, c⟩])))) := e1.set (.inl (by simp))
  have fr1 := h1
  have fr2 := h2
  unfold rcells at h1 h2
  simp only [List.mem_cons, not_or] at h1 h2
  refine ⟨⟨e2.keep H.o (by simp [n1, n2]), ?_, ?_, e2.keep H.dw (by simp [n5.symm, n6.symm]), fun e m => ?_, ?_, ?_, by rw [List.length_append, List.length_singleton]; omega, H.lw⟩, e2⟩
  · rw [get_set_ne n4]; exact get_set H.dh
  · exact get_set ((get_set_ne n4.symm).trans H.dg)
  · rcases List.mem_append.1 m with m | m
    · obtain ⟨⟨a1, a2, a3, a4⟩, b1, b2, b3, b4⟩ := H.neh m
      exact (H.hp e m).ext e2 (by simp [a2, a3]) (by simp [b2, b3])
    · rw [List.mem_singleton] at m; subst m
      exact A.ext e2 (by simp [h1.2.1, h1.2.2.1]) (by simp [h2.2.1, h2.2.2.1])
  · have nd : (rcells n nh ng nw es ++ [h, nb]).Nodup := by
      rw [List.nodup_append]
      refine ⟨H.nd, by simp [A.ne], fun a ha b hb z => ?_⟩
      subst z
      simp only [List.mem_cons, List.not_mem_nil, or_false] at hb
      rcases hb with rfl | rfl
      · exact fr1 ha
      · exact fr2 ha
    have : n :: nh :: ng :: nw :: (es ++ [(⟨k, h, nb, R.now, s, c⟩ : Ent)]).flatMap (fun (e : Ent) => [e.h, e.nb]) = rcells n nh ng nw es ++ [h, nb] := by
      simp [rcells]
    rw [this]; exact nd
  · rw [List.map_append, List.nodup_append]
    refine ⟨H.kd, by simp, fun a ha b hb z => ?_⟩
    subst z
    simp only [List.map_cons, List.map_nil, List.mem_singleton] at hb
    obtain ⟨e, me, rfl⟩ := List.mem_map.1 ha
    have := List.find?_eq_none.1 hf e me
    simp [hb] at this
end
section
variable {C C' : Cells} {n nh ng nw : Nat} {R : Rm} {es : List Ent} {S : List Nat} {h nb : Nat} {s : Hs} {c : Cov.C} {d : D} {x : Pc} {k : List Key}
def keyX (x : Pc) : List Key := [.inl x.n, .inr x.a, .inr x.b]
/-- the room behind a taking -/
def After (es : List Ent) (k : List Key) (h nb : Nat) (now : Int) (s : Hs) (c : Cov.C) : List Ent := if (es.find? fun e => decide (e.k = k)).isSome then updE es k s c else es ++ [⟨k, h, nb, now, s, c⟩]
theorem Mine.find (M : Mine es n nh ng nw k h nb) (H : RoomAt C n nh ng nw R es) : (∃ e ∈ es, (es.find? fun e => decide (e.k = k)) = some e ∧ e.k = k ∧ e.h = h ∧ e.nb = nb) ∨ ((es.find? fun e => decide (e.k = k)) = none ∧ h ∉ rcells n nh ng nw es ∧ nb ∉ rcells n nh ng nw es) := by
  rcases M with ⟨e, m, ek, eh, eb⟩ | M
  · cases q : es.find? fun e => decide (e.k = k) with
    | none => have := List.find?_eq_none.1 q e m; simp [ek] at this
    | some e' =>
      have m' := List.mem_of_find?_eq_some q
      have k' : e'.k = k := by have := List.find?_some q; simpa using this
      have := key_uniq H.kd m' m (k'.trans ek.symm)
      subst this
      exact .inl ⟨e', m', rfl, k', eh, eb⟩
  · exact .inr M
theorem made_ok (H : RoomAt C n nh ng nw R es) (A : HpAt C h nb R.r s c) (M : Mine es n nh ng nw (keyX x) h nb) (P : IsPc C d x) (p : Pb x) (hd : ∀ m ∈ h :: nb :: rcells n nh ng nw es, d ≠ .cel m)
    (ho : ∃ b, ∀ C, dEqV (.str R.out) (.str "own") C = .ok (.bl b) C) (hl : es.length < 1000)
    (big : ∀ c', Hcv c' (putF R.r.l s.bt x.at_ x.bs) → Cov.sz c' ≤ R.sp ∧ szs es + (Cov.sz c' - Cov.sz c) ≤ R.sp) :
    ∃ C' c', F_Room_made_room [.cel n, d, .cel h] C = .ok (.lst []) C' ∧ RoomAt C' n nh ng nw R (After es (keyX x) h nb R.now (s.take R.r.l x) c') ∧ HpAt C' h nb R.r (s.take R.r.l x) c' ∧ Ext (h :: nb :: rcells n nh ng nw es) C C' := by
  obtain ⟨bo, ho⟩ := ho
  obtain ⟨⟨a1, a2, a3, a4⟩, b1, b2, b3, b4⟩ := M.ne H
  have ob := P.obj
  have mk := mkey
  have ky : F_Keyed_key [d] C = .ok (keyT (keyX x)) C := P.key
  have nl : C.nx = C.nx := rfl
  obtain ⟨C1, hC1⟩ : ∃ C1, C1 = C.new (.lst []) := ⟨_, rfl⟩
  have e1 : Ext [] C C1 := hC1 ▸ Ext.refl.new
  have g1 : C1.get C.nx = some (.lst []) := by rw [hC1]; exact get_new
  generalize hn4 : C.nx = n4 at *
  have H1 := H.ext e1 (by simp)
  have A1 := A.ext e1 (by simp) (by simp)
  have P1 := P.ext e1 (by simp)
  obtain ⟨C2, c', f2, e2, hc⟩ := hgrown_ok A1 P1 p
  have H2 := H1.ext e2 (by simp)
  have A2 := A1.ext e2 (by simp) (by simp)
  have P2 := P1.ext e2 (by simp)
  have g2 := e2.keep g1 (by simp)
  have sz2 := hsize_ok A2
  have bk2 := bkept_ok H2
  obtain ⟨big1, big2⟩ := big c' (hc R.r.l)
  have fs2 := H2.fs
  have fo2 := H2.fo
  have o2 := H2.ob
  have ha1 := A1.ob
  have ha2 := A2.ob
  have gt1 : dGt (.int (Cov.sz c + (Cov.sz c' - Cov.sz c))) (.int R.sp) C2 = .ok (.bl false) C2 := by
    show Res.ok (D.bl (decide (R.sp < Cov.sz c + (Cov.sz c' - Cov.sz c)))) _ = _
    rw [decide_eq_false (by omega)]
  have gt2 : dGt (.int (szs es + (Cov.sz c' - Cov.sz c))) (.int R.sp) C2 = .ok (.bl false) C2 := by
    show Res.ok (D.bl (decide (R.sp < szs es + (Cov.sz c' - Cov.sz c)))) _ = _
    rw [decide_eq_false (by omega)]
  have ho2 := ho C2
  have hdh : d ≠ .cel h := hd h (by simp)
  have hdb : d ≠ .cel nb := hd nb (by simp)
  obtain ⟨C3, c3, f3, A3, e3⟩ := take_ok A2 P2 hdh hdb p
  have n4h : h ≠ n4 := by
    have := lt_of_get A.o; omega
  have n4b : nb ≠ n4 := by
    have := lt_of_get A.d; omega
  have g3 := e3.keep g2 (by simp [n4h.symm, n4b.symm])
  have dh3 := e3.keep H2.dh (by simp [a2.symm, b2.symm])
  have dg3 := e3.keep H2.dg (by simp [a3.symm, b3.symm])
  have o3 := e3.keep H2.o (by simp [a1.symm, b1.symm])
  have fh3 : fld T0 18 (.cel n) C3 = .ok (.cel nh) C3 := fld_cel o3 (by decide) rfl rfl
  have mgw := mgw
  have msz := msz
  have mbk := mbk
  have mtk := mtak
  have wt : W_Room_made_room_1 [some (.cel n), some d, some (.cel h), some (keyT (keyX x)), some (.cel n4), some (.int (Cov.sz c' - Cov.sz c))] C2 = .ok false C2 := by
    simp [W_Room_made_room_1, o2, mbk, bk2, fs2, -dGt_i, gt2]
  have w0 := while0 (b := B_Room_made_room_2) wt
  have inn : ∀ (lk : Option D), lookD (esH es) (keyX x) = lk → dInD true (keyT (keyX x)) (.cel nh) C3 = .ok (.bl (!lk.isSome)) C3 := fun lk e => by
    rw [inT_ok dh3, e]; rfl
  have key := M.find H
  have lk := look_es (fun e => .cel e.h) es (keyX x)
  have all0 : Ext (h :: nb :: rcells n nh ng nw es) C C3 := (e1.mono (by simp)).trans ((e2.mono (by simp)).trans (e3.mono (fun m q => .inl (by simp only [List.mem_cons, List.not_mem_nil, or_false] at q ⊢; rcases q with q | q; exact .inl q; exact .inr (.inl q)))))
  have n4in : n4 ∈ h :: nb :: rcells n nh ng nw es ∨ C.nx ≤ n4 := .inr (by omega)
  have nn : n4 ≠ n ∧ n4 ≠ nh ∧ n4 ≠ ng ∧ n4 ≠ nw ∧ ∀ e ∈ es, n4 ≠ e.h ∧ n4 ≠ e.nb := by
    have q1 := lt_of_get H.o
    have q2 := lt_of_get H.dh
    have q3 := lt_of_get H.dg
    have q4 := lt_of_get H.dw
    refine ⟨by omega, by omega, by omega, by omega, fun e m => ?_⟩
    have q5 := lt_of_get (H.hp e m).o
    have q6 := lt_of_get (H.hp e m).d
    exact ⟨by omega, by omega⟩
  have pre : ∀ (C4 : Cells) (r : SRes), sIf (asB (DL.e2 (dInD true) (eVar 3) (eFld T0 18 (eVar 0)))) (sSeq (sDPutF (eFld T0 18 (eVar 0)) (eVar 3) (eVar 2)) (sDPutF (eFld T0 19 (eVar 0)) (eVar 3) (eFld T0 17 (eVar 0)))) (sNil) [some (.cel n), some d, some (.cel h), some (keyT (keyX x)), some (.cel n4), some (.int (Cov.sz c' - Cov.sz c))] C3 = .nxt [some (.cel n), some d, some (.cel h), some (keyT (keyX x)), some (.cel n4), some (.int (Cov.sz c' - Cov.sz c))] C4 → C4.get n4 = some (.lst []) →
      F_Room_made_room [.cel n, d, .cel h] C = .ok (.lst []) (C4.del n4) := by
    intro C4 _ hif g4
    clear inn lk key nn all0 big hd
    generalize keyT (keyX x) = K at *
    generalize szs es = SZ at *
    generalize Cov.sz c = sc at *
    generalize Cov.sz c' = sc' at *
    unfold F_Room_made_room
    refine callF_r [some (.cel n), some d, some (.cel h), none, none, none] rfl rfl ?_
    rw [sq]
    conv => lhs; arg 1; simp [ob, mk, ky]
    rw [sn]
    rw [sq]
    conv => lhs; arg 1; simp [hn4, ← hC1]
    rw [sn]
    rw [sq]
    conv => lhs; arg 1; simp [ha1, mgw, f2]
    rw [sn]
    cases bo
    · skip
      rw [sq]
      conv => lhs; arg 1; simp [ha2, msz, sz2, fs2, fo2, -dGt_i, gt1, ho2]
      rw [sn]
      rw [sq, w0, sn]
      rw [sq]
      conv => lhs; arg 1; simp [ha2, mtk, f3]
      rw [sn]
      rw [sq, hif, sn]
      simp [g4]
    · skip
      rw [sq]
      conv => lhs; arg 1; simp [ha2, msz, sz2, fs2, fo2, -dGt_i, gt1, ho2, o2, mbk, bk2, gt2]
      rw [sn]
      rw [sq, w0, sn]
      rw [sq]
      conv => lhs; arg 1; simp [ha2, mtk, f3]
      rw [sn]
      rw [sq, hif, sn]
      simp [g4]
  rcases key with ⟨e0, m0, hf, ek, eh, eb⟩ | ⟨hf, h1, h2⟩
  · rw [hf] at lk
    have i3 := inn _ lk
    subst eh eb
    have H3 := H2.took m0 e3 A3
    rw [ek] at H3
    have dl : Ext [n4] C3 (C3.del n4) := Ext.refl.del (.inl (by simp))
    refine ⟨C3.del n4, c3, pre C3 (.no) ?_ g3, ?_, A3.ext dl (by simp [n4h]) (by simp [n4b]), all0.del n4in⟩
    · generalize keyT (keyX x) = K at *
      simp [fh3, i3]
    · unfold After
      rw [hf]
      simp only [Option.isSome_some, if_true]
      refine H3.ext dl fun m hm => ?_
      simp only [List.mem_singleton]
      have eC : (updE es (keyX x) (s.take R.r.l x) c3).flatMap (fun e => [e.h, e.nb]) = es.flatMap fun e => [e.h, e.nb] := by
        unfold updE
        rw [List.flatMap_map]
        congr 1
        funext e
        split <;> rfl
      rw [eC] at hm
      simp only [List.mem_cons, List.mem_flatMap] at hm
      rcases hm with rfl | rfl | rfl | rfl | ⟨e, me, q⟩
      · exact nn.1.symm
      · exact nn.2.1.symm
      · exact nn.2.2.1.symm
      · exact nn.2.2.2.1.symm
      · simp only [List.not_mem_nil, or_false] at q
        rcases q with rfl | rfl
        · exact (nn.2.2.2.2 e me).1.symm
        · exact (nn.2.2.2.2 e me).2.symm
  · rw [hf] at lk
    have i3 := inn _ lk
    have h1' := h1
    have h2' := h2
    unfold rcells at h1' h2'
    have H3 : RoomAt C3 n nh ng nw R es := H2.ext e3 fun m hm z => by
      simp only [List.mem_cons, List.not_mem_nil, or_false] at z
      rcases z with rfl | rfl
      · exact h1' hm
      · exact h2' hm
    obtain ⟨H4, e4⟩ := H3.came hf h1 h2 A3 hl
    have lH : (esH es).length < 16777216 := by unfold esH; rw [List.length_map]; omega
    have lG : (esG es).length < 16777216 := by unfold esG; rw [List.length_map]; omega
    have p1 := putT H3.dh (keyX x) (.cel h) lH
    obtain ⟨n1, n2, n3, n4', n5, n6⟩ := H.nes
    have ex4 : Ext [nh] C3 (C3.set nh (.dt (putD (esH es) (keyX x) (.cel h)))) := Ext.refl.set (.inl (by simp))
    have dg4 := ex4.keep H3.dg (by simp [n4'.symm])
    have o4 := ex4.keep H3.o (by simp [n1])
    have p2 := putT dg4 (keyX x) (.int R.now) lG
    have fb4 : fld T0 19 (.cel n) (C3.set nh (.dt (putD (esH es) (keyX x) (.cel h)))) = .ok (.cel ng) (C3.set nh (.dt (putD (esH es) (keyX x) (.cel h)))) := fld_cel o4 (by decide) rfl rfl
    have fn4 : fld T0 17 (.cel n) (C3.set nh (.dt (putD (esH es) (keyX x) (.cel h)))) = .ok (.int R.now) (C3.set nh (.dt (putD (esH es) (keyX x) (.cel h)))) := fld_cel o4 (by decide) rfl rfl
    obtain ⟨C5, hC5⟩ : ∃ C5, C5 = (C3.set nh (.dt (putD (esH es) (keyX x) (.cel h)))).set ng (.dt (putD (esG es) (keyX x) (.int R.now))) := ⟨_, rfl⟩
    rw [← hC5] at H4 e4 p2
    have g5 := e4.keep g3 (by simp [nn.2.1, nn.2.2.1])
    have dl : Ext [n4] C5 (C5.del n4) := Ext.refl.del (.inl (by simp))
    have A5 := A3.ext e4 (by simp [a2, a3]) (by simp [b2, b3])
    refine ⟨C5.del n4, c3, pre C5 (.no) ?_ g5, ?_, A5.ext dl (by simp [n4h]) (by simp [n4b]), (all0.trans (e4.mono fun m q => .inl (by unfold rcells; simp only [List.mem_cons, List.not_mem_nil, or_false] at q ⊢; rcases q with q | q <;> simp [q]))).del n4in⟩
    · generalize C3.set nh (.dt (putD (esH es) (keyX x) (.cel h))) = C4 at *
      generalize keyT (keyX x) = K at *
      simp [fh3, i3, p1, fb4, fn4, p2]
    · unfold After
      rw [hf]
      simp only [Option.isSome_none, Bool.false_eq_true, if_false]
      refine H4.ext dl fun m hm => ?_
      simp only [List.mem_singleton]
      simp only [List.mem_cons, List.mem_flatMap, List.mem_append, List.not_mem_nil, or_false] at hm
      rcases hm with rfl | rfl | rfl | rfl | ⟨e, me, q⟩
      · exact nn.1.symm
      · exact nn.2.1.symm
      · exact nn.2.2.1.symm
      · exact nn.2.2.2.1.symm
      · rcases me with me | rfl
        · rcases q with rfl | rfl
          · exact (nn.2.2.2.2 e me).1.symm
          · exact (nn.2.2.2.2 e me).2.symm
        · rcases q with rfl | rfl
          · exact n4h
          · exact n4b
end
section
variable {C C' : Cells} {n nh ng nw : Nat} {R : Rm} {es : List Ent} {S : List Nat} {h nb : Nat} {s : Hs} {c : Cov.C} {d : D} {x : Pc} {k : List Key}
def putW (wh : List (List Key × Int)) (k : List Key) (v : Int) : List (List Key × Int) := if wh.any (fun p => decide (p.1 = k)) then wh.map fun p => if p.1 = k then (p.1, v) else p else wh ++ [(k, v)]
theorem putW_D (wh : List (List Key × Int)) (k : List Key) (v : Int) : whD (putW wh k v) = putD (whD wh) k (.int v) := by
  unfold putW putD whD
  have e : (wh.map fun p => (p.1, D.int p.2)).any (fun p => decide (p.1 = k)) = wh.any fun p => decide (p.1 = k) := by
    rw [List.any_map]; rfl
  rw [e]
  split
  · rw [List.map_map, List.map_map]
    apply List.map_congr_left
    intro p _
    simp only [Function.comp]
    split <;> rfl
  · simp
theorem putW_len (wh : List (List Key × Int)) (k : List Key) (v : Int) : (putW wh k v).length ≤ wh.length + 1 := by
  unfold putW; split <;> simp
def stOf (es : List Ent) (k : List Key) : Hs := match es.find? fun e => decide (e.k = k) with | some e => e.s | none => Hs0
/-- what a room answers, its waits and its space let by -/
def Look (R : Rm) (es : List Ent) (x : Pc) (evs : List D) (R' : Rm) (es' : List Ent) : Prop :=
  (∃ a, (stOf es (keyX x)).trouble R.r.r x = some a ∧ evs = [.tup [.str "gone", keyT (keyX x), .str "unlike"]] ∧ R' = R ∧ es' = without es (keyX x)) ∨
  ((stOf es (keyX x)).trouble R.r.r x = none ∧ (stOf es (keyX x)).strange x = true ∧ evs = [.tup [.str "strange", keyT (keyX x)]] ∧ R' = R ∧ es' = es) ∨
  ((stOf es (keyX x)).trouble R.r.r x = none ∧ (stOf es (keyX x)).strange x = false ∧ ((stOf es (keyX x)).take R.r.l x).lacks = [] ∧
    (∃ bs : List Int, ((stOf es (keyX x)).take R.r.l x).bytes = bs.map D.int ∧ evs = [.tup [.str "whole", ltr x.n x.a x.b bs false]]) ∧ R' = { R with wh := putW R.wh (keyX x) R.now } ∧ es' = without es (keyX x)) ∨
  ((stOf es (keyX x)).trouble R.r.r x = none ∧ (stOf es (keyX x)).strange x = false ∧ ((stOf es (keyX x)).take R.r.l x).lacks ≠ [] ∧ evs = [] ∧ R' = R ∧ ∃ h nb c, es' = After es (keyX x) h nb R.now ((stOf es (keyX x)).take R.r.l x) c ∧ Hcv c ((stOf es (keyX x)).take R.r.l x).bt)
theorem addK (k : List Key) (C : Cells) : dIx (keyT k) (.int 0) C = dIx (keyT k) (.int 0) C := rfl
theorem keyX_ix (x : Pc) (C : Cells) : dIx (keyT (keyX x)) (.int 0) C = .ok (.int x.n) C ∧ dIx (keyT (keyX x)) (.int 1) C = .ok (.str x.a) C ∧ dIx (keyT (keyX x)) (.int 2) C = .ok (.str x.b) C := ⟨rfl, rfl, rfl⟩
theorem without_upd (es : List Ent) (k : List Key) (s : Hs) (c : Cov.C) : without (updE es k s c) k = without es k := by
  induction es with
  | nil => rfl
  | cons e es ih =>
    unfold updE without at ih ⊢
    rw [List.map_cons, List.filter_cons, List.filter_cons]
    by_cases q : e.k = k
    · simp only [q, if_true, decide_true, Bool.not_true, Bool.false_eq_true, if_false]
      exact ih
    · simp only [if_neg q, decide_eq_false q, Bool.not_false, if_true]
      rw [ih]
theorem looked_ok (H : RoomAt C n nh ng nw R es) (P : IsPc C d x) (V : Vl x) (hd : ∀ m, d = .cel m → m ∉ rcells n nh ng nw es)
    (ho : ∃ b, ∀ C, dEqV (.str R.out) (.str "own") C = .ok (.bl b) C) (hl : es.length < 1000) (hlw : R.wh.length < 1000)
    (hag : ∃ b, (∀ C, dEqV (.str R.ag) (.str "rest") C = .ok (.bl b) C) ∧ (b = true → ∀ v, lookD (whD R.wh) (keyX x) = some (.int v) → v + R.w ≤ R.now))
    (big : ∀ c c', Hcv c (stOf es (keyX x)).bt → Hcv c' (putF R.r.l (stOf es (keyX x)).bt x.at_ x.bs) → Cov.sz c' ≤ R.sp ∧ szs es + (Cov.sz c' - Cov.sz c) ≤ R.sp)
    (hby : (stOf es (keyX x)).strange x = false → ((stOf es (keyX x)).take R.r.l x).lacks = [] → ∃ bs, ((stOf es (keyX x)).take R.r.l x).bytes = bs.map D.int ∧ Bd bs) :
    ∃ C' evs R' es', F_Room_looked_at [.cel n, d] C = .ok (.lst evs) C' ∧ RoomAt C' n nh ng nw R' es' ∧ Look R es x evs R' es' ∧ evs.length ≤ 1 ∧ Ext (rcells n nh ng nw es) C C' := by
  obtain ⟨bag, ha1, ha2⟩ := hag
  have p := V.pb
  have ob := P.obj
  have mk := mkey
  have ky : F_Keyed_key [d] C = .ok (keyT (keyX x)) C := P.key
  have fa := H.fa
  have fz := H.fz
  have fn := H.fn
  have fw := H.fw
  have fh := H.fh
  have fr := H.fr
  have ob0 := H.ob
  -- not late
  have pre : sIf (tAndF (asB (DL.e2 dEqV (eFld T0 16 (eVar 0)) (eC (.str "rest")))) (asB (DL.e2 (dInD false) (eVar 2) (eFld T0 20 (eVar 0))))) (sIf (asB (DL.e2 dLt (eFld T0 17 (eVar 0)) (DL.e2 dAdd (DL.e2 dGetF (eFld T0 20 (eVar 0)) (eVar 2)) (eFld T0 13 (eVar 0))))) (sRet (eLst (aCons (eTup (aCons (eC (.str "late")) (aCons (eVar 2) (aNil)))) (aNil)))) (sNil)) (sNil)
      [some (.cel n), some d, some (keyT (keyX x)), none] C = .nxt [some (.cel n), some d, some (keyT (keyX x)), none] C := by
    have a1 := ha1 C
    have iT := inT_ok H.dw (keyX x) false
    cases bag with
    | false => simp [fa, a1]
    | true =>
      cases lk : lookD (whD R.wh) (keyX x) with
      | none =>
        rw [lk] at iT
        generalize keyT (keyX x) = K at *
        simp [fa, a1, fz, iT]
      | some v =>
        obtain ⟨v, rfl⟩ : ∃ i : Int, v = .int i := by
          have : (lookD (whD R.wh) (keyX x)) = some v := lk
          unfold lookD whD at this
          rw [List.find?_map] at this
          simp only [Option.map_map, Option.map_eq_some_iff] at this
          obtain ⟨p, _, e⟩ := this
          exact ⟨p.2, e.symm⟩
        have le := ha2 rfl v lk
        have gf : dGetF (.cel nw) (keyT (keyX x)) C = .ok (.int v) C := by
          unfold dGetF; rw [getK_T H.dw, lk]
        rw [lk] at iT
        have lt : dLt (.int R.now) (.int (v + R.w)) C = .ok (.bl false) C := by
          show Res.ok (D.bl (decide (R.now < v + R.w))) _ = _
          rw [decide_eq_false (by omega)]
        generalize keyT (keyX x) = K at *
        simp [fa, a1, fz, iT, gf, fn, fw, -dLt_i, lt]
  -- the heap
  obtain ⟨C1, f1, A0, e1⟩ := hinit_ok R.r C
  have H1 := H.ext e1 (by simp)
  have P1 := P.ext e1 (by simp)
  have fh1 := H1.fh
  have lk := look_es (fun e => .cel e.h) es (keyX x)
  have gt : eGet2 (eFld T0 18 (eVar 0)) (eVar 2) (eMake (mkC 7 F_Heap_init) [] (aCons (eFld T0 8 (eVar 0)) (aNil))) [some (.cel n), some d, some (keyT (keyX x)), none] C = .ok ((lookD (esH es) (keyX x)).getD (.cel C.nx)) C1 := by
    refine get2T (by simp [fh]) H.dh (by simp) ?_ H1.dh
    simp [eMake, fr, f1]
  obtain ⟨h, nb, c, hg, A, M, hdn⟩ : ∃ h nb c, (lookD (esH es) (keyX x)).getD (.cel C.nx) = .cel h ∧ HpAt C1 h nb R.r (stOf es (keyX x)) c ∧ Mine es n nh ng nw (keyX x) h nb ∧ ((h ∈ rcells n nh ng nw es ∧ nb ∈ rcells n nh ng nw es) ∨ (C.nx ≤ h ∧ C.nx ≤ nb)) := by
    unfold stOf
    cases hf : es.find? fun e => decide (e.k = keyX x) with
    | some e =>
      have m := List.mem_of_find?_eq_some hf
      have k' : e.k = keyX x := by have := List.find?_some hf; simpa using this
      refine ⟨e.h, e.nb, e.c, ?_, (H1.hp e m), .inl ⟨e, m, k', rfl, rfl⟩, .inl ⟨?_, ?_⟩⟩
      · rw [show lookD (esH es) (keyX x) = _ from lk, hf]; rfl
      · unfold rcells; simp only [List.mem_cons, List.mem_flatMap]; exact .inr (.inr (.inr (.inr ⟨e, m, by simp⟩)))
      · unfold rcells; simp only [List.mem_cons, List.mem_flatMap]; exact .inr (.inr (.inr (.inr ⟨e, m, by simp⟩)))
    | none =>
      have old : ∀ m ∈ rcells n nh ng nw es, m < C.nx := fun m hm => by
        unfold rcells at hm
        simp only [List.mem_cons, List.mem_flatMap] at hm
        rcases hm with rfl | rfl | rfl | rfl | ⟨e, me, q⟩
        · exact lt_of_get H.o
        · exact lt_of_get H.dh
        · exact lt_of_get H.dg
        · exact lt_of_get H.dw
        · simp only [List.not_mem_nil, or_false] at q
          rcases q with rfl | rfl
          · exact lt_of_get (H.hp e me).o
          · exact lt_of_get (H.hp e me).d
      refine ⟨C.nx, C.nx + 1, [], ?_, A0, .inr ⟨hf, fun z => ?_, fun z => ?_⟩, .inr ⟨Nat.le_refl _, Nat.le_succ _⟩⟩
      · rw [show lookD (esH es) (keyX x) = _ from lk, hf]; rfl
      · exact absurd (old _ z) (Nat.lt_irrefl _)
      · have := old _ z; omega
  rw [hg] at gt
  obtain ⟨⟨a1, a2, a3, a4⟩, b1, b2, b3, b4⟩ := M.ne H
  have pl := p.len
  have tr := trouble_ok A P1 (by omega)
  have st := strange_ok A P1
  have oh := A.ob
  have o1 := H1.ob
  have mtr := mtro
  have mst := mist
  have mlg := mlg
  have nsome : ∀ (o : Option Int) (C : Cells), dNotN (dE o) .non C = .ok (.bl o.isSome) C := fun o C => by cases o <;> rfl
  have dnh : d ≠ .cel h ∧ d ≠ .cel nb := by
    rcases P with rfl | ⟨m, rfl, g⟩
    · exact ⟨fun z => (by cases z), fun z => (by cases z)⟩
    · have hm := hd m rfl
      have ml := lt_of_get g
      rcases hdn with ⟨q1, q2⟩ | ⟨q1, q2⟩
      · exact ⟨fun z => (by cases z; exact hm q1), fun z => (by cases z; exact hm q2)⟩
      · exact ⟨fun z => (by cases z; omega), fun z => (by cases z; omega)⟩
  have mono : ∀ {C C' : Cells}, Ext [h, nb] C C' → C1.nx ≤ C.nx → Ext (h :: nb :: rcells n nh ng nw es) C C' := fun e _ => e.mono fun m q => .inl (by simp only [List.mem_cons, List.not_mem_nil, or_false] at q ⊢; rcases q with q | q; exact .inl q; exact .inr (.inl q))
  have back : ∀ {C' : Cells}, Ext (h :: nb :: rcells n nh ng nw es) C1 C' → Ext (rcells n nh ng nw es) C C' := fun e => by
    refine ⟨Nat.le_trans e1.nx e.nx, fun m m1 m2 => ?_⟩
    have m3 : m < C1.nx := Nat.lt_of_lt_of_le m1 e1.nx
    rw [e.get m m3 (fun z => ?_), e1.get m m1 (by simp)]
    simp only [List.mem_cons] at z
    rcases hdn with ⟨q1, q2⟩ | ⟨q1, q2⟩
    · rcases z with rfl | rfl | z
      · exact m2 q1
      · exact m2 q2
      · exact m2 z
    · rcases z with rfl | rfl | z
      · omega
      · omega
      · exact m2 z
  have lgm : ∀ {C C' : Cells}, Ext [nh, ng] C C' → Ext (h :: nb :: rcells n nh ng nw es) C C' := fun e => e.mono fun m q => .inl (by unfold rcells; simp only [List.mem_cons, List.not_mem_nil, or_false] at q ⊢; rcases q with q | q <;> simp [q])
  have head : ∀ (r : SRes), sSeq (sIf (asB (DL.e2 dNotN (eMeth M_trouble (eVar 3) (aCons (eVar 1) (aNil))) (eC .non))) (sRet (eLst (aCons (eMeth M_let_go (eVar 0) (aCons (eVar 2) (aCons (eC (.str "unlike")) (aNil)))) (aNil)))) (sNil))
      (sSeq (sIf (asB (eMeth M_is_strange (eVar 3) (aCons (eVar 1) (aNil)))) (sRet (eLst (aCons (eTup (aCons (eC (.str "strange")) (aCons (eVar 2) (aNil)))) (aNil)))) (sNil)) (sSeq (sIf (asB (eMeth M_would_be_whole (eVar 3) (aCons (eVar 1) (aNil)))) (sSeq (sDrop (eMeth M_take (eVar 3) (aCons (eVar 1) (aNil)))) (sSeq (sDrop (eMeth M_let_go (eVar 0) (aCons (eVar 2) (aCons (eC (.str "whole")) (aNil))))) (sSeq (sDPutF (eFld T0 20 (eVar 0)) (eVar 2) (eFld T0 17 (eVar 0))) (sRet (eLst (aCons (eTup (aCons (eC (.str "whole")) (aCons (eMake (mkF T0 1 F_Letter_init) [.bl false] (aCons (DL.e2 dIx (eVar 2) (eC (.int 0))) (aCons (DL.e2 dIx (eVar 2) (eC (.int 1))) (aCons (DL.e2 dIx (eVar 2) (eC (.int 2))) (aCons (eMeth M_all_bytes (eVar 3) aNil) (aNil)))))) (aNil)))) (aNil))))))) (sNil)) (sRet (eMeth M_made_room (eVar 0) (aCons (eVar 1) (aCons (eVar 3) (aNil)))))))
      [some (.cel n), some d, some (keyT (keyX x)), some (.cel h)] C1 = r → ∀ {w : D} {C' : Cells}, r = .ret w C' → F_Room_looked_at [.cel n, d] C = .ok w C' := by
    intro r hr w C' hw
    rw [hw] at hr
    clear hby big hd hdn M lk
    generalize keyT (keyX x) = K at *
    unfold F_Room_looked_at
    refine callF_r [some (.cel n), some d, none, none] rfl rfl ?_
    rw [sq]
    conv => lhs; arg 1; simp [ob, mk, ky]
    rw [sn]
    rw [sq, pre, sn]
    have hs : sSet 3 (eGet2 (eFld T0 18 (eVar 0)) (eVar 2) (eMake (mkC 7 F_Heap_init) [] (aCons (eFld T0 8 (eVar 0)) (aNil)))) [some (.cel n), some d, some K, none] C = .nxt [some (.cel n), some d, some K, some (.cel h)] C1 := by
      rw [sSet_ap, gt]; rfl
    rw [sq, hs, sn]
    exact hr
  obtain ⟨s, hs⟩ : ∃ s, s = stOf es (keyX x) := ⟨_, rfl⟩
  unfold Look
  rw [← hs] at A tr st big hby ⊢
  cases ht : s.trouble R.r.r x with
  | some a =>
    obtain ⟨C2, f2, H2, e2⟩ := letgo_ok H1 (keyX x) "unlike"
    refine ⟨C2, _, R, _, head _ ?_ rfl, H2, .inl ⟨a, rfl, rfl, rfl, rfl⟩, by simp, back (lgm e2)⟩
    rw [ht] at tr
    have ns := nsome (some a) C1
    generalize keyT (keyX x) = K at *
    simp [oh, mtr, tr, ns, o1, mlg, f2]
  | none =>
    rw [ht] at tr
    have ns := nsome none C1
    cases hst : s.strange x with
    | true =>
      rw [hst] at st
      refine ⟨C1, _, R, _, head _ ?_ rfl, H1, .inr (.inl ⟨rfl, rfl, rfl, rfl, rfl⟩), by simp, back Ext.refl⟩
      generalize keyT (keyX x) = K at *
      simp [oh, mtr, tr, ns, mst, st]
    | false =>
      rw [hst] at st
      obtain ⟨C2, f2, e2⟩ := hwould_ok A P1 p
      have mwb := mwb
      have H2 := H1.ext e2 (by simp)
      have A2 := A.ext e2 (by simp) (by simp)
      have P2 := P1.ext e2 (by simp)
      cases hlk : (s.take R.r.l x).lacks.isEmpty with
      | true =>
        rw [hlk] at f2
        have hnil : (s.take R.r.l x).lacks = [] := List.isEmpty_iff.1 hlk
        obtain ⟨bs, hb1, hb2⟩ := hby hst hnil
        obtain ⟨C3, c3, f3, A3, e3⟩ := take_ok A2 P2 dnh.1 dnh.2 p
        have mtk := mtak
        have mal := mall
        have oh2 := A2.ob
        obtain ⟨es3, H3, he3⟩ : ∃ es3, RoomAt C3 n nh ng nw R es3 ∧ without es3 (keyX x) = without es (keyX x) := by
          rcases M with ⟨e0, m0, ek, eh, eb⟩ | ⟨hf, q1, q2⟩
          · subst eh eb
            have := H2.took m0 e3 A3
            rw [ek] at this
            exact ⟨_, this, without_upd _ _ _ _⟩
          · unfold rcells at q1 q2
            exact ⟨es, H2.ext e3 fun m hm z => by
              simp only [List.mem_cons, List.not_mem_nil, or_false] at z
              rcases z with rfl | rfl
              · exact q1 hm
              · exact q2 hm, rfl⟩
        obtain ⟨C4, f4, H4, e4⟩ := letgo_ok H3 (keyX x) "whole"
        rw [he3] at H4
        have A4 := A3.ext e4 (by simp [a2, a3]) (by simp [b2, b3])
        have o3 := H3.ob
        have lw : (whD R.wh).length < 16777216 := by unfold whD; rw [List.length_map]; omega
        have pw := putT H4.dw (keyX x) (.int R.now) lw
        have fz4 := H4.fz
        have fn4 := H4.fn
        obtain ⟨C5, hC5⟩ : ∃ C5, C5 = C4.set nw (.dt (putD (whD R.wh) (keyX x) (.int R.now))) := ⟨_, rfl⟩
        have e5 : Ext [nw] C4 C5 := hC5 ▸ Ext.refl.set (.inl (by simp))
        obtain ⟨n1, n2, n3, n4, n5, n6⟩ := H.nes
        have H5 : RoomAt C5 n nh ng nw { R with wh := putW R.wh (keyX x) R.now } (without es (keyX x)) := ⟨e5.keep H4.o (by simp [n3]), e5.keep H4.dh (by simp [n5]), e5.keep H4.dg (by simp [n6]), by
          rw [hC5, get_set H4.dw]
          show some (O.dt _) = some (O.dt (whD (putW R.wh (keyX x) R.now)))
          rw [putW_D], fun e m => by
          obtain ⟨⟨_, _, _, z1⟩, _, _, _, z2⟩ := H4.neh m
          exact (H4.hp e m).ext e5 (by simp [z1]) (by simp [z2]), H4.nd, H4.kd, H4.ln, Nat.le_trans (putW_len _ _ _) hlw⟩
        rw [← hC5] at pw
        have A5 := A4.ext e5 (by simp [a4]) (by simp [b4])
        have oh5 := A5.ob
        obtain ⟨kk, hk, hall⟩ := lacks_nil (bt := (s.take R.r.l x).bt) (e := (s.take R.r.l x).lend) hnil
        have ab := hbytes_ok A5 hk hall
        rw [hb1] at ab
        obtain ⟨i0, i1, i2⟩ := keyX_ix x C5
        have lo := letter_ok x.n x.a x.b (.lst (bs.map D.int)) bs false C5 V.ky (.inl rfl) hb2
        refine ⟨C5.bump 1, _, { R with wh := putW R.wh (keyX x) R.now }, _, head _ ?_ rfl, H5.ext (Ext.refl.bump 1 : Ext [] C5 _) (by simp), .inr (.inr (.inl ⟨rfl, rfl, hnil, ⟨bs, hb1, rfl⟩, rfl, rfl⟩)), by simp,
          back (((e2.mono (by simp)).trans ((mono e3 e2.nx).trans ((lgm e4).trans (e5.mono fun m q => .inl (by unfold rcells; simp only [List.mem_singleton] at q; simp [q]))))).bump 1)⟩
        clear hby big hd hdn M lk back mono lgm head pre
        generalize keyT (keyX x) = K at *
        generalize bs.map D.int = BL at *
        generalize ltr x.n x.a x.b bs false = LT at *
        rw [sq]
        conv => lhs; arg 1; simp [oh, mtr, tr, ns]
        rw [sn]
        rw [sq]
        conv => lhs; arg 1; simp [oh, mst, st]
        rw [sn]
        simp [oh, mwb, f2, oh2, mtk, f3, o3, mlg, f4, fn4, fz4, pw, i0, i1, i2, oh5, mal, ab, lo]
      | false =>
        rw [hlk] at f2
        have hne : (s.take R.r.l x).lacks ≠ [] := fun z => by rw [z] at hlk; cases hlk
        obtain ⟨C3, c3, f3, H3, A3, e3⟩ := made_ok H2 A2 M P2 p (fun m hm z => by
          simp only [List.mem_cons] at hm
          rcases hm with rfl | rfl | hm
          · exact dnh.1 z
          · exact dnh.2 z
          · exact hd m z hm) ho hl (fun c' hc' => big c c' A.cv hc')
        have o2 := H2.ob
        have mmr := mmr
        refine ⟨C3, [], R, _, head _ ?_ rfl, H3, .inr (.inr (.inr ⟨rfl, rfl, hne, rfl, rfl, h, nb, c3, rfl, A3.cv⟩)), by simp, back ((e2.mono (by simp)).trans e3)⟩
        clear hby big hd hdn M lk back mono lgm head pre
        generalize keyT (keyX x) = K at *
        rw [sq]
        conv => lhs; arg 1; simp [oh, mtr, tr, ns]
        rw [sn]
        rw [sq]
        conv => lhs; arg 1; simp [oh, mst, st]
        rw [sn]
        rw [sq]
        conv => lhs; arg 1; simp [oh, mwb, f2]
        rw [sn]
        simp [o2, mmr, f3]
end
section
variable {C C' : Cells} {n nh ng nw : Nat} {R : Rm} {es : List Ent} {S : List Nat} {h nb : Nat} {s : Hs} {c : Cov.C} {d : D} {x : Pc} {k : List Key}
theorem mtick : M_tick 8 = some (2, F_Room_tick) := rfl
theorem mlook : M_looked_at 8 = some (2, F_Room_looked_at) := rfl
/-- a piece comes: no wait is over, space is enough, it is not late -/
theorem come_ok (H : RoomAt C n nh ng nw R es) (P : IsPc C d x) (V : Vl x) (hd : ∀ m, d = .cel m → m ∉ rcells n nh ng nw es) {t : Int} (ht : R.now ≤ t) (hw : ∀ e ∈ es, t < e.t + R.w)
    (ho : ∃ b, ∀ C, dEqV (.str R.out) (.str "own") C = .ok (.bl b) C) (hl : es.length < 1000) (hlw : R.wh.length < 1000)
    (hag : ∃ b, (∀ C, dEqV (.str R.ag) (.str "rest") C = .ok (.bl b) C) ∧ (b = true → ∀ v, lookD (whD R.wh) (keyX x) = some (.int v) → v + R.w ≤ t))
    (big : ∀ c c', Hcv c (stOf es (keyX x)).bt → Hcv c' (putF R.r.l (stOf es (keyX x)).bt x.at_ x.bs) → Cov.sz c' ≤ R.sp ∧ szs es + (Cov.sz c' - Cov.sz c) ≤ R.sp)
    (hby : (stOf es (keyX x)).strange x = false → ((stOf es (keyX x)).take R.r.l x).lacks = [] → ∃ bs, ((stOf es (keyX x)).take R.r.l x).bytes = bs.map D.int ∧ Bd bs) :
    ∃ C' evs R' es', F_Room_come [.cel n, .int t, d] C = .ok (.lst evs) C' ∧ RoomAt C' n nh ng nw R' es' ∧ Look (R.at_ t) es x evs R' es' ∧ evs.length ≤ 1 ∧ Ext (rcells n nh ng nw es) C C' := by
  have fn := H.fn
  have is := isnum_ok t R.now ht C
  have kd := P.knd
  have ti : isT tb0 (10 + 2) (10 + 2) = some true := rfl
  have ob := H.ob
  have m1 := mtick
  have m2 := mlook
  obtain ⟨C1, f1, H1, e1⟩ := tick_ok H ht hw
  have P1 : IsPc C1 d x := P.ext e1 fun m q z => by
    simp only [List.mem_singleton] at z
    exact hd m q (by rw [z]; simp [rcells])
  have ob1 := H1.ob
  obtain ⟨C2, evs, R', es', f2, H2, lk, le, e2⟩ := looked_ok H1 P1 V hd ho hl hlw hag big hby
  have ad : dAdd (.lst []) (.lst evs) C2 = .ok (.lst evs) C2 := addL [] evs (by simp; omega) C2
  refine ⟨C2, evs, R', es', ?_, H2, lk, le, (e1.mono fun m q => .inl (by simp only [List.mem_singleton] at q; simp [rcells, q])).trans e2⟩
  simp [F_Room_come, fn, is, kd, ti, ob, m1, f1, ob1, m2, f2, ad]
theorem mchk : M_check_key 8 = some (2, F_Room_check_key) := rfl
theorem rlacks_ok (H : RoomAt C n nh ng nw R es) {e : Ent} (m : e ∈ es) (hk : keyT e.k = .tup [.int x.n, .str x.a, .str x.b]) (ky : Ky x.n x.a x.b) : ∃ C', F_Room_lacks [.cel n, keyT e.k] C = .ok (.lst e.s.lacks) C' ∧ Ext [] C C' := by
  have A := H.hp e m
  obtain ⟨C', f, ex⟩ := hlacks_ok A
  have lk := look_es (fun e => .cel e.h) es e.k
  have fe : es.find? (fun y => decide (y.k = e.k)) = some e := by
    cases q : es.find? fun y => decide (y.k = e.k) with
    | none => have := List.find?_eq_none.1 q e m; simp at this
    | some e' =>
      have m' := List.mem_of_find?_eq_some q
      have k' : e'.k = e.k := by have := List.find?_some q; simpa using this
      rw [key_uniq H.kd m' m k']
  rw [fe] at lk
  have iT := inT_ok H.dh e.k true
  rw [show lookD (esH es) e.k = _ from lk] at iT
  have gF : dGetF (.cel nh) (keyT e.k) C = .ok (.cel e.h) C := by
    unfold dGetF
    rw [getK_T H.dh, show lookD (esH es) e.k = _ from lk]; rfl
  have ik : F_is_key [keyT e.k] C = .ok (.bl true) C := by
    rw [hk]; exact iskey_ok x.n x.a x.b C ky
  have ob := H.ob
  have fh := H.fh
  have oh := A.ob
  have ml := mlac
  have mc := mchk
  refine ⟨C', ?_, ex⟩
  clear hk
  generalize keyT e.k = K at *
  have ck : F_Room_check_key [.cel n, K] C = .ok .non C := by
    simp [F_Room_check_key, ik, fh, iT]
  simp [F_Room_lacks, ob, mc, ck, fh, gF, oh, ml, f]
theorem kept_nil (H : RoomAt C n nh ng nw R []) : F_Room_kept [.cel n] C = .ok (.lst []) C := by
  have fh := H.fh
  have bl : bListT [.cel nh] C = .ok (.lst []) C := by
    have g : C.get nh = some (.dt []) := H.dh
    unfold bListT
    simp only [g]
    rfl
  have so := sortT_nil C
  simp [F_Room_kept, fh, bl, so]
end

theorem rinit_ok (r : Rule) (w sp : Int) (out ag : Str) (C : Cells) (hw : 1 ≤ w) (hs : 1 ≤ sp)
    (h1 : ∀ C, dInG true (.str out) (.tup [.str "oldest", .str "widest", .str "own"]) C = .ok (.bl false) C) (h2 : ∀ C, dInG true (.str ag) (.tup [.str "fresh", .str "rest"]) C = .ok (.bl false) C) :
    ∃ C', mkC 8 F_Room_init [.str r.s, .int w, .int sp, .str out, .str ag] C = .ok (.cel C.nx) C' ∧ RoomAt C' C.nx (C.nx + 1) (C.nx + 2) (C.nx + 3) ⟨r, w, sp, out, ag, 0, []⟩ [] ∧ Ext [] C C' := by
  have hm : ∀ (C1 : Cells) (l : List D) (k i : Nat) (v : D), C1.get C.nx = some (.obj 8 l) → (T0.fl 8).idxOf k = i → i = l.length → 8 < T0.ncl ∧ k ∈ T0.fl 8 → setFld T0 k (.cel C.nx) v C1 = some (C1.set C.nx (.obj 8 (l ++ [v]))) := fun C1 l k i v h1 h2 h3 h4 => setFld_add h1 h4 h2 h3
  obtain ⟨N, hN⟩ : ∃ N, N = C.nx := ⟨_, rfl⟩
  rw [← hN] at hm ⊢
  obtain ⟨C0, hC0⟩ : ∃ C0, C0 = C.new (.obj 8 []) := ⟨_, rfl⟩
  have g0 : C0.get N = some (.obj 8 []) := by rw [hC0, hN]; exact get_new
  have e0 : Ext [] C C0 := hC0 ▸ Ext.refl.new
  have n0 : C0.nx = N + 1 := by rw [hC0, hN]; rfl
  have t3 : isT tb0 3 3 = some true := rfl
  have q1 := isnum_ok w 1 hw C0
  have q2 := isnum_ok sp 1 hs C0
  have q3 := crule_ok r C0
  have q4 := h1 C0
  have q5 := h2 C0
  have s0 := hm _ _ 8 0 (.str r.s) g0 rfl rfl (by decide)
  obtain ⟨C1, hC1⟩ : ∃ C1, C1 = C0.set N (.obj 8 ([] ++ [.str r.s])) := ⟨_, rfl⟩
  rw [← hC1] at s0
  have g1 : C1.get N = some (.obj 8 [.str r.s]) := by rw [hC1]; exact get_set g0
  have e1 : Ext [] C C1 := hC1 ▸ e0.set (.inr (by omega))
  have n1 : C1.nx = N + 1 := by rw [hC1]; exact n0
  have s1 := hm _ _ 13 1 (.int w) g1 rfl rfl (by decide)
  obtain ⟨C2, hC2⟩ : ∃ C2, C2 = C1.set N (.obj 8 ([.str r.s] ++ [.int w])) := ⟨_, rfl⟩
  rw [← hC2] at s1
  have g2 : C2.get N = some (.obj 8 [.str r.s, .int w]) := by rw [hC2]; exact get_set g1
  have e2 : Ext [] C C2 := hC2 ▸ e1.set (.inr (by omega))
  have n2 : C2.nx = N + 1 := by rw [hC2]; exact n1
  have s2 := hm _ _ 14 2 (.int sp) g2 rfl rfl (by decide)
  obtain ⟨C3, hC3⟩ : ∃ C3, C3 = C2.set N (.obj 8 ([.str r.s, .int w] ++ [.int sp])) := ⟨_, rfl⟩
  rw [← hC3] at s2
  have g3 : C3.get N = some (.obj 8 [.str r.s, .int w, .int sp]) := by rw [hC3]; exact get_set g2
  have e3 : Ext [] C C3 := hC3 ▸ e2.set (.inr (by omega))
  have n3 : C3.nx = N + 1 := by rw [hC3]; exact n2
  have s3 := hm _ _ 15 3 (.str out) g3 rfl rfl (by decide)
  obtain ⟨C4, hC4⟩ : ∃ C4, C4 = C3.set N (.obj 8 ([.str r.s, .int w, .int sp] ++ [.str out])) := ⟨_, rfl⟩
  rw [← hC4] at s3
  have g4 : C4.get N = some (.obj 8 [.str r.s, .int w, .int sp, .str out]) := by rw [hC4]; exact get_set g3
  have e4 : Ext [] C C4 := hC4 ▸ e3.set (.inr (by omega))
  have n4 : C4.nx = N + 1 := by rw [hC4]; exact n3
  have s4 := hm _ _ 16 4 (.str ag) g4 rfl rfl (by decide)
  obtain ⟨C5, hC5⟩ : ∃ C5, C5 = C4.set N (.obj 8 ([.str r.s, .int w, .int sp, .str out] ++ [.str ag])) := ⟨_, rfl⟩
  rw [← hC5] at s4
  have g5 : C5.get N = some (.obj 8 [.str r.s, .int w, .int sp, .str out, .str ag]) := by rw [hC5]; exact get_set g4
  have e5 : Ext [] C C5 := hC5 ▸ e4.set (.inr (by omega))
  have n5 : C5.nx = N + 1 := by rw [hC5]; exact n4
  have s5 := hm _ _ 17 5 (.int 0) g5 rfl rfl (by decide)
  obtain ⟨C6, hC6⟩ : ∃ C6, C6 = C5.set N (.obj 8 ([.str r.s, .int w, .int sp, .str out, .str ag] ++ [.int 0])) := ⟨_, rfl⟩
  rw [← hC6] at s5
  have g6 : C6.get N = some (.obj 8 [.str r.s, .int w, .int sp, .str out, .str ag, .int 0]) := by rw [hC6]; exact get_set g5
  have e6 : Ext [] C C6 := hC6 ▸ e5.set (.inr (by omega))
  have n6 : C6.nx = N + 1 := by rw [hC6]; exact n5
  obtain ⟨B6, hB6⟩ : ∃ B, B = C6.new (.dt []) := ⟨_, rfl⟩
  have bg6 : B6.get N = some (.obj 8 [.str r.s, .int w, .int sp, .str out, .str ag, .int 0]) := by rw [hB6]; exact get_new_old g6
  have be6 : Ext [] C B6 := hB6 ▸ e6.new
  have bn6 : B6.nx = N + 2 := by rw [hB6, nx_new, n6]
  have bd6 : B6.get (N + 1) = some (.dt []) := by rw [hB6, ← n6]; exact get_new
  have s6 := hm _ _ 18 6 (.cel (N + 1)) bg6 rfl rfl (by decide)
  obtain ⟨C7, hC7⟩ : ∃ C7, C7 = B6.set N (.obj 8 ([.str r.s, .int w, .int sp, .str out, .str ag, .int 0] ++ [.cel (N + 1)])) := ⟨_, rfl⟩
  rw [← hC7] at s6
  have g7 : C7.get N = some (.obj 8 [.str r.s, .int w, .int sp, .str out, .str ag, .int 0, .cel (N + 1)]) := by rw [hC7]; exact get_set bg6
  have e7 : Ext [] C C7 := hC7 ▸ be6.set (.inr (by omega))
  have n7 : C7.nx = N + 2 := by rw [hC7]; exact bn6
  have d7_0 : C7.get (N + 1) = some (.dt []) := by rw [hC7]; exact (get_set_ne (by omega)).trans bd6
  obtain ⟨B7, hB7⟩ : ∃ B, B = C7.new (.dt []) := ⟨_, rfl⟩
  have bg7 : B7.get N = some (.obj 8 [.str r.s, .int w, .int sp, .str out, .str ag, .int 0, .cel (N + 1)]) := by rw [hB7]; exact get_new_old g7
  have be7 : Ext [] C B7 := hB7 ▸ e7.new
  have bn7 : B7.nx = N + 3 := by rw [hB7, nx_new, n7]
  have bd7 : B7.get (N + 2) = some (.dt []) := by rw [hB7, ← n7]; exact get_new
  have k7_0 : B7.get (N + 1) = some (.dt []) := by rw [hB7]; exact get_new_old d7_0
  have s7 := hm _ _ 19 7 (.cel (N + 2)) bg7 rfl rfl (by decide)
  obtain ⟨C8, hC8⟩ : ∃ C8, C8 = B7.set N (.obj 8 ([.str r.s, .int w, .int sp, .str out, .str ag, .int 0, .cel (N + 1)] ++ [.cel (N + 2)])) := ⟨_, rfl⟩
  rw [← hC8] at s7
  have g8 : C8.get N = some (.obj 8 [.str r.s, .int w, .int sp, .str out, .str ag, .int 0, .cel (N + 1), .cel (N + 2)]) := by rw [hC8]; exact get_set bg7
  have e8 : Ext [] C C8 := hC8 ▸ be7.set (.inr (by omega))
  have n8 : C8.nx = N + 3 := by rw [hC8]; exact bn7
  have d8_1 : C8.get (N + 2) = some (.dt []) := by rw [hC8]; exact (get_set_ne (by omega)).trans bd7
  have d8_0 : C8.get (N + 1) = some (.dt []) := by rw [hC8]; exact (get_set_ne (by omega)).trans k7_0
  obtain ⟨B8, hB8⟩ : ∃ B, B = C8.new (.dt []) := ⟨_, rfl⟩
  have bg8 : B8.get N = some (.obj 8 [.str r.s, .int w, .int sp, .str out, .str ag, .int 0, .cel (N + 1), .cel (N + 2)]) := by rw [hB8]; exact get_new_old g8
  have be8 : Ext [] C B8 := hB8 ▸ e8.new
  have bn8 : B8.nx = N + 4 := by rw [hB8, nx_new, n8]
  have bd8 : B8.get (N + 3) = some (.dt []) := by rw [hB8, ← n8]; exact get_new
  have k8_0 : B8.get (N + 1) = some (.dt []) := by rw [hB8]; exact get_new_old d8_0
  have k8_1 : B8.get (N + 2) = some (.dt []) := by rw [hB8]; exact get_new_old d8_1
  have s8 := hm _ _ 20 8 (.cel (N + 3)) bg8 rfl rfl (by decide)
  obtain ⟨C9, hC9⟩ : ∃ C9, C9 = B8.set N (.obj 8 ([.str r.s, .int w, .int sp, .str out, .str ag, .int 0, .cel (N + 1), .cel (N + 2)] ++ [.cel (N + 3)])) := ⟨_, rfl⟩
  rw [← hC9] at s8
  have g9 : C9.get N = some (.obj 8 [.str r.s, .int w, .int sp, .str out, .str ag, .int 0, .cel (N + 1), .cel (N + 2), .cel (N + 3)]) := by rw [hC9]; exact get_set bg8
  have e9 : Ext [] C C9 := hC9 ▸ be8.set (.inr (by omega))
  have n9 : C9.nx = N + 4 := by rw [hC9]; exact bn8
  have d9_2 : C9.get (N + 3) = some (.dt []) := by rw [hC9]; exact (get_set_ne (by omega)).trans bd8
  have d9_0 : C9.get (N + 1) = some (.dt []) := by rw [hC9]; exact (get_set_ne (by omega)).trans k8_0
  have d9_1 : C9.get (N + 2) = some (.dt []) := by rw [hC9]; exact (get_set_ne (by omega)).trans k8_1
  refine ⟨C9, ?_, ⟨g9, d9_0, d9_1, d9_2, fun e m => (by cases m), (by simp), (by simp), (by simp), (by simp)⟩, e9⟩
  have fi : F_Room_init [.cel N, .str r.s, .int w, .int sp, .str out, .str ag] C0 = .ok .non C9 := by
    clear hm
    have w6 : C6.nx = N + 1 := n6
    unfold F_Room_init
    refine callF_n (s' := [some (.cel N), some (.str r.s), some (.int w), some (.int sp), some (.str out), some (.str ag)]) [some (.cel N), some (.str r.s), some (.int w), some (.int sp), some (.str out), some (.str ag)] rfl rfl ?_
    rw [sq]
    conv => lhs; arg 1; simp [q3]
    rw [sn]
    rw [sq]
    conv => lhs; arg 1; simp [q1, q2]
    rw [sn]
    rw [sq]
    conv => lhs; arg 1; simp [t3, q4]
    rw [sn]
    rw [sq]
    conv => lhs; arg 1; simp [t3, q5]
    rw [sn]
    rw [sq]
    conv => lhs; arg 1; simp [s0]
    rw [sn]
    rw [sq]
    conv => lhs; arg 1; simp [s1]
    rw [sn]
    rw [sq]
    conv => lhs; arg 1; simp [s2]
    rw [sn]
    rw [sq]
    conv => lhs; arg 1; simp [s3]
    rw [sn]
    rw [sq]
    conv => lhs; arg 1; simp [s4]
    rw [sn]
    rw [sq]
    conv => lhs; arg 1; simp [s5]
    rw [sn]
    rw [sq]
    conv => lhs; arg 1; simp [n6, ← hB6, s6]
    rw [sn]
    rw [sq]
    conv => lhs; arg 1; simp [n7, ← hB7, s7]
    rw [sn]
    simp [n8, ← hB8, s8]
  unfold mkC
  rw [← hN, ← hC0, fi]
/-! the law's own reader: over the row of what is taken -/
def cvB (y : Pc) (z : Int) : Bool := decide (y.at_ ≤ z) && decide (z < endP y)
def byB (y : Pc) (z : Int) : Int := y.bs.getD (z - y.at_).toNat 0
def endT : List Pc → Option Int
  | [] => none
  | y :: r => if y.mo = true then endT r else some (endP y)
def strT (T : List Pc) (x : Pc) : Bool := match endT T with
  | some k => if endP x > k then true else if x.mo = true then decide (endP x = k) else if endP x ≠ k then true else T.any fun y => y.mo && decide (endP x ≤ endP y)
  | none => if x.mo = true then false else T.any fun y => y.mo && decide (endP x ≤ endP y)
def covs (T : List Pc) (z : Int) : List Int := (T.filter fun y => cvB y z).map fun y => byB y z
def byteT (T : List Pc) (last : Bool) (z : Int) : Option Int := if last = true then (covs T z).getLast? else (covs T z).head?
def unlT (T : List Pc) : Int → List Int → Option Int
  | _, [] => none
  | a, b :: r => if (match byteT T false a with | some v => !(v == b) | none => false) = true then some a else unlT T (a + 1) r
def topT (T : List Pc) : Int := (T.map endP).foldl max 0
structure Tk (T : List Pc) (l : Bool) (s : Hs) : Prop where
  ok : Hok s
  lend : s.lend = endT T
  m1 : ∀ y ∈ T, y.mo = true → endP y ≤ s.most
  m2 : s.most = 0 ∨ ∃ y ∈ T, y.mo = true ∧ endP y = s.most
  lm : ∀ k, s.lend = some k → s.most < k
  bt : ∀ z, lookD s.bt (.inl z) = (byteT T l z).map D.int
  pb : ∀ y ∈ T, Pb y
theorem look_putT : ∀ (bs : List Int) (bt : Bt) (a x : Int), lookD (putF true bt a bs) (.inl x) = if a ≤ x ∧ x < a + bs.length then (bs[(x - a).toNat]?).map D.int else lookD bt (.inl x)
  | [], bt, a, x => by
    rw [if_neg (by simp)]; rfl
  | b :: r, bt, a, x => by
    unfold DL.putF
    rw [if_pos (.inl rfl), look_putT r _ (a + 1) x]
    by_cases q : a + 1 ≤ x ∧ x < a + 1 + r.length
    · rw [if_pos q, if_pos (by simp; omega)]
      rw [show (x - a).toNat = (x - (a + 1)).toNat + 1 by omega]
      rfl
    · rw [if_neg q, lookD_put]
      by_cases z : x = a
      · subst z
        rw [if_pos rfl, if_pos (by simp; omega)]
        simp
      · rw [if_neg (fun e => z (Sum.inl.inj e)), if_neg (by simp; omega)]
theorem tk0 (l : Bool) : Tk [] l Hs0 := ⟨hok0, rfl, by simp, .inl rfl, fun k h => by simp [Hs0] at h, fun z => by simp [Hs0, lookD, byteT, covs], by simp⟩
section
variable {T : List Pc} {l : Bool} {s : Hs} {x : Pc}
theorem Pb.pos (p : Pb x) : 1 ≤ endP x := by
  have := p.a
  have := p.l
  unfold endP; omega
theorem Tk.str (K : Tk T l s) (p : Pb x) : s.strange x = strT T x := by
  have pp := p.pos
  have anyM : ∀ e : Int, 1 ≤ e → ((T.any fun y => y.mo && decide (e ≤ endP y)) = true ↔ e ≤ s.most) := fun e he => by
    rw [List.any_eq_true]
    constructor
    · rintro ⟨y, m, h⟩
      simp only [Bool.and_eq_true, decide_eq_true_eq] at h
      have := K.m1 y m h.1
      omega
    · intro h
      rcases K.m2 with z | ⟨y, m, h1, h2⟩
      · omega
      · exact ⟨y, m, by simp [h1]; omega⟩
  unfold Hs.strange strT strangeH
  rw [← K.lend]
  cases hl : s.lend with
  | none =>
    simp only
    cases x.mo
    · simp only [Bool.not_false, Bool.true_and, Bool.false_eq_true, if_false]
      rw [Bool.eq_iff_iff, anyM _ pp, decide_eq_true_eq]
    · simp
  | some k =>
    have lm := K.lm k hl
    simp only
    by_cases h1 : k < endP x
    · simp [h1]
    · rw [if_neg (by omega)]
      cases x.mo
      · by_cases h2 : endP x = k
        · have : ¬ (T.any fun y => y.mo && decide (endP x ≤ endP y)) = true := fun z => by
            have := (anyM _ pp).1 z
            omega
          simp only [Bool.not_eq_true] at this
          simp [h1, h2, h2 ▸ this]
        · simp [h1, h2]
      · simp [h1]
theorem Tk.unl (K : Tk T false s) : ∀ (bs : List Int) (a : Int), clashF s.bt a bs = unlT T a bs
  | [], _ => rfl
  | b :: r, a => by
    have ih := Tk.unl K r (a + 1)
    unfold clashF unlT difF
    rw [K.bt a, ih]
    cases byteT T false a <;> simp
theorem covs_app (T : List Pc) (x : Pc) (z : Int) : covs (T ++ [x]) z = covs T z ++ (if cvB x z = true then [byB x z] else []) := by
  unfold covs
  rw [List.filter_append, List.map_append]
  congr 1
  by_cases h : cvB x z = true
  · simp [h]
  · simp [h]
theorem endT_app : ∀ (T : List Pc) (x : Pc), endT (T ++ [x]) = match endT T with | some k => some k | none => if x.mo = true then none else some (endP x)
  | [], x => rfl
  | y :: T, x => by
    show (if y.mo = true then endT (T ++ [x]) else some (endP y)) = match (if y.mo = true then endT T else some (endP y)) with | some k => some k | none => if x.mo = true then none else some (endP x)
    by_cases h : y.mo = true
    · rw [if_pos h, if_pos h]; exact endT_app T x
    · rw [if_neg h, if_neg h]
theorem putF_look : ∀ (bs : List Int) (bt : Bt) (a x : Int), lookD (putF false bt a bs) (.inl x) = match lookD bt (.inl x) with | some d => some d | none => if a ≤ x ∧ x < a + bs.length then (bs[(x - a).toNat]?).map D.int else none
  | [], bt, a, x => by
    rw [if_neg (by simp)]
    show lookD bt (.inl x) = _
    cases lookD bt (.inl x) <;> rfl
  | b :: r, bt, a, x => by
    have hl : ((b :: r).length : Int) = r.length + 1 := by simp
    rw [hl]
    show lookD (putF false (if false = true ∨ has bt a = false then putD bt (.inl a) (.int b) else bt) (a + 1) r) (.inl x) = _
    rw [putF_look r]
    by_cases ha : has bt a = false
    · rw [if_pos (.inr ha), lookD_put]
      by_cases e : x = a
      · subst e
        rw [if_pos rfl]
        have : lookD bt (.inl x) = none := by
          unfold has at ha
          cases q : lookD bt (.inl x) with
          | none => rfl
          | some d => rw [q] at ha; simp at ha
        rw [this]
        simp only
        rw [if_pos (by omega)]
        simp
      · rw [if_neg (fun z => e (Sum.inl.inj z))]
        cases lookD bt (.inl x) with
        | some d => rfl
        | none =>
          simp only
          by_cases q : a + 1 ≤ x ∧ x < a + 1 + r.length
          · rw [if_pos q, if_pos (by omega), show (x - a).toNat = (x - (a + 1)).toNat + 1 by omega]; rfl
          · rw [if_neg q, if_neg (by omega)]
    · rw [if_neg (by simp [ha])]
      cases q : lookD bt (.inl x) with
      | some d => rfl
      | none =>
        have e : x ≠ a := fun z => by
          subst z
          unfold has at ha; rw [q] at ha; simp at ha
        simp only
        by_cases q : a + 1 ≤ x ∧ x < a + 1 + r.length
        · rw [if_pos q, if_pos (by omega), show (x - a).toNat = (x - (a + 1)).toNat + 1 by omega]; rfl
        · rw [if_neg q, if_neg (by omega)]
theorem byB_get {x : Pc} {z : Int} (h : x.at_ ≤ z ∧ z < x.at_ + x.bs.length) : x.bs[(z - x.at_).toNat]? = some (byB x z) := by
  unfold byB
  rw [List.getD_eq_getElem?_getD, List.getElem?_eq_getElem (by omega)]
  rfl
theorem Tk.take (K : Tk T l s) (p : Pb x) (h : strT T x = false) : Tk (T ++ [x]) l (s.take l x) := by
  have pp := p.pos
  rw [← K.str p] at h
  unfold Hs.strange strangeH at h
  refine ⟨K.ok.take l p.a p.l p.e, ?_, fun y m hy => ?_, ?_, fun k hk => ?_, fun z => ?_, fun y m => ?_⟩
  · rw [endT_app, ← K.lend]
    show (if x.mo = true then s.lend else some (endP x)) = _
    cases hl : s.lend with
    | none => by_cases q : x.mo = true <;> simp [q]
    | some k =>
      rw [hl] at h
      by_cases q : x.mo = true
      · simp [q]
      · simp [q] at h ⊢
        exact h.2
  · show endP y ≤ if x.mo = true then (if endP x > s.most then endP x else s.most) else s.most
    rcases List.mem_append.1 m with m | m
    · have := K.m1 y m hy
      split
      · split <;> omega
      · exact this
    · rw [List.mem_singleton] at m; subst m
      rw [if_pos hy]; split <;> omega
  · show (if x.mo = true then (if endP x > s.most then endP x else s.most) else s.most) = 0 ∨ ∃ y ∈ T ++ [x], y.mo = true ∧ endP y = if x.mo = true then (if endP x > s.most then endP x else s.most) else s.most
    by_cases q : x.mo = true
    · rw [if_pos q]
      by_cases g : endP x > s.most
      · rw [if_pos g]; exact .inr ⟨x, by simp, q, rfl⟩
      · rw [if_neg g]
        rcases K.m2 with z | ⟨y, m, h1, h2⟩
        · exact .inl z
        · exact .inr ⟨y, by simp [m], h1, h2⟩
    · rw [if_neg q]
      rcases K.m2 with z | ⟨y, m, h1, h2⟩
      · exact .inl z
      · exact .inr ⟨y, by simp [m], h1, h2⟩
  · have hk : (if x.mo = true then s.lend else some (endP x)) = some k := hk
    show (if x.mo = true then (if endP x > s.most then endP x else s.most) else s.most) < k
    cases hl : s.lend with
    | none =>
      rw [hl] at h hk
      by_cases q : x.mo = true
      · rw [if_pos q] at hk; cases hk
      · rw [if_neg q] at hk ⊢
        cases hk
        simp [q] at h
        exact h
    | some e =>
      have := K.lm e hl
      rw [hl] at h hk
      by_cases q : x.mo = true
      · rw [if_pos q] at hk ⊢
        cases hk
        simp [q] at h
        split <;> omega
      · rw [if_neg q] at hk ⊢
        cases hk
        simp [q] at h
        omega
  · show lookD (putF l s.bt x.at_ x.bs) (.inl z) = _
    have cv : cvB x z = true ↔ x.at_ ≤ z ∧ z < x.at_ + x.bs.length := by
      unfold cvB endP; simp
    cases l with
    | true =>
      rw [look_putT, K.bt z]
      unfold byteT
      rw [covs_app, if_pos rfl, if_pos rfl]
      by_cases q : x.at_ ≤ z ∧ z < x.at_ + x.bs.length
      · rw [if_pos q, byB_get q, if_pos (cv.2 q)]; simp
      · rw [if_neg q, if_neg (fun z => q (cv.1 z))]; simp
    | false =>
      rw [putF_look, K.bt z]
      unfold byteT
      rw [covs_app, if_neg Bool.false_ne_true, if_neg Bool.false_ne_true]
      cases hc : covs T z with
      | cons b r => simp
      | nil =>
        simp only [List.head?_nil, Option.map_none, List.nil_append]
        by_cases q : x.at_ ≤ z ∧ z < x.at_ + x.bs.length
        · rw [if_pos q, byB_get q, if_pos (cv.2 q)]; simp
        · rw [if_neg q, if_neg (fun z => q (cv.1 z))]; simp
  · rcases List.mem_append.1 m with m | m
    · exact K.pb y m
    · rw [List.mem_singleton] at m; subst m; exact p
theorem byteT_none {z : Int} : byteT T l z = none ↔ covs T z = [] := by
  unfold byteT
  split
  · exact List.getLast?_eq_none_iff
  · exact List.head?_eq_none_iff
theorem Tk.hs (K : Tk T l s) (z : Int) : has s.bt z = (byteT T l z).isSome := by
  unfold DL.has
  rw [K.bt z]
  cases byteT T l z <;> rfl
theorem top_fold : ∀ (L : List Int) (a : Int), a ≤ L.foldl max a ∧ (∀ x ∈ L, x ≤ L.foldl max a) ∧ (L.foldl max a = a ∨ L.foldl max a ∈ L)
  | [], a => by simp
  | x :: L, a => by
    obtain ⟨h1, h2, h3⟩ := top_fold L (max a x)
    refine ⟨by show a ≤ L.foldl max (max a x); omega, fun y m => ?_, ?_⟩
    · show y ≤ L.foldl max (max a x)
      rcases List.mem_cons.1 m with rfl | m
      · omega
      · exact h2 y m
    · show L.foldl max (max a x) = a ∨ L.foldl max (max a x) ∈ x :: L
      rcases h3 with h3 | h3
      · rw [h3]
        by_cases q : x ≤ a
        · exact .inl (by omega)
        · exact .inr (by rw [show max a x = x by omega]; simp)
      · exact .inr (by simp [h3])
/-- behind the greatest byte: the greatest end -/
theorem Tk.top (K : Tk T l s) : topK s.bt = topT T := by
  obtain ⟨t0, _, t2, t3⟩ := topK_ok K.ok.b
  obtain ⟨f1, f2, f3⟩ := top_fold (T.map endP) 0
  have cov : ∀ y ∈ T, has s.bt (endP y - 1) = true := fun y m => by
    have p := K.pb y m
    rw [K.hs]
    cases q : byteT T l (endP y - 1) with
    | some v => rfl
    | none =>
      have := byteT_none.1 q
      unfold covs at this
      rw [List.map_eq_nil_iff, List.filter_eq_nil_iff] at this
      have h := this y m
      unfold cvB at h
      have := p.l
      unfold endP at h
      simp at h
      omega
  have up : ∀ z, has s.bt z = true → z < topT T := fun z h => by
    rw [K.hs] at h
    cases q : covs T z with
    | nil => rw [byteT_none.2 q] at h; cases h
    | cons b r =>
      have : (T.filter fun y => cvB y z) ≠ [] := fun e => by unfold covs at q; rw [e] at q; cases q
      obtain ⟨y, hy⟩ := List.exists_mem_of_ne_nil _ this
      obtain ⟨m, hc⟩ := List.mem_filter.1 hy
      have := f2 (endP y) (List.mem_map.2 ⟨y, m, rfl⟩)
      unfold cvB at hc
      simp at hc
      unfold topT; omega
  unfold topT at up ⊢
  apply Int.le_antisymm
  · by_cases q : 0 < topK s.bt
    · have := up _ (t3 q); omega
    · omega
  · rcases f3 with f3 | f3
    · omega
    · obtain ⟨y, m, e⟩ := List.mem_map.1 f3
      have := t2 _ (cov y m)
      omega
def lackT (T : List Pc) (e : Int) : List Int := (rng 0 e.toNat).filter fun z => (byteT T false z).isNone
theorem byteT_iso (z : Int) : (byteT T true z).isNone = (byteT T false z).isNone := by
  rw [Bool.eq_iff_iff, Option.isNone_iff_eq_none, Option.isNone_iff_eq_none, byteT_none, byteT_none]
theorem Tk.lackL (K : Tk T l s) (e : Int) : lackK s.bt e = Cov.runsL (lackT T e) := by
  unfold lackK lackT
  congr 1
  apply List.filter_congr
  intro z _
  rw [K.hs]
  have : (byteT T l z).isNone = (byteT T false z).isNone := by
    cases l
    · rfl
    · exact byteT_iso z
  rw [← this]
  cases byteT T l z <;> rfl
/-- what the reader tells as lacking -/
def spansT (T : List Pc) : List D := match endT T with
  | some e => (Cov.runsL (lackT T e)).map pr
  | none => (Cov.runsL (lackT T (topT T))).map pr ++ [.tup [.int (topT T), .non]]
theorem Tk.lacks (K : Tk T l s) : s.lacks = spansT T := by
  unfold Hs.lacks lacksP spansT
  rw [← K.lend]
  cases s.lend with
  | some e => simp only [K.lackL]
  | none => simp only [K.lackL, K.top]
end
def pcD (x : Pc) : D := .obj 2 (pcL x)
theorem isPc_D {C : Cells} (x : Pc) : IsPc C (pcD x) x := .inl rfl
theorem pcs_D {C : Cells} : ∀ xs : List Pc, Pcs C (xs.map pcD) xs
  | [] => .nil
  | x :: xs => .cons (isPc_D x) (pcs_D xs)
def unI : D → Int
  | .int i => i
  | _ => 0
def unD : D → Pc
  | .obj _ [.int n, .str a, .str b, .lst l, .bl k, .int at_, .bl mo] => ⟨n, a, b, l.map unI, k, at_, mo⟩
  | _ => ⟨0, "", "", [], false, 0, false⟩
theorem unD_D (x : Pc) : unD (pcD x) = x := by
  show (⟨x.n, x.a, x.b, (x.bs.map D.int).map unI, x.k, x.at_, x.mo⟩ : Pc) = x
  rw [List.map_map, show (unI ∘ D.int) = id from rfl, List.map_id]
section
variable {C : Cells} {n : Nat} {T : List Pc} {x : Pc}
theorem eLcK_cel {fo : EF} {tg : GF} {t : TF} {f : EF} {vs : List Nat} {s : Sl} {l : List D} (hf : fo s C = .ok (.cel n) C) (hm : C.get n = some (.lst l)) (hl : l.length ≤ 16777216) (p : D → Bool) (g : D → D)
    (h : ∀ d ∈ l, ∃ s', tg d (wipeD s vs) C = some s' ∧ t s' C = .ok (p d) C ∧ (p d = true → f s' C = .ok (g d) C)) :
    eLcK (iCel fo) tg t f vs s C = .ok (.lst ((l.filter p).map g)) C := by
  have lc := lcK_pure (kp := fun C' : Cells => C'.get n = some (.lst l)) (tg := tg) (t := t) (f := f) (vs := vs) (s := s) (C := C) p g hm l h
  rw [eLcK_ap, lcKG_ap]
  unfold iCel celK
  simp only [hf, bind_ok, hm, lc]
  rw [if_pos (show l.length ≤ mxl from hl)]
  rfl
open Classical in
theorem end_loop {L : List D} (g : C.get n = some (.lst L)) {kp : Cells → Prop} (hk : kp C) : ∀ (T : List Pc) (x1 : Option D), (endT T = none → ∃ y1, forK kp (gfName 1) B__law_end_1 (T.map pcD) [some (.cel n), x1] C = .nxt [some (.cel n), y1] C) ∧ (∀ e, endT T = some e → forK kp (gfName 1) B__law_end_1 (T.map pcD) [some (.cel n), x1] C = .ret (.int e) C)
  | [], x1 => ⟨fun _ => ⟨x1, by show (if kp C then _ else _) = _; rw [if_pos hk]⟩, fun e h => by cases h⟩
  | y :: T, x1 => by
    have ih := end_loop g hk T (some (pcD y))
    have P : IsPc C (pcD y) y := isPc_D y
    have f6 := P.f6
    have ob := P.obj
    have en := P.end_
    have mm := mend
    have st : forK kp (gfName 1) B__law_end_1 ((y :: T).map pcD) [some (.cel n), x1] C = (match B__law_end_1 [some (.cel n), some (pcD y)] C with | .nxt s C => forK kp (gfName 1) B__law_end_1 (T.map pcD) s C | .cnt s C => forK kp (gfName 1) B__law_end_1 (T.map pcD) s C | .brk s C => .nxt s C | x => x) := by
      show (if kp C then _ else _) = _
      rw [if_pos hk]; rfl
    rw [st]
    unfold endT
    generalize pcD y = PY at *
    by_cases h : y.mo = true
    · rw [if_pos h]
      rw [h] at f6
      have b : B__law_end_1 [some (.cel n), some PY] C = .nxt [some (.cel n), some PY] C := by simp [B__law_end_1, f6]
      rw [b]
      exact ih
    · rw [if_neg h]
      rw [Bool.not_eq_true] at h
      rw [h] at f6
      have b : B__law_end_1 [some (.cel n), some PY] C = .ret (.int (endP y)) C := by simp [B__law_end_1, f6, ob, mm, en]
      rw [b]
      refine ⟨fun z => (by cases z), fun e z => ?_⟩
      cases z; rfl
theorem lend_ok (g : C.get n = some (.lst (T.map pcD))) : F__law_end [.cel n] C = .ok (dE (endT T)) C := by
  obtain ⟨h1, h2⟩ := end_loop g (kp := fun C' : Cells => C'.get n = some (.lst (T.map pcD))) g T none
  have it : iCel (eVar 0) [some (.cel n), none] C = .ok (T.map pcD, fun C' : Cells => C'.get n = some (.lst (T.map pcD))) C := by
    unfold iCel celK
    simp only [eVar_ap, List.getElem?_cons_zero, bind_ok, g]
  cases he : endT T with
  | none =>
    obtain ⟨y1, f⟩ := h1 he
    unfold F__law_end
    refine callF_r [some (.cel n), none] rfl rfl ?_
    rw [sq, sForK_of it f, sn]
    rfl
  | some e =>
    have f := h2 e he
    unfold F__law_end
    refine callF_r [some (.cel n), none] rfl rfl ?_
    rw [sq, sForK_of it f]
    rfl
theorem lbyte_ok (g : C.get n = some (.lst (T.map pcD))) (hl : T.length ≤ 1000) (r : Rule) (z : Int) : F__law_byte [.cel n, .str r.s, .int z] C = .ok (dE (byteT T r.l z)) C := by
  have lc := eLcK_cel (fo := eVar 0) (tg := gfName 4) (t := I__law_byte_1) (f := Y__law_byte_2) (vs := [4]) (s := [some (.cel n), some (.str r.s), some (.int z), none, none]) (by simp) g (by rw [List.length_map]; omega) (fun d => cvB (unD d) z) (fun d => .int (byB (unD d) z)) (fun d m => by
    obtain ⟨y, my, rfl⟩ := List.mem_map.1 m
    have P : IsPc C (pcD y) y := isPc_D y
    have f3 := P.f3
    have f5 := P.f5
    have ob := P.obj
    have en := P.end_
    have mm := mend
    rw [unD_D]
    refine ⟨[some (.cel n), some (.str r.s), some (.int z), none, some (pcD y)], rfl, ?_, fun h => ?_⟩
    · unfold cvB
      generalize pcD y = PY at *
      by_cases q : y.at_ ≤ z
      · simp [I__law_byte_1, f5, ob, mm, en, q]
      · simp [I__law_byte_1, f5, ob, mm, en, q]
    · have q : y.at_ ≤ z ∧ z < y.at_ + y.bs.length := by
        unfold cvB endP at h; simpa using h
      have ix := ix_i y.bs (z - y.at_).toNat (byB y z) (byB_get q) C
      rw [show (((z - y.at_).toNat : Nat) : Int) = z - y.at_ by omega] at ix
      generalize pcD y = PY at *
      simp [Y__law_byte_2, f3, f5, ix])
  have e : (((T.map pcD).filter fun d => cvB (unD d) z).map fun d => D.int (byB (unD d) z)) = (covs T z).map D.int := by
    unfold covs
    rw [List.filter_map, List.map_map, List.map_map]
    have : ((fun d => cvB (unD d) z) ∘ pcD) = fun y => cvB y z := by funext y; simp [Function.comp, unD_D]
    rw [this]
    apply List.map_congr_left
    intro y _
    simp [Function.comp, unD_D]
  rw [e] at lc
  have re := (r.eq C).2
  have eqn : ∀ L : List Int, dEqV (.lst (L.map D.int)) (.lst []) C = .ok (.bl L.isEmpty) C := fun L => by
    rw [(nil_eq _ (pl_ints L) C).2]
    cases L <;> rfl
  have en := eqn (covs T z)
  unfold byteT
  have i01 : ∀ b : Bool, dIx (.lst [.int 0, .int (-1)]) (.int (if b then 1 else 0)) C = .ok (.int (if b then -1 else 0)) C := fun b => by cases b <;> rfl
  have bi : ∀ b : Bool, bInt [.bl b] C = .ok (.int (if b then 1 else 0)) C := fun b => by cases b <;> rfl
  have ix : ∀ v, (if r.l = true then (covs T z).getLast? else (covs T z).head?) = some v → dIx (.lst ((covs T z).map D.int)) (.int (if r.l then -1 else 0)) C = .ok (.int v) C := fun v h => by
    cases hr : r.l with
    | true =>
      rw [hr] at h
      simp only [if_true] at h ⊢
      obtain ⟨gg, hg⟩ := List.getLast?_eq_some_iff.1 h
      rw [hg]
      simp only [dIx, seqOf_lst]
      rw [List.map_append]
      simp only [List.map_cons, List.map_nil, L2.atI_last]
    | false =>
      rw [hr] at h
      simp only [Bool.false_eq_true, if_false] at h ⊢
      cases hc : covs T z with
      | nil => rw [hc] at h; cases h
      | cons b t =>
        rw [hc] at h; cases h
        exact ix_i (v :: t) 0 v rfl C
  cases hb : (if r.l = true then (covs T z).getLast? else (covs T z).head?) with
  | none =>
    have hn : covs T z = [] := by
      split at hb
      · exact List.getLast?_eq_none_iff.1 hb
      · exact List.head?_eq_none_iff.1 hb
    rw [hn] at en lc
    simp only [List.map_nil, List.isEmpty_nil] at en lc
    unfold F__law_byte
    refine callF_r [some (.cel n), some (.str r.s), some (.int z), none, none] rfl rfl ?_
    have hs : sSet 3 (eLcK (iCel (eVar 0)) (gfName 4) I__law_byte_1 Y__law_byte_2 [4]) [some (.cel n), some (.str r.s), some (.int z), none, none] C = .nxt [some (.cel n), some (.str r.s), some (.int z), some (.lst []), none] C := by
      rw [sSet_ap, lc]; rfl
    rw [sq, hs, sn]
    simp [en, dE]
  | some v =>
    have hne : (covs T z).isEmpty = false := by
      cases hc : covs T z with
      | nil => rw [hc] at hb; cases r.l <;> simp at hb
      | cons b t => rfl
    have ixv := ix v hb
    rw [hne] at en
    have i01 := i01 r.l
    have bi := bi r.l
    generalize (covs T z).map D.int = CL at *
    generalize (if r.l = true then (1 : Int) else 0) = o1 at *
    generalize (if r.l = true then (-1 : Int) else 0) = o2 at *
    unfold F__law_byte
    refine callF_r [some (.cel n), some (.str r.s), some (.int z), none, none] rfl rfl ?_
    have hs : sSet 3 (eLcK (iCel (eVar 0)) (gfName 4) I__law_byte_1 Y__law_byte_2 [4]) [some (.cel n), some (.str r.s), some (.int z), none, none] C = .nxt [some (.cel n), some (.str r.s), some (.int z), some (.lst CL), none] C := by
      rw [sSet_ap, lc]; rfl
    rw [sq, hs, sn]
    simp [en, re, bi, i01, ixv, dE]
end
section
variable {C : Cells} {n : Nat} {T : List Pc} {x : Pc} {d : D}
theorem neL_nil {L : List D} (h : L ≠ []) (C : Cells) : dNeL (.lst L) (.lst []) C = .ok (.bl true) C := by
  have : ¬ L.length = ([] : List D).length := fun z => h (List.length_eq_zero_iff.1 z)
  show (if L.length = ([] : List D).length then _ else _) = _
  rw [if_neg this]
theorem lstrange_ok (g : C.get n = some (.lst (T.map pcD))) (hl : T.length ≤ 1000) (P : IsPc C d x) : F__law_strange [.cel n, d] C = .ok (.bl (strT T x)) C := by
  have le := lend_ok g
  have ob := P.obj
  have en := P.end_
  have f6 := P.f6
  have mm := mend
  obtain ⟨S0, hS0⟩ : ∃ S0 : Sl, S0 = [some (.cel n), some d, some (dE (endT T)), none] := ⟨_, rfl⟩
  have lc := eLcK_cel (fo := eVar 0) (tg := gfName 3) (t := I__law_strange_1) (f := Y__law_strange_2) (vs := [3]) (s := [some (.cel n), some d, some (dE (endT T)), none]) (by simp) g (by rw [List.length_map]; omega) (fun e => (unD e).mo && decide (endP x ≤ endP (unD e))) (fun e => e) (fun e m => by
    obtain ⟨y, my, rfl⟩ := List.mem_map.1 m
    have Py : IsPc C (pcD y) y := isPc_D y
    have g6 := Py.f6
    have oby := Py.obj
    have eny := Py.end_
    rw [unD_D]
    refine ⟨[some (.cel n), some d, some (dE (endT T)), some (pcD y)], rfl, ?_, fun h => by simp [Y__law_strange_2]⟩
    generalize pcD y = PY at *
    cases hm : y.mo
    · rw [hm] at g6; simp [I__law_strange_1, g6]
    · rw [hm] at g6; simp [I__law_strange_1, g6, oby, eny, mm, ob, en])
  have ee : (((T.map pcD).filter fun e => (unD e).mo && decide (endP x ≤ endP (unD e))).map fun e => e) = (T.filter fun y => y.mo && decide (endP x ≤ endP y)).map pcD := by
    rw [List.map_id', List.filter_map]
    congr 1
    apply List.filter_congr
    intro y _
    simp [Function.comp, unD_D]
  rw [ee] at lc
  have ne : dNeL (.lst ((T.filter fun y => y.mo && decide (endP x ≤ endP y)).map pcD)) (.lst []) C = .ok (.bl (T.any fun y => y.mo && decide (endP x ≤ endP y))) C := by
    cases q : T.filter fun y => y.mo && decide (endP x ≤ endP y) with
    | nil =>
      have : (T.any fun y => y.mo && decide (endP x ≤ endP y)) = false := by
        rw [List.any_eq_false]; intro y m h
        have := List.filter_eq_nil_iff.1 q y m
        exact this h
      rw [this]; rfl
    | cons a r =>
      have ma : a ∈ T.filter fun y => y.mo && decide (endP x ≤ endP y) := by rw [q]; simp
      have : (T.any fun y => y.mo && decide (endP x ≤ endP y)) = true := List.any_eq_true.2 ⟨a, (List.mem_filter.1 ma).1, (List.mem_filter.1 ma).2⟩
      rw [this]
      exact neL_nil (by simp) C
  unfold strT
  generalize (T.filter fun y => y.mo && decide (endP x ≤ endP y)).map pcD = L at *
  generalize (T.any fun y => y.mo && decide (endP x ≤ endP y)) = A at *
  cases he : endT T with
  | none =>
    rw [he] at le lc
    have nn : dNotN (dE none) .non C = .ok (.bl false) C := rfl
    cases hm : x.mo
    · rw [hm] at f6; simp [F__law_strange, le, nn, f6, -eLcK_ap, lc, ne]
    · rw [hm] at f6
      have eq0 : dEqV (.int (endP x)) (dE none) C = .ok (.bl false) C := rfl
      simp [F__law_strange, le, nn, f6, ob, en, mm, eq0]
  | some k =>
    rw [he] at le lc
    rw [dE_some] at le lc
    have nn : dNotN (.int k) .non C = .ok (.bl true) C := rfl
    by_cases h1 : k < endP x
    · have gt : dGt (.int (endP x)) (.int k) C = .ok (.bl true) C := by
        show Res.ok (D.bl (decide (k < endP x))) _ = _
        rw [decide_eq_true h1]
      simp [F__law_strange, le, nn, ob, en, mm, -dGt_i, gt, h1]
    · have gt : dGt (.int (endP x)) (.int k) C = .ok (.bl false) C := by
        show Res.ok (D.bl (decide (k < endP x))) _ = _
        rw [decide_eq_false h1]
      have eqk : dEqV (.int (endP x)) (.int k) C = .ok (.bl (decide (endP x = k))) C := by
        show Res.ok (D.bl (endP x == k)) _ = _
        rfl
      have nek : dNeV (.int (endP x)) (.int k) C = .ok (.bl (!decide (endP x = k))) C := by
        show Res.ok (D.bl (!(endP x == k))) _ = _
        rfl
      have h1' : ¬ endP x > k := h1
      cases hm : x.mo
      · rw [hm] at f6
        by_cases h2 : endP x = k
        · rw [decide_eq_true h2] at nek
          simp only [if_neg h1', Bool.false_eq_true, if_false, h2, ne_eq, not_true_eq_false]
          rw [h2] at gt nek en
          simp [F__law_strange, le, nn, ob, en, mm, -dGt_i, gt, f6, nek, -eLcK_ap, lc, ne]
        · rw [decide_eq_false h2] at nek
          simp [F__law_strange, le, nn, ob, en, mm, -dGt_i, gt, f6, nek, h1, h2]
      · rw [hm] at f6
        simp [F__law_strange, le, nn, ob, en, mm, -dGt_i, gt, f6, eqk, h1]
/-- the first unlike byte -/
theorem lunlike_ok (g : C.get n = some (.lst (T.map pcD))) (hl : T.length ≤ 1000) (P : IsPc C d x) (p : Pb x) : F__law_unlike [.cel n, d] C = .ok (dE (unlT T x.at_ x.bs)) C := by
  have ob := P.obj
  have en := P.end_
  have f3 := P.f3
  have f5 := P.f5
  have mm := mend
  have loop : ∀ (rest : List Int) (k : Nat) (t2 : Option D), x.bs.drop k = rest → ∃ t2', forF (gfName 2) B__law_unlike_1 ((List.range' k rest.length).map fun (i : Nat) => D.int (x.at_ + i)) [some (.cel n), some d, t2] C = match unlT T (x.at_ + k) rest with | some a => .ret (.int a) C | none => .nxt [some (.cel n), some d, t2'] C := by
    intro rest
    induction rest with
    | nil => intro k t2 _; exact ⟨t2, rfl⟩
    | cons b r ih =>
      intro k t2 hd
      have hb : x.bs[k]? = some b := by
        have := congrArg (fun l => l[0]?) hd
        simpa using this
      have hr : x.bs.drop (k + 1) = r := by
        rw [← List.drop_drop, hd]; rfl
      obtain ⟨t2', ih⟩ := ih (k + 1) (some (.int (x.at_ + k))) hr
      refine ⟨t2', ?_⟩
      rw [List.length_cons, List.range'_succ, List.map_cons, forF_cons, gfName_ap]
      have by1 := lbyte_ok g hl .first (x.at_ + k)
      have s1 : Rule.first.s = "first" := rfl
      rw [s1, show Rule.first.l = false from rfl] at by1
      have ix := ix_i x.bs k b hb C
      rw [show ((k : Nat) : Int) = x.at_ + (k : Int) - x.at_ by omega] at ix
      show (match B__law_unlike_1 [some (.cel n), some d, some (.int (x.at_ + k))] C with | .nxt s C => _ | .cnt s C => _ | .brk s C => _ | x => x) = _
      unfold unlT
      have inn : dInG true (dE (byteT T false (x.at_ + k))) (.tup [.non, .int b]) C = .ok (.bl (match byteT T false (x.at_ + k) with | some v => !(v == b) | none => false)) C := by
        cases byteT T false (x.at_ + k) with
        | none => rfl
        | some v =>
          have e1 : dInG true (.int v) (.tup [.non, .int b]) C = .ok (.bl (!inF (.int v) [.non, .int b])) C := rfl
          show dInG true (.int v) (.tup [.non, .int b]) C = _
          have e2 : (b == v) = (v == b) := by
            by_cases q : b = v
            · subst q; rfl
            · rw [beq_eq_false_iff_ne.2 q, beq_eq_false_iff_ne.2 (Ne.symm q)]
          rw [e1]
          show Res.ok (D.bl (!(false || ((b == v) || false)))) C = _
          rw [e2]; simp
      generalize hcond : (match byteT T false (x.at_ + k) with | some v => !(v == b) | none => false) = cond at *
      cases cond with
      | true =>
        have b1 : B__law_unlike_1 [some (.cel n), some d, some (.int (x.at_ + k))] C = .ret (.int (x.at_ + k)) C := by
          simp [B__law_unlike_1, by1, f3, f5, ix, inn]
        rw [b1, if_pos rfl]
      | false =>
        have b1 : B__law_unlike_1 [some (.cel n), some d, some (.int (x.at_ + k))] C = .nxt [some (.cel n), some d, some (.int (x.at_ + k))] C := by
          simp [B__law_unlike_1, by1, f3, f5, ix, inn]
        rw [b1, if_neg Bool.false_ne_true]
        rw [show x.at_ + ((k + 1 : Nat) : Int) = x.at_ + k + 1 by omega] at ih
        exact ih
  obtain ⟨t2', f⟩ := loop x.bs 0 none rfl
  have it : iR2 (aCons (eFld T0 5 (eVar 1)) (aCons (eMeth M_end (eVar 1) (aNil)) (aNil))) [some (.cel n), some d, none] C = .ok (rngD x.at_ x.bs.length) C := by
    have e2 : (endP x - x.at_).toNat = x.bs.length := by unfold endP; omega
    have pa := p.a
    have pe := p.e
    have pp := p.pos
    have pq : x.at_ ≤ endP x := by unfold endP; omega
    rw [iR2_of (i := x.at_) (j := endP x) (C' := C) (by simp [f5, ob, en, mm]) ⟨by omega, by omega, by omega, by omega⟩, e2]
  have er : rngD x.at_ x.bs.length = (List.range' 0 x.bs.length).map fun (i : Nat) => D.int (x.at_ + i) := by
    unfold rngD; rw [List.range_eq_range']
  rw [← er, show x.at_ + ((0 : Nat) : Int) = x.at_ by omega] at f
  unfold F__law_unlike
  refine callF_r [some (.cel n), some d, none] rfl rfl ?_
  cases hu : unlT T x.at_ x.bs with
  | some a =>
    rw [hu] at f
    rw [sq, sFor_of it f]; rfl
  | none =>
    rw [hu] at f
    rw [sq, sFor_of it f, sn]; rfl
end
section
variable {C : Cells} {n : Nat} {T : List Pc} {x : Pc} {d : D}
theorem mx_ok (L : List Int) (hp : ∀ e ∈ L, 1 ≤ e) (C : Cells) : mxD PySem.W.maxOf (.lst (L.map D.int)) (.int 0) C = .ok (.int (L.foldl max 0)) C := by
  unfold mxD
  simp only [lstOf_lst, Option.bind_some, asInts_ints]
  cases L with
  | nil => rfl
  | cons a r =>
    show Res.ok (D.int (PySem.W.maxOf a r)) C = Res.ok (D.int (r.foldl max (max 0 a))) C
    have ha := hp a (by simp)
    rw [show max 0 a = a by omega]
    congr 2
    unfold PySem.W.maxOf
    clear hp ha
    induction r generalizing a with
    | nil => rfl
    | cons b r ih =>
      rw [List.foldl_cons, List.foldl_cons]
      have : (if PySem.W.DatumOrd.lt a b = true then b else a) = max a b := by
        show (if decide (a < b) = true then b else a) = max a b
        by_cases q : a < b
        · rw [if_pos (decide_eq_true q)]; omega
        · rw [if_neg (by rw [decide_eq_false q]; decide)]; omega
      rw [this]
      exact ih _
theorem rspans_ok {C0 : Cells} {m : Nat} {x0 x1 x2 x3 x5 x6 : Option D} (l : List Int) (hl : l.length ≤ 100000) (hx : C0.nx = m) : ∃ y5,
    forF (gfName 5) B__law_spans_4 (l.map D.int) [x0, x1, x2, x3, some (.cel m), x5, x6] (C0.new (.lst [])) = .nxt [x0, x1, x2, x3, some (.cel m), y5, x6] (C0.new (.lst ((Cov.runsL l).map pr))) ∧ (Cov.runsL l).length ≤ l.length := by
  subst hx
  have loop := forF_inv (tg := gfName 5) (b := B__law_spans_4)
    (P := fun ds s C1 => ∃ (pre rest : List Int) (y5 : Option D), ds = rest.map D.int ∧ l = pre ++ rest ∧
      s = [x0, x1, x2, x3, some (.cel C0.nx), y5, x6] ∧ C1 = C0.new (.lst ((Cov.runsL pre).map pr)) ∧ (Cov.runsL pre).length ≤ pre.length)
    (hs := by
      rintro d r s C1 ⟨pre, rest, y5, e1, e2, rfl, rfl, len⟩
      cases rest with
      | nil => cases e1
      | cons k rest =>
        cases e1
        have hlen : pre.length + (rest.length + 1) = l.length := by
          rw [e2]; simp
        refine ⟨_, rfl, ?_⟩
        have er : Cov.runsL (pre ++ [k]) = Cov.runStep (Cov.runsL pre) k := by simp [Cov.runsL]
        refine ⟨[x0, x1, x2, x3, some (.cel C0.nx), some (.int k), x6], C0.new (.lst ((Cov.runsL (pre ++ [k])).map pr)), .inl ?_, pre ++ [k], rest, _, rfl, by simp [e2], rfl, rfl, ?_⟩
        · rw [er]
          generalize Cov.runsL pre = f at len
          have g : (C0.new (.lst (f.map pr))).get C0.nx = some (.lst (f.map pr)) := get_new
          have ap := append_cel g (.tup [.int k, .int (k + 1)]) (by simp; omega)
          have ne : dNeV (.cel C0.nx) (.lst []) (C0.new (.lst (f.map pr))) = .ok (.bl !f.isEmpty) (C0.new (.lst (f.map pr))) := by
            have v : vwn 30 (C0.new (.lst (f.map pr))) (.cel C0.nx) = .lst (f.map pr) := by
              have : vwn 30 (C0.new (.lst (f.map pr))) (.cel C0.nx) = .lst ((f.map pr).map (vwn 29 (C0.new (.lst (f.map pr))))) := by
                unfold vwn
                simp [g]
              rw [this, List.map_map]
              congr 1
            unfold dNeV
            rw [v, vwn_plain 30 30 _ (.lst []) rfl, pl_prL]
            have : eqD (.lst (f.map pr)) (.lst []) = f.isEmpty := by
              show eqDs (f.map pr) [] = _
              rw [eqDs_nil]; cases f <;> rfl
            rw [this]; rfl
          unfold Cov.runStep
          cases hf : f.getLast? with
          | none =>
            have : f = [] := by simpa using hf
            subst this
            simp at ne ap g
            simp [B__law_spans_4, ne, tyL, ap, pr]
          | some p =>
            obtain ⟨gg, rfl⟩ := List.getLast?_eq_some_iff.1 hf
            have ix : dIx (.cel C0.nx) (.int (-1)) (C0.new (.lst ((gg ++ [p]).map pr))) = .ok (pr p) (C0.new (.lst ((gg ++ [p]).map pr))) := by
              simp only [dIx, seqOf_cel, g]
              rw [List.map_append]
              simp only [List.map_cons, List.map_nil, L2.atI_last]
            generalize hCC : C0.new (.lst ((gg ++ [p]).map pr)) = CC at g ap ne ix
            have i0 : dIx (pr p) (.int 0) CC = .ok (.int p.1) CC := by simp [dIx, pr, atI, ixN]
            have i1 : dIx (pr p) (.int 1) CC = .ok (.int p.2) CC := by simp [dIx, pr, atI, ixN]
            have ne2 : (!(gg ++ [p]).isEmpty) = true := by simp
            rw [ne2] at ne
            by_cases q : p.2 = k
            · have st : setIx (.cel C0.nx) (.int (-1)) (.tup [.int p.1, .int (k + 1)]) CC = some (C0.new (.lst ((gg ++ [(p.1, k + 1)]).map pr))) := by
                simp only [setIx, g]
                rw [ixN_last (by simp)]
                simp [← hCC, pr]
              have eq1 : dEqV (.int p.2) (.int k) CC = .ok (.bl true) CC := by
                show Res.ok (D.bl (p.2 == k)) CC = _
                rw [q]; simp
              simp [B__law_spans_4, ne, ix, i1, i0, eq1, q, st]
            · have eq1 : dEqV (.int p.2) (.int k) CC = .ok (.bl false) CC := by
                show Res.ok (D.bl (p.2 == k)) CC = _
                rw [beq_eq_false_iff_ne.2 q]
              simp [B__law_spans_4, ne, ix, i1, i0, eq1, q, tyL, g, ap]
              simp [← hCC, pr]
        · rw [er]; unfold Cov.runStep
          split
          · rename_i p hp
            obtain ⟨gg, hg⟩ := List.getLast?_eq_some_iff.1 hp
            rw [hg] at len ⊢
            split <;> simp at len ⊢ <;> omega
          · simp; omega)
    (l.map D.int) [x0, x1, x2, x3, some (.cel C0.nx), x5, x6] (C0.new (.lst []))
    ⟨[], l, x5, rfl, rfl, rfl, by simp [Cov.runsL], by simp [Cov.runsL]⟩
  obtain ⟨s', C1, h, pre, rest, y5, e1, e2, rfl, rfl, len⟩ := loop
  obtain rfl : rest = [] := by cases rest with | nil => rfl | cons => cases e1
  rw [List.append_nil] at e2
  subst e2
  exact ⟨y5, h, len⟩
theorem lspans_ok (g : C.get n = some (.lst (T.map pcD))) (hl : T.length ≤ 1000) (hp : ∀ y ∈ T, Pb y) : F__law_spans [.cel n] C = .ok (.lst (spansT T)) (C.bump 1) := by
  have le := lend_ok g
  have lc := eLcK_cel (fo := eVar 0) (tg := gfName 6) (t := tYesF) (f := Y__law_spans_1) (vs := [6]) (s := [some (.cel n), some (dE (endT T)), none, none, none, none, none]) (by simp) g (by rw [List.length_map]; omega) (fun _ => true) (fun d => .int (endP (unD d))) (fun d m => by
    obtain ⟨y, my, rfl⟩ := List.mem_map.1 m
    have P : IsPc C (pcD y) y := isPc_D y
    have ob := P.obj
    have en := P.end_
    have mm := mend
    rw [unD_D]
    refine ⟨[some (.cel n), some (dE (endT T)), none, none, none, none, some (pcD y)], rfl, rfl, fun _ => ?_⟩
    generalize pcD y = PY at *
    simp [Y__law_spans_1, ob, en, mm])
  have ee : (((T.map pcD).filter fun _ => true).map fun d => D.int (endP (unD d))) = (T.map endP).map D.int := by
    rw [List.filter_eq_self.2 (by simp), List.map_map, List.map_map]
    apply List.map_congr_left
    intro y _
    simp [Function.comp, unD_D]
  rw [ee] at lc
  have mx := mx_ok (T.map endP) (fun e m => by
    obtain ⟨y, my, rfl⟩ := List.mem_map.1 m
    exact (hp y my).pos) C
  have top4 : 0 ≤ topT T ∧ topT T ≤ 4000 := by
    obtain ⟨f1, f2, f3⟩ := top_fold (T.map endP) 0
    refine ⟨f1, ?_⟩
    unfold topT
    rcases f3 with f3 | f3
    · omega
    · obtain ⟨y, m, e⟩ := List.mem_map.1 f3
      rw [← e]; exact (hp y m).e
  have end4 : ∀ e, endT T = some e → 0 ≤ e ∧ e ≤ 4000 := by
    clear lc mx ee le top4 g hl
    induction T with
    | nil => intro e h; cases h
    | cons y T ih =>
      intro e h
      have h : (if y.mo = true then endT T else some (endP y)) = some e := h
      split at h
      · exact ih (fun z m => hp z (by simp [m])) e h
      · cases h
        have := (hp y (by simp)).pos
        have := (hp y (by simp)).e
        omega
  obtain ⟨E, hE, E0, hEn, hsp⟩ : ∃ E : Int, (0 ≤ E ∧ E ≤ 4000) ∧ sIf (asB (e2 dNotN (eVar 1) (eC .non))) (sSet 2 (eVar 1)) sNil [some (.cel n), some (dE (endT T)), some (.int (topT T)), none, none, none, none] C = .nxt [some (.cel n), some (dE (endT T)), some (.int E), none, none, none, none] C ∧ (endT T = none → E = topT T) ∧ (∀ e, endT T = some e → E = e) := by
    cases he : endT T with
    | none => exact ⟨topT T, top4, (by simp [dE]), fun _ => rfl, fun e h => (by cases h)⟩
    | some e => exact ⟨e, end4 e he, (by simp [dE]), fun h => (by cases h), fun e' h => (by cases h; rfl)⟩
  have it : iR1 (aCons (eVar 2) (aNil)) [some (.cel n), some (dE (endT T)), some (.int E), none, none, none, none] C = .ok (rngD 0 E.toNat) C := by
    have := iR1_of (n := E.toNat) (af := aCons (eVar 2) (aNil)) (s := [some (.cel n), some (dE (endT T)), some (.int E), none, none, none, none]) (C := C) (C' := C) (by simp; omega) (by omega)
    exact this
  have lk := lcF_pure (tg := gfName 5) (t := I__law_spans_2) (f := Y__law_spans_3) (vs := [5]) (s := [some (.cel n), some (dE (endT T)), some (.int E), none, none, none, none]) (C := C) (fun d => (byteT T false (unI d)).isNone) (fun d => d) (rngD 0 E.toNat) (fun d m => by
    rw [rngD_eq] at m
    obtain ⟨i, hi, rfl⟩ := List.mem_map.1 m
    have by1 := lbyte_ok g hl .first i
    have s1 : Rule.first.s = "first" := rfl
    rw [s1, show Rule.first.l = false from rfl] at by1
    have nn : dIsN (dE (byteT T false i)) .non C = .ok (.bl (byteT T false i).isNone) C := by cases byteT T false i <;> rfl
    refine ⟨[some (.cel n), some (dE (endT T)), some (.int E), none, none, some (.int i), none], rfl, ?_, fun _ => by simp [Y__law_spans_3]⟩
    show _ = Res.ok ((byteT T false i).isNone) C
    simp [I__law_spans_2, by1, nn])
  have el : (((rngD 0 E.toNat).filter fun d => (byteT T false (unI d)).isNone).map fun d => d) = (lackT T E).map D.int := by
    rw [List.map_id', rngD_eq, List.filter_map]
    rfl
  rw [el] at lk
  have ll : (lackT T E).length ≤ 4000 := by
    have h1 : (lackT T E).length ≤ (rng 0 E.toNat).length := List.length_filter_le _ _
    rw [rng_len] at h1
    omega
  obtain ⟨y5, fl, len⟩ := rspans_ok (C0 := C) (x0 := some (.cel n)) (x1 := some (dE (endT T))) (x2 := some (.int E)) (x3 := some (.lst ((lackT T E).map D.int))) (x5 := none) (x6 := none) (lackT T E) (by omega) rfl
  have lz : (rngD 0 E.toNat).length ≤ 16777216 := by rw [rngD_eq, List.length_map, rng_len]; omega
  have gN : (C.new (.lst ((Cov.runsL (lackT T E)).map pr))).get C.nx = some (.lst ((Cov.runsL (lackT T E)).map pr)) := get_new
  have ap := append_cel gN (.tup [.int E, .non]) (by rw [List.length_map]; omega)
  have tyl : tyL (C.new (.lst ((Cov.runsL (lackT T E)).map pr))) (.cel C.nx) = true := by
    unfold tyL; simp [gN]
  have hs1 : sSet 2 (e2 (mxD PySem.W.maxOf) (eLcK (iCel (eVar 0)) (gfName 6) (tYesF) (Y__law_spans_1) [6]) (eC (.int 0))) [some (.cel n), some (dE (endT T)), none, none, none, none, none] C = .nxt [some (.cel n), some (dE (endT T)), some (.int (topT T)), none, none, none, none] C := by
    have : e2 (mxD PySem.W.maxOf) (eLcK (iCel (eVar 0)) (gfName 6) (tYesF) (Y__law_spans_1) [6]) (eC (.int 0)) [some (.cel n), some (dE (endT T)), none, none, none, none, none] C = .ok (.int (topT T)) C := by
      rw [e2_ap, lc, bind_ok]
      exact mx
    rw [sSet_ap, this]; rfl
  have hs3 : sSet 3 (eLc (iR1 (aCons (eVar 2) (aNil))) (gfName 5) (I__law_spans_2) (Y__law_spans_3) [5]) [some (.cel n), some (dE (endT T)), some (.int E), none, none, none, none] C = .nxt [some (.cel n), some (dE (endT T)), some (.int E), some (.lst ((lackT T E).map D.int)), none, none, none] C := by
    have : eLc (iR1 (aCons (eVar 2) (aNil))) (gfName 5) (I__law_spans_2) (Y__law_spans_3) [5] [some (.cel n), some (dE (endT T)), some (.int E), none, none, none, none] C = .ok (.lst ((lackT T E).map D.int)) C := by
      rw [eLc_ap, lcG_ap, it, bind_ok]
      simp [lk, lz]
    rw [sSet_ap, this]; rfl
  unfold F__law_spans
  refine callF_r [some (.cel n), none, none, none, none, none, none] rfl rfl ?_
  rw [sq]
  conv => lhs; arg 1; simp [le]
  rw [sn]
  rw [sq, hs1, sn, sq, E0, sn, sq, hs3, sn]
  rw [sq]
  conv => lhs; arg 1; simp []
  rw [sn]
  rw [sq, sFor_of (C1 := C.new (.lst [])) (ds := (lackT T E).map D.int) (by simp) fl, sn]
  unfold spansT
  cases he : endT T with
  | some e =>
    have := hsp e he
    subst this
    have nn : dIsN (dE (some E)) .non (C.new (.lst ((Cov.runsL (lackT T E)).map pr))) = .ok (.bl false) (C.new (.lst ((Cov.runsL (lackT T E)).map pr))) := rfl
    simp [nn, gN]
  | none =>
    have := hEn he
    subst this
    have nn : dIsN (dE none) .non (C.new (.lst ((Cov.runsL (lackT T (topT T))).map pr))) = .ok (.bl true) (C.new (.lst ((Cov.runsL (lackT T (topT T))).map pr))) := rfl
    simp [nn, tyl, ap]
end
section
variable {C : Cells} {n : Nat} {T : List Pc} {x : Pc} {r : Rule} {s : Hs}
def toldA : Ans → D
  | .whole l => .tup [.str "whole", .lst l]
  | .lacking l => .tup [.str "lacking", .lst l]
  | .unlike a => .tup [.str "unlike", .int a]
theorem bytes_T (K : Tk T r.l s) {e : Int} (he : s.lend = some e) : s.bytes = (rng 0 e.toNat).map fun z => dE (byteT T r.l z) := by
  unfold Hs.bytes bytesP
  rw [he]
  apply List.map_congr_left
  intro z _
  rw [K.bt z]
  cases byteT T r.l z <;> rfl
theorem more_ok (g : C.get n = some (.lst (T.map pcD))) (hl : T.length ≤ 900) (K : Tk T r.l s) (p : Pb x) : ∃ C' A, F__law_one_more [.cel n, pcD x, .str r.s] C = .ok A C' ∧ Ext [n] C C' ∧
    ((∃ a, s.trouble r.r x = some a ∧ A = .tup [.str "unlike", .int a] ∧ C'.get n = some (.lst (T.map pcD))) ∨
     (s.trouble r.r x = none ∧ s.strange x = true ∧ A = .tup [.str "strange"] ∧ C'.get n = some (.lst (T.map pcD))) ∨
     (s.trouble r.r x = none ∧ s.strange x = false ∧ C'.get n = some (.lst ((T ++ [x]).map pcD)) ∧ Tk (T ++ [x]) r.l (s.take r.l x) ∧
       (((s.take r.l x).lacks = [] ∧ A = .tup [.str "whole", .lst (s.take r.l x).bytes]) ∨ ((s.take r.l x).lacks ≠ [] ∧ A = .tup [.str "lacking", .lst (s.take r.l x).lacks])))) := by
  have P : IsPc C (pcD x) x := isPc_D x
  have st := lstrange_ok g (by omega) P
  have f5 := P.f5
  have rq := (r.eqr C).2
  have kst := K.str p
  rw [← kst] at st
  cases hs : s.strange x with
  | true =>
    rw [hs] at st
    cases hr : r.r with
    | true =>
      rw [hr] at rq
      refine ⟨C, .tup [.str "unlike", .int x.at_], ?_, Ext.refl, .inl ⟨x.at_, by unfold Hs.trouble; rw [if_pos rfl, if_pos hs], rfl, g⟩⟩
      generalize pcD x = PX at *
      simp [F__law_one_more, st, rq, f5]
    | false =>
      rw [hr] at rq
      refine ⟨C, .tup [.str "strange"], ?_, Ext.refl, .inr (.inl ⟨by unfold Hs.trouble; rw [if_neg Bool.false_ne_true], rfl, rfl, g⟩)⟩
      generalize pcD x = PX at *
      simp [F__law_one_more, st, rq]
  | false =>
    rw [hs] at st
    have hs' : strT T x = false := by rw [← kst]; exact hs
    have un := lunlike_ok g (by omega) P p
    -- the second test
    have two : (∃ a, s.trouble r.r x = some a ∧ F__law_one_more [.cel n, pcD x, .str r.s] C = .ok (.tup [.str "unlike", .int a]) C) ∨ (s.trouble r.r x = none ∧ tAndF (asB (e2 dEqV (eVar 2) (eC (.str "refuse")))) (asB (e2 dNotN (eCall F__law_unlike [] (aCons (eVar 0) (aCons (eVar 1) (aNil)))) (eC .non))) [some (.cel n), some (pcD x), some (.str r.s), none] C = .ok false C) := by
      cases hr : r.r with
      | false =>
        rw [hr] at rq
        refine .inr ⟨by unfold Hs.trouble; rw [if_neg Bool.false_ne_true], ?_⟩
        simp [rq]
      | true =>
        rw [hr] at rq
        have hlf : r.l = false := by cases r <;> first | rfl | cases hr
        have ht : s.trouble true x = unlT T x.at_ x.bs := by
          unfold Hs.trouble
          rw [if_pos rfl, if_neg (by rw [hs]; decide)]
          rw [hlf] at K
          exact K.unl x.bs x.at_
        rw [ht]
        cases hu : unlT T x.at_ x.bs with
        | none =>
          rw [hu] at un
          have nn : dNotN (dE none) .non C = .ok (.bl false) C := rfl
          exact .inr ⟨rfl, by simp [rq, un, nn]⟩
        | some a =>
          rw [hu, dE_some] at un
          have nn : dNotN (.int a) .non C = .ok (.bl true) C := rfl
          refine .inl ⟨a, rfl, ?_⟩
          generalize pcD x = PX at *
          simp [F__law_one_more, st, rq, un, nn]
    rcases two with ⟨a, h1, h2⟩ | ⟨h1, h2⟩
    · exact ⟨C, _, h2, Ext.refl, .inl ⟨a, h1, rfl, g⟩⟩
    · have K' := K.take p hs'
      have ap := append_cel g (pcD x) (by rw [List.length_map]; omega)
      have tl : tyL C (.cel n) = true := by unfold tyL; simp [g]
      have em : T.map pcD ++ [pcD x] = (T ++ [x]).map pcD := by simp
      rw [em] at ap
      obtain ⟨C1, hC1⟩ : ∃ C1, C1 = C.set n (.lst ((T ++ [x]).map pcD)) := ⟨_, rfl⟩
      have g1 : C1.get n = some (.lst ((T ++ [x]).map pcD)) := by rw [hC1]; exact get_set g
      have e1 : Ext [n] C C1 := hC1 ▸ Ext.refl.set (.inl (by simp))
      rw [← hC1] at ap
      have hl1 : (T ++ [x]).length ≤ 1000 := by simp; omega
      have sp := lspans_ok g1 hl1 K'.pb
      have g2 : (C1.bump 1).get n = some (.lst ((T ++ [x]).map pcD)) := g1
      have sp2 := lspans_ok g2 hl1 K'.pb
      have le := lend_ok g2
      rw [← K'.lacks] at sp sp2
      have plk : DL.plain 30 (.lst (s.take r.l x).lacks) = true := pl_lacks _ _
      have q := (nil_eq _ plk (C1.bump 1)).2
      have hb : sDrop (eBm tyL mAppend (eVar 0) (aCons (eVar 1) (aNil))) [some (.cel n), some (pcD x), some (.str r.s), none] C = .nxt [some (.cel n), some (pcD x), some (.str r.s), none] C1 := by
        generalize pcD x = PX at *
        simp [tl, ap]
      generalize hT' : T ++ [x] = T' at *
      cases hlk : (s.take r.l x).lacks.isEmpty with
      | true =>
        rw [hlk] at q
        have hnil : (s.take r.l x).lacks = [] := List.isEmpty_iff.1 hlk
        obtain ⟨e, he, _⟩ := lacks_nil (bt := (s.take r.l x).bt) (e := (s.take r.l x).lend) hnil
        have e4 := K'.ok
        have hee : 0 ≤ e ∧ e ≤ 4000 := by
          have := e4.e e he
          omega
        have by' := bytes_T K' he
        rw [← K'.lend, he, dE_some] at le
        have it : iR1 (aCons (eCall F__law_end [] (aCons (eVar 0) (aNil))) (aNil)) [some (.cel n), some (pcD x), some (.str r.s), none] (C1.bump 1) = .ok (rngD 0 e.toNat) (C1.bump 1) := iR1_of (n := e.toNat) (by simp [le]; omega) (by omega)
        have lc := lcF_pure (tg := gfName 3) (t := tYesF) (f := Y__law_one_more_1) (vs := [3]) (s := [some (.cel n), some (pcD x), some (.str r.s), none]) (C := C1.bump 1) (fun _ => true) (fun d => dE (byteT T' r.l (unI d))) (rngD 0 e.toNat) (fun d m => by
          rw [rngD_eq] at m
          obtain ⟨i, hi, rfl⟩ := List.mem_map.1 m
          have by1 := lbyte_ok g2 hl1 r i
          refine ⟨[some (.cel n), some (pcD x), some (.str r.s), some (.int i)], rfl, rfl, fun _ => ?_⟩
          show _ = Res.ok (dE (byteT T' r.l i)) (C1.bump 1)
          simp [Y__law_one_more_1, by1])
        have el : (((rngD 0 e.toNat).filter fun _ => true).map fun d => dE (byteT T' r.l (unI d))) = (s.take r.l x).bytes := by
          rw [List.filter_eq_self.2 (by simp), rngD_eq, List.map_map, by']
          rfl
        rw [el] at lc
        have lz : (rngD 0 e.toNat).length ≤ 16777216 := by rw [rngD_eq, List.length_map, rng_len]; omega
        have hlc : eLc (iR1 (aCons (eCall F__law_end [] (aCons (eVar 0) (aNil))) (aNil))) (gfName 3) (tYesF) (Y__law_one_more_1) [3] [some (.cel n), some (pcD x), some (.str r.s), none] (C1.bump 1) = .ok (.lst (s.take r.l x).bytes) (C1.bump 1) := by
          rw [eLc_ap, lcG_ap, it, bind_ok]
          simp [lc, lz]
        refine ⟨C1.bump 1, .tup [.str "whole", .lst (s.take r.l x).bytes], ?_, e1.bump 1, .inr (.inr ⟨h1, rfl, g2, K', .inl ⟨hnil, rfl⟩⟩)⟩
        clear lc el by' K' K it un kst
        generalize (s.take r.l x).bytes = BY at *
        generalize (s.take r.l x).lacks = LK at *
        generalize pcD x = PX at *
        unfold F__law_one_more
        refine callF_r [some (.cel n), some PX, some (.str r.s), none] rfl rfl ?_
        rw [sq]
        conv => lhs; arg 1; simp [st]
        rw [sn]
        rw [sq, sIf_ap, h2]
        show (sThen (.nxt _ C) _) = _
        rw [sn, sq, hb, sn]
        simp [-eLc_ap, sp, q, hlc]
      | false =>
        rw [hlk] at q
        have hne : (s.take r.l x).lacks ≠ [] := fun z => by rw [z] at hlk; cases hlk
        refine ⟨C1.bump 2, .tup [.str "lacking", .lst (s.take r.l x).lacks], ?_, e1.bump 2, .inr (.inr ⟨h1, rfl, g1, K', .inr ⟨hne, rfl⟩⟩)⟩
        clear K' K un kst
        generalize (s.take r.l x).lacks = LK at *
        generalize pcD x = PX at *
        unfold F__law_one_more
        refine callF_r [some (.cel n), some PX, some (.str r.s), none] rfl rfl ?_
        rw [sq]
        conv => lhs; arg 1; simp [st]
        rw [sn]
        rw [sq, sIf_ap, h2]
        show (sThen (.nxt _ C) _) = _
        rw [sn, sq, hb, sn]
        simp [sp, q, sp2]
end
section
variable {C : Cells} {n : Nat} {T : List Pc} {x : Pc} {r : Rule} {s : Hs}
theorem in_uw (C : Cells) : dInG false (.str "unlike") (.tup [.str "unlike", .str "whole"]) C = .ok (.bl true) C ∧ dInG false (.str "whole") (.tup [.str "unlike", .str "whole"]) C = .ok (.bl true) C ∧ dInG false (.str "strange") (.tup [.str "unlike", .str "whole"]) C = .ok (.bl false) C ∧ dInG false (.str "lacking") (.tup [.str "unlike", .str "whole"]) C = .ok (.bl false) C := ⟨rfl, rfl, rfl, rfl⟩
theorem t0_ok (a : D) (l : List D) (C : Cells) : dIx (.tup (a :: l)) (.int 0) C = .ok a C := by
  simp [dIx, atI, ixN]
theorem due_body {A : D} {w : Str} {l : List D} {b : Bool} {C' : Cells} {x0 x3 : Option D} (f : F__law_one_more [.cel n, pcD x, .str r.s] C = .ok A C') (hA : A = .tup (.str w :: l)) (hi : dInG false (.str w) (.tup [.str "unlike", .str "whole"]) C' = .ok (.bl b) C') :
    B__law_due_1 [x0, some (.str r.s), some (.cel n), x3, some (pcD x)] C = if b = true then .ret A C' else .nxt [x0, some (.str r.s), some (.cel n), some A, some (pcD x)] C' := by
  have i0 := t0_ok (.str w) l C'
  rw [← hA] at i0
  generalize pcD x = PX at *
  cases b <;> simp [B__law_due_1, f, i0, hi]
theorem due_loop {x0 : Option D} : ∀ (xs : List Pc) (T : List Pc) (s : Hs) (C : Cells) (x3 x4 : Option D), C.get n = some (.lst (T.map pcD)) → Tk T r.l s → T.length + xs.length ≤ 900 → (∀ x ∈ xs, Pb x) →
    ∃ C', Ext [n] C C' ∧ ((∃ A, forF (gfName 4) B__law_due_1 (xs.map pcD) [x0, some (.str r.s), some (.cel n), x3, x4] C = .ret A C' ∧ A = toldA (judgeP r.r r.l s xs)) ∨
      (∃ y3 y4 T' s', forF (gfName 4) B__law_due_1 (xs.map pcD) [x0, some (.str r.s), some (.cel n), x3, x4] C = .nxt [x0, some (.str r.s), some (.cel n), y3, y4] C' ∧ C'.get n = some (.lst (T'.map pcD)) ∧ Tk T' r.l s' ∧ T'.length ≤ 900 ∧ judgeP r.r r.l s xs = .lacking s'.lacks))
  | [], T, s, C, x3, x4, g, K, hl, _ => ⟨C, Ext.refl, .inr ⟨x3, x4, T, s, rfl, g, K, by simpa using hl, rfl⟩⟩
  | x :: xs, T, s, C, x3, x4, g, K, hl, hp => by
    simp only [List.length_cons] at hl
    obtain ⟨C1, A, f, e1, h⟩ := more_ok (x := x) (r := r) g (by omega) K (hp x (by simp))
    have st : forF (gfName 4) B__law_due_1 ((x :: xs).map pcD) [x0, some (.str r.s), some (.cel n), x3, x4] C = (match B__law_due_1 [x0, some (.str r.s), some (.cel n), x3, some (pcD x)] C with | .nxt s C => forF (gfName 4) B__law_due_1 (xs.map pcD) s C | .cnt s C => forF (gfName 4) B__law_due_1 (xs.map pcD) s C | .brk s C => .nxt s C | x => x) := rfl
    rw [st]
    obtain ⟨u1, u2, u3, u4⟩ := in_uw C1
    unfold judgeP
    rcases h with ⟨a, h1, rfl, g1⟩ | ⟨h1, h2, rfl, g1⟩ | ⟨h1, h2, g1, K1, ⟨h3, rfl⟩ | ⟨h3, rfl⟩⟩
    · rw [due_body f rfl u1, if_pos rfl, h1]
      exact ⟨C1, e1, .inl ⟨_, rfl, rfl⟩⟩
    · rw [due_body f rfl u3, if_neg Bool.false_ne_true, h1]
      simp only [h2, if_true]
      obtain ⟨C2, e2, h⟩ := due_loop xs T s C1 (some (.tup [.str "strange"])) (some (pcD x)) g1 K (by omega) fun y m => hp y (by simp [m])
      exact ⟨C2, e1.trans e2, h⟩
    · rw [due_body f rfl u2, if_pos rfl, h1]
      simp only [h2, Bool.false_eq_true, if_false, h3, if_true]
      exact ⟨C1, e1, .inl ⟨_, rfl, rfl⟩⟩
    · rw [due_body f rfl u4, if_neg Bool.false_ne_true, h1]
      simp only [h2, Bool.false_eq_true, if_false, if_neg h3]
      obtain ⟨C2, e2, h⟩ := due_loop xs (T ++ [x]) _ C1 (some (.tup [.str "lacking", .lst (s.take r.l x).lacks])) (some (pcD x)) g1 K1 (by simp; omega) fun y m => hp y (by simp [m])
      exact ⟨C2, e1.trans e2, h⟩
theorem due_ok (xs : List Pc) (hl : xs.length ≤ 800) (hp : ∀ x ∈ xs, Pb x) (r : Rule) (C : Cells) : ∃ C', F__law_due [.lst (xs.map pcD), .str r.s] C = .ok (toldA (r.judge xs)) C' ∧ Ext [] C C' := by
  have g0 : (C.new (.lst [])).get C.nx = some (.lst (([] : List Pc).map pcD)) := get_new
  have e0 : Ext [] C (C.new (.lst [])) := Ext.refl.new
  obtain ⟨m, hm⟩ : ∃ m, m = C.nx := ⟨_, rfl⟩
  have hmm : C.nx ≤ m := by omega
  obtain ⟨C1, e1, h⟩ := due_loop (n := m) (x0 := some (.lst (xs.map pcD))) (r := r) xs [] Hs0 (C.new (.lst [])) (some .non) none (by rw [hm]; exact g0) (tk0 r.l) (by simp; omega) hp
  have e2 : Ext [] C C1 := ⟨Nat.le_trans e0.nx e1.nx, fun q h1 _ => by
    rw [e1.get q (Nat.lt_of_lt_of_le h1 e0.nx) (by simp only [List.mem_singleton]; omega)]
    exact e0.get q h1 (by simp)⟩
  rcases h with ⟨A, f, rfl⟩ | ⟨y3, y4, T', s', f, g', K, hl', hj⟩
  · refine ⟨C1, ?_, e2⟩
    unfold Rule.judge
    generalize xs.map pcD = XD at *
    unfold F__law_due
    refine callF_r [some (.lst XD), some (.str r.s), none, none, none] rfl rfl ?_
    rw [sq]
    conv => lhs; arg 1; simp [← hm]
    rw [sn]
    rw [sq]
    conv => lhs; arg 1; simp []
    rw [sn]
    rw [sq, sFor_of (C1 := C.new (.lst [])) (ds := XD) (by simp) f]
    rfl
  · have sp := lspans_ok g' (by omega) K.pb
    rw [← K.lacks] at sp
    refine ⟨C1.bump 1, ?_, e2.bump 1⟩
    unfold Rule.judge
    rw [hj]
    unfold toldA
    generalize xs.map pcD = XD at *
    unfold F__law_due
    refine callF_r [some (.lst XD), some (.str r.s), none, none, none] rfl rfl ?_
    rw [sq]
    conv => lhs; arg 1; simp [← hm]
    rw [sn]
    rw [sq]
    conv => lhs; arg 1; simp []
    rw [sn]
    rw [sq, sFor_of (C1 := C.new (.lst [])) (ds := XD) (by simp) f, sn]
    simp [sp]
theorem told_ok {A : D} {a : Ans} (h : AnsAt C A a) : F__law_told [A] C = .ok (toldA a) C := by
  have t11 : isT tb0 14 14 = some true ∧ isT tb0 14 15 = some false ∧ isT tb0 14 16 = some false := ⟨rfl, rfl, rfl⟩
  have t12 : isT tb0 15 14 = some false ∧ isT tb0 15 15 = some true ∧ isT tb0 15 16 = some false := ⟨rfl, rfl, rfl⟩
  have t13 : isT tb0 16 14 = some false ∧ isT tb0 16 15 = some false ∧ isT tb0 16 16 = some true := ⟨rfl, rfl, rfl⟩
  have kn : ∀ (c : Nat) (l : List D), knd C (.obj c l) = some (10 + c) := fun c l => rfl
  have eqb : ∀ a b c a' b' c' : Bool, dEqV (.lst [.bl a, .bl b, .bl c]) (.lst [.bl a', .bl b', .bl c']) C = .ok (.bl (a == a' && (b == b' && c == c'))) C := fun a b c a' b' c' => by
    rw [eqV_p rfl rfl]
    congr 2
    simp [eqD, eqDs]
  cases a with
  | whole l =>
    have e : A = .obj 4 [.lst l] := h
    subst e
    have f : fld T0 3 (.obj 4 [.lst l]) C = .ok (.lst l) C := rfl
    simp [F__law_told, kn, t11, t12, t13, eqb, f, toldA]
  | lacking l =>
    have e : A = .obj 5 [.lst l] := h
    subst e
    have f : fld T0 7 (.obj 5 [.lst l]) C = .ok (.lst l) C := rfl
    simp [F__law_told, kn, t11, t12, t13, eqb, f, toldA]
  | unlike u =>
    have e : A = .obj 6 [.int u] := h
    subst e
    have f : fld T0 5 (.obj 6 [.int u]) C = .ok (.int u) C := rfl
    simp [F__law_told, kn, t11, t12, t13, eqb, f, toldA]
end
theorem pl_key29 {n : Int} {a b : Str} (h : Ky n a b) : DL.plain 29 (.tup [.int n, .str a, .str b]) = true := by
  simp [DL.plain, h.a.ok, h.b.ok]
def K7 : List Key := [.inl 7, .inr "ann", .inr "bo"]
theorem ky7 : Ky 7 "ann" "bo" := ⟨by decide, ⟨by decide +kernel, by decide +kernel, by decide +kernel⟩, ⟨by decide +kernel, by decide +kernel, by decide +kernel⟩⟩
theorem eqSt {a b : Str} {t : Bool} (ha : DL.plain 30 (.str a) = true) (hb : DL.plain 30 (.str b) = true) (h : (a == b) = t) (C : Cells) : dEqV (.str a) (.str b) C = .ok (.bl t) C := by
  rw [eqV_p ha hb, ← h]; rfl
theorem neSt {a b : Str} {t : Bool} (ha : DL.plain 30 (.str a) = true) (hb : DL.plain 30 (.str b) = true) (h : (a == b) = !t) (C : Cells) : dNeV (.str a) (.str b) C = .ok (.bl t) C := by
  rw [neV_p ha hb]
  show Res.ok (D.bl (!(a == b))) C = _
  rw [h]; simp
section
variable {C : Cells} {n nh ng nw nt j : Nat} {T : List Pc} {x : Pc} {r : Rule} {s : Hs} {l : Bool}
theorem q_ll (C : Cells) : dEqV (.str "lacking") (.str "lacking") C = .ok (.bl true) C := eqSt (by decide +kernel) (by decide +kernel) (by decide +kernel) C
theorem q_sl (C : Cells) : dEqV (.str "strange") (.str "lacking") C = .ok (.bl false) C := eqSt (by decide +kernel) (by decide +kernel) (by decide +kernel) C
theorem q_ul (C : Cells) : dEqV (.str "unlike") (.str "lacking") C = .ok (.bl false) C := eqSt (by decide +kernel) (by decide +kernel) (by decide +kernel) C
theorem q_wl (C : Cells) : dEqV (.str "whole") (.str "lacking") C = .ok (.bl false) C := eqSt (by decide +kernel) (by decide +kernel) (by decide +kernel) C
theorem q_ss (C : Cells) : dEqV (.str "strange") (.str "strange") C = .ok (.bl true) C := eqSt (by decide +kernel) (by decide +kernel) (by decide +kernel) C
theorem q_us (C : Cells) : dEqV (.str "unlike") (.str "strange") C = .ok (.bl false) C := eqSt (by decide +kernel) (by decide +kernel) (by decide +kernel) C
theorem q_ws (C : Cells) : dEqV (.str "whole") (.str "strange") C = .ok (.bl false) C := eqSt (by decide +kernel) (by decide +kernel) (by decide +kernel) C
theorem q_uu (C : Cells) : dEqV (.str "unlike") (.str "unlike") C = .ok (.bl true) C := eqSt (by decide +kernel) (by decide +kernel) (by decide +kernel) C
theorem q_wu (C : Cells) : dEqV (.str "whole") (.str "unlike") C = .ok (.bl false) C := eqSt (by decide +kernel) (by decide +kernel) (by decide +kernel) C
theorem q_ww (C : Cells) : dNeV (.str "whole") (.str "whole") C = .ok (.bl false) C := neSt (by decide +kernel) (by decide +kernel) (by decide +kernel) C
theorem q_same {d : D} (h : DL.plain 30 d = true) (C : Cells) : dEqV d d C = .ok (.bl true) C := by rw [eqV_p h h, eqD_refl 30 d h]
theorem bytes_bd (K : Tk T l s) (hv : ∀ y ∈ T, Vl y) (hn : s.lacks = []) : ∃ bs : List Int, s.bytes = bs.map D.int ∧ Bd bs := by
  obtain ⟨e, he, hall⟩ := lacks_nil (bt := s.bt) (e := s.lend) hn
  have h0 := K.ok.e e he
  have val : ∀ z, 0 ≤ z → z < e → ∃ v, byteT T l z = some v ∧ 0 ≤ v ∧ v ≤ 255 := fun z z0 z1 => by
    have hz := hall z z0 z1
    rw [K.hs] at hz
    cases hb : byteT T l z with
    | none => rw [hb] at hz; cases hz
    | some v =>
      refine ⟨v, rfl, ?_⟩
      have mv : v ∈ covs T z := by
        unfold byteT at hb
        split at hb
        · exact List.mem_of_getLast? hb
        · exact List.mem_of_mem_head? hb
      unfold covs at mv
      obtain ⟨y, my, rfl⟩ := List.mem_map.1 mv
      obtain ⟨m1, m2⟩ := List.mem_filter.1 my
      have q : y.at_ ≤ z ∧ z < y.at_ + y.bs.length := by
        unfold cvB endP at m2; simpa using m2
      exact (hv y m1).bd.al _ (List.mem_of_getElem? (byB_get q))
  refine ⟨(rng 0 e.toNat).map fun z => (byteT T l z).getD 0, ?_, ⟨?_, ?_, fun b m => ?_⟩⟩
  · unfold Hs.bytes bytesP
    rw [he, List.map_map]
    apply List.map_congr_left
    intro z m
    have hz := mem_rng.1 m
    obtain ⟨v, hv', _⟩ := val z hz.1 (by omega)
    rw [K.bt z]
    simp [Function.comp, hv']
  · rw [List.length_map, rng_len]; omega
  · rw [List.length_map, rng_len]; omega
  · obtain ⟨z, m', rfl⟩ := List.mem_map.1 m
    have hz := mem_rng.1 m'
    obtain ⟨v, hv', v0, v1⟩ := val z hz.1 (by omega)
    rw [hv']; exact ⟨v0, v1⟩
/-- the room and the row of what is taken -/
structure Ev (C : Cells) (n nh ng nw nt j : Nat) (r : Rule) (T : List Pc) (s : Hs) (R : Rm) (es : List Ent) : Prop where
  rm : RoomAt C n nh ng nw R es
  rr : R.r = r
  w : R.w = 5
  sp : R.sp = 1000000
  o : R.out = "own"
  a : R.ag = "fresh"
  t : R.now ≤ 3
  wh : R.wh.length ≤ j
  e1 : es.length ≤ 1
  e2 : ∀ e ∈ es, e.k = K7 ∧ e.t = 3
  st : stOf es K7 = s
  g : C.get nt = some (.lst (T.map pcD))
  nt : nt ∉ rcells n nh ng nw es
  K : Tk T r.l s
  v : ∀ y ∈ T, Vl y
  ln : T.length ≤ j
theorem without7 {es : List Ent} (h : ∀ e ∈ es, e.k = K7 ∧ e.t = 3) : without es K7 = [] := by
  unfold without
  rw [List.filter_eq_nil_iff]
  intro e m
  simp [(h e m).1]
theorem sz_bd {c : Cov.C} {bt : Bt} (h : Hcv c bt) (b : Bts bt) : 0 ≤ Cov.sz c ∧ Cov.sz c ≤ 4000 := by
  have h1 := len_sz' h.cv
  have h2 := Cov.sz_le h.cv (fun p m => (h.nn b p m : 0 ≤ p.1 ∧ p.2 ≤ 4000)) (by decide)
  omega
theorem after7 {es : List Ent} {h nb : Nat} {now : Int} {s' : Hs} {c' : Cov.C} (e1 : es.length ≤ 1) (e2 : ∀ e ∈ es, e.k = K7 ∧ e.t = 3) (hn : now = 3) : ∃ e, After es K7 h nb now s' c' = [e] ∧ e.k = K7 ∧ e.t = 3 ∧ e.s = s' := by
  unfold After
  cases es with
  | nil => exact ⟨⟨K7, h, nb, now, s', c'⟩, rfl, rfl, hn, rfl⟩
  | cons e es =>
    have : es = [] := by cases es with | nil => rfl | cons => simp at e1
    subst this
    obtain ⟨k1, k2⟩ := e2 e (by simp)
    refine ⟨{ e with s := s', c := c' }, ?_, k1, k2, rfl⟩
    simp [k1, updE]
theorem mcome : M_come 8 = some (3, F_Room_come) := rfl
theorem mlks : M_lacks 8 = some (2, F_Room_lacks) := rfl
theorem mkpt : M_kept 8 = some (1, F_Room_kept) := rfl
theorem mlik : M_is_like 1 = some (2, F_Letter_is_like) := rfl
theorem mkeyL : M_key 1 = some (1, F_Keyed_key) := rfl
theorem like_same (bs : List Int) (C : Cells) : F_Letter_is_like [ltr 7 "ann" "bo" bs false, ltr 7 "ann" "bo" bs false] C = .ok (.bl true) C := by
  obtain ⟨f0, f1, f2, f3, f4⟩ := @fld_ltr 7 "ann" "bo" bs false C
  have ob : objOf C (ltr 7 "ann" "bo" bs false) = some (1, [.int 7, .str "ann", .str "bo", .lst (bs.map D.int), .bl false]) := rfl
  have mk := mkeyL
  have ky : F_Keyed_key [ltr 7 "ann" "bo" bs false] C = .ok (.tup [.int 7, .str "ann", .str "bo"]) C := by
    generalize ltr 7 "ann" "bo" bs false = LT at *
    simp [F_Keyed_key, f0, f1, f2]
  have pl : DL.plain 30 (.tup [.tup [.int 7, .str "ann", .str "bo"], .lst (bs.map D.int), .bl false]) = true := by
    have h1 := pl_key29 ky7
    have h2 : DL.plain 29 (.lst (bs.map D.int)) = true := by
      unfold DL.plain
      rw [List.all_eq_true]
      intro d m
      obtain ⟨i, _, rfl⟩ := List.mem_map.1 m
      rfl
    unfold DL.plain
    rw [List.all_eq_true]
    intro d m
    simp only [List.mem_cons, List.not_mem_nil, or_false] at m
    rcases m with rfl | rfl | rfl
    · exact h1
    · exact h2
    · rfl
  have q := q_same pl C
  generalize ltr 7 "ann" "bo" bs false = LT at *
  generalize bs.map D.int = BL at *
  simp [F_Letter_is_like, ob, mk, ky, f3, f4, q]
end
section
variable {C : Cells} {n nh ng nw nt j : Nat} {T : List Pc} {x : Pc} {r : Rule} {s : Hs} {R : Rm} {es : List Ent}
theorem event_ok (E : Ev C n nh ng nw nt j r T s R es) (hj : j ≤ 100) (V : Vl x) (hx : x.n = 7 ∧ x.a = "ann" ∧ x.b = "bo") : ∃ C' T' s' R' es', F__law_event [.cel n, .cel nt, pcD x, .str r.s] C = .ok (.bl true) C' ∧ Ev C' n nh ng nw nt (j + 1) r T' s' R' es' := by
  have kx : keyX x = K7 := by unfold keyX K7; rw [hx.1, hx.2.1, hx.2.2]
  have p := V.pb
  have hlT : T.length ≤ 100 := Nat.le_trans E.ln hj
  obtain ⟨C1, A, f1, e1, hA⟩ := more_ok (x := x) (r := r) E.g (by omega) E.K p
  have H1 := E.rm.ext e1 (fun m hm z => by simp only [List.mem_singleton] at z; subst z; exact E.nt hm)
  have stx : stOf es (keyX x) = s := by rw [kx]; exact E.st
  -- bounds of the heaps
  have esb : szs es ≤ 4000 := by
    have e1' := E.e1
    have hp := E.rm.hp
    clear stx hA
    cases es with
    | nil => simp [szs]
    | cons e es =>
      have : es = [] := by cases es with | nil => rfl | cons => simp at e1'
      subst this
      have h := hp e (by simp)
      have := (sz_bd h.cv h.ok.b).2
      simpa [szs] using this
  have K := E.K
  have KV : strT T x = false → ∀ y ∈ T ++ [x], Vl y := fun _ y m => by
    rcases List.mem_append.1 m with m | m
    · exact E.v y m
    · rw [List.mem_singleton] at m; subst m; exact V
  have hag : ∃ b, (∀ C, dEqV (.str R.ag) (.str "rest") C = .ok (.bl b) C) ∧ (b = true → ∀ v, lookD (whD R.wh) (keyX x) = some (.int v) → v + R.w ≤ 3) :=
    ⟨false, fun C => by rw [E.a]; exact eqSt (by decide +kernel) (by decide +kernel) (by decide +kernel) C, fun h => by cases h⟩
  have hown : ∃ b, ∀ C, dEqV (.str R.out) (.str "own") C = .ok (.bl b) C := ⟨true, fun C => by rw [E.o]; exact q_same (by decide +kernel) C⟩
  have hbts : Bts (putF R.r.l s.bt x.at_ x.bs) := (putF_ok R.r.l x.bs s.bt x.at_ K.ok.b p.a p.e).1
  have KT : s.strange x = false → Tk (T ++ [x]) r.l (s.take r.l x) := fun h => K.take p (by rw [← K.str p]; exact h)
  have hby : (stOf es (keyX x)).strange x = false → ((stOf es (keyX x)).take R.r.l x).lacks = [] → ∃ bs, ((stOf es (keyX x)).take R.r.l x).bytes = bs.map D.int ∧ Bd bs := by
    rw [stx, E.rr]
    exact fun h hn => bytes_bd (KT h) (KV (by rw [← K.str p]; exact h)) hn
  have hd : ∀ m, pcD x = .cel m → m ∉ rcells n nh ng nw es := fun m z => by cases z
  obtain ⟨C2, evs, R', es', f2, H2, lk, le, e2⟩ := come_ok H1 (isPc_D x) V hd (t := 3) E.t (fun e m => by rw [(E.e2 e m).2, E.w]; decide) hown (by have := E.e1; omega) (by have := E.wh; omega) hag (fun c c' hc hc' => by
    rw [stx] at hc hc'
    have b1 := sz_bd hc K.ok.b
    have b2 := sz_bd hc' hbts
    rw [E.sp]
    omega) hby
  unfold Look at lk
  rw [stx] at lk
  have rat : (R.at_ 3).r = r := E.rr
  rw [rat, kx] at lk
  have g2 : ∀ L, C1.get nt = some (.lst L) → C2.get nt = some (.lst L) := fun L g => e2.keep g E.nt
  have kd7 : keyT K7 = .tup [.int 7, .str "ann", .str "bo"] := rfl
  have ob := H1.ob
  have mc := mcome
  have ob2 := H2.ob
  have kdx : ∀ (C : Cells), dEqV (.lst [.tup [.str "strange", keyT K7]]) (.lst [.tup [.str "strange", keyT K7]]) C = .ok (.bl true) C := fun C => q_same (by decide +kernel) C
  have kdu : ∀ (C : Cells), dEqV (.lst [.tup [.str "gone", keyT K7, .str "unlike"]]) (.lst [.tup [.str "gone", keyT K7, .str "unlike"]]) C = .ok (.bl true) C := fun C => q_same (by decide +kernel) C
  have nwh : R'.wh.length ≤ j + 1 := by
    rcases lk with ⟨_, _, _, e, _⟩ | ⟨_, _, _, e, _⟩ | ⟨_, _, _, _, e, _⟩ | ⟨_, _, _, _, e, _⟩
    · rw [e]; have := E.wh; show R.wh.length ≤ _; omega
    · rw [e]; have := E.wh; show R.wh.length ≤ _; omega
    · rw [e]; have := E.wh
      have := putW_len (R.at_ 3).wh K7 (R.at_ 3).now
      show (putW (R.at_ 3).wh K7 (R.at_ 3).now).length ≤ _
      have h3 : (R.at_ 3).wh.length = R.wh.length := rfl
      omega
    · rw [e]; have := E.wh; show R.wh.length ≤ _; omega
  have same : R'.r = r ∧ R'.w = 5 ∧ R'.sp = 1000000 ∧ R'.out = "own" ∧ R'.ag = "fresh" ∧ R'.now = 3 := by
    rcases lk with ⟨_, _, _, e, _⟩ | ⟨_, _, _, e, _⟩ | ⟨_, _, _, _, e, _⟩ | ⟨_, _, _, _, e, _⟩ <;> rw [e] <;> first | exact ⟨E.rr, E.w, E.sp, E.o, E.a, rfl⟩ | exact ⟨rfl, E.w, E.sp, E.o, E.a, rfl⟩
  obtain ⟨r1, r2, r3, r4, r5, r6⟩ := same
  have cl : ∀ L, C2.get nt = some (.lst L) → ∃ C3, C3 = C2.set nt (.lst []) ∧ C3.get nt = some (.lst []) ∧ Ext [nt] C2 C3 ∧ mClear (.cel nt) [] C2 = .ok .non C3 ∧ tyL C2 (.cel nt) = true := fun L g => by
    refine ⟨_, rfl, get_set g, Ext.refl.set (.inl (by simp)), ?_, by unfold tyL; simp [g]⟩
    simp [mClear, atL, g]
  -- behind what is gone or whole
  have gone : ∀ L, C2.get nt = some (.lst L) → es' = [] → ∃ C3, mClear (.cel nt) [] C2 = .ok .non C3 ∧ tyL C2 (.cel nt) = true ∧ F_Room_kept [.cel n] C3 = .ok (.lst []) C3 ∧ F_Room_bytes_kept [.cel n] C3 = .ok (.int 0) C3 ∧ objOf C3 (.cel n) = some (8, rmL R' nh ng nw) ∧ Ev C3 n nh ng nw nt (j + 1) r [] Hs0 R' [] := fun L g e => by
    subst e
    obtain ⟨C3, hC3, g3, e3, m3, t3⟩ := cl L g
    have ntn : nt ∉ rcells n nh ng nw ([] : List Ent) := fun z => E.nt (by
      unfold rcells at z ⊢
      simp only [List.mem_cons, List.flatMap_nil, List.not_mem_nil, or_false] at z ⊢
      rcases z with z | z | z | z <;> simp [z])
    have H3 := H2.ext e3 (fun m hm z => by simp only [List.mem_singleton] at z; subst z; exact ntn hm)
    exact ⟨C3, m3, t3, kept_nil H3, bkept_ok H3, H3.ob, ⟨H3, r1, r2, r3, r4, r5, by omega, nwh, by simp, by simp, rfl, g3, ntn, tk0 r.l, by simp, by simp⟩⟩
  have mk := mkpt
  have mb := mbk
  have n0 : ∀ C : Cells, dNeV (.lst []) (.lst []) C = .ok (.bl false) C ∧ dNeV (.int 0) (.int 0) C = .ok (.bl false) C := fun C => ⟨rfl, rfl⟩
  rcases hA with ⟨a, h1, rfl, g1⟩ | ⟨h1, h2, rfl, g1⟩ | ⟨h1, h2, g1, K1, ⟨h3, rfl⟩ | ⟨h3, rfl⟩⟩
  · -- unlike
    have he : evs = [.tup [.str "gone", keyT K7, .str "unlike"]] ∧ es' = [] := by
      rcases lk with ⟨_, _, z2, _, z4⟩ | ⟨z1, _⟩ | ⟨z1, _⟩ | ⟨z1, _⟩
      · exact ⟨z2, z4.trans (without7 E.e2)⟩
      · rw [h1] at z1; cases z1
      · rw [h1] at z1; cases z1
      · rw [h1] at z1; cases z1
    obtain ⟨C3, m3, t3, k3, b3, o3, E3⟩ := gone _ (g2 _ g1) he.2
    rw [he.1] at f2
    refine ⟨C3, [], Hs0, R', [], ?_, E3⟩
    have i0 := t0_ok (.str "unlike") [.int a] C2
    have i3 := t0_ok (.str "unlike") [.int a] C3
    have q1 := q_ul C2
    have q2 := q_us C2
    have q3 := q_uu C3
    have kd3 := kdu C3
    have n1 := (n0 C3).1
    have n2 := (n0 C3).2
    clear lk hby KV kdx kdu g2
    rw [kd7] at f2 kd3
    generalize pcD x = PX at *
    generalize (.tup [.str "unlike", .int a] : D) = TA at *
    unfold F__law_event
    refine callF_r [some (.cel n), some (.cel nt), some PX, some (.str r.s), none, none, none] rfl rfl ?_
    rw [sq]
    conv => lhs; arg 1; simp []
    rw [sn]
    rw [sq]
    conv => lhs; arg 1; simp [f1]
    rw [sn]
    rw [sq]
    conv => lhs; arg 1; simp [ob, mc, f2]
    rw [sn]
    rw [sq]
    conv => lhs; arg 1; simp [i0, q1]
    rw [sn]
    rw [sq]
    conv => lhs; arg 1; simp [i0, q2]
    rw [sn]
    rw [sq]
    conv => lhs; arg 1; simp [t3, m3]
    rw [sn]
    rw [sq]
    conv => lhs; arg 1; simp [o3, mk, k3, n1, mb, b3, n2]
    rw [sn]
    simp [i3, q3, kd3]
  · -- strange
    have he : evs = [.tup [.str "strange", keyT K7]] ∧ es' = es := by
      rcases lk with ⟨_, z1, _⟩ | ⟨_, _, z2, _, z4⟩ | ⟨_, z1, _⟩ | ⟨_, z1, _⟩
      · rw [h1] at z1; cases z1
      · exact ⟨z2, z4⟩
      · rw [h2] at z1; cases z1
      · rw [h2] at z1; cases z1
    rw [he.1] at f2
    have he2 := he.2
    subst he2
    refine ⟨C2, T, s, R', es', ?_, ⟨H2, r1, r2, r3, r4, r5, by omega, nwh, E.e1, E.e2, E.st, g2 _ g1, E.nt, E.K, E.v, by have := E.ln; omega⟩⟩
    have i0 := t0_ok (.str "strange") [] C2
    have q1 := q_sl C2
    have q2 := q_ss C2
    have kd3 := kdx C2
    clear lk hby KV kdx kdu g2
    rw [kd7] at f2 kd3
    generalize pcD x = PX at *
    generalize (.tup [.str "strange"] : D) = TA at *
    unfold F__law_event
    refine callF_r [some (.cel n), some (.cel nt), some PX, some (.str r.s), none, none, none] rfl rfl ?_
    rw [sq]
    conv => lhs; arg 1; simp []
    rw [sn]
    rw [sq]
    conv => lhs; arg 1; simp [f1]
    rw [sn]
    rw [sq]
    conv => lhs; arg 1; simp [ob, mc, f2]
    rw [sn]
    rw [sq]
    conv => lhs; arg 1; simp [i0, q1]
    rw [sn]
    simp [i0, q2, kd3]
  · -- whole
    have he : (∃ bs : List Int, (s.take r.l x).bytes = bs.map D.int ∧ evs = [.tup [.str "whole", ltr x.n x.a x.b bs false]]) ∧ es' = [] := by
      rcases lk with ⟨_, z1, _⟩ | ⟨_, z1, _⟩ | ⟨_, _, _, z2, _, z4⟩ | ⟨_, _, z1, _⟩
      · rw [h1] at z1; cases z1
      · rw [h2] at z1; cases z1
      · exact ⟨z2, z4.trans (without7 E.e2)⟩
      · exact absurd h3 z1
    obtain ⟨⟨bs, hb1, hb2⟩, he2⟩ := he
    obtain ⟨C3, m3, t3, k3, b3, o3, E3⟩ := gone _ (g2 _ g1) he2
    obtain ⟨bs', hb', hbd⟩ := bytes_bd K1 (KV (by rw [← K.str p]; exact h2)) h3
    have hbb : bs' = bs := by
      have : bs'.map D.int = bs.map D.int := by rw [← hb', hb1]
      have e := congrArg (List.map unI) this
      rw [List.map_map, List.map_map, show (unI ∘ D.int) = id from rfl, List.map_id, List.map_id] at e
      exact e
    subst hbb
    rw [hx.1, hx.2.1, hx.2.2] at hb2
    rw [hb2] at f2
    rw [hb1] at f1
    have E4 : Ev (C3.bump 1) n nh ng nw nt (j + 1) r [] Hs0 R' [] := by
      have ex : Ext [] C3 (C3.bump 1) := Ext.refl.bump 1
      exact ⟨E3.rm.ext ex (by simp), E3.rr, E3.w, E3.sp, E3.o, E3.a, E3.t, E3.wh, E3.e1, E3.e2, E3.st, ex.keep E3.g, E3.nt, E3.K, E3.v, E3.ln⟩
    refine ⟨C3.bump 1, [], Hs0, R', [], ?_, E4⟩
    have i0 := t0_ok (.str "whole") [.lst (bs'.map D.int)] C2
    have i3 := t0_ok (.str "whole") [.lst (bs'.map D.int)] C3
    have i4 : dIx (.tup [.str "whole", .lst (bs'.map D.int)]) (.int 1) C3 = .ok (.lst (bs'.map D.int)) C3 := by simp [dIx, atI, ixN]
    have q1 := q_wl C2
    have q2 := q_ws C2
    have q3 := q_wu C3
    have q4 := q_ww C3
    have n1 := (n0 C3).1
    have n2 := (n0 C3).2
    have one : dNeV (.int 1) (.int 1) C3 = .ok (.bl false) C3 := rfl
    have lo := letter_ok 7 "ann" "bo" (.lst (bs'.map D.int)) bs' false C3 ky7 (.inl rfl) hbd
    have lkL := like_same bs' (C3.bump 1)
    have kL : knd C3 (ltr 7 "ann" "bo" bs' false) = some (10 + 1) := rfl
    have oL : objOf C3 (ltr 7 "ann" "bo" bs' false) = some (1, [.int 7, .str "ann", .str "bo", .lst (bs'.map D.int), .bl false]) := rfl
    have tL : isT tb0 (10 + 1) (10 + 1) = some true := rfl
    have bL : bLen [.lst [.tup [.str "whole", ltr 7 "ann" "bo" bs' false]]] C3 = .ok (.int 1) C3 := by simp [bLen]
    have x0 : dIx (.lst [.tup [.str "whole", ltr 7 "ann" "bo" bs' false]]) (.int 0) C3 = .ok (.tup [.str "whole", ltr 7 "ann" "bo" bs' false]) C3 := by simp [dIx, atI, ixN]
    have x1 : dIx (.tup [.str "whole", ltr 7 "ann" "bo" bs' false]) (.int 0) C3 = .ok (.str "whole") C3 := by simp [dIx, atI, ixN]
    have x2 : dIx (.tup [.str "whole", ltr 7 "ann" "bo" bs' false]) (.int 1) C3 = .ok (ltr 7 "ann" "bo" bs' false) C3 := by simp [dIx, atI, ixN]
    have ml := mlik
    clear lk hby KV kdx kdu g2 hb' hb1 hb2 KT K1 E3 E4
    generalize pcD x = PX at *
    generalize ltr 7 "ann" "bo" bs' false = LT at *
    generalize bs'.map D.int = BL at *
    generalize (.tup [.str "whole", LT] : D) = TL at *
    generalize (.tup [.str "whole", .lst BL] : D) = TA at *
    generalize (.lst [TL] : D) = LL at *
    unfold F__law_event
    refine callF_r [some (.cel n), some (.cel nt), some PX, some (.str r.s), none, none, none] rfl rfl ?_
    rw [sq]
    conv => lhs; arg 1; simp []
    rw [sn]
    rw [sq]
    conv => lhs; arg 1; simp [f1]
    rw [sn]
    rw [sq]
    conv => lhs; arg 1; simp [ob, mc, f2]
    rw [sn]
    rw [sq]
    conv => lhs; arg 1; simp [i0, q1]
    rw [sn]
    rw [sq]
    conv => lhs; arg 1; simp [i0, q2]
    rw [sn]
    rw [sq]
    conv => lhs; arg 1; simp [t3, m3]
    rw [sn]
    rw [sq]
    conv => lhs; arg 1; simp [o3, mk, k3, n1, mb, b3, n2]
    rw [sn]
    rw [sq]
    conv => lhs; arg 1; simp [i3, q3]
    rw [sn]
    rw [sq]
    conv => lhs; arg 1; simp [bL, one, x0, x1, q4, x2, kL, tL]
    rw [sn]
    simp [x0, x2, oL, ml, i4, lo, lkL]
  · -- lacking
    have he : evs = [] ∧ ∃ h nb c, es' = After es K7 h nb 3 (s.take r.l x) c := by
      rcases lk with ⟨_, z1, _⟩ | ⟨_, z1, _⟩ | ⟨_, _, z1, _⟩ | ⟨_, _, _, z2, _, h, nb, c, z4, _⟩
      · rw [h1] at z1; cases z1
      · rw [h2] at z1; cases z1
      · exact absurd z1 h3
      · exact ⟨z2, h, nb, c, z4⟩
    obtain ⟨hev, hh, nb, c, hes⟩ := he
    obtain ⟨e, he, k1, k2, k3⟩ := after7 (h := hh) (nb := nb) (now := 3) (s' := s.take r.l x) (c' := c) E.e1 E.e2 rfl
    rw [he] at hes
    subst hes
    have A2 := H2.hp e (by simp)
    obtain ⟨C3, f3, e3⟩ := rlacks_ok (x := x) H2 (e := e) (by simp) (by rw [k1, ← kx]; rfl) V.ky
    rw [k3, k1] at f3
    have gg := g2 _ g1
    have ntn : nt ∉ rcells n nh ng nw [e] := fun z => by
      unfold rcells at z
      simp only [List.mem_cons, List.flatMap_cons, List.flatMap_nil, List.not_mem_nil, or_false, List.append_nil] at z
      have old : ∀ m, m ∈ [n, nh, ng, nw] → nt ≠ m := fun m hm q => E.nt (by
        unfold rcells
        subst q
        simp only [List.mem_cons, List.not_mem_nil, or_false] at hm ⊢
        rcases hm with q | q | q | q <;> simp [q])
      rcases z with z | z | z | z | z | z
      · exact old n (by simp) z
      · exact old nh (by simp) z
      · exact old ng (by simp) z
      · exact old nw (by simp) z
      · have := A2.o; rw [← z, gg] at this; cases this
      · have := A2.d; rw [← z, gg] at this; cases this
    have H3 := H2.ext e3 (by simp)
    rw [hev] at f2
    refine ⟨C3, T ++ [x], s.take r.l x, R', [e], ?_, ⟨H3, r1, r2, r3, r4, r5, by omega, nwh, by simp, fun e' m => by rw [List.mem_singleton] at m; subst m; exact ⟨k1, k2⟩, ?_, e3.keep gg, ntn, K1, KV (by rw [← K.str p]; exact h2), by have := E.ln; simp; omega⟩⟩
    · have i0 := t0_ok (.str "lacking") [.lst (s.take r.l x).lacks] C2
      have i1 : dIx (.tup [.str "lacking", .lst (s.take r.l x).lacks]) (.int 1) C3 = .ok (.lst (s.take r.l x).lacks) C3 := by simp [dIx, atI, ixN]
      have q1 := q_ll C2
      have n1 : dEqV (.lst []) (.lst []) C2 = .ok (.bl true) C2 := rfl
      have qq := q_same (pl_lacks (s.take r.l x).bt (s.take r.l x).lend) C3
      have qq : dEqV (.lst (s.take r.l x).lacks) (.lst (s.take r.l x).lacks) C3 = .ok (.bl true) C3 := qq
      have ml := mlks
      clear lk hby KV kdx kdu g2 KT K1
      rw [kd7] at f3
      generalize pcD x = PX at *
      generalize (s.take r.l x).lacks = LK at *
      generalize (.tup [.str "lacking", .lst LK] : D) = TA at *
      unfold F__law_event
      refine callF_r [some (.cel n), some (.cel nt), some PX, some (.str r.s), none, none, none] rfl rfl ?_
      rw [sq]
      conv => lhs; arg 1; simp []
      rw [sn]
      rw [sq]
      conv => lhs; arg 1; simp [f1]
      rw [sn]
      rw [sq]
      conv => lhs; arg 1; simp [ob, mc, f2]
      rw [sn]
      simp [i0, q1, n1, ob2, ml, f3, i1, qq]
    · unfold stOf
      simp [k1, k3]
end
section
variable {C C' : Cells} {n nh ng nw nt j m : Nat} {T : List Pc} {x : Pc} {r : Rule} {s : Hs} {R : Rm} {es : List Ent}
theorem mkp_ok (x : Pc) (hx : Vl x) (C : Cells) : mkF T0 2 F_Piece_init [.int x.n, .str x.a, .str x.b, .int x.at_, .lst (x.bs.map D.int), .bl x.mo, .bl x.k] C = .ok (pcD x) (C.bump 1) :=
  piece_ok x.n x.a x.b (.lst (x.bs.map D.int)) x.bs x.k x.at_ x.mo C hx.ky (.inl rfl) hx.bd hx.pl
theorem lbody_ok (S : Stt C m) {few : Int} (hf : 1 ≤ few ∧ few ≤ 3) (sz : Nat) (hz : 1 ≤ sz ∧ sz ≤ 40) {x1 x2 x3 : Option D}  : ∃ (C' : Cells) (bs : List Int), eLc (iR1 (aCons (eVar 2) (aNil))) (gfName 6) (tYesF) (Y__law_piece_1) [6] [some (.cel m), x1, some (.int sz), x3, some (.int few), none, none] C = .ok (.lst (bs.map D.int)) C' ∧ Stt C' m ∧ bs.length = sz ∧ ∀ b ∈ bs, 0 ≤ b ∧ b ≤ 255 := by
  have it : iR1 (aCons (eVar 2) (aNil)) [some (.cel m), x1, some (.int sz), x3, some (.int few), none, none] C = .ok (rngD 0 sz) C := iR1_of (by simp) (by omega)
  obtain ⟨ys, C1, lc, i1, l1, r1⟩ := lcF_all (tg := gfName 6) (f := Y__law_piece_1) (vs := [6]) (s := [some (.cel m), x1, some (.int sz), x3, some (.int few), none, none]) (fun C' => Stt C' m) (fun y => ∃ i, y = .int i ∧ (0 ≤ i ∧ i ≤ 255)) (rngD 0 sz) C S (by
    intro d hd C1 hC
    obtain ⟨C2, v, f, v0, v1, s2, _⟩ := digit_ok hC few (by omega)
    have mu : dMul (.int v) (.int 85) C2 = .ok (.int (v * 85)) C2 := dMul_i (cmul_r (by decide))
    refine ⟨_, rfl, .int (v * 85), C2, ?_, s2, _, rfl, by omega, by omega⟩
    simp [Y__law_piece_1, wipeD, f, mu])
  obtain ⟨bs, rfl, l2, r2⟩ := ints_of r1
  rw [List.length_map] at l1 l2
  rw [rngD_eq, List.length_map, rng_len] at l1
  have lz : (rngD 0 sz).length ≤ 16777216 := by rw [rngD_eq, List.length_map, rng_len]; omega
  refine ⟨C1, bs, ?_, i1, by omega, r2⟩
  rw [eLc_ap, lcG_ap, it, bind_ok]
  simp [lc, lz]
theorem lpiece_ok (S : Stt C m) : ∃ C' x, F__law_piece [.cel m] C = .ok (pcD x) C' ∧ Vl x ∧ x.n = 7 ∧ x.a = "ann" ∧ x.b = "bo" := by
  obtain ⟨C1, v1, f1, a1, b1, S1, _⟩ := digit_ok S 4 (by decide)
  obtain ⟨C2, v2, f2, a2, b2, S2, _⟩ := digit_ok S1 4 (by decide)
  have mu2 : dMul (.int 8) (.int (1 + v2)) C2 = .ok (.int (8 * (1 + v2))) C2 := dMul_i (cmul_l (by decide))
  have gt1 : dGt (.int v1) (.int 0) C1 = .ok (.bl (decide (0 < v1))) C1 := rfl
  obtain ⟨C3, sz, hsz, S3, hif⟩ : ∃ (C3 : Cells) (sz : Int), (if 0 < v1 then sz = 8 * (1 + v2) else 1 ≤ sz ∧ sz ≤ 32) ∧ Stt C3 m ∧ sIf (tNotF (asB (eVar 1))) (sSet 2 (e2 dSub (eVar 2) (eCall F__law_digit [] (aCons (eVar 0) (aCons (eC (.int 8)) (aNil)))))) sNil [some (.cel m), some (.bl (decide (0 < v1))), some (.int (8 * (1 + v2))), none, none, none, none] C2 = .nxt [some (.cel m), some (.bl (decide (0 < v1))), some (.int sz), none, none, none, none] C3 := by
    by_cases q : 0 < v1
    · exact ⟨C2, 8 * (1 + v2), (by rw [if_pos q]), S2, (by simp [q])⟩
    · obtain ⟨C3, v3, f3, a3, b3, S3, _⟩ := digit_ok S2 8 (by decide)
      exact ⟨C3, 8 * (1 + v2) - v3, (by rw [if_neg q]; omega), S3, (by simp [q, f3])⟩
  obtain ⟨C4, v4, f4, a4, b4, S4, _⟩ := digit_ok S3 7 (by decide)
  have mu4 : dMul (.int 8) (.int v4) C4 = .ok (.int (8 * v4)) C4 := dMul_i (cmul_l (by decide))
  obtain ⟨C5, v5, f5, a5, b5, S5, _⟩ := digit_ok S4 4 (by decide)
  obtain ⟨few, hfew, few1⟩ : ∃ few : Int, dIx (.lst [.int 1, .int 2, .int 2, .int 3]) (.int v5) C5 = .ok (.int few) C5 ∧ 1 ≤ few ∧ few ≤ 3 := by
    obtain ⟨d, hd, md⟩ := dix_mem (l := ([.int 1, .int 2, .int 2, .int 3] : List D)) (v := v5) (C := C5) (by simp; omega)
    simp only [List.mem_cons, List.not_mem_nil, or_false] at md
    rcases md with rfl | rfl | rfl | rfl
    · exact ⟨1, hd, by decide⟩
    · exact ⟨2, hd, by decide⟩
    · exact ⟨2, hd, by decide⟩
    · exact ⟨3, hd, by decide⟩
  have hs1 : 1 ≤ sz ∧ sz ≤ 32 := by split at hsz <;> omega
  obtain ⟨z, rfl⟩ : ∃ z : Nat, sz = (z : Int) := ⟨sz.toNat, by omega⟩
  obtain ⟨C6, bs, f6, S6, lb, hb⟩ := lbody_ok S5 few1 z (by omega) (x1 := some (.bl (decide (0 < v1)))) (x2 := none) (x3 := some (.int (8 * v4)))
  have V : Vl ⟨7, "ann", "bo", bs, false, 8 * v4, decide (0 < v1)⟩ := ⟨ky7, ⟨by show 1 ≤ bs.length; omega, by show bs.length ≤ 4000; omega, hb⟩, ⟨by dsimp only; omega, by dsimp only; omega, by
    show if decide (0 < v1) = true then (bs.length : Int) % 8 = 0 ∧ 8 * v4 + (bs.length : Int) < 4000 else 8 * v4 + (bs.length : Int) ≤ 4000
    by_cases q : 0 < v1
    · rw [if_pos (decide_eq_true q)]
      rw [if_pos q] at hsz
      omega
    · rw [if_neg (by rw [decide_eq_false q]; decide)]
      omega⟩⟩
  have mk := mkp_ok ⟨7, "ann", "bo", bs, false, 8 * v4, decide (0 < v1)⟩ V C6
  dsimp only at mk
  refine ⟨C6.bump 1, _, ?_, V, rfl, rfl, rfl⟩
  have hs5 : sSet 5 (eLc (iR1 (aCons (eVar 2) (aNil))) (gfName 6) (tYesF) (Y__law_piece_1) [6]) [some (.cel m), some (.bl (decide (0 < v1))), some (.int (z : Int)), some (.int (8 * v4)), some (.int few), none, none] C5 = .nxt [some (.cel m), some (.bl (decide (0 < v1))), some (.int (z : Int)), some (.int (8 * v4)), some (.int few), some (.lst (bs.map D.int)), none] C6 := by
    rw [sSet_ap, f6]; rfl
  clear V f6 hsz
  generalize pcD _ = PX at *
  generalize bs.map D.int = BL at *
  generalize (z : Int) = zi at *
  generalize decide (0 < v1) = mo at *
  unfold F__law_piece
  refine callF_r [some (.cel m), none, none, none, none, none, none] rfl rfl ?_
  rw [sq]
  conv => lhs; arg 1; simp [f1, -dGt_i, gt1]
  rw [sn]
  rw [sq]
  conv => lhs; arg 1; simp [f2, mu2]
  rw [sn]
  rw [sq, hif, sn]
  rw [sq]
  conv => lhs; arg 1; simp [f4, mu4]
  rw [sn]
  rw [sq]
  conv => lhs; arg 1; simp [f5, hfew]
  rw [sn]
  rw [sq, hs5, sn]
  simp [mk]
theorem Ev.ext (E : Ev C n nh ng nw nt j r T s R es) (e : Ext [] C C') : Ev C' n nh ng nw nt j r T s R es :=
  ⟨E.rm.ext e (by simp), E.rr, E.w, E.sp, E.o, E.a, E.t, E.wh, E.e1, E.e2, E.st, e.keep E.g, E.nt, E.K, E.v, E.ln⟩
theorem lacks29 (bt : Bt) (e : Option Int) : DL.plain 29 (.lst (lacksP bt e)) = true := by
  unfold DL.plain
  cases e with
  | some e => exact pl_pr 26 _
  | none =>
    unfold lacksP
    rw [List.all_append, pl_pr 26]
    rfl
theorem told_plain {r' l' : Bool} : ∀ (xs : List Pc) (s : Hs), Hok s → (∀ x ∈ xs, Pb x) → DL.plain 30 (toldA (judgeP r' l' s xs)) = true
  | [], s, h, _ => by
    have := lacks29 s.bt s.lend
    show DL.plain 30 (.tup [.str "lacking", .lst s.lacks]) = true
    have e : s.lacks = lacksP s.bt s.lend := rfl
    rw [e]
    generalize lacksP s.bt s.lend = L at *
    unfold DL.plain
    rw [List.all_eq_true]
    intro d m
    simp only [List.mem_cons, List.not_mem_nil, or_false] at m
    rcases m with rfl | rfl
    · decide +kernel
    · exact this
  | x :: xs, s, h, hp => by
    have p := hp x (by simp)
    have hk := h.take l' p.a p.l p.e
    unfold judgeP
    cases s.trouble r' x with
    | some a => exact (by simp only [toldA]; rw [show DL.plain 30 (.tup [.str "unlike", .int a]) = DL.plain 30 (.tup [.str "unlike", .int 0]) from rfl]; decide +kernel)
    | none =>
      simp only
      split
      · exact told_plain xs s h fun y m => hp y (by simp [m])
      · split
        · have b29 : DL.plain 29 (.lst (s.take l' x).bytes) = true := by
            unfold DL.plain Hs.bytes
            rw [List.all_eq_true]
            intro d m
            cases hl : (s.take l' x).lend with
            | none => rw [hl] at m; cases m
            | some e =>
              rw [hl] at m
              obtain ⟨z, _, rfl⟩ := List.mem_map.1 m
              cases q : lookD (s.take l' x).bt (.inl z) with
              | none => rfl
              | some d =>
                obtain ⟨v, rfl, _⟩ := hk.b.int q
                rfl
          show DL.plain 30 (.tup [.str "whole", .lst (s.take l' x).bytes]) = true
          generalize (s.take l' x).bytes = L at *
          unfold DL.plain
          rw [List.all_eq_true]
          intro d m
          simp only [List.mem_cons, List.not_mem_nil, or_false] at m
          rcases m with rfl | rfl
          · decide +kernel
          · exact b29
        · exact told_plain xs _ hk fun y m => hp y (by simp [m])
end
section
variable {C C' : Cells} {n nh ng nw nt j m : Nat} {T : List Pc} {x : Pc} {r : Rule} {s : Hs} {R : Rm} {es : List Ent}
theorem two_ok (E : Ev C n nh ng nw nt j r T s R es) (hj : j ≤ 100) {xs : List Pc} (hv : ∀ x ∈ xs, Vl x) (hk : ∀ x ∈ xs, x.n = 7 ∧ x.a = "ann" ∧ x.b = "bo") (hl : xs.length ≤ 100) {i : Nat} (hi : i < xs.length) {x0 x6 : Option D} :
    ∃ C' T' s' R' es', B_law_2 [x0, some (.lst (xs.map pcD)), some (.str r.s), some (.cel n), some (.cel nt), some (.int i), x6] C = .nxt [x0, some (.lst (xs.map pcD)), some (.str r.s), some (.cel n), some (.cel nt), some (.int i), x6] C' ∧ Ev C' n nh ng nw nt (j + 1) r T' s' R' es' := by
  obtain ⟨y, hy⟩ : ∃ y, xs[i]? = some y := ⟨_, List.getElem?_eq_getElem hi⟩
  have my := List.mem_of_getElem? hy
  have sl : ∀ C, dSl (.lst (xs.map pcD)) none (some ((i : Int) + 1)) C = .ok (.lst ((xs.take (i + 1)).map pcD)) C := fun C => by
    have := (cutI (xs.map pcD) (i + 1) C).1
    rw [show ((i + 1 : Nat) : Int) = (i : Int) + 1 by omega] at this
    rw [List.map_take]; exact this
  have sub : ∀ z ∈ xs.take (i + 1), z ∈ xs := fun z m => List.mem_of_mem_take m
  have ne : xs.take (i + 1) ≠ [] := fun z => by
    have h0 : (xs.take (i + 1)).length = 0 := by rw [z]; rfl
    rw [List.length_take] at h0
    omega
  obtain ⟨A, C1, f1, an, e1⟩ := judged_ok (pcs_D (C := C) (xs.take (i + 1))) (by simpa using ne) (fun z m => hv z (sub z m)) ky7 (fun z m => hk z (sub z m)) (by rw [List.length_map, List.length_take]; omega) r
  have f2 := told_ok an
  obtain ⟨C2, f3, e2⟩ := due_ok (xs.take (i + 1)) (by rw [List.length_take]; omega) (fun z m => (hv z (sub z m)).pb) r C1
  have pl : DL.plain 30 (toldA (r.judge (xs.take (i + 1)))) = true := told_plain _ _ hok0 fun z m => (hv z (sub z m)).pb
  have nq : dNeV (toldA (r.judge (xs.take (i + 1)))) (toldA (r.judge (xs.take (i + 1)))) C2 = .ok (.bl false) C2 := by
    rw [neV_p pl pl, eqD_refl 30 _ pl]; rfl
  have ix : dIx (.lst (xs.map pcD)) (.int i) C2 = .ok (pcD y) C2 := dix_at (by rw [List.getElem?_map, hy]; rfl)
  obtain ⟨C3, T', s', R', es', f4, E3⟩ := event_ok ((E.ext e1).ext e2) hj (hv y my) (hk y my)
  refine ⟨C3, T', s', R', es', ?_, E3⟩
  clear an pl
  have s1 := sl C
  have s2 := sl C1
  generalize toldA (r.judge (xs.take (i + 1))) = TA at *
  generalize (xs.take (i + 1)).map pcD = XT at *
  generalize xs.map pcD = XD at *
  generalize pcD y = PY at *
  unfold B_law_2
  rw [sq]
  conv => lhs; arg 1; simp [s1, f1, f2, s2, f3, nq]
  rw [sn]
  simp [ix, f4]
theorem three_ok {xs : List Pc} (hv : ∀ x ∈ xs, Vl x) (hk : ∀ x ∈ xs, x.n = 7 ∧ x.a = "ann" ∧ x.b = "bo") (hl : xs.length ≤ 100) (r : Rule) (C : Cells) {x0 x3 x4 x5 x6 : Option D} :
    ∃ C' y3 y4 y5, B_law_3 [x0, some (.lst (xs.map pcD)), some (.str r.s), x3, x4, x5, x6] C = .nxt [x0, some (.lst (xs.map pcD)), some (.str r.s), y3, y4, y5, x6] C' := by
  have pw : dPow (.int 10) (.int 6) C = .ok (.int 1000000) C := by simp [dPow, CPow]
  obtain ⟨C1, f1, H1, e1⟩ := rinit_ok r 5 1000000 "own" "fresh" C (by decide) (by decide) (fun C => rfl) (fun C => rfl)
  obtain ⟨C2, hC2⟩ : ∃ C2, C2 = C1.new (.lst []) := ⟨_, rfl⟩
  have e2 : Ext [] C1 C2 := hC2 ▸ Ext.refl.new
  have g2 : C2.get C1.nx = some (.lst []) := by rw [hC2]; exact get_new
  have lt1 := lt_of_get H1.o
  have lt2 := lt_of_get H1.dh
  have lt3 := lt_of_get H1.dg
  have lt4 := lt_of_get H1.dw
  obtain ⟨n, hn⟩ : ∃ n, n = C.nx := ⟨_, rfl⟩
  rw [← hn] at f1 H1 lt1 lt2 lt3 lt4
  obtain ⟨nt, hnt⟩ : ∃ nt, nt = C1.nx := ⟨_, rfl⟩
  rw [← hnt] at g2 lt1 lt2 lt3 lt4
  have E0 : Ev C2 n (n + 1) (n + 2) (n + 3) nt 0 r [] Hs0 ⟨r, 5, 1000000, "own", "fresh", 0, []⟩ [] :=
    ⟨H1.ext e2 (by simp), rfl, rfl, rfl, rfl, rfl, (by show (0 : Int) ≤ 3; decide), by simp, by simp, by simp, rfl, g2, by
      unfold rcells
      simp only [List.mem_cons, List.flatMap_nil, List.not_mem_nil, or_false]
      omega, tk0 r.l, by simp, by simp⟩
  have loop := forF_inv (tg := gfName 5) (b := B_law_2)
    (P := fun ds sl C3 => ∃ (i : Nat) (y5 : Option D) (T : List Pc) (s : Hs) (R : Rm) (es : List Ent), i ≤ xs.length ∧ ds = (List.range' i (xs.length - i)).map (fun (k : Nat) => D.int k) ∧ sl = [x0, some (.lst (xs.map pcD)), some (.str r.s), some (.cel n), some (.cel nt), y5, x6] ∧ Ev C3 n (n + 1) (n + 2) (n + 3) nt i r T s R es)
    (hs := by
      rintro d q sl C3 ⟨i, y5, T, s, R, es, hi, e, rfl, E⟩
      by_cases hlt : i < xs.length
      · rw [show xs.length - i = (xs.length - (i + 1)) + 1 by omega, List.range'_succ, List.map_cons] at e
        cases e
        obtain ⟨C4, T', s', R', es', f, E4⟩ := two_ok E (by omega) hv hk hl hlt (x0 := x0) (x6 := x6)
        exact ⟨_, rfl, _, C4, .inl f, i + 1, _, T', s', R', es', by omega, rfl, rfl, E4⟩
      · rw [show xs.length - i = 0 by omega] at e; cases e)
    (rngD 0 xs.length) [x0, some (.lst (xs.map pcD)), some (.str r.s), some (.cel n), some (.cel nt), x5, x6] C2
    ⟨0, x5, [], Hs0, _, [], by omega, by rw [rngD_0]; simp, rfl, E0⟩
  obtain ⟨sl, C3, f3, i, y5, T, s, R, es, _, _, rfl, _⟩ := loop
  have bl : bLen [.lst (xs.map pcD)] C2 = .ok (.int xs.length) C2 := by simp [bLen]
  have it : iR1 (aCons (eA bLen (aCons (eVar 1) (aNil))) (aNil)) [x0, some (.lst (xs.map pcD)), some (.str r.s), some (.cel n), some (.cel nt), x5, x6] C2 = .ok (rngD 0 xs.length) C2 := iR1_of (by simp [bl]) (by omega)
  refine ⟨C3, some (.cel n), some (.cel nt), y5, ?_⟩
  clear bl
  generalize xs.map pcD = XD at *
  unfold B_law_3
  rw [sq]
  conv => lhs; arg 1; simp [pw, f1]
  rw [sn]
  rw [sq]
  conv => lhs; arg 1; simp [← hnt, ← hC2]
  rw [sn]
  rw [sFor_of it f3]
theorem slice_ok (ns : List Int) (a b : Option Int) : ∃ ys : List Int, DL.cutD (ns.map D.int) a b = ys.map D.int ∧ ys.length ≤ ns.length := by
  unfold DL.cutD
  rw [← List.map_drop, ← List.map_take]
  exact ⟨_, rfl, by simp; omega⟩
theorem pcs_of {l : List D} (h : ∀ y ∈ l, ∃ x, y = pcD x ∧ Vl x ∧ x.n = 7 ∧ x.a = "ann" ∧ x.b = "bo") : ∃ xs : List Pc, l = xs.map pcD ∧ ∀ x ∈ xs, Vl x ∧ x.n = 7 ∧ x.a = "ann" ∧ x.b = "bo" := by
  induction l with
  | nil => exact ⟨[], rfl, by simp⟩
  | cons y l ih =>
    obtain ⟨x, rfl, hx⟩ := h y (by simp)
    obtain ⟨xs, rfl, hxs⟩ := ih fun z m => h z (by simp [m])
    exact ⟨x :: xs, rfl, fun z m => by
      rcases List.mem_cons.1 m with rfl | m
      · exact hx
      · exact hxs z m⟩
theorem law_true : ∀ ns : List Int, ns.length ≤ 63 → ∃ C', F_law [.scr (ns.map D.int)] C0 = .ok (.bl true) C' := by
  intro ns hn
  obtain ⟨cs, hcs, lc⟩ := slice_ok ns (some 1) (some 11)
  have sl : dSl (.scr (ns.map D.int)) (some 1) (some 11) C0 = .ok (.lst (cs.map D.int)) C0 := by
    simp only [dSl, lstOf_scr]
    rw [hcs]
  obtain ⟨ys, C1, f1, _, l1, r1⟩ := lcF_all (tg := gfName 6) (f := Y_law_1) (vs := [6]) (s := [some (.scr (ns.map D.int)), none, none, none, none, none, none]) (fun _ => True) (fun y => ∃ x, y = pcD x ∧ Vl x ∧ x.n = 7 ∧ x.a = "ann" ∧ x.b = "bo") (cs.map D.int) C0 trivial (by
    intro d hd C1 _
    obtain ⟨i, hi, rfl⟩ := List.mem_map.1 hd
    have g : (C1.new (.lst [.int i])).get C1.nx = some (.lst [.int i]) := get_new
    obtain ⟨C2, x, f, V, k⟩ := lpiece_ok (C := C1.new (.lst [.int i])) (m := C1.nx) (.inl ⟨i, g⟩)
    exact ⟨_, rfl, pcD x, C2, by simp [Y_law_1, wipeD, f], trivial, x, rfl, V, k⟩)
  obtain ⟨xs, rfl, hxs⟩ := pcs_of r1
  rw [List.length_map, List.length_map] at l1
  have hl : xs.length ≤ 100 := by omega
  obtain ⟨C2, a3, a4, a5, f2⟩ := three_ok (fun x m => (hxs x m).1) (fun x m => (hxs x m).2) hl .first C1 (x0 := some (.scr (ns.map D.int))) (x3 := none) (x4 := none) (x5 := none) (x6 := none)
  obtain ⟨C3, b3, b4, b5, f3⟩ := three_ok (fun x m => (hxs x m).1) (fun x m => (hxs x m).2) hl .last C2 (x0 := some (.scr (ns.map D.int))) (x3 := a3) (x4 := a4) (x5 := a5) (x6 := none)
  obtain ⟨C4, c3, c4, c5, f4⟩ := three_ok (fun x m => (hxs x m).1) (fun x m => (hxs x m).2) hl .refuse C3 (x0 := some (.scr (ns.map D.int))) (x3 := b3) (x4 := b4) (x5 := b5) (x6 := none)
  have s1 : Rule.first.s = "first" := rfl
  have s2 : Rule.last.s = "last" := rfl
  have s3 : Rule.refuse.s = "refuse" := rfl
  rw [s1] at f2
  rw [s2] at f3
  rw [s3] at f4
  have lz : (cs.map D.int).length ≤ 16777216 := by rw [List.length_map]; omega
  have hs : sSet 1 (eLc (iLst (eSlG dSl (eVar 0) (oSome (eC (.int 1))) (oSome (eC (.int 11))))) (gfName 6) (tYesF) (Y_law_1) [6]) [some (.scr (ns.map D.int)), none, none, none, none, none, none] C0 = .nxt [some (.scr (ns.map D.int)), some (.lst (xs.map pcD)), none, none, none, none, none] C1 := by
    generalize xs.map pcD = XD at *
    generalize cs.map D.int = CD at *
    simp [sl, f1, lz]
  refine ⟨C4, ?_⟩
  generalize xs.map pcD = XD at *
  unfold F_law
  refine callF_r [some (.scr (ns.map D.int)), none, none, none, none, none, none] rfl rfl ?_
  rw [sq, hs, sn]
  have loop : sFor (iLst (eLst (aCons (eC (.str "first")) (aCons (eC (.str "last")) (aCons (eC (.str "refuse")) (aNil)))))) (gfName 2) (B_law_3) [some (.scr (ns.map D.int)), some (.lst XD), none, none, none, none, none] C1 = .nxt [some (.scr (ns.map D.int)), some (.lst XD), some (.str "refuse"), c3, c4, c5, none] C4 := by
    refine sFor_of (C1 := C1) (ds := [.str "first", .str "last", .str "refuse"]) (by simp) ?_
    rw [forF_cons, gfName_ap]
    show (match B_law_3 [some (.scr (ns.map D.int)), some (.lst XD), some (.str "first"), none, none, none, none] C1 with | .nxt s C => _ | .cnt s C => _ | .brk s C => _ | x => x) = _
    rw [f2]
    show forF (gfName 2) B_law_3 [.str "last", .str "refuse"] [some (.scr (ns.map D.int)), some (.lst XD), some (.str "first"), a3, a4, a5, none] C2 = _
    rw [forF_cons, gfName_ap]
    show (match B_law_3 [some (.scr (ns.map D.int)), some (.lst XD), some (.str "last"), a3, a4, a5, none] C2 with | .nxt s C => _ | .cnt s C => _ | .brk s C => _ | x => x) = _
    rw [f3]
    show forF (gfName 2) B_law_3 [.str "refuse"] [some (.scr (ns.map D.int)), some (.lst XD), some (.str "last"), b3, b4, b5, none] C3 = _
    rw [forF_cons, gfName_ap]
    show (match B_law_3 [some (.scr (ns.map D.int)), some (.lst XD), some (.str "refuse"), b3, b4, b5, none] C3 with | .nxt s C => _ | .cnt s C => _ | .brk s C => _ | x => x) = _
    rw [f4]
    rfl
  rw [sq, loop, sn]
  simp
end
end K93

set_option Elab.async false
set_option linter.all false
set_option maxRecDepth 100000
set_option maxHeartbeats 4000000
namespace K93
open PySem L2 DL
theorem all_mk {l : PySem.W.OpenLaw} {w : World} {K : PySem.W.Frag} {h : Heap} {mg : Str → Option Value} {fa : Addr} {C_Keyed C_Letter C_Piece C_Answer C_Whole C_Lacking C_Unlike C_Heap C_Room C_NoLetter C_NoPiece C_NoRule C_NoTime C_NoKey f1 f2 f3 f4 f5 f6 f7 f8 f9 t9 f10 f11 f12 f13 f14 f15 f16 f17 f18 f19 f20 f21 f22 f23 f24 f25 f26 f27 f28 f29 f30 f31 f32 f33 f34 f35 f36 f37 f38 f39 f40 f41 f42 f43 t43 f44 f45 f46 f47 f48 f49 f50 f51 f52 f53 f54 f55 f56 f57 f58 ak_RULES : Addr} {od1 an1 od2 an2 od3 an3 od4 an4 od5 an5 od6 an6 od7 an7 od8 an8 od9 an9 tod9 od10 an10 od11 an11 od12 an12 od13 an13 od14 an14 od15 an15 od16 an16 od17 an17 od18 an18 od19 an19 od20 an20 od21 an21 od22 an22 od23 an23 od24 an24 od25 an25 od26 an26 od27 an27 od28 an28 od29 an29 od30 an30 od31 an31 od32 an32 od33 an33 od34 an34 od35 an35 od36 an36 od37 an37 od38 an38 od39 an39 od40 an40 od41 an41 od42 an42 od43 an43 tod43 od44 an44 od45 an45 od46 an46 od47 an47 od48 an48 od49 an49 od50 an50 od51 an51 od52 an52 od53 an53 od54 an54 od55 an55 od56 an56 od57 an57 od58 an58 okd_RULES : Option Addr} {sl1 sl2 sl3 sl4 sl5 sl6 sl7 sl8 sl9 tsl9 sl10 sl11 sl12 sl13 sl14 sl15 sl16 sl17 sl18 sl19 sl20 sl21 sl22 sl23 sl24 sl25 sl26 sl27 sl28 sl29 sl30 sl31 sl32 sl33 sl34 sl35 sl36 sl37 sl38 sl39 sl40 sl41 sl42 sl43 tsl43 sl44 sl45 sl46 sl47 sl48 sl49 sl50 sl51 sl52 sl53 sl54 sl55 sl56 sl57 sl58 oks_RULES : Array (Option Value)} {oc1 kV1 dc1 pm1 cd1 ct1 oc2 kV2 dc2 pm2 cd2 ct2 oc3 kV3 dc3 pm3 cd3 ct3 oc4 kV4 dc4 pm4 cd4 ct4 oc5 kV5 dc5 pm5 cd5 ct5 oc6 kV6 dc6 pm6 cd6 ct6 oc7 kV7 dc7 pm7 cd7 ct7 oc8 kV8 dc8 pm8 cd8 ct8 oc9 kV9 dc9 pm9 cd9 ct9 toc9 oc10 kV10 dc10 pm10 cd10 ct10 oc11 kV11 dc11 pm11 cd11 ct11 oc12 kV12 dc12 pm12 cd12 ct12 oc13 kV13 dc13 pm13 cd13 ct13 oc14 kV14 dc14 pm14 cd14 ct14 oc15 kV15 dc15 pm15 cd15 ct15 oc16 kV16 dc16 pm16 cd16 ct16 oc17 kV17 dc17 pm17 cd17 ct17 oc18 kV18 dc18 pm18 cd18 ct18 oc19 kV19 dc19 pm19 cd19 ct19 oc20 kV20 dc20 pm20 cd20 ct20 oc21 kV21 dc21 pm21 cd21 ct21 oc22 kV22 dc22 pm22 cd22 ct22 oc23 kV23 dc23 pm23 cd23 ct23 oc24 kV24 dc24 pm24 cd24 ct24 oc25 kV25 dc25 pm25 cd25 ct25 oc26 kV26 dc26 pm26 cd26 ct26 oc27 kV27 dc27 pm27 cd27 ct27 oc28 kV28 dc28 pm28 cd28 ct28 oc29 kV29 dc29 pm29 cd29 ct29 oc30 kV30 dc30 pm30 cd30 ct30 oc31 kV31 dc31 pm31 cd31 ct31 oc32 kV32 dc32 pm32 cd32 ct32 oc33 kV33 dc33 pm33 cd33 ct33 oc34 kV34 dc34 pm34 cd34 ct34 oc35 kV35 dc35 pm35 cd35 ct35 oc36 kV36 dc36 pm36 cd36 ct36 oc37 kV37 dc37 pm37 cd37 ct37 oc38 kV38 dc38 pm38 cd38 ct38 oc39 kV39 dc39 pm39 cd39 ct39 oc40 kV40 dc40 pm40 cd40 ct40 oc41 kV41 dc41 pm41 cd41 ct41 oc42 kV42 dc42 pm42 cd42 ct42 oc43 kV43 dc43 pm43 cd43 ct43 toc43 oc44 kV44 dc44 pm44 cd44 ct44 oc45 kV45 dc45 pm45 cd45 ct45 oc46 kV46 dc46 pm46 cd46 ct46 oc47 kV47 dc47 pm47 cd47 ct47 oc48 kV48 dc48 pm48 cd48 ct48 oc49 kV49 dc49 pm49 cd49 ct49 oc50 kV50 dc50 pm50 cd50 ct50 oc51 kV51 dc51 pm51 cd51 ct51 oc52 kV52 dc52 pm52 cd52 ct52 oc53 kV53 dc53 pm53 cd53 ct53 oc54 kV54 dc54 pm54 cd54 ct54 oc55 kV55 dc55 pm55 cd55 ct55 oc56 kV56 dc56 pm56 cd56 ct56 oc57 kV57 dc57 pm57 cd57 ct57 oc58 kV58 dc58 pm58 cd58 ct58 : Value} {tn9 tn43 okn_RULES : Nat} {tk_LETTERS tk_MOST_BYTES tk_RULES_0 tk_RULES_1 tk_RULES_2 : Tok} (X : K.In h) (G : h.Ns mainGlobals mg) (hfa : mg "law" = some (.ref fa))
    (x_Keyed : PySem.W.nsIn K mainGlobals "Keyed" = some (some (.ref C_Keyed)))
    (pg_Keyed : PySem.W.plainGet K C_Keyed Str.empty = true)
    (hd_Keyed : PySem.W.hasDictIn K C_Keyed = true)
    (po_Keyed : PySem.W.plainOver K C_Keyed = true)
    (sa_Keyed : PySem.W.findIn K (.ref C_Keyed) "__setattr__" = some (some (.builtin "object.__setattr__")))
    (ha_Keyed : PySem.W.findIn K (.ref C_Keyed) "__class__" = some (some (.builtin "object.__class__")))
    (hm_Keyed : PySem.W.mroIn K C_Keyed (.type "object") = some true)
    (n_Keyed_number : PySem.W.findIn K (.ref C_Keyed) "number" = some none)
    (n_Keyed_sender : PySem.W.findIn K (.ref C_Keyed) "sender" = some none)
    (n_Keyed_goal : PySem.W.findIn K (.ref C_Keyed) "goal" = some none)
    (n_Keyed_body : PySem.W.findIn K (.ref C_Keyed) "body" = some none)
    (n_Keyed_keep : PySem.W.findIn K (.ref C_Keyed) "keep" = some none)
    (x_Letter : PySem.W.nsIn K mainGlobals "Letter" = some (some (.ref C_Letter)))
    (pg_Letter : PySem.W.plainGet K C_Letter Str.empty = true)
    (hd_Letter : PySem.W.hasDictIn K C_Letter = true)
    (po_Letter : PySem.W.plainOver K C_Letter = true)
    (sa_Letter : PySem.W.findIn K (.ref C_Letter) "__setattr__" = some (some (.builtin "object.__setattr__")))
    (ha_Letter : PySem.W.findIn K (.ref C_Letter) "__class__" = some (some (.builtin "object.__class__")))
    (hm_Letter : PySem.W.mroIn K C_Letter (.type "object") = some true)
    (n_Letter_number : PySem.W.findIn K (.ref C_Letter) "number" = some none)
    (n_Letter_sender : PySem.W.findIn K (.ref C_Letter) "sender" = some none)
    (n_Letter_goal : PySem.W.findIn K (.ref C_Letter) "goal" = some none)
    (n_Letter_body : PySem.W.findIn K (.ref C_Letter) "body" = some none)
    (n_Letter_keep : PySem.W.findIn K (.ref C_Letter) "keep" = some none)
    (x_Piece : PySem.W.nsIn K mainGlobals "Piece" = some (some (.ref C_Piece)))
    (pg_Piece : PySem.W.plainGet K C_Piece Str.empty = true)
    (hd_Piece : PySem.W.hasDictIn K C_Piece = true)
    (po_Piece : PySem.W.plainOver K C_Piece = true)
    (sa_Piece : PySem.W.findIn K (.ref C_Piece) "__setattr__" = some (some (.builtin "object.__setattr__")))
    (ha_Piece : PySem.W.findIn K (.ref C_Piece) "__class__" = some (some (.builtin "object.__class__")))
    (hm_Piece : PySem.W.mroIn K C_Piece (.type "object") = some true)
    (n_Piece_number : PySem.W.findIn K (.ref C_Piece) "number" = some none)
    (n_Piece_sender : PySem.W.findIn K (.ref C_Piece) "sender" = some none)
    (n_Piece_goal : PySem.W.findIn K (.ref C_Piece) "goal" = some none)
    (n_Piece_body : PySem.W.findIn K (.ref C_Piece) "body" = some none)
    (n_Piece_keep : PySem.W.findIn K (.ref C_Piece) "keep" = some none)
    (n_Piece_at : PySem.W.findIn K (.ref C_Piece) "at" = some none)
    (n_Piece_more : PySem.W.findIn K (.ref C_Piece) "more" = some none)
    (x_Answer : PySem.W.nsIn K mainGlobals "Answer" = some (some (.ref C_Answer)))
    (pg_Answer : PySem.W.plainGet K C_Answer Str.empty = true)
    (hd_Answer : PySem.W.hasDictIn K C_Answer = true)
    (po_Answer : PySem.W.plainOver K C_Answer = true)
    (sa_Answer : PySem.W.findIn K (.ref C_Answer) "__setattr__" = some (some (.builtin "object.__setattr__")))
    (ha_Answer : PySem.W.findIn K (.ref C_Answer) "__class__" = some (some (.builtin "object.__class__")))
    (hm_Answer : PySem.W.mroIn K C_Answer (.type "object") = some true)
    (x_Whole : PySem.W.nsIn K mainGlobals "Whole" = some (some (.ref C_Whole)))
    (pg_Whole : PySem.W.plainGet K C_Whole Str.empty = true)
    (hd_Whole : PySem.W.hasDictIn K C_Whole = true)
    (po_Whole : PySem.W.plainOver K C_Whole = true)
    (sa_Whole : PySem.W.findIn K (.ref C_Whole) "__setattr__" = some (some (.builtin "object.__setattr__")))
    (ha_Whole : PySem.W.findIn K (.ref C_Whole) "__class__" = some (some (.builtin "object.__class__")))
    (hm_Whole : PySem.W.mroIn K C_Whole (.type "object") = some true)
    (n_Whole_body : PySem.W.findIn K (.ref C_Whole) "body" = some none)
    (x_Lacking : PySem.W.nsIn K mainGlobals "Lacking" = some (some (.ref C_Lacking)))
    (pg_Lacking : PySem.W.plainGet K C_Lacking Str.empty = true)
    (hd_Lacking : PySem.W.hasDictIn K C_Lacking = true)
    (po_Lacking : PySem.W.plainOver K C_Lacking = true)
    (sa_Lacking : PySem.W.findIn K (.ref C_Lacking) "__setattr__" = some (some (.builtin "object.__setattr__")))
    (ha_Lacking : PySem.W.findIn K (.ref C_Lacking) "__class__" = some (some (.builtin "object.__class__")))
    (hm_Lacking : PySem.W.mroIn K C_Lacking (.type "object") = some true)
    (n_Lacking_spans : PySem.W.findIn K (.ref C_Lacking) "spans" = some none)
    (x_Unlike : PySem.W.nsIn K mainGlobals "Unlike" = some (some (.ref C_Unlike)))
    (pg_Unlike : PySem.W.plainGet K C_Unlike Str.empty = true)
    (hd_Unlike : PySem.W.hasDictIn K C_Unlike = true)
    (po_Unlike : PySem.W.plainOver K C_Unlike = true)
    (sa_Unlike : PySem.W.findIn K (.ref C_Unlike) "__setattr__" = some (some (.builtin "object.__setattr__")))
    (ha_Unlike : PySem.W.findIn K (.ref C_Unlike) "__class__" = some (some (.builtin "object.__class__")))
    (hm_Unlike : PySem.W.mroIn K C_Unlike (.type "object") = some true)
    (n_Unlike_at : PySem.W.findIn K (.ref C_Unlike) "at" = some none)
    (x_Heap : PySem.W.nsIn K mainGlobals "Heap" = some (some (.ref C_Heap)))
    (pg_Heap : PySem.W.plainGet K C_Heap Str.empty = true)
    (hd_Heap : PySem.W.hasDictIn K C_Heap = true)
    (po_Heap : PySem.W.plainOver K C_Heap = true)
    (sa_Heap : PySem.W.findIn K (.ref C_Heap) "__setattr__" = some (some (.builtin "object.__setattr__")))
    (ha_Heap : PySem.W.findIn K (.ref C_Heap) "__class__" = some (some (.builtin "object.__class__")))
    (hm_Heap : PySem.W.mroIn K C_Heap (.type "object") = some true)
    (n_Heap_rule : PySem.W.findIn K (.ref C_Heap) "rule" = some none)
    (n_Heap_byte_at : PySem.W.findIn K (.ref C_Heap) "byte_at" = some none)
    (n_Heap_cover : PySem.W.findIn K (.ref C_Heap) "cover" = some none)
    (n_Heap_last_end : PySem.W.findIn K (.ref C_Heap) "last_end" = some none)
    (n_Heap_most : PySem.W.findIn K (.ref C_Heap) "most" = some none)
    (x_Room : PySem.W.nsIn K mainGlobals "Room" = some (some (.ref C_Room)))
    (pg_Room : PySem.W.plainGet K C_Room Str.empty = true)
    (hd_Room : PySem.W.hasDictIn K C_Room = true)
    (po_Room : PySem.W.plainOver K C_Room = true)
    (sa_Room : PySem.W.findIn K (.ref C_Room) "__setattr__" = some (some (.builtin "object.__setattr__")))
    (ha_Room : PySem.W.findIn K (.ref C_Room) "__class__" = some (some (.builtin "object.__class__")))
    (hm_Room : PySem.W.mroIn K C_Room (.type "object") = some true)
    (n_Room_rule : PySem.W.findIn K (.ref C_Room) "rule" = some none)
    (n_Room_wait : PySem.W.findIn K (.ref C_Room) "wait" = some none)
    (n_Room_space : PySem.W.findIn K (.ref C_Room) "space" = some none)
    (n_Room_out : PySem.W.findIn K (.ref C_Room) "out" = some none)
    (n_Room_again : PySem.W.findIn K (.ref C_Room) "again" = some none)
    (n_Room_now : PySem.W.findIn K (.ref C_Room) "now" = some none)
    (n_Room_heaps : PySem.W.findIn K (.ref C_Room) "heaps" = some none)
    (n_Room_begun : PySem.W.findIn K (.ref C_Room) "begun" = some none)
    (n_Room_whole_at : PySem.W.findIn K (.ref C_Room) "whole_at" = some none)
    (hn : PySem.W.specialIn K (.builtin "object.__class__") "__get__" = some (some (.builtin "getset_descriptor.__get__")))
    (ht : PySem.W.takesIn K (.builtin "object.__class__") = some true)
    (x_NoLetter : PySem.W.nsIn K mainGlobals "NoLetter" = some (some (.ref C_NoLetter)))
    (xb_NoLetter : PySem.W.subIn K (.ref C_NoLetter) (.type "BaseException") = some true)
    (xt_NoLetter : PySem.W.typeIn K (.ref C_NoLetter) = some (.type "type"))
    (xe_NoLetter : PySem.W.excIn K C_NoLetter [.type "ValueError", .type "Exception", .type "BaseException", .type "object"] "ValueError.__new__" = true)
    (xk_NoLetter : PySem.W.keepIn K (.ref C_NoLetter) = true)
    (xg_NoLetter : PySem.W.findIn K (.ref C_NoLetter) "__getattribute__" = some (some (.builtin "BaseException.__getattribute__")))
    (xr_NoLetter : PySem.W.findIn K (.ref C_NoLetter) "__getattr__" = some none)
    (xa_NoLetter : PySem.W.findIn K (.ref C_NoLetter) "__class__" = some (some (.builtin "object.__class__")))
    (xm_NoLetter : PySem.W.mroIn K C_NoLetter (.type "object") = some true)
    (xd_NoLetter : PySem.W.hasDictIn K C_NoLetter = true)
    (x_NoPiece : PySem.W.nsIn K mainGlobals "NoPiece" = some (some (.ref C_NoPiece)))
    (xb_NoPiece : PySem.W.subIn K (.ref C_NoPiece) (.type "BaseException") = some true)
    (xt_NoPiece : PySem.W.typeIn K (.ref C_NoPiece) = some (.type "type"))
    (xe_NoPiece : PySem.W.excIn K C_NoPiece [.type "ValueError", .type "Exception", .type "BaseException", .type "object"] "ValueError.__new__" = true)
    (xk_NoPiece : PySem.W.keepIn K (.ref C_NoPiece) = true)
    (xg_NoPiece : PySem.W.findIn K (.ref C_NoPiece) "__getattribute__" = some (some (.builtin "BaseException.__getattribute__")))
    (xr_NoPiece : PySem.W.findIn K (.ref C_NoPiece) "__getattr__" = some none)
    (xa_NoPiece : PySem.W.findIn K (.ref C_NoPiece) "__class__" = some (some (.builtin "object.__class__")))
    (xm_NoPiece : PySem.W.mroIn K C_NoPiece (.type "object") = some true)
    (xd_NoPiece : PySem.W.hasDictIn K C_NoPiece = true)
    (x_NoRule : PySem.W.nsIn K mainGlobals "NoRule" = some (some (.ref C_NoRule)))
    (xb_NoRule : PySem.W.subIn K (.ref C_NoRule) (.type "BaseException") = some true)
    (xt_NoRule : PySem.W.typeIn K (.ref C_NoRule) = some (.type "type"))
    (xe_NoRule : PySem.W.excIn K C_NoRule [.type "ValueError", .type "Exception", .type "BaseException", .type "object"] "ValueError.__new__" = true)
    (xk_NoRule : PySem.W.keepIn K (.ref C_NoRule) = true)
    (xg_NoRule : PySem.W.findIn K (.ref C_NoRule) "__getattribute__" = some (some (.builtin "BaseException.__getattribute__")))
    (xr_NoRule : PySem.W.findIn K (.ref C_NoRule) "__getattr__" = some none)
    (xa_NoRule : PySem.W.findIn K (.ref C_NoRule) "__class__" = some (some (.builtin "object.__class__")))
    (xm_NoRule : PySem.W.mroIn K C_NoRule (.type "object") = some true)
    (xd_NoRule : PySem.W.hasDictIn K C_NoRule = true)
    (x_NoTime : PySem.W.nsIn K mainGlobals "NoTime" = some (some (.ref C_NoTime)))
    (xb_NoTime : PySem.W.subIn K (.ref C_NoTime) (.type "BaseException") = some true)
    (xt_NoTime : PySem.W.typeIn K (.ref C_NoTime) = some (.type "type"))
    (xe_NoTime : PySem.W.excIn K C_NoTime [.type "ValueError", .type "Exception", .type "BaseException", .type "object"] "ValueError.__new__" = true)
    (xk_NoTime : PySem.W.keepIn K (.ref C_NoTime) = true)
    (xg_NoTime : PySem.W.findIn K (.ref C_NoTime) "__getattribute__" = some (some (.builtin "BaseException.__getattribute__")))
    (xr_NoTime : PySem.W.findIn K (.ref C_NoTime) "__getattr__" = some none)
    (xa_NoTime : PySem.W.findIn K (.ref C_NoTime) "__class__" = some (some (.builtin "object.__class__")))
    (xm_NoTime : PySem.W.mroIn K C_NoTime (.type "object") = some true)
    (xd_NoTime : PySem.W.hasDictIn K C_NoTime = true)
    (x_NoKey : PySem.W.nsIn K mainGlobals "NoKey" = some (some (.ref C_NoKey)))
    (xb_NoKey : PySem.W.subIn K (.ref C_NoKey) (.type "BaseException") = some true)
    (xt_NoKey : PySem.W.typeIn K (.ref C_NoKey) = some (.type "type"))
    (xe_NoKey : PySem.W.excIn K C_NoKey [.type "ValueError", .type "Exception", .type "BaseException", .type "object"] "ValueError.__new__" = true)
    (xk_NoKey : PySem.W.keepIn K (.ref C_NoKey) = true)
    (xg_NoKey : PySem.W.findIn K (.ref C_NoKey) "__getattribute__" = some (some (.builtin "BaseException.__getattribute__")))
    (xr_NoKey : PySem.W.findIn K (.ref C_NoKey) "__getattr__" = some none)
    (xa_NoKey : PySem.W.findIn K (.ref C_NoKey) "__class__" = some (some (.builtin "object.__class__")))
    (xm_NoKey : PySem.W.mroIn K C_NoKey (.type "object") = some true)
    (xd_NoKey : PySem.W.hasDictIn K C_NoKey = true)
    (mk_Heap : PySem.W.makesIn K C_Heap = true)
    (in_Heap : PySem.W.findIn K (.ref C_Heap) "__init__" = some (some (.ref f16)))
    (if_Heap : PySem.W.isFn K (.ref f16) = true)
    (kc_Heap : PySem.W.keepIn K (.ref C_Heap) = true)
    (mk_Lacking : PySem.W.makesIn K C_Lacking = true)
    (in_Lacking : PySem.W.findIn K (.ref C_Lacking) "__init__" = some (some (.ref f30)))
    (if_Lacking : PySem.W.isFn K (.ref f30) = true)
    (kc_Lacking : PySem.W.keepIn K (.ref C_Lacking) = true)
    (mk_Letter : PySem.W.makesIn K C_Letter = true)
    (in_Letter : PySem.W.findIn K (.ref C_Letter) "__init__" = some (some (.ref f43)))
    (if_Letter : PySem.W.isFn K (.ref f43) = true)
    (kc_Letter : PySem.W.keepIn K (.ref C_Letter) = true)
    (mk_Piece : PySem.W.makesIn K C_Piece = true)
    (in_Piece : PySem.W.findIn K (.ref C_Piece) "__init__" = some (some (.ref f9)))
    (if_Piece : PySem.W.isFn K (.ref f9) = true)
    (kc_Piece : PySem.W.keepIn K (.ref C_Piece) = true)
    (mk_Room : PySem.W.makesIn K C_Room = true)
    (in_Room : PySem.W.findIn K (.ref C_Room) "__init__" = some (some (.ref f13)))
    (if_Room : PySem.W.isFn K (.ref f13) = true)
    (kc_Room : PySem.W.keepIn K (.ref C_Room) = true)
    (mk_Unlike : PySem.W.makesIn K C_Unlike = true)
    (in_Unlike : PySem.W.findIn K (.ref C_Unlike) "__init__" = some (some (.ref f21)))
    (if_Unlike : PySem.W.isFn K (.ref f21) = true)
    (kc_Unlike : PySem.W.keepIn K (.ref C_Unlike) = true)
    (mk_Whole : PySem.W.makesIn K C_Whole = true)
    (in_Whole : PySem.W.findIn K (.ref C_Whole) "__init__" = some (some (.ref f28)))
    (if_Whole : PySem.W.isFn K (.ref f28) = true)
    (kc_Whole : PySem.W.keepIn K (.ref C_Whole) = true)
    (rd_Keyed : PySem.W.readsIn K C_Keyed (.type "type") = true)
    (fc_Keyed_init : PySem.W.findCls K (.ref C_Keyed) (.type "type") "__init__" = some (.val (.ref f8)))
    (ma_Heap_all_bytes : PySem.W.findIn K (.ref C_Heap) "all_bytes" = some (some (.ref f29)))
    (mf_Heap_all_bytes : PySem.W.isFn K (.ref f29) = true)
    (ma_Room_bytes_kept : PySem.W.findIn K (.ref C_Room) "bytes_kept" = some (some (.ref f47)))
    (mf_Room_bytes_kept : PySem.W.isFn K (.ref f47) = true)
    (ma_Room_check_key : PySem.W.findIn K (.ref C_Room) "check_key" = some (some (.ref f52)))
    (mf_Room_check_key : PySem.W.isFn K (.ref f52) = true)
    (ma_Heap_clash : PySem.W.findIn K (.ref C_Heap) "clash" = some (some (.ref f19)))
    (mf_Heap_clash : PySem.W.isFn K (.ref f19) = true)
    (ma_Room_come : PySem.W.findIn K (.ref C_Room) "come" = some (some (.ref f51)))
    (mf_Room_come : PySem.W.isFn K (.ref f51) = true)
    (ma_Heap_cover_with : PySem.W.findIn K (.ref C_Heap) "cover_with" = some (some (.ref f23)))
    (mf_Heap_cover_with : PySem.W.isFn K (.ref f23) = true)
    (ma_Piece_end : PySem.W.findIn K (.ref C_Piece) "end" = some (some (.ref f17)))
    (mf_Piece_end : PySem.W.isFn K (.ref f17) = true)
    (ma_Room_first_out : PySem.W.findIn K (.ref C_Room) "first_out" = some (some (.ref f48)))
    (mf_Room_first_out : PySem.W.isFn K (.ref f48) = true)
    (ma_Heap_grown_with : PySem.W.findIn K (.ref C_Heap) "grown_with" = some (some (.ref f45)))
    (mf_Heap_grown_with : PySem.W.isFn K (.ref f45) = true)
    (ma_Letter_is_like : PySem.W.findIn K (.ref C_Letter) "is_like" = some (some (.ref f55)))
    (mf_Letter_is_like : PySem.W.isFn K (.ref f55) = true)
    (ma_Piece_is_like : PySem.W.findIn K (.ref C_Piece) "is_like" = some (some (.ref f56)))
    (mf_Piece_is_like : PySem.W.isFn K (.ref f56) = true)
    (ma_Heap_is_strange : PySem.W.findIn K (.ref C_Heap) "is_strange" = some (some (.ref f18)))
    (mf_Heap_is_strange : PySem.W.isFn K (.ref f18) = true)
    (ma_Room_kept : PySem.W.findIn K (.ref C_Room) "kept" = some (some (.ref f54)))
    (mf_Room_kept : PySem.W.isFn K (.ref f54) = true)
    (ma_Keyed_key : PySem.W.findIn K (.ref C_Keyed) "key" = some (some (.ref f15)))
    (mf_Keyed_key : PySem.W.isFn K (.ref f15) = true)
    (ma_Letter_key : PySem.W.findIn K (.ref C_Letter) "key" = some (some (.ref f15)))
    (mf_Letter_key : PySem.W.isFn K (.ref f15) = true)
    (ma_Piece_key : PySem.W.findIn K (.ref C_Piece) "key" = some (some (.ref f15)))
    (mf_Piece_key : PySem.W.isFn K (.ref f15) = true)
    (ma_Room_lacks : PySem.W.findIn K (.ref C_Room) "lacks" = some (some (.ref f53)))
    (mf_Room_lacks : PySem.W.isFn K (.ref f53) = true)
    (ma_Heap_lacks_now : PySem.W.findIn K (.ref C_Heap) "lacks_now" = some (some (.ref f27)))
    (mf_Heap_lacks_now : PySem.W.isFn K (.ref f27) = true)
    (ma_Room_let_go : PySem.W.findIn K (.ref C_Room) "let_go" = some (some (.ref f39)))
    (mf_Room_let_go : PySem.W.isFn K (.ref f39) = true)
    (ma_Room_looked_at : PySem.W.findIn K (.ref C_Room) "looked_at" = some (some (.ref f50)))
    (mf_Room_looked_at : PySem.W.isFn K (.ref f50) = true)
    (ma_Room_made_room : PySem.W.findIn K (.ref C_Room) "made_room" = some (some (.ref f49)))
    (mf_Room_made_room : PySem.W.isFn K (.ref f49) = true)
    (ma_Heap_size : PySem.W.findIn K (.ref C_Heap) "size" = some (some (.ref f46)))
    (mf_Heap_size : PySem.W.isFn K (.ref f46) = true)
    (ma_Heap_take : PySem.W.findIn K (.ref C_Heap) "take" = some (some (.ref f24)))
    (mf_Heap_take : PySem.W.isFn K (.ref f24) = true)
    (ma_Room_tick : PySem.W.findIn K (.ref C_Room) "tick" = some (some (.ref f41)))
    (mf_Room_tick : PySem.W.isFn K (.ref f41) = true)
    (ma_Heap_trouble : PySem.W.findIn K (.ref C_Heap) "trouble" = some (some (.ref f20)))
    (mf_Heap_trouble : PySem.W.isFn K (.ref f20) = true)
    (ma_Room_waits_ended : PySem.W.findIn K (.ref C_Room) "waits_ended" = some (some (.ref f40)))
    (mf_Room_waits_ended : PySem.W.isFn K (.ref f40) = true)
    (ma_Heap_would_be_whole : PySem.W.findIn K (.ref C_Heap) "would_be_whole" = some (some (.ref f42)))
    (mf_Heap_would_be_whole : PySem.W.isFn K (.ref f42) = true)
    (a1 : PySem.W.nsIn K mainGlobals "_law_digit" = some (some (.ref f1)))
    (l1 : K.lookup f1 = some ⟨oc1, od1, .func (PySem.W.fnOf "_law_digit" "_law_digit" (defArgs s__law_digit) (defBody s__law_digit) (defScope s__law_digit) .none kV1 dc1 pm1 an1 cd1 ct1), sl1⟩)
    (c1 : PySem.W.codeIn K cd1 "_law_digit" = true)
    (k1 : PySem.W.keepIn K (.ref f1) = true)
    (a2 : PySem.W.nsIn K mainGlobals "is_whole" = some (some (.ref f2)))
    (l2 : K.lookup f2 = some ⟨oc2, od2, .func (PySem.W.fnOf "is_whole" "is_whole" (defArgs s_is_whole) (defBody s_is_whole) (defScope s_is_whole) .none kV2 dc2 pm2 an2 cd2 ct2), sl2⟩)
    (c2 : PySem.W.codeIn K cd2 "is_whole" = true)
    (k2 : PySem.W.keepIn K (.ref f2) = true)
    (a3 : PySem.W.nsIn K mainGlobals "is_within" = some (some (.ref f3)))
    (l3 : K.lookup f3 = some ⟨oc3, od3, .func (PySem.W.fnOf "is_within" "is_within" (defArgs s_is_within) (defBody s_is_within) (defScope s_is_within) .none kV3 dc3 pm3 an3 cd3 ct3), sl3⟩)
    (c3 : PySem.W.codeIn K cd3 "is_within" = true)
    (k3 : PySem.W.keepIn K (.ref f3) = true)
    (a4 : PySem.W.nsIn K mainGlobals "is_name" = some (some (.ref f4)))
    (l4 : K.lookup f4 = some ⟨oc4, od4, .func (PySem.W.fnOf "is_name" "is_name" (defArgs s_is_name) (defBody s_is_name) (defScope s_is_name) .none kV4 dc4 pm4 an4 cd4 ct4), sl4⟩)
    (c4 : PySem.W.codeIn K cd4 "is_name" = true)
    (k4 : PySem.W.keepIn K (.ref f4) = true)
    (a5 : PySem.W.nsIn K mainGlobals "is_key" = some (some (.ref f5)))
    (l5 : K.lookup f5 = some ⟨oc5, od5, .func (PySem.W.fnOf "is_key" "is_key" (defArgs s_is_key) (defBody s_is_key) (defScope s_is_key) .none kV5 dc5 pm5 an5 cd5 ct5), sl5⟩)
    (c5 : PySem.W.codeIn K cd5 "is_key" = true)
    (k5 : PySem.W.keepIn K (.ref f5) = true)
    (a6 : PySem.W.nsIn K mainGlobals "is_body" = some (some (.ref f6)))
    (l6 : K.lookup f6 = some ⟨oc6, od6, .func (PySem.W.fnOf "is_body" "is_body" (defArgs s_is_body) (defBody s_is_body) (defScope s_is_body) .none kV6 dc6 pm6 an6 cd6 ct6), sl6⟩)
    (c6 : PySem.W.codeIn K cd6 "is_body" = true)
    (k6 : PySem.W.keepIn K (.ref f6) = true)
    (a7 : PySem.W.nsIn K mainGlobals "is_placed" = some (some (.ref f7)))
    (l7 : K.lookup f7 = some ⟨oc7, od7, .func (PySem.W.fnOf "is_placed" "is_placed" (defArgs s_is_placed) (defBody s_is_placed) (defScope s_is_placed) .none kV7 dc7 pm7 an7 cd7 ct7), sl7⟩)
    (c7 : PySem.W.codeIn K cd7 "is_placed" = true)
    (k7 : PySem.W.keepIn K (.ref f7) = true)
    (l8 : K.lookup f8 = some ⟨oc8, od8, .func (PySem.W.fnOf "__init__" "Keyed.__init__" (defArgs s_Keyed_init) (defBody s_Keyed_init) (defScope s_Keyed_init) .none kV8 dc8 pm8 an8 cd8 ct8), sl8⟩)
    (c8 : PySem.W.codeIn K cd8 "Keyed.__init__" = true)
    (k8 : PySem.W.keepIn K (.ref f8) = true)
    (l9 : K.lookup f9 = some ⟨oc9, od9, .func (PySem.W.fnOf "__init__" "Piece.__init__" (defArgs s_Piece_init) (defBody s_Piece_init) (defScope s_Piece_init) (.ref t9) kV9 dc9 pm9 an9 cd9 ct9), sl9⟩)
    (c9 : PySem.W.codeIn K cd9 "Piece.__init__" = true)
    (k9 : PySem.W.keepIn K (.ref f9) = true)
    (lt9 : K.lookup t9 = some ⟨toc9, tod9, .seq [.bool false].toArray tn9, tsl9⟩)
    (a10 : PySem.W.nsIn K mainGlobals "_law_piece" = some (some (.ref f10)))
    (l10 : K.lookup f10 = some ⟨oc10, od10, .func (PySem.W.fnOf "_law_piece" "_law_piece" (defArgs s__law_piece) (defBody s__law_piece) (defScope s__law_piece) .none kV10 dc10 pm10 an10 cd10 ct10), sl10⟩)
    (c10 : PySem.W.codeIn K cd10 "_law_piece" = true)
    (k10 : PySem.W.keepIn K (.ref f10) = true)
    (a11 : PySem.W.nsIn K mainGlobals "check_rule" = some (some (.ref f11)))
    (l11 : K.lookup f11 = some ⟨oc11, od11, .func (PySem.W.fnOf "check_rule" "check_rule" (defArgs s_check_rule) (defBody s_check_rule) (defScope s_check_rule) .none kV11 dc11 pm11 an11 cd11 ct11), sl11⟩)
    (c11 : PySem.W.codeIn K cd11 "check_rule" = true)
    (k11 : PySem.W.keepIn K (.ref f11) = true)
    (a12 : PySem.W.nsIn K mainGlobals "is_number" = some (some (.ref f12)))
    (l12 : K.lookup f12 = some ⟨oc12, od12, .func (PySem.W.fnOf "is_number" "is_number" (defArgs s_is_number) (defBody s_is_number) (defScope s_is_number) .none kV12 dc12 pm12 an12 cd12 ct12), sl12⟩)
    (c12 : PySem.W.codeIn K cd12 "is_number" = true)
    (k12 : PySem.W.keepIn K (.ref f12) = true)
    (l13 : K.lookup f13 = some ⟨oc13, od13, .func (PySem.W.fnOf "__init__" "Room.__init__" (defArgs s_Room_init) (defBody s_Room_init) (defScope s_Room_init) .none kV13 dc13 pm13 an13 cd13 ct13), sl13⟩)
    (c13 : PySem.W.codeIn K cd13 "Room.__init__" = true)
    (k13 : PySem.W.keepIn K (.ref f13) = true)
    (a14 : PySem.W.nsIn K mainGlobals "_law_told" = some (some (.ref f14)))
    (l14 : K.lookup f14 = some ⟨oc14, od14, .func (PySem.W.fnOf "_law_told" "_law_told" (defArgs s__law_told) (defBody s__law_told) (defScope s__law_told) .none kV14 dc14 pm14 an14 cd14 ct14), sl14⟩)
    (c14 : PySem.W.codeIn K cd14 "_law_told" = true)
    (k14 : PySem.W.keepIn K (.ref f14) = true)
    (l15 : K.lookup f15 = some ⟨oc15, od15, .func (PySem.W.fnOf "key" "Keyed.key" (defArgs s_Keyed_key) (defBody s_Keyed_key) (defScope s_Keyed_key) .none kV15 dc15 pm15 an15 cd15 ct15), sl15⟩)
    (c15 : PySem.W.codeIn K cd15 "Keyed.key" = true)
    (k15 : PySem.W.keepIn K (.ref f15) = true)
    (l16 : K.lookup f16 = some ⟨oc16, od16, .func (PySem.W.fnOf "__init__" "Heap.__init__" (defArgs s_Heap_init) (defBody s_Heap_init) (defScope s_Heap_init) .none kV16 dc16 pm16 an16 cd16 ct16), sl16⟩)
    (c16 : PySem.W.codeIn K cd16 "Heap.__init__" = true)
    (k16 : PySem.W.keepIn K (.ref f16) = true)
    (l17 : K.lookup f17 = some ⟨oc17, od17, .func (PySem.W.fnOf "end" "Piece.end" (defArgs s_Piece_end) (defBody s_Piece_end) (defScope s_Piece_end) .none kV17 dc17 pm17 an17 cd17 ct17), sl17⟩)
    (c17 : PySem.W.codeIn K cd17 "Piece.end" = true)
    (k17 : PySem.W.keepIn K (.ref f17) = true)
    (l18 : K.lookup f18 = some ⟨oc18, od18, .func (PySem.W.fnOf "is_strange" "Heap.is_strange" (defArgs s_Heap_is_strange) (defBody s_Heap_is_strange) (defScope s_Heap_is_strange) .none kV18 dc18 pm18 an18 cd18 ct18), sl18⟩)
    (c18 : PySem.W.codeIn K cd18 "Heap.is_strange" = true)
    (k18 : PySem.W.keepIn K (.ref f18) = true)
    (l19 : K.lookup f19 = some ⟨oc19, od19, .func (PySem.W.fnOf "clash" "Heap.clash" (defArgs s_Heap_clash) (defBody s_Heap_clash) (defScope s_Heap_clash) .none kV19 dc19 pm19 an19 cd19 ct19), sl19⟩)
    (c19 : PySem.W.codeIn K cd19 "Heap.clash" = true)
    (k19 : PySem.W.keepIn K (.ref f19) = true)
    (l20 : K.lookup f20 = some ⟨oc20, od20, .func (PySem.W.fnOf "trouble" "Heap.trouble" (defArgs s_Heap_trouble) (defBody s_Heap_trouble) (defScope s_Heap_trouble) .none kV20 dc20 pm20 an20 cd20 ct20), sl20⟩)
    (c20 : PySem.W.codeIn K cd20 "Heap.trouble" = true)
    (k20 : PySem.W.keepIn K (.ref f20) = true)
    (l21 : K.lookup f21 = some ⟨oc21, od21, .func (PySem.W.fnOf "__init__" "Unlike.__init__" (defArgs s_Unlike_init) (defBody s_Unlike_init) (defScope s_Unlike_init) .none kV21 dc21 pm21 an21 cd21 ct21), sl21⟩)
    (c21 : PySem.W.codeIn K cd21 "Unlike.__init__" = true)
    (k21 : PySem.W.keepIn K (.ref f21) = true)
    (a22 : PySem.W.nsIn K mainGlobals "with_span" = some (some (.ref f22)))
    (l22 : K.lookup f22 = some ⟨oc22, od22, .func (PySem.W.fnOf "with_span" "with_span" (defArgs s_with_span) (defBody s_with_span) (defScope s_with_span) .none kV22 dc22 pm22 an22 cd22 ct22), sl22⟩)
    (c22 : PySem.W.codeIn K cd22 "with_span" = true)
    (k22 : PySem.W.keepIn K (.ref f22) = true)
    (l23 : K.lookup f23 = some ⟨oc23, od23, .func (PySem.W.fnOf "cover_with" "Heap.cover_with" (defArgs s_Heap_cover_with) (defBody s_Heap_cover_with) (defScope s_Heap_cover_with) .none kV23 dc23 pm23 an23 cd23 ct23), sl23⟩)
    (c23 : PySem.W.codeIn K cd23 "Heap.cover_with" = true)
    (k23 : PySem.W.keepIn K (.ref f23) = true)
    (l24 : K.lookup f24 = some ⟨oc24, od24, .func (PySem.W.fnOf "take" "Heap.take" (defArgs s_Heap_take) (defBody s_Heap_take) (defScope s_Heap_take) .none kV24 dc24 pm24 an24 cd24 ct24), sl24⟩)
    (c24 : PySem.W.codeIn K cd24 "Heap.take" = true)
    (k24 : PySem.W.keepIn K (.ref f24) = true)
    (a25 : PySem.W.nsIn K mainGlobals "least_end" = some (some (.ref f25)))
    (l25 : K.lookup f25 = some ⟨oc25, od25, .func (PySem.W.fnOf "least_end" "least_end" (defArgs s_least_end) (defBody s_least_end) (defScope s_least_end) .none kV25 dc25 pm25 an25 cd25 ct25), sl25⟩)
    (c25 : PySem.W.codeIn K cd25 "least_end" = true)
    (k25 : PySem.W.keepIn K (.ref f25) = true)
    (a26 : PySem.W.nsIn K mainGlobals "lacking" = some (some (.ref f26)))
    (l26 : K.lookup f26 = some ⟨oc26, od26, .func (PySem.W.fnOf "lacking" "lacking" (defArgs s_lacking) (defBody s_lacking) (defScope s_lacking) .none kV26 dc26 pm26 an26 cd26 ct26), sl26⟩)
    (c26 : PySem.W.codeIn K cd26 "lacking" = true)
    (k26 : PySem.W.keepIn K (.ref f26) = true)
    (l27 : K.lookup f27 = some ⟨oc27, od27, .func (PySem.W.fnOf "lacks_now" "Heap.lacks_now" (defArgs s_Heap_lacks_now) (defBody s_Heap_lacks_now) (defScope s_Heap_lacks_now) .none kV27 dc27 pm27 an27 cd27 ct27), sl27⟩)
    (c27 : PySem.W.codeIn K cd27 "Heap.lacks_now" = true)
    (k27 : PySem.W.keepIn K (.ref f27) = true)
    (l28 : K.lookup f28 = some ⟨oc28, od28, .func (PySem.W.fnOf "__init__" "Whole.__init__" (defArgs s_Whole_init) (defBody s_Whole_init) (defScope s_Whole_init) .none kV28 dc28 pm28 an28 cd28 ct28), sl28⟩)
    (c28 : PySem.W.codeIn K cd28 "Whole.__init__" = true)
    (k28 : PySem.W.keepIn K (.ref f28) = true)
    (l29 : K.lookup f29 = some ⟨oc29, od29, .func (PySem.W.fnOf "all_bytes" "Heap.all_bytes" (defArgs s_Heap_all_bytes) (defBody s_Heap_all_bytes) (defScope s_Heap_all_bytes) .none kV29 dc29 pm29 an29 cd29 ct29), sl29⟩)
    (c29 : PySem.W.codeIn K cd29 "Heap.all_bytes" = true)
    (k29 : PySem.W.keepIn K (.ref f29) = true)
    (l30 : K.lookup f30 = some ⟨oc30, od30, .func (PySem.W.fnOf "__init__" "Lacking.__init__" (defArgs s_Lacking_init) (defBody s_Lacking_init) (defScope s_Lacking_init) .none kV30 dc30 pm30 an30 cd30 ct30), sl30⟩)
    (c30 : PySem.W.codeIn K cd30 "Lacking.__init__" = true)
    (k30 : PySem.W.keepIn K (.ref f30) = true)
    (a31 : PySem.W.nsIn K mainGlobals "judged" = some (some (.ref f31)))
    (l31 : K.lookup f31 = some ⟨oc31, od31, .func (PySem.W.fnOf "judged" "judged" (defArgs s_judged) (defBody s_judged) (defScope s_judged) .none kV31 dc31 pm31 an31 cd31 ct31), sl31⟩)
    (c31 : PySem.W.codeIn K cd31 "judged" = true)
    (k31 : PySem.W.keepIn K (.ref f31) = true)
    (a32 : PySem.W.nsIn K mainGlobals "_law_end" = some (some (.ref f32)))
    (l32 : K.lookup f32 = some ⟨oc32, od32, .func (PySem.W.fnOf "_law_end" "_law_end" (defArgs s__law_end) (defBody s__law_end) (defScope s__law_end) .none kV32 dc32 pm32 an32 cd32 ct32), sl32⟩)
    (c32 : PySem.W.codeIn K cd32 "_law_end" = true)
    (k32 : PySem.W.keepIn K (.ref f32) = true)
    (a33 : PySem.W.nsIn K mainGlobals "_law_strange" = some (some (.ref f33)))
    (l33 : K.lookup f33 = some ⟨oc33, od33, .func (PySem.W.fnOf "_law_strange" "_law_strange" (defArgs s__law_strange) (defBody s__law_strange) (defScope s__law_strange) .none kV33 dc33 pm33 an33 cd33 ct33), sl33⟩)
    (c33 : PySem.W.codeIn K cd33 "_law_strange" = true)
    (k33 : PySem.W.keepIn K (.ref f33) = true)
    (a34 : PySem.W.nsIn K mainGlobals "_law_byte" = some (some (.ref f34)))
    (l34 : K.lookup f34 = some ⟨oc34, od34, .func (PySem.W.fnOf "_law_byte" "_law_byte" (defArgs s__law_byte) (defBody s__law_byte) (defScope s__law_byte) .none kV34 dc34 pm34 an34 cd34 ct34), sl34⟩)
    (c34 : PySem.W.codeIn K cd34 "_law_byte" = true)
    (k34 : PySem.W.keepIn K (.ref f34) = true)
    (a35 : PySem.W.nsIn K mainGlobals "_law_unlike" = some (some (.ref f35)))
    (l35 : K.lookup f35 = some ⟨oc35, od35, .func (PySem.W.fnOf "_law_unlike" "_law_unlike" (defArgs s__law_unlike) (defBody s__law_unlike) (defScope s__law_unlike) .none kV35 dc35 pm35 an35 cd35 ct35), sl35⟩)
    (c35 : PySem.W.codeIn K cd35 "_law_unlike" = true)
    (k35 : PySem.W.keepIn K (.ref f35) = true)
    (a36 : PySem.W.nsIn K mainGlobals "_law_spans" = some (some (.ref f36)))
    (l36 : K.lookup f36 = some ⟨oc36, od36, .func (PySem.W.fnOf "_law_spans" "_law_spans" (defArgs s__law_spans) (defBody s__law_spans) (defScope s__law_spans) .none kV36 dc36 pm36 an36 cd36 ct36), sl36⟩)
    (c36 : PySem.W.codeIn K cd36 "_law_spans" = true)
    (k36 : PySem.W.keepIn K (.ref f36) = true)
    (a37 : PySem.W.nsIn K mainGlobals "_law_one_more" = some (some (.ref f37)))
    (l37 : K.lookup f37 = some ⟨oc37, od37, .func (PySem.W.fnOf "_law_one_more" "_law_one_more" (defArgs s__law_one_more) (defBody s__law_one_more) (defScope s__law_one_more) .none kV37 dc37 pm37 an37 cd37 ct37), sl37⟩)
    (c37 : PySem.W.codeIn K cd37 "_law_one_more" = true)
    (k37 : PySem.W.keepIn K (.ref f37) = true)
    (a38 : PySem.W.nsIn K mainGlobals "_law_due" = some (some (.ref f38)))
    (l38 : K.lookup f38 = some ⟨oc38, od38, .func (PySem.W.fnOf "_law_due" "_law_due" (defArgs s__law_due) (defBody s__law_due) (defScope s__law_due) .none kV38 dc38 pm38 an38 cd38 ct38), sl38⟩)
    (c38 : PySem.W.codeIn K cd38 "_law_due" = true)
    (k38 : PySem.W.keepIn K (.ref f38) = true)
    (l39 : K.lookup f39 = some ⟨oc39, od39, .func (PySem.W.fnOf "let_go" "Room.let_go" (defArgs s_Room_let_go) (defBody s_Room_let_go) (defScope s_Room_let_go) .none kV39 dc39 pm39 an39 cd39 ct39), sl39⟩)
    (c39 : PySem.W.codeIn K cd39 "Room.let_go" = true)
    (k39 : PySem.W.keepIn K (.ref f39) = true)
    (l40 : K.lookup f40 = some ⟨oc40, od40, .func (PySem.W.fnOf "waits_ended" "Room.waits_ended" (defArgs s_Room_waits_ended) (defBody s_Room_waits_ended) (defScope s_Room_waits_ended) .none kV40 dc40 pm40 an40 cd40 ct40), sl40⟩)
    (c40 : PySem.W.codeIn K cd40 "Room.waits_ended" = true)
    (k40 : PySem.W.keepIn K (.ref f40) = true)
    (l41 : K.lookup f41 = some ⟨oc41, od41, .func (PySem.W.fnOf "tick" "Room.tick" (defArgs s_Room_tick) (defBody s_Room_tick) (defScope s_Room_tick) .none kV41 dc41 pm41 an41 cd41 ct41), sl41⟩)
    (c41 : PySem.W.codeIn K cd41 "Room.tick" = true)
    (k41 : PySem.W.keepIn K (.ref f41) = true)
    (l42 : K.lookup f42 = some ⟨oc42, od42, .func (PySem.W.fnOf "would_be_whole" "Heap.would_be_whole" (defArgs s_Heap_would_be_whole) (defBody s_Heap_would_be_whole) (defScope s_Heap_would_be_whole) .none kV42 dc42 pm42 an42 cd42 ct42), sl42⟩)
    (c42 : PySem.W.codeIn K cd42 "Heap.would_be_whole" = true)
    (k42 : PySem.W.keepIn K (.ref f42) = true)
    (l43 : K.lookup f43 = some ⟨oc43, od43, .func (PySem.W.fnOf "__init__" "Letter.__init__" (defArgs s_Letter_init) (defBody s_Letter_init) (defScope s_Letter_init) (.ref t43) kV43 dc43 pm43 an43 cd43 ct43), sl43⟩)
    (c43 : PySem.W.codeIn K cd43 "Letter.__init__" = true)
    (k43 : PySem.W.keepIn K (.ref f43) = true)
    (lt43 : K.lookup t43 = some ⟨toc43, tod43, .seq [.bool false].toArray tn43, tsl43⟩)
    (a44 : PySem.W.nsIn K mainGlobals "size_of" = some (some (.ref f44)))
    (l44 : K.lookup f44 = some ⟨oc44, od44, .func (PySem.W.fnOf "size_of" "size_of" (defArgs s_size_of) (defBody s_size_of) (defScope s_size_of) .none kV44 dc44 pm44 an44 cd44 ct44), sl44⟩)
    (c44 : PySem.W.codeIn K cd44 "size_of" = true)
    (k44 : PySem.W.keepIn K (.ref f44) = true)
    (l45 : K.lookup f45 = some ⟨oc45, od45, .func (PySem.W.fnOf "grown_with" "Heap.grown_with" (defArgs s_Heap_grown_with) (defBody s_Heap_grown_with) (defScope s_Heap_grown_with) .none kV45 dc45 pm45 an45 cd45 ct45), sl45⟩)
    (c45 : PySem.W.codeIn K cd45 "Heap.grown_with" = true)
    (k45 : PySem.W.keepIn K (.ref f45) = true)
    (l46 : K.lookup f46 = some ⟨oc46, od46, .func (PySem.W.fnOf "size" "Heap.size" (defArgs s_Heap_size) (defBody s_Heap_size) (defScope s_Heap_size) .none kV46 dc46 pm46 an46 cd46 ct46), sl46⟩)
    (c46 : PySem.W.codeIn K cd46 "Heap.size" = true)
    (k46 : PySem.W.keepIn K (.ref f46) = true)
    (l47 : K.lookup f47 = some ⟨oc47, od47, .func (PySem.W.fnOf "bytes_kept" "Room.bytes_kept" (defArgs s_Room_bytes_kept) (defBody s_Room_bytes_kept) (defScope s_Room_bytes_kept) .none kV47 dc47 pm47 an47 cd47 ct47), sl47⟩)
    (c47 : PySem.W.codeIn K cd47 "Room.bytes_kept" = true)
    (k47 : PySem.W.keepIn K (.ref f47) = true)
    (l48 : K.lookup f48 = some ⟨oc48, od48, .func (PySem.W.fnOf "first_out" "Room.first_out" (defArgs s_Room_first_out) (defBody s_Room_first_out) (defScope s_Room_first_out) .none kV48 dc48 pm48 an48 cd48 ct48), sl48⟩)
    (c48 : PySem.W.codeIn K cd48 "Room.first_out" = true)
    (k48 : PySem.W.keepIn K (.ref f48) = true)
    (l49 : K.lookup f49 = some ⟨oc49, od49, .func (PySem.W.fnOf "made_room" "Room.made_room" (defArgs s_Room_made_room) (defBody s_Room_made_room) (defScope s_Room_made_room) .none kV49 dc49 pm49 an49 cd49 ct49), sl49⟩)
    (c49 : PySem.W.codeIn K cd49 "Room.made_room" = true)
    (k49 : PySem.W.keepIn K (.ref f49) = true)
    (l50 : K.lookup f50 = some ⟨oc50, od50, .func (PySem.W.fnOf "looked_at" "Room.looked_at" (defArgs s_Room_looked_at) (defBody s_Room_looked_at) (defScope s_Room_looked_at) .none kV50 dc50 pm50 an50 cd50 ct50), sl50⟩)
    (c50 : PySem.W.codeIn K cd50 "Room.looked_at" = true)
    (k50 : PySem.W.keepIn K (.ref f50) = true)
    (l51 : K.lookup f51 = some ⟨oc51, od51, .func (PySem.W.fnOf "come" "Room.come" (defArgs s_Room_come) (defBody s_Room_come) (defScope s_Room_come) .none kV51 dc51 pm51 an51 cd51 ct51), sl51⟩)
    (c51 : PySem.W.codeIn K cd51 "Room.come" = true)
    (k51 : PySem.W.keepIn K (.ref f51) = true)
    (l52 : K.lookup f52 = some ⟨oc52, od52, .func (PySem.W.fnOf "check_key" "Room.check_key" (defArgs s_Room_check_key) (defBody s_Room_check_key) (defScope s_Room_check_key) .none kV52 dc52 pm52 an52 cd52 ct52), sl52⟩)
    (c52 : PySem.W.codeIn K cd52 "Room.check_key" = true)
    (k52 : PySem.W.keepIn K (.ref f52) = true)
    (l53 : K.lookup f53 = some ⟨oc53, od53, .func (PySem.W.fnOf "lacks" "Room.lacks" (defArgs s_Room_lacks) (defBody s_Room_lacks) (defScope s_Room_lacks) .none kV53 dc53 pm53 an53 cd53 ct53), sl53⟩)
    (c53 : PySem.W.codeIn K cd53 "Room.lacks" = true)
    (k53 : PySem.W.keepIn K (.ref f53) = true)
    (l54 : K.lookup f54 = some ⟨oc54, od54, .func (PySem.W.fnOf "kept" "Room.kept" (defArgs s_Room_kept) (defBody s_Room_kept) (defScope s_Room_kept) .none kV54 dc54 pm54 an54 cd54 ct54), sl54⟩)
    (c54 : PySem.W.codeIn K cd54 "Room.kept" = true)
    (k54 : PySem.W.keepIn K (.ref f54) = true)
    (l55 : K.lookup f55 = some ⟨oc55, od55, .func (PySem.W.fnOf "is_like" "Letter.is_like" (defArgs s_Letter_is_like) (defBody s_Letter_is_like) (defScope s_Letter_is_like) .none kV55 dc55 pm55 an55 cd55 ct55), sl55⟩)
    (c55 : PySem.W.codeIn K cd55 "Letter.is_like" = true)
    (k55 : PySem.W.keepIn K (.ref f55) = true)
    (l56 : K.lookup f56 = some ⟨oc56, od56, .func (PySem.W.fnOf "is_like" "Piece.is_like" (defArgs s_Piece_is_like) (defBody s_Piece_is_like) (defScope s_Piece_is_like) .none kV56 dc56 pm56 an56 cd56 ct56), sl56⟩)
    (c56 : PySem.W.codeIn K cd56 "Piece.is_like" = true)
    (k56 : PySem.W.keepIn K (.ref f56) = true)
    (a57 : PySem.W.nsIn K mainGlobals "_law_event" = some (some (.ref f57)))
    (l57 : K.lookup f57 = some ⟨oc57, od57, .func (PySem.W.fnOf "_law_event" "_law_event" (defArgs s__law_event) (defBody s__law_event) (defScope s__law_event) .none kV57 dc57 pm57 an57 cd57 ct57), sl57⟩)
    (c57 : PySem.W.codeIn K cd57 "_law_event" = true)
    (k57 : PySem.W.keepIn K (.ref f57) = true)
    (a58 : PySem.W.nsIn K mainGlobals "law" = some (some (.ref f58)))
    (l58 : K.lookup f58 = some ⟨oc58, od58, .func (PySem.W.fnOf "law" "law" (defArgs s_law) (defBody s_law) (defScope s_law) .none kV58 dc58 pm58 an58 cd58 ct58), sl58⟩)
    (c58 : PySem.W.codeIn K cd58 "law" = true)
    (k58 : PySem.W.keepIn K (.ref f58) = true)
    (kc11 : PySem.W.isClsIn K C_Letter = true)
    (ky11 : PySem.W.typeIn K (.ref C_Letter) = some (.type "type"))
    (ks11 : PySem.W.subIn K (.ref C_Letter) (.ref C_Letter) = some true)
    (kc12 : PySem.W.isClsIn K C_Piece = true)
    (ky12 : PySem.W.typeIn K (.ref C_Piece) = some (.type "type"))
    (ks12 : PySem.W.subIn K (.ref C_Piece) (.ref C_Piece) = some true)
    (kc14 : PySem.W.isClsIn K C_Whole = true)
    (ky14 : PySem.W.typeIn K (.ref C_Whole) = some (.type "type"))
    (ks14 : PySem.W.subIn K (.ref C_Whole) (.ref C_Whole) = some true)
    (kc15 : PySem.W.isClsIn K C_Lacking = true)
    (ky15 : PySem.W.typeIn K (.ref C_Lacking) = some (.type "type"))
    (ks15 : PySem.W.subIn K (.ref C_Lacking) (.ref C_Lacking) = some true)
    (kc16 : PySem.W.isClsIn K C_Unlike = true)
    (ky16 : PySem.W.typeIn K (.ref C_Unlike) = some (.type "type"))
    (ks16 : PySem.W.subIn K (.ref C_Unlike) (.ref C_Unlike) = some true)
    (kt0 : PySem.W.subIn K (.type "NoneType") (.ref C_Lacking) = some false)
    (kt1 : PySem.W.subIn K (.type "bool") (.ref C_Lacking) = some false)
    (kt2 : PySem.W.subIn K (.type "int") (.ref C_Lacking) = some false)
    (kt3 : PySem.W.subIn K (.type "str") (.ref C_Lacking) = some false)
    (kt4 : PySem.W.subIn K (.type "list") (.ref C_Lacking) = some false)
    (kt5 : PySem.W.subIn K (.type "tuple") (.ref C_Lacking) = some false)
    (kt6 : PySem.W.subIn K (.type "dict") (.ref C_Lacking) = some false)
    (kt7 : PySem.W.subIn K (.ref C_Keyed) (.ref C_Lacking) = some false)
    (kt8 : PySem.W.subIn K (.ref C_Letter) (.ref C_Lacking) = some false)
    (kt9 : PySem.W.subIn K (.ref C_Piece) (.ref C_Lacking) = some false)
    (kt10 : PySem.W.subIn K (.ref C_Answer) (.ref C_Lacking) = some false)
    (kt11 : PySem.W.subIn K (.ref C_Whole) (.ref C_Lacking) = some false)
    (kt12 : PySem.W.subIn K (.ref C_Lacking) (.ref C_Lacking) = some true)
    (kt13 : PySem.W.subIn K (.ref C_Unlike) (.ref C_Lacking) = some false)
    (kt14 : PySem.W.subIn K (.ref C_Heap) (.ref C_Lacking) = some false)
    (kt15 : PySem.W.subIn K (.ref C_Room) (.ref C_Lacking) = some false)
    (kt16 : PySem.W.subIn K (.type "NoneType") (.ref C_Letter) = some false)
    (kt17 : PySem.W.subIn K (.type "bool") (.ref C_Letter) = some false)
    (kt18 : PySem.W.subIn K (.type "int") (.ref C_Letter) = some false)
    (kt19 : PySem.W.subIn K (.type "str") (.ref C_Letter) = some false)
    (kt20 : PySem.W.subIn K (.type "list") (.ref C_Letter) = some false)
    (kt21 : PySem.W.subIn K (.type "tuple") (.ref C_Letter) = some false)
    (kt22 : PySem.W.subIn K (.type "dict") (.ref C_Letter) = some false)
    (kt23 : PySem.W.subIn K (.ref C_Keyed) (.ref C_Letter) = some false)
    (kt24 : PySem.W.subIn K (.ref C_Letter) (.ref C_Letter) = some true)
    (kt25 : PySem.W.subIn K (.ref C_Piece) (.ref C_Letter) = some false)
    (kt26 : PySem.W.subIn K (.ref C_Answer) (.ref C_Letter) = some false)
    (kt27 : PySem.W.subIn K (.ref C_Whole) (.ref C_Letter) = some false)
    (kt28 : PySem.W.subIn K (.ref C_Lacking) (.ref C_Letter) = some false)
    (kt29 : PySem.W.subIn K (.ref C_Unlike) (.ref C_Letter) = some false)
    (kt30 : PySem.W.subIn K (.ref C_Heap) (.ref C_Letter) = some false)
    (kt31 : PySem.W.subIn K (.ref C_Room) (.ref C_Letter) = some false)
    (kt32 : PySem.W.subIn K (.type "NoneType") (.ref C_Piece) = some false)
    (kt33 : PySem.W.subIn K (.type "bool") (.ref C_Piece) = some false)
    (kt34 : PySem.W.subIn K (.type "int") (.ref C_Piece) = some false)
    (kt35 : PySem.W.subIn K (.type "str") (.ref C_Piece) = some false)
    (kt36 : PySem.W.subIn K (.type "list") (.ref C_Piece) = some false)
    (kt37 : PySem.W.subIn K (.type "tuple") (.ref C_Piece) = some false)
    (kt38 : PySem.W.subIn K (.type "dict") (.ref C_Piece) = some false)
    (kt39 : PySem.W.subIn K (.ref C_Keyed) (.ref C_Piece) = some false)
    (kt40 : PySem.W.subIn K (.ref C_Letter) (.ref C_Piece) = some false)
    (kt41 : PySem.W.subIn K (.ref C_Piece) (.ref C_Piece) = some true)
    (kt42 : PySem.W.subIn K (.ref C_Answer) (.ref C_Piece) = some false)
    (kt43 : PySem.W.subIn K (.ref C_Whole) (.ref C_Piece) = some false)
    (kt44 : PySem.W.subIn K (.ref C_Lacking) (.ref C_Piece) = some false)
    (kt45 : PySem.W.subIn K (.ref C_Unlike) (.ref C_Piece) = some false)
    (kt46 : PySem.W.subIn K (.ref C_Heap) (.ref C_Piece) = some false)
    (kt47 : PySem.W.subIn K (.ref C_Room) (.ref C_Piece) = some false)
    (kt48 : PySem.W.subIn K (.type "NoneType") (.ref C_Unlike) = some false)
    (kt49 : PySem.W.subIn K (.type "bool") (.ref C_Unlike) = some false)
    (kt50 : PySem.W.subIn K (.type "int") (.ref C_Unlike) = some false)
    (kt51 : PySem.W.subIn K (.type "str") (.ref C_Unlike) = some false)
    (kt52 : PySem.W.subIn K (.type "list") (.ref C_Unlike) = some false)
    (kt53 : PySem.W.subIn K (.type "tuple") (.ref C_Unlike) = some false)
    (kt54 : PySem.W.subIn K (.type "dict") (.ref C_Unlike) = some false)
    (kt55 : PySem.W.subIn K (.ref C_Keyed) (.ref C_Unlike) = some false)
    (kt56 : PySem.W.subIn K (.ref C_Letter) (.ref C_Unlike) = some false)
    (kt57 : PySem.W.subIn K (.ref C_Piece) (.ref C_Unlike) = some false)
    (kt58 : PySem.W.subIn K (.ref C_Answer) (.ref C_Unlike) = some false)
    (kt59 : PySem.W.subIn K (.ref C_Whole) (.ref C_Unlike) = some false)
    (kt60 : PySem.W.subIn K (.ref C_Lacking) (.ref C_Unlike) = some false)
    (kt61 : PySem.W.subIn K (.ref C_Unlike) (.ref C_Unlike) = some true)
    (kt62 : PySem.W.subIn K (.ref C_Heap) (.ref C_Unlike) = some false)
    (kt63 : PySem.W.subIn K (.ref C_Room) (.ref C_Unlike) = some false)
    (kt64 : PySem.W.subIn K (.type "NoneType") (.ref C_Whole) = some false)
    (kt65 : PySem.W.subIn K (.type "bool") (.ref C_Whole) = some false)
    (kt66 : PySem.W.subIn K (.type "int") (.ref C_Whole) = some false)
    (kt67 : PySem.W.subIn K (.type "str") (.ref C_Whole) = some false)
    (kt68 : PySem.W.subIn K (.type "list") (.ref C_Whole) = some false)
    (kt69 : PySem.W.subIn K (.type "tuple") (.ref C_Whole) = some false)
    (kt70 : PySem.W.subIn K (.type "dict") (.ref C_Whole) = some false)
    (kt71 : PySem.W.subIn K (.ref C_Keyed) (.ref C_Whole) = some false)
    (kt72 : PySem.W.subIn K (.ref C_Letter) (.ref C_Whole) = some false)
    (kt73 : PySem.W.subIn K (.ref C_Piece) (.ref C_Whole) = some false)
    (kt74 : PySem.W.subIn K (.ref C_Answer) (.ref C_Whole) = some false)
    (kt75 : PySem.W.subIn K (.ref C_Whole) (.ref C_Whole) = some true)
    (kt76 : PySem.W.subIn K (.ref C_Lacking) (.ref C_Whole) = some false)
    (kt77 : PySem.W.subIn K (.ref C_Unlike) (.ref C_Whole) = some false)
    (kt78 : PySem.W.subIn K (.ref C_Heap) (.ref C_Whole) = some false)
    (kt79 : PySem.W.subIn K (.ref C_Room) (.ref C_Whole) = some false)
    (q_LETTERS : PySem.W.nsIn K mainGlobals "LETTERS" = some (some (.str "abcdefghijklmnopqrstuvwxyz" tk_LETTERS)))
    (q_MOST_BYTES : PySem.W.nsIn K mainGlobals "MOST_BYTES" = some (some (.int 4000 tk_MOST_BYTES)))
    (q_RULES : PySem.W.nsIn K mainGlobals "RULES" = some (some (.ref ak_RULES)))
    (lk_RULES : K.lookup ak_RULES = some ⟨.type "tuple", okd_RULES, .seq [.str "first" tk_RULES_0, .str "last" tk_RULES_1, .str "refuse" tk_RULES_2].toArray okn_RULES, oks_RULES⟩)
    (b_all : PySem.W.nsIn K mainGlobals "all" = some none)
    (b_bool : PySem.W.nsIn K mainGlobals "bool" = some none)
    (b_int : PySem.W.nsIn K mainGlobals "int" = some none)
    (b_isinstance : PySem.W.nsIn K mainGlobals "isinstance" = some none)
    (b_len : PySem.W.nsIn K mainGlobals "len" = some none)
    (b_list : PySem.W.nsIn K mainGlobals "list" = some none)
    (b_max : PySem.W.nsIn K mainGlobals "max" = some none)
    (b_min : PySem.W.nsIn K mainGlobals "min" = some none)
    (b_range : PySem.W.nsIn K mainGlobals "range" = some none)
    (b_sorted : PySem.W.nsIn K mainGlobals "sorted" = some none)
    (b_str : PySem.W.nsIn K mainGlobals "str" = some none)
    (b_sum : PySem.W.nsIn K mainGlobals "sum" = some none)
    (b_tuple : PySem.W.nsIn K mainGlobals "tuple" = some none)
    : ∃ fd : FuncData, (∀ (s : Shared) (v : Value), BindsTo s fd ⟨[v], []⟩ [("_law_script", v)]) ∧ ∀ base : Heap, K.In base → base.Ns mainGlobals mg → FnOk l.prog w K mg base (L2.CX l.prog w) 9 fa fd ["_law_script"] (spLaw K) := by
  have e := hfa.symm.trans (PySem.W.mg_of X G a58)
  cases e
  have na : ∀ c k, c < T0.ncl → k ∈ T0.fl c → NoAttr K ((fun | 0 => C_Keyed | 1 => C_Letter | 2 => C_Piece | 3 => C_Answer | 4 => C_Whole | 5 => C_Lacking | 6 => C_Unlike | 7 => C_Heap | 8 => C_Room | 10 => C_NoLetter | 11 => C_NoPiece | 12 => C_NoRule | 13 => C_NoTime | 14 => C_NoKey | _ => 0 : Nat → Addr) c) (T0.nm k) := fun c k h m => by
    match c, h, m with
    | 0, _, m =>
      simp [T0] at m
      rcases m with rfl | rfl | rfl | rfl | rfl
      · exact n_Keyed_number
      · exact n_Keyed_sender
      · exact n_Keyed_goal
      · exact n_Keyed_body
      · exact n_Keyed_keep
    | 1, _, m =>
      simp [T0] at m
      rcases m with rfl | rfl | rfl | rfl | rfl
      · exact n_Letter_number
      · exact n_Letter_sender
      · exact n_Letter_goal
      · exact n_Letter_body
      · exact n_Letter_keep
    | 2, _, m =>
      simp [T0] at m
      rcases m with rfl | rfl | rfl | rfl | rfl | rfl | rfl
      · exact n_Piece_number
      · exact n_Piece_sender
      · exact n_Piece_goal
      · exact n_Piece_body
      · exact n_Piece_keep
      · exact n_Piece_at
      · exact n_Piece_more
    | 3, _, m =>
      simp [T0] at m
    | 4, _, m =>
      simp [T0] at m
      subst m; exact n_Whole_body
    | 5, _, m =>
      simp [T0] at m
      subst m; exact n_Lacking_spans
    | 6, _, m =>
      simp [T0] at m
      subst m; exact n_Unlike_at
    | 7, _, m =>
      simp [T0] at m
      rcases m with rfl | rfl | rfl | rfl | rfl
      · exact n_Heap_rule
      · exact n_Heap_byte_at
      · exact n_Heap_cover
      · exact n_Heap_last_end
      · exact n_Heap_most
    | 8, _, m =>
      simp [T0] at m
      rcases m with rfl | rfl | rfl | rfl | rfl | rfl | rfl | rfl | rfl
      · exact n_Room_rule
      · exact n_Room_wait
      · exact n_Room_space
      · exact n_Room_out
      · exact n_Room_again
      · exact n_Room_now
      · exact n_Room_heaps
      · exact n_Room_begun
      · exact n_Room_whole_at
  have T : ∀ base : Heap, (∀ p ∈ ([] : List (Addr × Addr × Str)), LamX.TabB base mg p.1 p.2.1) → Txt K mg base (fun | 0 => C_Keyed | 1 => C_Letter | 2 => C_Piece | 3 => C_Answer | 4 => C_Whole | 5 => C_Lacking | 6 => C_Unlike | 7 => C_Heap | 8 => C_Room | 10 => C_NoLetter | 11 => C_NoPiece | 12 => C_NoRule | 13 => C_NoTime | 14 => C_NoKey | _ => 0) (fun c _ a => ExcV a (.ref ((fun | 0 => C_Keyed | 1 => C_Letter | 2 => C_Piece | 3 => C_Answer | 4 => C_Whole | 5 => C_Lacking | 6 => C_Unlike | 7 => C_Heap | 8 => C_Room | 10 => C_NoLetter | 11 => C_NoPiece | 12 => C_NoRule | 13 => C_NoTime | 14 => C_NoKey | _ => 0 : Nat → Addr) c)) none) [] := fun base hTB => {
    cf := ⟨fun c h => match c, h with | 0, _ => ⟨⟨pg_Keyed, hd_Keyed, po_Keyed, sa_Keyed⟩, ha_Keyed, hn, ht, hm_Keyed⟩ | 1, _ => ⟨⟨pg_Letter, hd_Letter, po_Letter, sa_Letter⟩, ha_Letter, hn, ht, hm_Letter⟩ | 2, _ => ⟨⟨pg_Piece, hd_Piece, po_Piece, sa_Piece⟩, ha_Piece, hn, ht, hm_Piece⟩ | 3, _ => ⟨⟨pg_Answer, hd_Answer, po_Answer, sa_Answer⟩, ha_Answer, hn, ht, hm_Answer⟩ | 4, _ => ⟨⟨pg_Whole, hd_Whole, po_Whole, sa_Whole⟩, ha_Whole, hn, ht, hm_Whole⟩ | 5, _ => ⟨⟨pg_Lacking, hd_Lacking, po_Lacking, sa_Lacking⟩, ha_Lacking, hn, ht, hm_Lacking⟩ | 6, _ => ⟨⟨pg_Unlike, hd_Unlike, po_Unlike, sa_Unlike⟩, ha_Unlike, hn, ht, hm_Unlike⟩ | 7, _ => ⟨⟨pg_Heap, hd_Heap, po_Heap, sa_Heap⟩, ha_Heap, hn, ht, hm_Heap⟩ | 8, _ => ⟨⟨pg_Room, hd_Room, po_Room, sa_Room⟩, ha_Room, hn, ht, hm_Room⟩, na, fun c h => match c, h with | 0, _ => by show ((T0.fl 0).map T0.nm).Nodup; decide | 1, _ => by show ((T0.fl 1).map T0.nm).Nodup; decide | 2, _ => by show ((T0.fl 2).map T0.nm).Nodup; decide | 3, _ => by show ((T0.fl 3).map T0.nm).Nodup; decide | 4, _ => by show ((T0.fl 4).map T0.nm).Nodup; decide | 5, _ => by show ((T0.fl 5).map T0.nm).Nodup; decide | 6, _ => by show ((T0.fl 6).map T0.nm).Nodup; decide | 7, _ => by show ((T0.fl 7).map T0.nm).Nodup; decide | 8, _ => by show ((T0.fl 8).map T0.nm).Nodup; decide, fun c h => match c, h with | 0, _ => by show (T0.fl 0).length < 900; decide | 1, _ => by show (T0.fl 1).length < 900; decide | 2, _ => by show (T0.fl 2).length < 900; decide | 3, _ => by show (T0.fl 3).length < 900; decide | 4, _ => by show (T0.fl 4).length < 900; decide | 5, _ => by show (T0.fl 5).length < 900; decide | 6, _ => by show (T0.fl 6).length < 900; decide | 7, _ => by show (T0.fl 7).length < 900; decide | 8, _ => by show (T0.fl 8).length < 900; decide⟩
    kf := ⟨kit_own kc15 ky15 ks15 kt0, ⟨kit_own kc15 ky15 ks15 kt1, ⟨kit_own kc15 ky15 ks15 kt2, ⟨kit_own kc15 ky15 ks15 kt3, ⟨kit_own kc15 ky15 ks15 kt4, ⟨kit_own kc15 ky15 ks15 kt5, ⟨kit_own kc15 ky15 ks15 kt6, ⟨kit_own kc15 ky15 ks15 kt7, ⟨kit_own kc15 ky15 ks15 kt8, ⟨kit_own kc15 ky15 ks15 kt9, ⟨kit_own kc15 ky15 ks15 kt10, ⟨kit_own kc15 ky15 ks15 kt11, ⟨kit_own kc15 ky15 ks15 kt12, ⟨kit_own kc15 ky15 ks15 kt13, ⟨kit_own kc15 ky15 ks15 kt14, ⟨kit_own kc15 ky15 ks15 kt15, ⟨kit_own kc11 ky11 ks11 kt16, ⟨kit_own kc11 ky11 ks11 kt17, ⟨kit_own kc11 ky11 ks11 kt18, ⟨kit_own kc11 ky11 ks11 kt19, ⟨kit_own kc11 ky11 ks11 kt20, ⟨kit_own kc11 ky11 ks11 kt21, ⟨kit_own kc11 ky11 ks11 kt22, ⟨kit_own kc11 ky11 ks11 kt23, ⟨kit_own kc11 ky11 ks11 kt24, ⟨kit_own kc11 ky11 ks11 kt25, ⟨kit_own kc11 ky11 ks11 kt26, ⟨kit_own kc11 ky11 ks11 kt27, ⟨kit_own kc11 ky11 ks11 kt28, ⟨kit_own kc11 ky11 ks11 kt29, ⟨kit_own kc11 ky11 ks11 kt30, ⟨kit_own kc11 ky11 ks11 kt31, ⟨kit_own kc12 ky12 ks12 kt32, ⟨kit_own kc12 ky12 ks12 kt33, ⟨kit_own kc12 ky12 ks12 kt34, ⟨kit_own kc12 ky12 ks12 kt35, ⟨kit_own kc12 ky12 ks12 kt36, ⟨kit_own kc12 ky12 ks12 kt37, ⟨kit_own kc12 ky12 ks12 kt38, ⟨kit_own kc12 ky12 ks12 kt39, ⟨kit_own kc12 ky12 ks12 kt40, ⟨kit_own kc12 ky12 ks12 kt41, ⟨kit_own kc12 ky12 ks12 kt42, ⟨kit_own kc12 ky12 ks12 kt43, ⟨kit_own kc12 ky12 ks12 kt44, ⟨kit_own kc12 ky12 ks12 kt45, ⟨kit_own kc12 ky12 ks12 kt46, ⟨kit_own kc12 ky12 ks12 kt47, ⟨kit_own kc16 ky16 ks16 kt48, ⟨kit_own kc16 ky16 ks16 kt49, ⟨kit_own kc16 ky16 ks16 kt50, ⟨kit_own kc16 ky16 ks16 kt51, ⟨kit_own kc16 ky16 ks16 kt52, ⟨kit_own kc16 ky16 ks16 kt53, ⟨kit_own kc16 ky16 ks16 kt54, ⟨kit_own kc16 ky16 ks16 kt55, ⟨kit_own kc16 ky16 ks16 kt56, ⟨kit_own kc16 ky16 ks16 kt57, ⟨kit_own kc16 ky16 ks16 kt58, ⟨kit_own kc16 ky16 ks16 kt59, ⟨kit_own kc16 ky16 ks16 kt60, ⟨kit_own kc16 ky16 ks16 kt61, ⟨kit_own kc16 ky16 ks16 kt62, ⟨kit_own kc16 ky16 ks16 kt63, ⟨kit_own kc14 ky14 ks14 kt64, ⟨kit_own kc14 ky14 ks14 kt65, ⟨kit_own kc14 ky14 ks14 kt66, ⟨kit_own kc14 ky14 ks14 kt67, ⟨kit_own kc14 ky14 ks14 kt68, ⟨kit_own kc14 ky14 ks14 kt69, ⟨kit_own kc14 ky14 ks14 kt70, ⟨kit_own kc14 ky14 ks14 kt71, ⟨kit_own kc14 ky14 ks14 kt72, ⟨kit_own kc14 ky14 ks14 kt73, ⟨kit_own kc14 ky14 ks14 kt74, ⟨kit_own kc14 ky14 ks14 kt75, ⟨kit_own kc14 ky14 ks14 kt76, ⟨kit_own kc14 ky14 ks14 kt77, ⟨kit_own kc14 ky14 ks14 kt78, ⟨kit_own kc14 ky14 ks14 kt79, trivial⟩⟩⟩⟩⟩⟩⟩⟩⟩⟩⟩⟩⟩⟩⟩⟩⟩⟩⟩⟩⟩⟩⟩⟩⟩⟩⟩⟩⟩⟩⟩⟩⟩⟩⟩⟩⟩⟩⟩⟩⟩⟩⟩⟩⟩⟩⟩⟩⟩⟩⟩⟩⟩⟩⟩⟩⟩⟩⟩⟩⟩⟩⟩⟩⟩⟩⟩⟩⟩⟩⟩⟩⟩⟩⟩⟩⟩⟩⟩⟩
    ef := ⟨fun c hc => by
      simp only [exs, List.mem_cons, List.not_mem_nil, or_false] at hc
      rcases hc with rfl | rfl | rfl | rfl | rfl
      · exact ⟨xg_NoLetter, xr_NoLetter, xb_NoLetter, xd_NoLetter, xa_NoLetter, hn, ht, xm_NoLetter⟩
      · exact ⟨xg_NoPiece, xr_NoPiece, xb_NoPiece, xd_NoPiece, xa_NoPiece, hn, ht, xm_NoPiece⟩
      · exact ⟨xg_NoRule, xr_NoRule, xb_NoRule, xd_NoRule, xa_NoRule, hn, ht, xm_NoRule⟩
      · exact ⟨xg_NoTime, xr_NoTime, xb_NoTime, xd_NoTime, xa_NoTime, hn, ht, xm_NoTime⟩
      · exact ⟨xg_NoKey, xr_NoKey, xb_NoKey, xd_NoKey, xa_NoKey, hn, ht, xm_NoKey⟩
      , fun _ _ _ _ => rfl⟩
    sf := trivial
    ra_NoKey := ⟨xe_NoKey, xk_NoKey, xb_NoKey, xt_NoKey⟩
    ra_NoLetter := ⟨xe_NoLetter, xk_NoLetter, xb_NoLetter, xt_NoLetter⟩
    ra_NoPiece := ⟨xe_NoPiece, xk_NoPiece, xb_NoPiece, xt_NoPiece⟩
    ra_NoRule := ⟨xe_NoRule, xk_NoRule, xb_NoRule, xt_NoRule⟩
    ra_NoTime := ⟨xe_NoTime, xk_NoTime, xb_NoTime, xt_NoTime⟩
    d__law_digit := ⟨_, _, fun_mk l1 c1 k1, PySem.W.mg_of X G a1⟩
    d_is_whole := ⟨_, _, fun_mk l2 c2 k2, PySem.W.mg_of X G a2⟩
    d_is_within := ⟨_, _, fun_mk l3 c3 k3, PySem.W.mg_of X G a3⟩
    d_is_name := ⟨_, _, fun_mk l4 c4 k4, PySem.W.mg_of X G a4⟩
    d_is_key := ⟨_, _, fun_mk l5 c5 k5, PySem.W.mg_of X G a5⟩
    d_is_body := ⟨_, _, fun_mk l6 c6 k6, PySem.W.mg_of X G a6⟩
    d_is_placed := ⟨_, _, fun_mk l7 c7 k7, PySem.W.mg_of X G a7⟩
    d__law_piece := ⟨_, _, fun_mk l10 c10 k10, PySem.W.mg_of X G a10⟩
    d_check_rule := ⟨_, _, fun_mk l11 c11 k11, PySem.W.mg_of X G a11⟩
    d_is_number := ⟨_, _, fun_mk l12 c12 k12, PySem.W.mg_of X G a12⟩
    d__law_told := ⟨_, _, fun_mk l14 c14 k14, PySem.W.mg_of X G a14⟩
    d_with_span := ⟨_, _, fun_mk l22 c22 k22, PySem.W.mg_of X G a22⟩
    d_least_end := ⟨_, _, fun_mk l25 c25 k25, PySem.W.mg_of X G a25⟩
    d_lacking := ⟨_, _, fun_mk l26 c26 k26, PySem.W.mg_of X G a26⟩
    d_judged := ⟨_, _, fun_mk l31 c31 k31, PySem.W.mg_of X G a31⟩
    d__law_end := ⟨_, _, fun_mk l32 c32 k32, PySem.W.mg_of X G a32⟩
    d__law_strange := ⟨_, _, fun_mk l33 c33 k33, PySem.W.mg_of X G a33⟩
    d__law_byte := ⟨_, _, fun_mk l34 c34 k34, PySem.W.mg_of X G a34⟩
    d__law_unlike := ⟨_, _, fun_mk l35 c35 k35, PySem.W.mg_of X G a35⟩
    d__law_spans := ⟨_, _, fun_mk l36 c36 k36, PySem.W.mg_of X G a36⟩
    d__law_one_more := ⟨_, _, fun_mk l37 c37 k37, PySem.W.mg_of X G a37⟩
    d__law_due := ⟨_, _, fun_mk l38 c38 k38, PySem.W.mg_of X G a38⟩
    d_size_of := ⟨_, _, fun_mk l44 c44 k44, PySem.W.mg_of X G a44⟩
    d__law_event := ⟨_, _, fun_mk l57 c57 k57, PySem.W.mg_of X G a57⟩
    d_law := ⟨_, _, fun_mk l58 c58 k58, PySem.W.mg_of X G a58⟩
    i_Heap := ⟨_, _, fun_mk l16 c16 k16, PySem.W.mg_of X G x_Heap, ⟨mk_Heap, in_Heap, if_Heap, kc_Heap⟩⟩
    i_Lacking := ⟨_, _, fun_mk l30 c30 k30, PySem.W.mg_of X G x_Lacking, ⟨mk_Lacking, in_Lacking, if_Lacking, kc_Lacking⟩⟩
    i_Letter := ⟨_, _, fund_mk l43 c43 k43 lt43 (.cons rfl (.nil)) (by simp), PySem.W.mg_of X G x_Letter, ⟨mk_Letter, in_Letter, if_Letter, kc_Letter⟩⟩
    i_Piece := ⟨_, _, fund_mk l9 c9 k9 lt9 (.cons rfl (.nil)) (by simp), PySem.W.mg_of X G x_Piece, ⟨mk_Piece, in_Piece, if_Piece, kc_Piece⟩⟩
    i_Room := ⟨_, _, fun_mk l13 c13 k13, PySem.W.mg_of X G x_Room, ⟨mk_Room, in_Room, if_Room, kc_Room⟩⟩
    i_Unlike := ⟨_, _, fun_mk l21 c21 k21, PySem.W.mg_of X G x_Unlike, ⟨mk_Unlike, in_Unlike, if_Unlike, kc_Unlike⟩⟩
    i_Whole := ⟨_, _, fun_mk l28 c28 k28, PySem.W.mg_of X G x_Whole, ⟨mk_Whole, in_Whole, if_Whole, kc_Whole⟩⟩
    x_Keyed_init := ⟨_, _, fun_mk l8 c8 k8, PySem.W.mg_of X G x_Keyed, rd_Keyed, fc_Keyed_init, k8⟩
    m_Heap_all_bytes := ⟨_, _, fun_mk l29 c29 k29, ⟨ma_Heap_all_bytes, mf_Heap_all_bytes, k29⟩⟩
    m_Room_bytes_kept := ⟨_, _, fun_mk l47 c47 k47, ⟨ma_Room_bytes_kept, mf_Room_bytes_kept, k47⟩⟩
    m_Room_check_key := ⟨_, _, fun_mk l52 c52 k52, ⟨ma_Room_check_key, mf_Room_check_key, k52⟩⟩
    m_Heap_clash := ⟨_, _, fun_mk l19 c19 k19, ⟨ma_Heap_clash, mf_Heap_clash, k19⟩⟩
    m_Room_come := ⟨_, _, fun_mk l51 c51 k51, ⟨ma_Room_come, mf_Room_come, k51⟩⟩
    m_Heap_cover_with := ⟨_, _, fun_mk l23 c23 k23, ⟨ma_Heap_cover_with, mf_Heap_cover_with, k23⟩⟩
    m_Piece_end := ⟨_, _, fun_mk l17 c17 k17, ⟨ma_Piece_end, mf_Piece_end, k17⟩⟩
    m_Room_first_out := ⟨_, _, fun_mk l48 c48 k48, ⟨ma_Room_first_out, mf_Room_first_out, k48⟩⟩
    m_Heap_grown_with := ⟨_, _, fun_mk l45 c45 k45, ⟨ma_Heap_grown_with, mf_Heap_grown_with, k45⟩⟩
    m_Letter_is_like := ⟨_, _, fun_mk l55 c55 k55, ⟨ma_Letter_is_like, mf_Letter_is_like, k55⟩⟩
    m_Piece_is_like := ⟨_, _, fun_mk l56 c56 k56, ⟨ma_Piece_is_like, mf_Piece_is_like, k56⟩⟩
    m_Heap_is_strange := ⟨_, _, fun_mk l18 c18 k18, ⟨ma_Heap_is_strange, mf_Heap_is_strange, k18⟩⟩
    m_Room_kept := ⟨_, _, fun_mk l54 c54 k54, ⟨ma_Room_kept, mf_Room_kept, k54⟩⟩
    m_Keyed_key := ⟨_, _, fun_mk l15 c15 k15, ⟨ma_Keyed_key, mf_Keyed_key, k15⟩⟩
    m_Letter_key := ⟨_, _, fun_mk l15 c15 k15, ⟨ma_Letter_key, mf_Letter_key, k15⟩⟩
    m_Piece_key := ⟨_, _, fun_mk l15 c15 k15, ⟨ma_Piece_key, mf_Piece_key, k15⟩⟩
    m_Room_lacks := ⟨_, _, fun_mk l53 c53 k53, ⟨ma_Room_lacks, mf_Room_lacks, k53⟩⟩
    m_Heap_lacks_now := ⟨_, _, fun_mk l27 c27 k27, ⟨ma_Heap_lacks_now, mf_Heap_lacks_now, k27⟩⟩
    m_Room_let_go := ⟨_, _, fun_mk l39 c39 k39, ⟨ma_Room_let_go, mf_Room_let_go, k39⟩⟩
    m_Room_looked_at := ⟨_, _, fun_mk l50 c50 k50, ⟨ma_Room_looked_at, mf_Room_looked_at, k50⟩⟩
    m_Room_made_room := ⟨_, _, fun_mk l49 c49 k49, ⟨ma_Room_made_room, mf_Room_made_room, k49⟩⟩
    m_Heap_size := ⟨_, _, fun_mk l46 c46 k46, ⟨ma_Heap_size, mf_Heap_size, k46⟩⟩
    m_Heap_take := ⟨_, _, fun_mk l24 c24 k24, ⟨ma_Heap_take, mf_Heap_take, k24⟩⟩
    m_Room_tick := ⟨_, _, fun_mk l41 c41 k41, ⟨ma_Room_tick, mf_Room_tick, k41⟩⟩
    m_Heap_trouble := ⟨_, _, fun_mk l20 c20 k20, ⟨ma_Heap_trouble, mf_Heap_trouble, k20⟩⟩
    m_Room_waits_ended := ⟨_, _, fun_mk l40 c40 k40, ⟨ma_Room_waits_ended, mf_Room_waits_ended, k40⟩⟩
    m_Heap_would_be_whole := ⟨_, _, fun_mk l42 c42 k42, ⟨ma_Heap_would_be_whole, mf_Heap_would_be_whole, k42⟩⟩
    mc_Lacking := PySem.W.mg_of X G x_Lacking
    mc_Letter := PySem.W.mg_of X G x_Letter
    mc_NoKey := PySem.W.mg_of X G x_NoKey
    mc_NoLetter := PySem.W.mg_of X G x_NoLetter
    mc_NoPiece := PySem.W.mg_of X G x_NoPiece
    mc_NoRule := PySem.W.mg_of X G x_NoRule
    mc_NoTime := PySem.W.mg_of X G x_NoTime
    mc_Piece := PySem.W.mg_of X G x_Piece
    mc_Unlike := PySem.W.mg_of X G x_Unlike
    mc_Whole := PySem.W.mg_of X G x_Whole
    k_LETTERS := ⟨_, PySem.W.mg_of X G q_LETTERS, ⟨_, rfl⟩⟩
    k_MOST_BYTES := ⟨_, PySem.W.mg_of X G q_MOST_BYTES, ⟨_, rfl⟩⟩
    k_RULES := ⟨ak_RULES, PySem.W.mg_of X G q_RULES, fun H => .inr ⟨_, _, _, lk_RULES, rfl, rfl, by show (3 : Nat) ≤ _; decide +kernel, .cons ⟨_, rfl⟩ (.cons ⟨_, rfl⟩ (.cons ⟨_, rfl⟩ (.nil)))⟩⟩
    b_all := PySem.W.mg_none_of X G b_all
    b_bool := PySem.W.mg_none_of X G b_bool
    b_int := PySem.W.mg_none_of X G b_int
    b_isinstance := PySem.W.mg_none_of X G b_isinstance
    b_len := PySem.W.mg_none_of X G b_len
    b_list := PySem.W.mg_none_of X G b_list
    b_max := PySem.W.mg_none_of X G b_max
    b_min := PySem.W.mg_none_of X G b_min
    b_range := PySem.W.mg_none_of X G b_range
    b_sorted := PySem.W.mg_none_of X G b_sorted
    b_str := PySem.W.mg_none_of X G b_str
    b_sum := PySem.W.mg_none_of X G b_sum
    b_tuple := PySem.W.mg_none_of X G b_tuple
  }
  exact ⟨PySem.W.fnOf "law" "law" (defArgs s_law) (defBody s_law) (defScope s_law) .none kV58 dc58 pm58 an58 cd58 ct58, fun s v => .of_eq rfl, fun base _ _ => law_fn (G := ⟨K, T0, _, _, [], Wd0⟩) (fn_law (T base fun _ hp => (nomatch hp)) (fun_mk (st := s_law) l58 c58 k58)) rfl law_true⟩
theorem walk {l : PySem.W.OpenLaw} {q : Program} {loose : List Str} {XP : (Str → Option Value) → Heap → Prop} {YP : World → Heap → Prop} {d : DefRec} {K : Params → PySem.W.Frag} (hn : l.most = some 63) (hdf : d.params.defaults = [])
    (hY : ∀ (w : World) (h : Heap), YP w h → (K w.params).In h)
    (F : ∀ (w : World) (mg : Str → Option Value) (fa : Addr) (h : Heap), (K w.params).In h → h.Ns mainGlobals mg → mg d.name = some (.ref fa) →
      ∃ fd : FuncData, (∀ (s : Shared) (u : Value), BindsTo s fd ⟨[u], []⟩ [("_law_script", u)]) ∧ ∀ base : Heap, (K w.params).In base → base.Ns mainGlobals mg → FnOk l.prog w (K w.params) mg base (L2.CX l.prog w) 9 fa fd ["_law_script"] (spLaw (K w.params))) :
    PySem.W.WalkO q loose XP YP l.row.toRowW d [] (fun f vs => PySem.call f vs) := law_walk (k := 9) (x := "_law_script") hn hdf ⟨rfl, by decide, by decide⟩ hY F
end K93

open PySem PySem.W PyProof.Rows in
set_option maxRecDepth 100000 in
set_option maxHeartbeats 0 in
theorem PySem.Challenge.cw_pieceways_k93_whole_overlaps_by_the_rule_holds : PySem.Challenge.rw_pieceways_k93_whole_overlaps_by_the_rule.Holds := by
  w_on; o_law; k_head; (case hw => w_witness2)
  k_fill
  refine K93.walk (l := PySem.Challenge.rw_pieceways_k93_whole_overlaps_by_the_rule) rfl rfl (fun w h Y => PySem.W.kIn_of Y) ?F
  case F =>
    intro w mg fa h KX G hmg
    refine' K93.all_mk KX G hmg ?x_Keyed ?pg_Keyed ?hd_Keyed ?po_Keyed ?sa_Keyed ?ha_Keyed ?hm_Keyed ?n_Keyed_number ?n_Keyed_sender ?n_Keyed_goal ?n_Keyed_body ?n_Keyed_keep ?x_Letter ?pg_Letter ?hd_Letter ?po_Letter ?sa_Letter ?ha_Letter ?hm_Letter ?n_Letter_number ?n_Letter_sender ?n_Letter_goal ?n_Letter_body ?n_Letter_keep ?x_Piece ?pg_Piece ?hd_Piece ?po_Piece ?sa_Piece ?ha_Piece ?hm_Piece ?n_Piece_number ?n_Piece_sender ?n_Piece_goal ?n_Piece_body ?n_Piece_keep ?n_Piece_at ?n_Piece_more ?x_Answer ?pg_Answer ?hd_Answer ?po_Answer ?sa_Answer ?ha_Answer ?hm_Answer ?x_Whole ?pg_Whole ?hd_Whole ?po_Whole ?sa_Whole ?ha_Whole ?hm_Whole ?n_Whole_body ?x_Lacking ?pg_Lacking ?hd_Lacking ?po_Lacking ?sa_Lacking ?ha_Lacking ?hm_Lacking ?n_Lacking_spans ?x_Unlike ?pg_Unlike ?hd_Unlike ?po_Unlike ?sa_Unlike ?ha_Unlike ?hm_Unlike ?n_Unlike_at ?x_Heap ?pg_Heap ?hd_Heap ?po_Heap ?sa_Heap ?ha_Heap ?hm_Heap ?n_Heap_rule ?n_Heap_byte_at ?n_Heap_cover ?n_Heap_last_end ?n_Heap_most ?x_Room ?pg_Room ?hd_Room ?po_Room ?sa_Room ?ha_Room ?hm_Room ?n_Room_rule ?n_Room_wait ?n_Room_space ?n_Room_out ?n_Room_again ?n_Room_now ?n_Room_heaps ?n_Room_begun ?n_Room_whole_at ?hn ?ht ?x_NoLetter ?xb_NoLetter ?xt_NoLetter ?xe_NoLetter ?xk_NoLetter ?xg_NoLetter ?xr_NoLetter ?xa_NoLetter ?xm_NoLetter ?xd_NoLetter ?x_NoPiece ?xb_NoPiece ?xt_NoPiece ?xe_NoPiece ?xk_NoPiece ?xg_NoPiece ?xr_NoPiece ?xa_NoPiece ?xm_NoPiece ?xd_NoPiece ?x_NoRule ?xb_NoRule ?xt_NoRule ?xe_NoRule ?xk_NoRule ?xg_NoRule ?xr_NoRule ?xa_NoRule ?xm_NoRule ?xd_NoRule ?x_NoTime ?xb_NoTime ?xt_NoTime ?xe_NoTime ?xk_NoTime ?xg_NoTime ?xr_NoTime ?xa_NoTime ?xm_NoTime ?xd_NoTime ?x_NoKey ?xb_NoKey ?xt_NoKey ?xe_NoKey ?xk_NoKey ?xg_NoKey ?xr_NoKey ?xa_NoKey ?xm_NoKey ?xd_NoKey ?mk_Heap ?in_Heap ?if_Heap ?kc_Heap ?mk_Lacking ?in_Lacking ?if_Lacking ?kc_Lacking ?mk_Letter ?in_Letter ?if_Letter ?kc_Letter ?mk_Piece ?in_Piece ?if_Piece ?kc_Piece ?mk_Room ?in_Room ?if_Room ?kc_Room ?mk_Unlike ?in_Unlike ?if_Unlike ?kc_Unlike ?mk_Whole ?in_Whole ?if_Whole ?kc_Whole ?rd_Keyed ?fc_Keyed_init ?ma_Heap_all_bytes ?mf_Heap_all_bytes ?ma_Room_bytes_kept ?mf_Room_bytes_kept ?ma_Room_check_key ?mf_Room_check_key ?ma_Heap_clash ?mf_Heap_clash ?ma_Room_come ?mf_Room_come ?ma_Heap_cover_with ?mf_Heap_cover_with ?ma_Piece_end ?mf_Piece_end ?ma_Room_first_out ?mf_Room_first_out ?ma_Heap_grown_with ?mf_Heap_grown_with ?ma_Letter_is_like ?mf_Letter_is_like ?ma_Piece_is_like ?mf_Piece_is_like ?ma_Heap_is_strange ?mf_Heap_is_strange ?ma_Room_kept ?mf_Room_kept ?ma_Keyed_key ?mf_Keyed_key ?ma_Letter_key ?mf_Letter_key ?ma_Piece_key ?mf_Piece_key ?ma_Room_lacks ?mf_Room_lacks ?ma_Heap_lacks_now ?mf_Heap_lacks_now ?ma_Room_let_go ?mf_Room_let_go ?ma_Room_looked_at ?mf_Room_looked_at ?ma_Room_made_room ?mf_Room_made_room ?ma_Heap_size ?mf_Heap_size ?ma_Heap_take ?mf_Heap_take ?ma_Room_tick ?mf_Room_tick ?ma_Heap_trouble ?mf_Heap_trouble ?ma_Room_waits_ended ?mf_Room_waits_ended ?ma_Heap_would_be_whole ?mf_Heap_would_be_whole ?a1 ?l1 ?c1 ?k1 ?a2 ?l2 ?c2 ?k2 ?a3 ?l3 ?c3 ?k3 ?a4 ?l4 ?c4 ?k4 ?a5 ?l5 ?c5 ?k5 ?a6 ?l6 ?c6 ?k6 ?a7 ?l7 ?c7 ?k7 ?l8 ?c8 ?k8 ?l9 ?c9 ?k9 ?lt9 ?a10 ?l10 ?c10 ?k10 ?a11 ?l11 ?c11 ?k11 ?a12 ?l12 ?c12 ?k12 ?l13 ?c13 ?k13 ?a14 ?l14 ?c14 ?k14 ?l15 ?c15 ?k15 ?l16 ?c16 ?k16 ?l17 ?c17 ?k17 ?l18 ?c18 ?k18 ?l19 ?c19 ?k19 ?l20 ?c20 ?k20 ?l21 ?c21 ?k21 ?a22 ?l22 ?c22 ?k22 ?l23 ?c23 ?k23 ?l24 ?c24 ?k24 ?a25 ?l25 ?c25 ?k25 ?a26 ?l26 ?c26 ?k26 ?l27 ?c27 ?k27 ?l28 ?c28 ?k28 ?l29 ?c29 ?k29 ?l30 ?c30 ?k30 ?a31 ?l31 ?c31 ?k31 ?a32 ?l32 ?c32 ?k32 ?a33 ?l33 ?c33 ?k33 ?a34 ?l34 ?c34 ?k34 ?a35 ?l35 ?c35 ?k35 ?a36 ?l36 ?c36 ?k36 ?a37 ?l37 ?c37 ?k37 ?a38 ?l38 ?c38 ?k38 ?l39 ?c39 ?k39 ?l40 ?c40 ?k40 ?l41 ?c41 ?k41 ?l42 ?c42 ?k42 ?l43 ?c43 ?k43 ?lt43 ?a44 ?l44 ?c44 ?k44 ?l45 ?c45 ?k45 ?l46 ?c46 ?k46 ?l47 ?c47 ?k47 ?l48 ?c48 ?k48 ?l49 ?c49 ?k49 ?l50 ?c50 ?k50 ?l51 ?c51 ?k51 ?l52 ?c52 ?k52 ?l53 ?c53 ?k53 ?l54 ?c54 ?k54 ?l55 ?c55 ?k55 ?l56 ?c56 ?k56 ?a57 ?l57 ?c57 ?k57 ?a58 ?l58 ?c58 ?k58 ?kc11 ?ky11 ?ks11 ?kc12 ?ky12 ?ks12 ?kc14 ?ky14 ?ks14 ?kc15 ?ky15 ?ks15 ?kc16 ?ky16 ?ks16 ?kt0 ?kt1 ?kt2 ?kt3 ?kt4 ?kt5 ?kt6 ?kt7 ?kt8 ?kt9 ?kt10 ?kt11 ?kt12 ?kt13 ?kt14 ?kt15 ?kt16 ?kt17 ?kt18 ?kt19 ?kt20 ?kt21 ?kt22 ?kt23 ?kt24 ?kt25 ?kt26 ?kt27 ?kt28 ?kt29 ?kt30 ?kt31 ?kt32 ?kt33 ?kt34 ?kt35 ?kt36 ?kt37 ?kt38 ?kt39 ?kt40 ?kt41 ?kt42 ?kt43 ?kt44 ?kt45 ?kt46 ?kt47 ?kt48 ?kt49 ?kt50 ?kt51 ?kt52 ?kt53 ?kt54 ?kt55 ?kt56 ?kt57 ?kt58 ?kt59 ?kt60 ?kt61 ?kt62 ?kt63 ?kt64 ?kt65 ?kt66 ?kt67 ?kt68 ?kt69 ?kt70 ?kt71 ?kt72 ?kt73 ?kt74 ?kt75 ?kt76 ?kt77 ?kt78 ?kt79 ?q_LETTERS ?q_MOST_BYTES ?q_RULES ?lk_RULES ?b_all ?b_bool ?b_int ?b_isinstance ?b_len ?b_list ?b_max ?b_min ?b_range ?b_sorted ?b_str ?b_sum ?b_tuple
    (case x_Keyed => k_is)
    (case pg_Keyed => k_is)
    (case hd_Keyed => k_is)
    (case po_Keyed => k_is)
    (case sa_Keyed => k_is)
    (case ha_Keyed => k_is)
    (case hm_Keyed => k_is)
    (case n_Keyed_number => k_is)
    (case n_Keyed_sender => k_is)
    (case n_Keyed_goal => k_is)
    (case n_Keyed_body => k_is)
    (case n_Keyed_keep => k_is)
    (case x_Letter => k_is)
    (case pg_Letter => k_is)
    (case hd_Letter => k_is)
    (case po_Letter => k_is)
    (case sa_Letter => k_is)
    (case ha_Letter => k_is)
    (case hm_Letter => k_is)
    (case n_Letter_number => k_is)
    (case n_Letter_sender => k_is)
    (case n_Letter_goal => k_is)
    (case n_Letter_body => k_is)
    (case n_Letter_keep => k_is)
    (case x_Piece => k_is)
    (case pg_Piece => k_is)
    (case hd_Piece => k_is)
    (case po_Piece => k_is)
    (case sa_Piece => k_is)
    (case ha_Piece => k_is)
    (case hm_Piece => k_is)
    (case n_Piece_number => k_is)
    (case n_Piece_sender => k_is)
    (case n_Piece_goal => k_is)
    (case n_Piece_body => k_is)
    (case n_Piece_keep => k_is)
    (case n_Piece_at => k_is)
    (case n_Piece_more => k_is)
    (case x_Answer => k_is)
    (case pg_Answer => k_is)
    (case hd_Answer => k_is)
    (case po_Answer => k_is)
    (case sa_Answer => k_is)
    (case ha_Answer => k_is)
    (case hm_Answer => k_is)
    (case x_Whole => k_is)
    (case pg_Whole => k_is)
    (case hd_Whole => k_is)
    (case po_Whole => k_is)
    (case sa_Whole => k_is)
    (case ha_Whole => k_is)
    (case hm_Whole => k_is)
    (case n_Whole_body => k_is)
    (case x_Lacking => k_is)
    (case pg_Lacking => k_is)
    (case hd_Lacking => k_is)
    (case po_Lacking => k_is)
    (case sa_Lacking => k_is)
    (case ha_Lacking => k_is)
    (case hm_Lacking => k_is)
    (case n_Lacking_spans => k_is)
    (case x_Unlike => k_is)
    (case pg_Unlike => k_is)
    (case hd_Unlike => k_is)
    (case po_Unlike => k_is)
    (case sa_Unlike => k_is)
    (case ha_Unlike => k_is)
    (case hm_Unlike => k_is)
    (case n_Unlike_at => k_is)
    (case x_Heap => k_is)
    (case pg_Heap => k_is)
    (case hd_Heap => k_is)
    (case po_Heap => k_is)
    (case sa_Heap => k_is)
    (case ha_Heap => k_is)
    (case hm_Heap => k_is)
    (case n_Heap_rule => k_is)
    (case n_Heap_byte_at => k_is)
    (case n_Heap_cover => k_is)
    (case n_Heap_last_end => k_is)
    (case n_Heap_most => k_is)
    (case x_Room => k_is)
    (case pg_Room => k_is)
    (case hd_Room => k_is)
    (case po_Room => k_is)
    (case sa_Room => k_is)
    (case ha_Room => k_is)
    (case hm_Room => k_is)
    (case n_Room_rule => k_is)
    (case n_Room_wait => k_is)
    (case n_Room_space => k_is)
    (case n_Room_out => k_is)
    (case n_Room_again => k_is)
    (case n_Room_now => k_is)
    (case n_Room_heaps => k_is)
    (case n_Room_begun => k_is)
    (case n_Room_whole_at => k_is)
    (case hn => k_is)
    (case ht => k_is)
    (case x_NoLetter => k_is)
    (case xb_NoLetter => k_is)
    (case xt_NoLetter => k_is)
    (case xe_NoLetter => kernel_rfl)
    (case xk_NoLetter => k_is)
    (case xg_NoLetter => k_is)
    (case xr_NoLetter => k_is)
    (case xa_NoLetter => k_is)
    (case xm_NoLetter => k_is)
    (case xd_NoLetter => k_is)
    (case x_NoPiece => k_is)
    (case xb_NoPiece => k_is)
    (case xt_NoPiece => k_is)
    (case xe_NoPiece => kernel_rfl)
    (case xk_NoPiece => k_is)
    (case xg_NoPiece => k_is)
    (case xr_NoPiece => k_is)
    (case xa_NoPiece => k_is)
    (case xm_NoPiece => k_is)
    (case xd_NoPiece => k_is)
    (case x_NoRule => k_is)
    (case xb_NoRule => k_is)
    (case xt_NoRule => k_is)
    (case xe_NoRule => kernel_rfl)
    (case xk_NoRule => k_is)
    (case xg_NoRule => k_is)
    (case xr_NoRule => k_is)
    (case xa_NoRule => k_is)
    (case xm_NoRule => k_is)
    (case xd_NoRule => k_is)
    (case x_NoTime => k_is)
    (case xb_NoTime => k_is)
    (case xt_NoTime => k_is)
    (case xe_NoTime => kernel_rfl)
    (case xk_NoTime => k_is)
    (case xg_NoTime => k_is)
    (case xr_NoTime => k_is)
    (case xa_NoTime => k_is)
    (case xm_NoTime => k_is)
    (case xd_NoTime => k_is)
    (case x_NoKey => k_is)
    (case xb_NoKey => k_is)
    (case xt_NoKey => k_is)
    (case xe_NoKey => kernel_rfl)
    (case xk_NoKey => k_is)
    (case xg_NoKey => k_is)
    (case xr_NoKey => k_is)
    (case xa_NoKey => k_is)
    (case xm_NoKey => k_is)
    (case xd_NoKey => k_is)
    (case mk_Heap => k_is)
    (case in_Heap => k_is)
    (case if_Heap => k_is)
    (case kc_Heap => k_is)
    (case mk_Lacking => k_is)
    (case in_Lacking => k_is)
    (case if_Lacking => k_is)
    (case kc_Lacking => k_is)
    (case mk_Letter => k_is)
    (case in_Letter => k_is)
    (case if_Letter => k_is)
    (case kc_Letter => k_is)
    (case mk_Piece => k_is)
    (case in_Piece => k_is)
    (case if_Piece => k_is)
    (case kc_Piece => k_is)
    (case mk_Room => k_is)
    (case in_Room => k_is)
    (case if_Room => k_is)
    (case kc_Room => k_is)
    (case mk_Unlike => k_is)
    (case in_Unlike => k_is)
    (case if_Unlike => k_is)
    (case kc_Unlike => k_is)
    (case mk_Whole => k_is)
    (case in_Whole => k_is)
    (case if_Whole => k_is)
    (case kc_Whole => k_is)
    (case rd_Keyed => k_is)
    (case fc_Keyed_init => k_is)
    (case ma_Heap_all_bytes => k_is)
    (case mf_Heap_all_bytes => k_is)
    (case ma_Room_bytes_kept => k_is)
    (case mf_Room_bytes_kept => k_is)
    (case ma_Room_check_key => k_is)
    (case mf_Room_check_key => k_is)
    (case ma_Heap_clash => k_is)
    (case mf_Heap_clash => k_is)
    (case ma_Room_come => k_is)
    (case mf_Room_come => k_is)
    (case ma_Heap_cover_with => k_is)
    (case mf_Heap_cover_with => k_is)
    (case ma_Piece_end => k_is)
    (case mf_Piece_end => k_is)
    (case ma_Room_first_out => k_is)
    (case mf_Room_first_out => k_is)
    (case ma_Heap_grown_with => k_is)
    (case mf_Heap_grown_with => k_is)
    (case ma_Letter_is_like => k_is)
    (case mf_Letter_is_like => k_is)
    (case ma_Piece_is_like => k_is)
    (case mf_Piece_is_like => k_is)
    (case ma_Heap_is_strange => k_is)
    (case mf_Heap_is_strange => k_is)
    (case ma_Room_kept => k_is)
    (case mf_Room_kept => k_is)
    (case ma_Keyed_key => k_is)
    (case mf_Keyed_key => k_is)
    (case ma_Letter_key => k_is)
    (case mf_Letter_key => k_is)
    (case ma_Piece_key => k_is)
    (case mf_Piece_key => k_is)
    (case ma_Room_lacks => k_is)
    (case mf_Room_lacks => k_is)
    (case ma_Heap_lacks_now => k_is)
    (case mf_Heap_lacks_now => k_is)
    (case ma_Room_let_go => k_is)
    (case mf_Room_let_go => k_is)
    (case ma_Room_looked_at => k_is)
    (case mf_Room_looked_at => k_is)
    (case ma_Room_made_room => k_is)
    (case mf_Room_made_room => k_is)
    (case ma_Heap_size => k_is)
    (case mf_Heap_size => k_is)
    (case ma_Heap_take => k_is)
    (case mf_Heap_take => k_is)
    (case ma_Room_tick => k_is)
    (case mf_Room_tick => k_is)
    (case ma_Heap_trouble => k_is)
    (case mf_Heap_trouble => k_is)
    (case ma_Room_waits_ended => k_is)
    (case mf_Room_waits_ended => k_is)
    (case ma_Heap_would_be_whole => k_is)
    (case mf_Heap_would_be_whole => k_is)
    (case a1 => k_is)
    (case l1 => k_is)
    (case c1 => k_is)
    (case k1 => k_is)
    (case a2 => k_is)
    (case l2 => k_is)
    (case c2 => k_is)
    (case k2 => k_is)
    (case a3 => k_is)
    (case l3 => k_is)
    (case c3 => k_is)
    (case k3 => k_is)
    (case a4 => k_is)
    (case l4 => k_is)
    (case c4 => k_is)
    (case k4 => k_is)
    (case a5 => k_is)
    (case l5 => k_is)
    (case c5 => k_is)
    (case k5 => k_is)
    (case a6 => k_is)
    (case l6 => k_is)
    (case c6 => k_is)
    (case k6 => k_is)
    (case a7 => k_is)
    (case l7 => k_is)
    (case c7 => k_is)
    (case k7 => k_is)
    (case l8 => k_is)
    (case c8 => k_is)
    (case k8 => k_is)
    (case l9 => k_is)
    (case c9 => k_is)
    (case k9 => k_is)
    (case lt9 => k_is)
    (case a10 => k_is)
    (case l10 => k_is)
    (case c10 => k_is)
    (case k10 => k_is)
    (case a11 => k_is)
    (case l11 => k_is)
    (case c11 => k_is)
    (case k11 => k_is)
    (case a12 => k_is)
    (case l12 => k_is)
    (case c12 => k_is)
    (case k12 => k_is)
    (case l13 => k_is)
    (case c13 => k_is)
    (case k13 => k_is)
    (case a14 => k_is)
    (case l14 => k_is)
    (case c14 => k_is)
    (case k14 => k_is)
    (case l15 => k_is)
    (case c15 => k_is)
    (case k15 => k_is)
    (case l16 => k_is)
    (case c16 => k_is)
    (case k16 => k_is)
    (case l17 => k_is)
    (case c17 => k_is)
    (case k17 => k_is)
    (case l18 => k_is)
    (case c18 => k_is)
    (case k18 => k_is)
    (case l19 => k_is)
    (case c19 => k_is)
    (case k19 => k_is)
    (case l20 => k_is)
    (case c20 => k_is)
    (case k20 => k_is)
    (case l21 => k_is)
    (case c21 => k_is)
    (case k21 => k_is)
    (case a22 => k_is)
    (case l22 => k_is)
    (case c22 => k_is)
    (case k22 => k_is)
    (case l23 => k_is)
    (case c23 => k_is)
    (case k23 => k_is)
    (case l24 => k_is)
    (case c24 => k_is)
    (case k24 => k_is)
    (case a25 => k_is)
    (case l25 => k_is)
    (case c25 => k_is)
    (case k25 => k_is)
    (case a26 => k_is)
    (case l26 => k_is)
    (case c26 => k_is)
    (case k26 => k_is)
    (case l27 => k_is)
    (case c27 => k_is)
    (case k27 => k_is)
    (case l28 => k_is)
    (case c28 => k_is)
    (case k28 => k_is)
    (case l29 => k_is)
    (case c29 => k_is)
    (case k29 => k_is)
    (case l30 => k_is)
    (case c30 => k_is)
    (case k30 => k_is)
    (case a31 => k_is)
    (case l31 => k_is)
    (case c31 => k_is)
    (case k31 => k_is)
    (case a32 => k_is)
    (case l32 => k_is)
    (case c32 => k_is)
    (case k32 => k_is)
    (case a33 => k_is)
    (case l33 => k_is)
    (case c33 => k_is)
    (case k33 => k_is)
    (case a34 => k_is)
    (case l34 => k_is)
    (case c34 => k_is)
    (case k34 => k_is)
    (case a35 => k_is)
    (case l35 => k_is)
    (case c35 => k_is)
    (case k35 => k_is)
    (case a36 => k_is)
    (case l36 => k_is)
    (case c36 => k_is)
    (case k36 => k_is)
    (case a37 => k_is)
    (case l37 => k_is)
    (case c37 => k_is)
    (case k37 => k_is)
    (case a38 => k_is)
    (case l38 => k_is)
    (case c38 => k_is)
    (case k38 => k_is)
    (case l39 => k_is)
    (case c39 => k_is)
    (case k39 => k_is)
    (case l40 => k_is)
    (case c40 => k_is)
    (case k40 => k_is)
    (case l41 => k_is)
    (case c41 => k_is)
    (case k41 => k_is)
    (case l42 => k_is)
    (case c42 => k_is)
    (case k42 => k_is)
    (case l43 => k_is)
    (case c43 => k_is)
    (case k43 => k_is)
    (case lt43 => k_is)
    (case a44 => k_is)
    (case l44 => k_is)
    (case c44 => k_is)
    (case k44 => k_is)
    (case l45 => k_is)
    (case c45 => k_is)
    (case k45 => k_is)
    (case l46 => k_is)
    (case c46 => k_is)
    (case k46 => k_is)
    (case l47 => k_is)
    (case c47 => k_is)
    (case k47 => k_is)
    (case l48 => k_is)
    (case c48 => k_is)
    (case k48 => k_is)
    (case l49 => k_is)
    (case c49 => k_is)
    (case k49 => k_is)
    (case l50 => k_is)
    (case c50 => k_is)
    (case k50 => k_is)
    (case l51 => k_is)
    (case c51 => k_is)
    (case k51 => k_is)
    (case l52 => k_is)
    (case c52 => k_is)
    (case k52 => k_is)
    (case l53 => k_is)
    (case c53 => k_is)
    (case k53 => k_is)
    (case l54 => k_is)
    (case c54 => k_is)
    (case k54 => k_is)
    (case l55 => k_is)
    (case c55 => k_is)
    (case k55 => k_is)
    (case l56 => k_is)
    (case c56 => k_is)
    (case k56 => k_is)
    (case a57 => k_is)
    (case l57 => k_is)
    (case c57 => k_is)
    (case k57 => k_is)
    (case a58 => k_is)
    (case l58 => k_is)
    (case c58 => k_is)
    (case k58 => k_is)
    (case kc11 => k_is)
    (case ky11 => k_is)
    (case ks11 => k_is)
    (case kc12 => k_is)
    (case ky12 => k_is)
    (case ks12 => k_is)
    (case kc14 => k_is)
    (case ky14 => k_is)
    (case ks14 => k_is)
    (case kc15 => k_is)
    (case ky15 => k_is)
    (case ks15 => k_is)
    (case kc16 => k_is)
    (case ky16 => k_is)
    (case ks16 => k_is)
    (case kt0 => k_is)
    (case kt1 => k_is)
    (case kt2 => k_is)
    (case kt3 => k_is)
    (case kt4 => k_is)
    (case kt5 => k_is)
    (case kt6 => k_is)
    (case kt7 => k_is)
    (case kt8 => k_is)
    (case kt9 => k_is)
    (case kt10 => k_is)
    (case kt11 => k_is)
    (case kt12 => k_is)
    (case kt13 => k_is)
    (case kt14 => k_is)
    (case kt15 => k_is)
    (case kt16 => k_is)
    (case kt17 => k_is)
    (case kt18 => k_is)
    (case kt19 => k_is)
    (case kt20 => k_is)
    (case kt21 => k_is)
    (case kt22 => k_is)
    (case kt23 => k_is)
    (case kt24 => k_is)
    (case kt25 => k_is)
    (case kt26 => k_is)
    (case kt27 => k_is)
    (case kt28 => k_is)
    (case kt29 => k_is)
    (case kt30 => k_is)
    (case kt31 => k_is)
    (case kt32 => k_is)
    (case kt33 => k_is)
    (case kt34 => k_is)
    (case kt35 => k_is)
    (case kt36 => k_is)
    (case kt37 => k_is)
    (case kt38 => k_is)
    (case kt39 => k_is)
    (case kt40 => k_is)
    (case kt41 => k_is)
    (case kt42 => k_is)
    (case kt43 => k_is)
    (case kt44 => k_is)
    (case kt45 => k_is)
    (case kt46 => k_is)
    (case kt47 => k_is)
    (case kt48 => k_is)
    (case kt49 => k_is)
    (case kt50 => k_is)
    (case kt51 => k_is)
    (case kt52 => k_is)
    (case kt53 => k_is)
    (case kt54 => k_is)
    (case kt55 => k_is)
    (case kt56 => k_is)
    (case kt57 => k_is)
    (case kt58 => k_is)
    (case kt59 => k_is)
    (case kt60 => k_is)
    (case kt61 => k_is)
    (case kt62 => k_is)
    (case kt63 => k_is)
    (case kt64 => k_is)
    (case kt65 => k_is)
    (case kt66 => k_is)
    (case kt67 => k_is)
    (case kt68 => k_is)
    (case kt69 => k_is)
    (case kt70 => k_is)
    (case kt71 => k_is)
    (case kt72 => k_is)
    (case kt73 => k_is)
    (case kt74 => k_is)
    (case kt75 => k_is)
    (case kt76 => k_is)
    (case kt77 => k_is)
    (case kt78 => k_is)
    (case kt79 => k_is)
    (case q_LETTERS => k_is)
    (case q_MOST_BYTES => k_is)
    (case q_RULES => k_is)
    (case lk_RULES => k_is)
    (case b_all => k_is)
    (case b_bool => k_is)
    (case b_int => k_is)
    (case b_isinstance => k_is)
    (case b_len => k_is)
    (case b_list => k_is)
    (case b_max => k_is)
    (case b_min => k_is)
    (case b_range => k_is)
    (case b_sorted => k_is)
    (case b_str => k_is)
    (case b_sum => k_is)
    (case b_tuple => k_is)

