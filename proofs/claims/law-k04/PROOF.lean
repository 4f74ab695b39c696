import PyProof.Rows.All
import Wide.All
import OpenK.AllK
import Wide.FinOn
import HandS.ForMost
import HandS.Exc
import HandS.TryOnly
import HandS.ExcOwn
import HandS.WordsExc
import HandS.CallSlots
import HandS.Lambda
import HandS.ExcIs
import HandS.WordsDict
import HandS.IsInst
import HandS.SortInts
import HandS.SortKw
import HandS.Conv
import KE.DatumOrd
import HandS.Defaults
import HandS.SortRule
import HandS.Dict
import HandS.Iter
import HandS.Wide
import PyProof.NeKinds
import PyProof.EqAt
import HandS.EndTab
import HandS.DictSubView
import KE.SortData
import HandS.DictTup
import PyProof.Claim2Refuses
import KE.KDictWalk
import KE.KDictSum
import PyProof.Transfer
import PyProof.P3In
import KE.KDictLaws
import KE.KEqDict
import HandS.Deep
import KE.DataMinMax
import HandS.TupLe
import HandS.SetFor
import HandS.Strs
import HandS.Text
import HandS.Replace
import HandS.More
import KE.KxIndex
import HandS.FStr
import HandS.RaiseMore
import HandS.TupAny
import HandS.NoneIn
import HandS.DictEq
import HandS.MakeKw
import HandS.Style
import PySem.Challenge.RW_pieceways_k04_what_is_no_piece
set_option Elab.async false
set_option linter.all false
set_option maxRecDepth 100000
set_option autoImplicit false
namespace DL
open PySem PySem.Spec PyProof.Rows L2

/-! ### data -/
/-- data: what a value is, without addresses; cel n: the object of the n-th cell -/
inductive D where
  | non | bl (b : Bool) | int (i : Int) | str (s : Str)
  | lst (l : List D) | tup (l : List D) | obj (c : Nat) (l : List D)
  | cel (n : Nat) | opq (k : Nat) (l : List D) | scr (l : List D) | ktp (l : List D)
/-- what a cell holds -/
inductive O where
  | lst (l : List D) | dk (l : List (Key × D)) | dt (l : List (List Key × D)) | obj (c : Nat) (l : List D)
/-- the cells -/
structure Cells where
  nx : Nat
  get : Nat → Option O
  wf : ∀ n, nx ≤ n → get n = none
inductive Res (α : Type) where
  | ok (a : α) (C : Cells) | err (c : Nat) (C : Cells) | no
/-- a statement's end -/
inductive SRes where
  | nxt (s : List (Option D)) (C : Cells) | ret (d : D) (C : Cells) | brk (s : List (Option D)) (C : Cells) | cnt (s : List (Option D)) (C : Cells)
  | err (c : Nat) (s : List (Option D)) (C : Cells) | no
abbrev Sl := List (Option D)
abbrev EF := Sl → Cells → Res D
abbrev AF := Sl → Cells → Res (List D)
abbrev TF := Sl → Cells → Res Bool
abbrev SF := Sl → Cells → SRes
abbrev Fn := List D → Cells → Res D

theorem Cells.ext' : ∀ {A B : Cells}, A.nx = B.nx → (∀ n, A.get n = B.get n) → A = B
  | ⟨n, g, w⟩, ⟨m, k, u⟩, h1, h2 => by
    have e1 : n = m := h1
    have e2 : g = k := funext h2
    subst e1; subst e2; rfl
/-- an object is changed (where one stands) -/
def Cells.set (C : Cells) (n : Nat) (o : O) : Cells := ⟨C.nx, fun m => if m = n then (C.get n).map (fun _ => o) else C.get m, fun m hm => by
  by_cases e : m = n
  · subst e; rw [if_pos rfl, C.wf _ hm]; rfl
  · rw [if_neg e]; exact C.wf m hm⟩
def Cells.new (C : Cells) (o : O) : Cells := ⟨C.nx + 1, fun m => if m = C.nx then some o else C.get m, fun m hm => by
  have : m ≠ C.nx := by omega
  rw [if_neg this]; exact C.wf m (by omega)⟩
def Cells.del (C : Cells) (n : Nat) : Cells := ⟨C.nx, fun m => if m = n then none else C.get m, fun m hm => by
  split
  · rfl
  · exact C.wf m hm⟩
def Cells.bump (C : Cells) (k : Nat) : Cells := ⟨C.nx + k, C.get, fun m hm => C.wf m (by omega)⟩
section
variable {C : Cells} {n m k : Nat} {o o' : O}
theorem Cells.lt (h : C.get n = some o) : n < C.nx := by
  by_cases q : n < C.nx
  · exact q
  · rw [C.wf n (by omega)] at h; cases h
@[simp] theorem get_bump : (C.bump k).get n = C.get n := rfl
@[simp] theorem nx_bump : (C.bump k).nx = C.nx + k := rfl
@[simp] theorem nx_set : (C.set n o).nx = C.nx := rfl
@[simp] theorem nx_new : (C.new o).nx = C.nx + 1 := rfl
@[simp] theorem nx_del : (C.del n).nx = C.nx := rfl
@[simp] theorem get_new : (C.new o).get C.nx = some o := if_pos rfl
theorem get_new_ne (h : n ≠ C.nx) : (C.new o).get n = C.get n := if_neg h
theorem get_new_old (h : C.get n = some o') : (C.new o).get n = some o' := by rw [get_new_ne (Nat.ne_of_lt (Cells.lt h))]; exact h
theorem get_set (h : C.get n = some o') : (C.set n o).get n = some o := by show (if n = n then (C.get n).map (fun _ => o) else C.get n) = _; rw [if_pos rfl, h]; rfl
theorem get_set_ne (h : m ≠ n) : (C.set n o).get m = C.get m := if_neg h
@[simp] theorem get_del : (C.del n).get n = none := if_pos rfl
theorem get_del_ne (h : m ≠ n) : (C.del n).get m = C.get m := if_neg h
@[simp] theorem bump_set : (C.bump k).set n o = (C.set n o).bump k := rfl
@[simp] theorem bump_bump {j : Nat} : (C.bump k).bump j = C.bump (k + j) := Cells.ext' (by simp; omega) fun _ => rfl
@[simp] theorem bump_del : (C.bump k).del n = (C.del n).bump k := rfl
@[simp] theorem bump_zero : C.bump 0 = C := rfl
@[simp] theorem set_set : (C.set n o).set n o' = C.set n o' := Cells.ext' rfl fun m => by
  show (if m = n then Option.map _ (if n = n then (C.get n).map (fun _ => o) else C.get n) else if m = n then _ else C.get m) = if m = n then _ else C.get m
  by_cases e : m = n
  · rw [if_pos e, if_pos e, if_pos rfl]; cases C.get n <;> rfl
  · rw [if_neg e, if_neg e, if_neg e]
@[simp] theorem new_set : (C.new o).set C.nx o' = C.new o' := Cells.ext' rfl fun m => by
  show (if m = C.nx then Option.map (fun _ => o') (if C.nx = C.nx then some o else C.get C.nx) else if m = C.nx then some o else C.get m) = if m = C.nx then some o' else C.get m
  by_cases e : m = C.nx
  · rw [if_pos e, if_pos e, if_pos rfl]; rfl
  · rw [if_neg e, if_neg e, if_neg e]
theorem new_set_old (h : n ≠ C.nx) : (C.new o).set n o' = (C.set n o').new o := Cells.ext' rfl fun m => by
  show (if m = n then Option.map (fun _ => o') (if n = C.nx then some o else C.get n) else if m = C.nx then some o else C.get m) = if m = C.nx then some o else if m = n then (C.get n).map (fun _ => o') else C.get m
  rw [if_neg h]
  by_cases e : m = n
  · subst e; rw [if_pos rfl, if_neg h, if_pos rfl]
  · rw [if_neg e, if_neg e]
@[simp] theorem new_del : (C.new o).del C.nx = C.bump 1 := Cells.ext' rfl fun m => by
  show (if m = C.nx then none else if m = C.nx then some o else C.get m) = C.get m
  by_cases e : m = C.nx
  · rw [if_pos e, e]; exact (C.wf _ (Nat.le_refl _)).symm
  · rw [if_neg e, if_neg e]
theorem set_comm (h : n ≠ m) : (C.set n o).set m o' = (C.set m o').set n o := Cells.ext' rfl fun q => by
  show (if q = m then Option.map (fun _ => o') (if m = n then _ else C.get m) else if q = n then _ else C.get q) = if q = n then Option.map (fun _ => o) (if n = m then _ else C.get n) else if q = m then _ else C.get q
  rw [if_neg h, if_neg (Ne.symm h)]
  by_cases e : q = m
  · subst e; rw [if_pos rfl, if_neg (Ne.symm h), if_pos rfl]
  · rw [if_neg e, if_neg e]
theorem set_same (h : C.get n = some o) : C.set n o = C := Cells.ext' rfl fun q => by
  show (if q = n then (C.get n).map (fun _ => o) else C.get q) = _
  by_cases e : q = n
  · subst e; rw [if_pos rfl, h]; rfl
  · rw [if_neg e]
end

/-! ### the tables: the classes' field names (by number), the names themselves -/
structure Tab where
  ncl : Nat
  fl : Nat → List Nat
  nm : Nat → Str
/-- the known part of the heap (never written), where the cells stand -/
structure Wd where
  F : Hp
  cm : Nat → Option Addr
/-- tb: the tables of code objects, with the names of what stands in them; W0: the world that all worlds go on from -/
structure Glo where
  K : PySem.W.Frag
  T : Tab
  cls : Nat → Addr
  oq : Nat → List V → Addr → HO
  tb : List (Addr × Str) := []
  W0 : Wd := ⟨fun _ => none, fun _ => none⟩
/-- the fields of an object by name -/
def flds (T : Tab) (c : Nat) (vs : List V) : List (Str × V) := ((T.fl c).map T.nm).zip vs

mutual
def RepV (G : Glo) (W : Wd) : D → V → Prop
  | .non, v => v = .non
  | .bl b, v => v = .bl b
  | .int i, v => v = .int i
  | .str s, v => v = .str s
  | .lst ds, v => ∃ a vs, v = .ref a ∧ W.F a = some (.lst vs) ∧ RepVs G W ds vs
  | .scr ds, v => ∃ a vs, v = .ref a ∧ SqL G.K W.F a vs ∧ RepVs G W ds vs
  | .tup ds, v => ∃ a vs, v = .ref a ∧ W.F a = some (.tup vs) ∧ RepVs G W ds vs
  | .ktp ds, v => ∃ a vs, v = .ref a ∧ SqT G.K W.F a vs ∧ RepVs G W ds vs
  | .obj c ds, v => ∃ a dx vs, v = .ref a ∧ W.F a = some (.ins (G.cls c) dx (flds G.T c vs)) ∧ RepVs G W ds vs ∧ ds.length = (G.T.fl c).length
  | .cel n, v => ∃ a, v = .ref a ∧ W.cm n = some a
  | .opq k ds, v => ∃ a vs, v = .ref a ∧ W.F a = some (G.oq k vs a) ∧ RepVs G W ds vs
def RepVs (G : Glo) (W : Wd) : List D → List V → Prop
  | [], vs => vs = []
  | d :: r, vs => ∃ v vr, vs = v :: vr ∧ RepV G W d v ∧ RepVs G W r vr
end

/-- a later world -/
structure Wd.le (W W' : Wd) : Prop where
  F : ∀ a o, W.F a = some o → W'.F a = some o
  cm : ∀ n a, W.cm n = some a → W'.cm n = some a
theorem Wd.le.refl {W : Wd} : W.le W := ⟨fun _ _ h => h, fun _ _ h => h⟩
theorem Wd.le.trans {W W1 W2 : Wd} (a : W.le W1) (b : W1.le W2) : W.le W2 := ⟨fun x o h => b.F x o (a.F x o h), fun n x h => b.cm n x (a.cm n x h)⟩

section
variable {K : PySem.W.Frag} {H H' : Hp} {a : Addr} {vs : List V}
theorem SqL.up (k : ∀ a o, H a = some o → H' a = some o) (h : SqL K H a vs) : SqL K H' a vs := by
  rcases h with (h | ⟨o, h⟩) | h
  · exact .inl (.inl (k _ _ h))
  · exact .inl (.inr ⟨o, k _ _ h⟩)
  · exact .inr h
theorem SqT.up (k : ∀ a o, H a = some o → H' a = some o) (h : SqT K H a vs) : SqT K H' a vs := by
  rcases h with (h | ⟨o, h⟩) | h
  · exact .inl (.inl (k _ _ h))
  · exact .inl (.inr ⟨o, k _ _ h⟩)
  · exact .inr h
end

section
variable {G : Glo} {W W' : Wd}
mutual
theorem RepV.up (k : W.le W') : ∀ {d : D} {v : V}, RepV G W d v → RepV G W' d v
  | .non, _, h => by unfold RepV at h ⊢; exact h
  | .bl _, _, h => by unfold RepV at h ⊢; exact h
  | .int _, _, h => by unfold RepV at h ⊢; exact h
  | .str _, _, h => by unfold RepV at h ⊢; exact h
  | .lst ds, _, h => by
    unfold RepV at h ⊢
    obtain ⟨a, vs, e, s, r⟩ := h
    exact ⟨a, vs, e, k.F _ _ s, RepVs.up k r⟩
  | .scr ds, _, h => by
    unfold RepV at h ⊢
    obtain ⟨a, vs, e, s, r⟩ := h
    exact ⟨a, vs, e, SqL.up k.F s, RepVs.up k r⟩
  | .tup ds, _, h => by
    unfold RepV at h ⊢
    obtain ⟨a, vs, e, s, r⟩ := h
    exact ⟨a, vs, e, k.F _ _ s, RepVs.up k r⟩
  | .ktp ds, _, h => by
    unfold RepV at h ⊢
    obtain ⟨a, vs, e, s, r⟩ := h
    exact ⟨a, vs, e, SqT.up k.F s, RepVs.up k r⟩
  | .obj c ds, _, h => by
    unfold RepV at h ⊢
    obtain ⟨a, dx, vs, e, s, r, l⟩ := h
    exact ⟨a, dx, vs, e, k.F _ _ s, RepVs.up k r, l⟩
  | .cel n, _, h => by
    unfold RepV at h ⊢
    obtain ⟨a, e, s⟩ := h
    exact ⟨a, e, k.cm _ _ s⟩
  | .opq c ds, _, h => by
    unfold RepV at h ⊢
    obtain ⟨a, vs, e, s, r⟩ := h
    exact ⟨a, vs, e, k.F _ _ s, RepVs.up k r⟩
theorem RepVs.up (k : W.le W') : ∀ {ds : List D} {vs : List V}, RepVs G W ds vs → RepVs G W' ds vs
  | [], _, h => by unfold RepVs at h ⊢; exact h
  | d :: r, _, h => by
    unfold RepVs at h ⊢
    obtain ⟨v, vr, e, s, t⟩ := h
    exact ⟨v, vr, e, RepV.up k s, RepVs.up k t⟩
end
theorem RepVs.nil : RepVs G W [] [] := by unfold RepVs; rfl
theorem RepVs.cons {d : D} {v : V} {ds : List D} {vs : List V} (h : RepV G W d v) (t : RepVs G W ds vs) : RepVs G W (d :: ds) (v :: vs) := by
  unfold RepVs; exact ⟨v, vs, rfl, h, t⟩
theorem RepVs.nil_inv {vs : List V} (h : RepVs G W [] vs) : vs = [] := by unfold RepVs at h; exact h
theorem RepVs.cons_inv {d : D} {ds : List D} {vs : List V} (h : RepVs G W (d :: ds) vs) : ∃ v vr, vs = v :: vr ∧ RepV G W d v ∧ RepVs G W ds vr := by
  unfold RepVs at h; exact h
theorem RepVs.length : ∀ {ds : List D} {vs : List V}, RepVs G W ds vs → ds.length = vs.length
  | [], _, h => by rw [h.nil_inv]; rfl
  | d :: r, _, h => by
    obtain ⟨v, vr, rfl, _, t⟩ := h.cons_inv
    simp [t.length]
theorem RepVs.get : ∀ {ds : List D} {vs : List V} {i : Nat} {d : D}, RepVs G W ds vs → ds[i]? = some d → ∃ v, vs[i]? = some v ∧ RepV G W d v
  | [], _, _, _, _, e => by simp at e
  | x :: r, _, 0, d, h, e => by
    obtain ⟨v, vr, rfl, s, t⟩ := h.cons_inv
    simp at e; subst e
    exact ⟨v, rfl, s⟩
  | x :: r, _, i + 1, d, h, e => by
    obtain ⟨v, vr, rfl, s, t⟩ := h.cons_inv
    obtain ⟨u, h1, h2⟩ := RepVs.get (i := i) (d := d) t (by simpa using e)
    exact ⟨u, by simpa using h1, h2⟩
theorem RepVs.get' : ∀ {ds : List D} {vs : List V} {i : Nat} {v : V}, RepVs G W ds vs → vs[i]? = some v → ∃ d, ds[i]? = some d ∧ RepV G W d v
  | [], _, _, _, h, e => by rw [h.nil_inv] at e; simp at e
  | x :: r, _, 0, v, h, e => by
    obtain ⟨u, vr, rfl, s, t⟩ := h.cons_inv
    simp at e; subst e
    exact ⟨x, rfl, s⟩
  | x :: r, _, i + 1, v, h, e => by
    obtain ⟨u, vr, rfl, s, t⟩ := h.cons_inv
    obtain ⟨d, h1, h2⟩ := RepVs.get' (i := i) (v := v) t (by simpa using e)
    exact ⟨d, by simpa using h1, h2⟩
theorem RepVs.append : ∀ {ds es : List D} {vs us : List V}, RepVs G W ds vs → RepVs G W es us → RepVs G W (ds ++ es) (vs ++ us)
  | [], _, _, _, h, q => by rw [h.nil_inv]; exact q
  | d :: r, _, _, _, h, q => by
    obtain ⟨v, vr, rfl, s, t⟩ := h.cons_inv
    exact .cons s (t.append q)
theorem RepVs.set : ∀ {ds : List D} {vs : List V} {d : D} {v : V} (i : Nat), RepVs G W ds vs → RepV G W d v → RepVs G W (ds.set i d) (vs.set i v)
  | [], _, _, _, _, h, _ => by rw [h.nil_inv]; exact .nil
  | x :: r, _, _, _, 0, h, q => by
    obtain ⟨v, vr, rfl, s, t⟩ := h.cons_inv
    exact .cons q t
  | x :: r, _, _, _, i + 1, h, q => by
    obtain ⟨v, vr, rfl, s, t⟩ := h.cons_inv
    exact .cons s (t.set i q)
theorem RepVs.take : ∀ {ds : List D} {vs : List V} (n : Nat), RepVs G W ds vs → RepVs G W (ds.take n) (vs.take n)
  | _, _, 0, _ => .nil
  | [], _, n + 1, h => by rw [h.nil_inv]; exact .nil
  | d :: r, _, n + 1, h => by
    obtain ⟨v, vr, rfl, s, t⟩ := h.cons_inv
    exact .cons s (t.take n)
theorem RepVs.drop : ∀ {ds : List D} {vs : List V} (n : Nat), RepVs G W ds vs → RepVs G W (ds.drop n) (vs.drop n)
  | _, _, 0, h => h
  | [], _, n + 1, h => by rw [h.nil_inv]; exact .nil
  | d :: r, _, n + 1, h => by
    obtain ⟨v, vr, rfl, s, t⟩ := h.cons_inv
    exact t.drop n
end

/-! ### the state -/
def RepKV {κ : Type} (G : Glo) (W : Wd) : List (κ × D) → List (κ × V) → Prop := Paired fun (p : κ × D) (q : κ × V) => p.1 = q.1 ∧ RepV G W p.2 q.2
def RepO (G : Glo) (W : Wd) : O → HO → Prop
  | .lst ds, h => ∃ vs, h = .lst vs ∧ RepVs G W ds vs
  | .dk ds, h => ∃ vs, h = .dK vs ∧ RepKV G W ds vs
  | .dt ds, h => ∃ vs, h = .dT vs ∧ RepKV G W ds vs
  | .obj c ds, h => ∃ dx vs, h = .ins (G.cls c) dx (flds G.T c vs) ∧ RepVs G W ds vs ∧ ds.length ≤ (G.T.fl c).length
theorem RepKV.up {κ : Type} {G : Glo} {W W' : Wd} (k : W.le W') {l : List (κ × D)} {m : List (κ × V)} (h : RepKV G W l m) : RepKV G W' l m :=
  Paired.mapP h fun _ _ q => ⟨q.1, q.2.up k⟩
theorem RepO.up {G : Glo} {W W' : Wd} (k : W.le W') : ∀ {o : O} {h : HO}, RepO G W o h → RepO G W' o h
  | .lst _, _, ⟨vs, e, r⟩ => ⟨vs, e, r.up k⟩
  | .dk _, _, ⟨vs, e, r⟩ => ⟨vs, e, RepKV.up k r⟩
  | .dt _, _, ⟨vs, e, r⟩ => ⟨vs, e, RepKV.up k r⟩
  | .obj _ _, _, ⟨dx, vs, e, r, l⟩ => ⟨dx, vs, e, r.up k, l⟩
/-- neither a table nor a thing known by a sentence, nor a tuple (a tuple may become known later) -/
def Pla (o : HO) : Prop := (∀ ps, o ≠ .tbl ps) ∧ (∀ φ, o ≠ .ext φ) ∧ ∀ xs, o ≠ .tup xs
theorem RepO.pla {G : Glo} {W : Wd} : ∀ {o : O} {h : HO}, RepO G W o h → Pla h
  | .lst _, _, ⟨_, e, _⟩ => by subst e; exact ⟨fun _ z => (nomatch z), fun _ z => (nomatch z), fun _ z => (nomatch z)⟩
  | .dk _, _, ⟨_, e, _⟩ => by subst e; exact ⟨fun _ z => (nomatch z), fun _ z => (nomatch z), fun _ z => (nomatch z)⟩
  | .dt _, _, ⟨_, e, _⟩ => by subst e; exact ⟨fun _ z => (nomatch z), fun _ z => (nomatch z), fun _ z => (nomatch z)⟩
  | .obj _ _, _, ⟨_, _, e, _, _⟩ => by subst e; exact ⟨fun _ z => (nomatch z), fun _ z => (nomatch z), fun _ z => (nomatch z)⟩
theorem pla_lst {xs : List V} : Pla (.lst xs) := ⟨fun _ z => (nomatch z), fun _ z => (nomatch z), fun _ z => (nomatch z)⟩
/-- the tables of code objects; each code object is known -/
def Tbs (T : List (Addr × Str)) (W : Wd) (H : Hp) : Prop := (∀ a ps, W.F a ≠ some (.tbl ps)) ∧ ∀ p ∈ T, ∃ ps : Array Value, H p.1 = some (.tbl ps) ∧ TriplesOk ps.toList ∧
  ∀ (pos : Pos) (cv : Value), codeAmong pos ps.toList = some cv → ∃ c, cv = .ref c ∧ W.F c = some (LamX.CodeO c p.2)
/-- the cells as they stand in the heap -/
structure StR (G : Glo) (W : Wd) (C : Cells) (H : Hp) : Prop where
  lnk : G.W0.le W
  tb : Tbs G.tb W H
  F : ∀ a o, W.F a = some o → H a = some o
  cells : ∀ n o, C.get n = some o → ∃ a ho, W.cm n = some a ∧ W.F a = none ∧ H a = some ho ∧ RepO G W o ho
  inj : ∀ n m a o o', C.get n = some o → C.get m = some o' → W.cm n = some a → W.cm m = some a → n = m
  nx : ∀ n, C.nx ≤ n → W.cm n = none
/-- the addresses that the state speaks of -/
def Own (W : Wd) (C : Cells) (a : Addr) : Prop := (∃ o, W.F a = some o) ∨ ∃ n o, C.get n = some o ∧ W.cm n = some a
/-- from one state to a later one: what is known stays known, what is neither known nor a cell is not touched -/
structure Step (W : Wd) (C : Cells) (H : Hp) (W' : Wd) (C' : Cells) (H' : Hp) : Prop where
  le : W.le W'
  nx : C.nx ≤ C'.nx
  fr : ∀ a o, H a = some o → Pla o → ¬ Own W C a → H' a = some o ∧ ¬ Own W' C' a
theorem Step.refl {W : Wd} {C : Cells} {H : Hp} : Step W C H W C H := ⟨.refl, Nat.le_refl _, fun _ _ h _ n => ⟨h, n⟩⟩
theorem Step.trans {W W1 W2 : Wd} {C C1 C2 : Cells} {H H1 H2 : Hp} (a : Step W C H W1 C1 H1) (b : Step W1 C1 H1 W2 C2 H2) : Step W C H W2 C2 H2 :=
  ⟨a.le.trans b.le, Nat.le_trans a.nx b.nx, fun x o h z n => let ⟨h1, n1⟩ := a.fr x o h z n; b.fr x o h1 z n1⟩
section
variable {T : List (Addr × Str)} {W W' : Wd} {H : Hp}
theorem Tbs.new {p : Addr} {o : HO} (t : Tbs T W H) (hp : H p = none) : Tbs T W (upd H p o) := ⟨t.1, fun q hq => by
  obtain ⟨ps, h1, h2, h3⟩ := t.2 q hq
  exact ⟨ps, by rw [upd_ne (ne_of_none h1 hp)]; exact h1, h2, h3⟩⟩
theorem Tbs.put {p : Addr} {o u : HO} (t : Tbs T W H) (hp : H p = some u) (hu : Pla u) : Tbs T W (upd H p o) := ⟨t.1, fun q hq => by
  obtain ⟨ps, h1, h2, h3⟩ := t.2 q hq
  exact ⟨ps, by rw [upd_ne (ne_of h1 hp (Ne.symm (hu.1 ps)))]; exact h1, h2, h3⟩⟩
theorem Tbs.cm (t : Tbs T W H) (h : W'.F = W.F) : Tbs T W' H := by
  unfold Tbs at t ⊢
  rw [h]; exact t
/-- one thing more is known: no table -/
theorem Tbs.kn {p : Addr} {o : HO} (t : Tbs T W H) (hp : H p = some o) (ho : ∀ ps, o ≠ .tbl ps) (le : W.le ⟨upd W.F p o, W.cm⟩) : Tbs T ⟨upd W.F p o, W.cm⟩ H := ⟨fun a ps z => by
  have z' : upd W.F p o a = some (.tbl ps) := z
  by_cases e : a = p
  · subst e; rw [upd_same] at z'; exact ho ps (Option.some.inj z')
  · rw [upd_ne e] at z'; exact t.1 a ps z', fun q hq => by
  obtain ⟨ps, h1, h2, h3⟩ := t.2 q hq
  refine ⟨ps, h1, h2, fun pos cv e => ?_⟩
  obtain ⟨c, e1, e2⟩ := h3 pos cv e
  exact ⟨c, e1, le.F _ _ e2⟩⟩
end
/-- the slots -/
structure RepS (G : Glo) (W : Wd) (sl : Sl) (σ : L2.St) : Prop where
  len : sl.length = σ.length
  at_ : ∀ (i : Nat) (d : D), sl[i]? = some (some d) → ∃ v, σ[i]? = some (some v) ∧ RepV G W d v
theorem RepS.up {G : Glo} {W W' : Wd} {sl : Sl} {σ : L2.St} (k : W.le W') (h : RepS G W sl σ) : RepS G W' sl σ :=
  ⟨h.len, fun i d e => let ⟨v, h1, h2⟩ := h.at_ i d e; ⟨v, h1, h2.up k⟩⟩
theorem RepS.set {G : Glo} {W : Wd} {sl : Sl} {σ : L2.St} {d : D} {v : V} (h : RepS G W sl σ) (i : Nat) (r : RepV G W d v) : RepS G W (sl.set i (some d)) (σ.set i (some v)) := by
  refine ⟨by simp [h.len], fun j e hj => ?_⟩
  by_cases q : j = i
  · subst q
    have hlt : j < sl.length := by
      by_cases z : j < sl.length
      · exact z
      · rw [List.getElem?_eq_none (by simpa using z)] at hj; cases hj
    rw [List.getElem?_set_self hlt] at hj
    cases hj
    exact ⟨v, by rw [List.getElem?_set_self (by rw [← h.len]; exact hlt)], r⟩
  · rw [List.getElem?_set_ne (Ne.symm q)] at hj
    obtain ⟨u, h1, h2⟩ := h.at_ j e hj
    exact ⟨u, by rw [List.getElem?_set_ne (Ne.symm q)]; exact h1, h2⟩
theorem RepS.setN {G : Glo} {W : Wd} {sl : Sl} {σ : L2.St} {z : Option V} (h : RepS G W sl σ) (i : Nat) : RepS G W (sl.set i none) (σ.set i z) := by
  refine ⟨by simp [h.len], fun j e hj => ?_⟩
  by_cases q : j = i
  · subst q
    by_cases hlt : j < sl.length
    · rw [List.getElem?_set_self hlt] at hj; cases hj
    · rw [List.getElem?_eq_none (by simpa using hlt)] at hj; cases hj
  · rw [List.getElem?_set_ne (Ne.symm q)] at hj
    obtain ⟨u, h1, h2⟩ := h.at_ j e hj
    exact ⟨u, by rw [List.getElem?_set_ne (Ne.symm q)]; exact h1, h2⟩

/-! ### what is wanted behind a result -/
def Post {α β : Type} (G : Glo) (Wx : WX) (σ : L2.St) (R : Wd → α → β → Prop) (W : Wd) (C : Cells) (H : Hp) (r : Res α) (Q : β → Hp → Prop) : Prop :=
  match r with
  | .ok a C' => ∀ W' b H', Step W C H W' C' H' → StR G W' C' H' → R W' a b → Q b H'
  | .err c C' => ∀ W' H', Step W C H W' C' H' → StR G W' C' H' → Wx (.ref (G.cls c)) none σ H'
  | .no => False
def Res.bind {α β : Type} (r : Res α) (k : α → Cells → Res β) : Res β := match r with
  | .ok a C => k a C
  | .err c C => .err c C
  | .no => .no
section
variable {α β γ δ : Type} {G : Glo} {Wx : WX} {σ : L2.St} {R : Wd → α → β → Prop} {R' : Wd → γ → δ → Prop} {W W1 : Wd} {C C1 : Cells} {H H1 : Hp}
theorem Post.step {r : Res α} {Q : β → Hp → Prop} (s : Step W C H W1 C1 H1) (h : Post G Wx σ R W C H r Q) : Post G Wx σ R W1 C1 H1 r Q := by
  cases r with
  | ok a C' => exact fun W' b H' t => h W' b H' (s.trans t)
  | err c C' => exact fun W' H' t => h W' H' (s.trans t)
  | no => exact h
/-- one after another -/
theorem Post.bind {r : Res α} {k : α → Cells → Res γ} {Q : δ → Hp → Prop} {Q1 : β → Hp → Prop} (h : Post G Wx σ R' W C H (r.bind k) Q)
    (hk : ∀ a C1 W1 b H1, r = .ok a C1 → Step W C H W1 C1 H1 → StR G W1 C1 H1 → R W1 a b → Post G Wx σ R' W1 C1 H1 (k a C1) Q → Q1 b H1) : Post G Wx σ R W C H r Q1 := by
  cases r with
  | ok a C' => exact fun W' b H' t st rr => hk a C' W' b H' rfl t st rr (Post.step t h)
  | err c C' => exact h
  | no => exact h
theorem Post.map {r : Res α} {k : α → γ} {Q : δ → Hp → Prop} {Q1 : β → Hp → Prop} (h : Post G Wx σ R' W C H (r.bind fun a C => .ok (k a) C) Q)
    (hk : ∀ a W1 b H1, R W1 a b → (∀ b', R' W1 (k a) b' → Q b' H1) → Q1 b H1) : Post G Wx σ R W C H r Q1 :=
  h.bind fun a C1 W1 b H1 _ _ st rr q => hk a W1 b H1 rr fun b' r' => q W1 b' H1 .refl st r'
end

/-! ### the judgements -/
def tR {α β : Type} (G : Glo) (Wx : WX) (R : Wd → α → β → Prop) (f : Sl → Cells → Res α)   : L2.St → Hp → (β → Hp → Prop) → Prop := fun σ H Q =>
  ∃ W sl C, RepS G W sl σ ∧ StR G W C H ∧ Post G Wx σ R W C H (f sl C) Q
abbrev tD (G : Glo) (Wx : WX) (f : EF) : TE := tR G Wx (RepV G) f
abbrev tAr (G : Glo) (Wx : WX) (f : AF) : TA := tR G Wx (RepVs G) f
abbrev tTs (G : Glo) (Wx : WX) (f : TF) : TT := tR G Wx (fun _ a b => a = b) f
structure DE (X : Cx) (G : Glo) (Wx : WX) (e : Expr) (f : EF) : Prop where
  pe : PE X e (tD G Wx f)
structure DA (X : Cx) (G : Glo) (Wx : WX) (es : List Expr) (f : AF) : Prop where
  pa : PA X es (tAr G Wx f)
structure DT (X : Cx) (G : Glo) (Wx : WX) (e : Expr) (f : TF) : Prop where
  pt : PT X e (tTs G Wx f)
structure DW (X : Cx) (G : Glo) (Wx : WX) (e : Expr) (f : TF) : Prop where
  pw : PW X e (tTs G Wx f)
theorem PE.weak {X : Cx} {e : Expr} {t t' : TE} (h : PE X e t) (w : ∀ σ H Q, t' σ H Q → t σ H Q) : PE X e t' := ⟨fun pins s σ H Q I q => h.run pins s σ H Q I (w σ H Q q)⟩
theorem PT.weak {X : Cx} {e : Expr} {t t' : TT} (h : PT X e t) (w : ∀ σ H Q, t' σ H Q → t σ H Q) : PT X e t' := ⟨fun pins s σ H Q I q => h.run pins s σ H Q I (w σ H Q q)⟩
theorem PW.weak {X : Cx} {e : Expr} {t t' : TT} (h : PW X e t) (w : ∀ σ H Q, t' σ H Q → t σ H Q) : PW X e t' := ⟨fun wh pins s σ H Q I q => h.run wh pins s σ H Q I (w σ H Q q)⟩
theorem PA.weak {X : Cx} {es : List Expr} {t t' : TA} (h : PA X es t) (w : ∀ σ H Q, t' σ H Q → t σ H Q) : PA X es t' := ⟨fun pos pins s σ H Q I q => h.run pos pins s σ H Q I (w σ H Q q)⟩
theorem PS.weak {X : Cx} {st : Stmt} {t t' : TS} (h : PS X st t) (w : ∀ D σ H, t' D σ H → t D σ H) : PS X st t' := ⟨fun pins s σ H D I q => h.run pins s σ H D I (w D σ H q)⟩
theorem PSs.weak {X : Cx} {st : List Stmt} {t t' : TS} (h : PSs X st t) (w : ∀ D σ H, t' D σ H → t D σ H) : PSs X st t' := ⟨fun pins s σ H D I q => h.run pins s σ H D I (w D σ H q)⟩
/-- behind a statement -/
def SPost (G : Glo) (Wx : WX) (W : Wd) (C : Cells) (H : Hp) (r : SRes) (D : Ends) : Prop :=
  match r with
  | .nxt s C' => ∀ W' σ' H', Step W C H W' C' H' → StR G W' C' H' → RepS G W' s σ' → D.nx σ' H'
  | .brk s C' => ∀ W' σ' H', Step W C H W' C' H' → StR G W' C' H' → RepS G W' s σ' → D.bk σ' H'
  | .cnt s C' => ∀ W' σ' H', Step W C H W' C' H' → StR G W' C' H' → RepS G W' s σ' → D.ct σ' H'
  | .ret d C' => ∀ W' v H', Step W C H W' C' H' → StR G W' C' H' → RepV G W' d v → D.rt v H'
  | .err c s C' => ∀ W' σ' H', Step W C H W' C' H' → StR G W' C' H' → RepS G W' s σ' → Wx (.ref (G.cls c)) none σ' H'
  | .no => False
theorem SPost.step {G : Glo} {Wx : WX} {W W1 : Wd} {C C1 : Cells} {H H1 : Hp} {r : SRes} {D : Ends} (s : Step W C H W1 C1 H1) (h : SPost G Wx W C H r D) : SPost G Wx W1 C1 H1 r D := by
  cases r with
  | nxt a C' => exact fun W' b H' t => h W' b H' (s.trans t)
  | brk a C' => exact fun W' b H' t => h W' b H' (s.trans t)
  | cnt a C' => exact fun W' b H' t => h W' b H' (s.trans t)
  | ret a C' => exact fun W' b H' t => h W' b H' (s.trans t)
  | err c a C' => exact fun W' b H' t => h W' b H' (s.trans t)
  | no => exact h
def tSt (G : Glo) (Wx : WX) (g : SF) : TS := fun D σ H => ∃ W sl C, RepS G W sl σ ∧ StR G W C H ∧ SPost G Wx W C H (g sl C) D
structure DS (X : Cx) (G : Glo) (Wx : WX) (st : Stmt) (g : SF) : Prop where
  ps : PS X st (tSt G Wx g)
structure DSs (X : Cx) (G : Glo) (Wx : WX) (st : List Stmt) (g : SF) : Prop where
  ps : PSs X st (tSt G Wx g)
end DL

set_option Elab.async false
set_option linter.all false
set_option maxRecDepth 100000
set_option autoImplicit false
namespace DL
open PySem PySem.Spec PyProof.Rows L2
section
variable {G : Glo} {W : Wd} {d : D} {v : V}
/-! ### what stands for what -/
theorem RepV.non_ (h : RepV G W .non v) : v = .non := by unfold RepV at h; exact h
theorem RepV.bl_ {b : Bool} (h : RepV G W (.bl b) v) : v = .bl b := by unfold RepV at h; exact h
theorem RepV.int_ {i : Int} (h : RepV G W (.int i) v) : v = .int i := by unfold RepV at h; exact h
theorem RepV.str_ {s : Str} (h : RepV G W (.str s) v) : v = .str s := by unfold RepV at h; exact h
theorem RepV.lst_ {ds : List D} (h : RepV G W (.lst ds) v) : ∃ a vs, v = .ref a ∧ W.F a = some (.lst vs) ∧ RepVs G W ds vs := by unfold RepV at h; exact h
theorem RepV.scr_ {ds : List D} (h : RepV G W (.scr ds) v) : ∃ a vs, v = .ref a ∧ SqL G.K W.F a vs ∧ RepVs G W ds vs := by unfold RepV at h; exact h
theorem RepV.tup_ {ds : List D} (h : RepV G W (.tup ds) v) : ∃ a vs, v = .ref a ∧ W.F a = some (.tup vs) ∧ RepVs G W ds vs := by unfold RepV at h; exact h
theorem RepV.ktp_ {ds : List D} (h : RepV G W (.ktp ds) v) : ∃ a vs, v = .ref a ∧ SqT G.K W.F a vs ∧ RepVs G W ds vs := by unfold RepV at h; exact h
theorem RepV.obj_ {c : Nat} {ds : List D} (h : RepV G W (.obj c ds) v) : ∃ a dx vs, v = .ref a ∧ W.F a = some (.ins (G.cls c) dx (flds G.T c vs)) ∧ RepVs G W ds vs ∧ ds.length = (G.T.fl c).length := by unfold RepV at h; exact h
theorem RepV.cel_ {n : Nat} (h : RepV G W (.cel n) v) : ∃ a, v = .ref a ∧ W.cm n = some a := by unfold RepV at h; exact h
theorem RepV.opq_ {k : Nat} {ds : List D} (h : RepV G W (.opq k ds) v) : ∃ a vs, v = .ref a ∧ W.F a = some (G.oq k vs a) ∧ RepVs G W ds vs := by unfold RepV at h; exact h
theorem RepV.non : RepV G W .non .non := by unfold RepV; rfl
theorem RepV.bl {b : Bool} : RepV G W (.bl b) (.bl b) := by unfold RepV; rfl
theorem RepV.int {i : Int} : RepV G W (.int i) (.int i) := by unfold RepV; rfl
theorem RepV.str {s : Str} : RepV G W (.str s) (.str s) := by unfold RepV; rfl
theorem RepV.lst {ds : List D} {a : Addr} {vs : List V} (h : W.F a = some (.lst vs)) (r : RepVs G W ds vs) : RepV G W (.lst ds) (.ref a) := by unfold RepV; exact ⟨a, vs, rfl, h, r⟩
theorem RepV.scr {ds : List D} {a : Addr} {vs : List V} (h : SqL G.K W.F a vs) (r : RepVs G W ds vs) : RepV G W (.scr ds) (.ref a) := by unfold RepV; exact ⟨a, vs, rfl, h, r⟩
theorem RepV.tup {ds : List D} {a : Addr} {vs : List V} (h : W.F a = some (.tup vs)) (r : RepVs G W ds vs) : RepV G W (.tup ds) (.ref a) := by unfold RepV; exact ⟨a, vs, rfl, h, r⟩
theorem RepV.ktp {ds : List D} {a : Addr} {vs : List V} (h : SqT G.K W.F a vs) (r : RepVs G W ds vs) : RepV G W (.ktp ds) (.ref a) := by unfold RepV; exact ⟨a, vs, rfl, h, r⟩
theorem RepV.obj {c : Nat} {ds : List D} {a dx : Addr} {vs : List V} (h : W.F a = some (.ins (G.cls c) dx (flds G.T c vs))) (r : RepVs G W ds vs) (l : ds.length = (G.T.fl c).length) : RepV G W (.obj c ds) (.ref a) := by unfold RepV; exact ⟨a, dx, vs, rfl, h, r, l⟩
theorem RepV.cel {n : Nat} {a : Addr} (h : W.cm n = some a) : RepV G W (.cel n) (.ref a) := by unfold RepV; exact ⟨a, rfl, h⟩
theorem RepV.opq {k : Nat} {ds : List D} {a : Addr} {vs : List V} (h : W.F a = some (G.oq k vs a)) (r : RepVs G W ds vs) : RepV G W (.opq k ds) (.ref a) := by unfold RepV; exact ⟨a, vs, rfl, h, r⟩
end

/-! ### lists, tuples, objects read off data -/
/-- the items of a list: known, a cell's, the script's -/
def lstOf (C : Cells) : D → Option (List D)
  | .lst l => some l
  | .scr l => some l
  | .cel n => match C.get n with | some (.lst l) => some l | _ => none
  | _ => none
/-- .. but not the script's -/
def trkOf (C : Cells) : D → Option (List D)
  | .lst l => some l
  | .cel n => match C.get n with | some (.lst l) => some l | _ => none
  | _ => none
def tupOf : D → Option (List D)
  | .tup l => some l
  | _ => none
def seqOf (C : Cells) : D → Option (List D)
  | .tup l => some l
  | .ktp l => some l
  | d => lstOf C d
def objOf (C : Cells) : D → Option (Nat × List D)
  | .obj c l => some (c, l)
  | .cel n => match C.get n with | some (.obj c l) => some (c, l) | _ => none
  | _ => none
section
variable {G : Glo} {W : Wd} {C : Cells} {H : Hp} {d : D} {v : V} {l : List D}
theorem StR.cel_lst (st : StR G W C H) {n : Nat} (e : C.get n = some (.lst l)) : ∃ a vs, W.cm n = some a ∧ W.F a = none ∧ H a = some (.lst vs) ∧ RepVs G W l vs := by
  obtain ⟨a, ho, h1, h2, h3, vs, rfl, r⟩ := st.cells n _ e
  exact ⟨a, vs, h1, h2, h3, r⟩
theorem trkOf_ok (st : StR G W C H) (r : RepV G W d v) (e : trkOf C d = some l) : ∃ a vs, v = .ref a ∧ H a = some (.lst vs) ∧ RepVs G W l vs := by
  cases d with
  | lst ds =>
    obtain rfl := Option.some.inj e
    obtain ⟨a, vs, rfl, h, q⟩ := r.lst_
    exact ⟨a, vs, rfl, st.F _ _ h, q⟩
  | cel n =>
    obtain ⟨a, rfl, h⟩ := r.cel_
    have e' : (match C.get n with | some (.lst l) => some l | _ => none) = some l := e
    split at e'
    · rename_i l' h'
      cases e'
      obtain ⟨b, vs, h1, h2, h3, q⟩ := st.cel_lst h'
      rw [h] at h1; cases h1
      exact ⟨a, vs, rfl, h3, q⟩
    · cases e'
  | _ => cases e
theorem lstOf_ok (st : StR G W C H) (r : RepV G W d v) (e : lstOf C d = some l) : ∃ a vs, v = .ref a ∧ SqL G.K H a vs ∧ RepVs G W l vs := by
  cases d with
  | lst ds =>
    obtain ⟨a, vs, h1, h2, h3⟩ := trkOf_ok (l := l) st r e
    exact ⟨a, vs, h1, .of h2, h3⟩
  | cel n =>
    obtain ⟨a, vs, h1, h2, h3⟩ := trkOf_ok (l := l) st r e
    exact ⟨a, vs, h1, .of h2, h3⟩
  | scr ds =>
    obtain rfl := Option.some.inj e
    obtain ⟨a, vs, rfl, h, q⟩ := r.scr_
    exact ⟨a, vs, rfl, SqL.up st.F h, q⟩
  | _ => cases e
theorem tupOf_ok (st : StR G W C H) (r : RepV G W d v) (e : tupOf d = some l) : ∃ a vs, v = .ref a ∧ SqT G.K H a vs ∧ RepVs G W l vs := by
  cases d with
  | tup ds =>
    obtain rfl := Option.some.inj e
    obtain ⟨a, vs, rfl, h, q⟩ := r.tup_
    exact ⟨a, vs, rfl, .of (st.F _ _ h), q⟩
  | _ => cases e
theorem seqOf_ok (st : StR G W C H) (r : RepV G W d v) (e : seqOf C d = some l) : ∃ a vs, v = .ref a ∧ (SqL G.K H a vs ∨ SqT G.K H a vs) ∧ RepVs G W l vs := by
  cases d with
  | tup ds =>
    obtain ⟨a, vs, h1, h2, h3⟩ := tupOf_ok (l := l) st r e
    exact ⟨a, vs, h1, .inr h2, h3⟩
  | ktp ds =>
    cases Option.some.inj e
    obtain ⟨a, vs, rfl, h, q⟩ := r.ktp_
    exact ⟨a, vs, rfl, .inr (SqT.up st.F h), q⟩
  | _ =>
    obtain ⟨a, vs, h1, h2, h3⟩ := lstOf_ok (l := l) st r e
    exact ⟨a, vs, h1, .inl h2, h3⟩
theorem objOf_ok {c : Nat} (st : StR G W C H) (r : RepV G W d v) (e : objOf C d = some (c, l)) : ∃ a dx vs, v = .ref a ∧ H a = some (.ins (G.cls c) dx (flds G.T c vs)) ∧ RepVs G W l vs ∧ l.length ≤ (G.T.fl c).length := by
  cases d with
  | obj c' ds =>
    cases Option.some.inj e
    obtain ⟨a, dx, vs, rfl, h, q, z⟩ := r.obj_
    exact ⟨a, dx, vs, rfl, st.F _ _ h, q, Nat.le_of_eq z⟩
  | cel n =>
    obtain ⟨a, rfl, h⟩ := r.cel_
    have e' : (match C.get n with | some (.obj c l) => some (c, l) | _ => none) = some (c, l) := e
    split at e'
    · rename_i c' l' h'
      cases e'
      obtain ⟨b, ho, h1, h2, h3, dx, vs, rfl, q, z⟩ := st.cells n _ h'
      rw [h] at h1; cases h1
      exact ⟨a, dx, vs, rfl, h3, q, z⟩
    · cases e'
  | _ => cases e

/-! ### three moves: a new known thing, a new cell, a cell rewritten -/
theorem fr_fz {p : Addr} {o : HO} (st : StR G W C H) (hp : H p = none) (ho : ∀ ps, o ≠ .tbl ps := by exact fun _ z => (nomatch z)) : StR G ⟨upd W.F p o, W.cm⟩ C (upd H p o) ∧ Step W C H ⟨upd W.F p o, W.cm⟩ C (upd H p o) := by
  have np : ∀ a o', H a = some o' → a ≠ p := fun a o' h e => by rw [e, hp] at h; cases h
  have nf : ∀ a o', W.F a = some o' → a ≠ p := fun a o' h => np a o' (st.F a o' h)
  have le : W.le ⟨upd W.F p o, W.cm⟩ := ⟨fun a o' h => by show upd W.F p o a = _; rw [upd_ne (nf a o' h)]; exact h, fun _ _ h => h⟩
  refine ⟨⟨st.lnk.trans le, (st.tb.new hp).kn upd_same ho le, fun a o' h => ?_, fun n o' h => ?_, st.inj, st.nx⟩, le, Nat.le_refl _, fun a o' h _ n => ⟨by rw [upd_ne (np a o' h)]; exact h, fun q => n ?_⟩⟩
  · by_cases e : a = p
    · subst e
      have h' : upd W.F a o a = some o' := h
      rw [upd_same] at h' ⊢; exact h'
    · have h' : upd W.F p o a = some o' := h
      rw [upd_ne e] at h' ⊢; exact st.F a o' h'
  · obtain ⟨a, ho, h1, h2, h3, h4⟩ := st.cells n o' h
    have ne := np a _ h3
    exact ⟨a, ho, h1, by show upd W.F p o a = none; rw [upd_ne ne]; exact h2, by rw [upd_ne ne]; exact h3, h4.up le⟩
  · rcases q with ⟨o2, q⟩ | q
    · have q' : upd W.F p o a = some o2 := q
      rw [upd_ne (np a o' h)] at q'
      exact .inl ⟨o2, q'⟩
    · exact .inr q
theorem fr_new {p : Addr} {o : O} {ho : HO} (st : StR G W C H) (hp : H p = none) (r : RepO G W o ho) :
    StR G ⟨W.F, fun n => if n = C.nx then some p else W.cm n⟩ (C.new o) (upd H p ho) ∧ Step W C H ⟨W.F, fun n => if n = C.nx then some p else W.cm n⟩ (C.new o) (upd H p ho) := by
  have np : ∀ a o', H a = some o' → a ≠ p := fun a o' h e => by rw [e, hp] at h; cases h
  have le : W.le ⟨W.F, fun n => if n = C.nx then some p else W.cm n⟩ := ⟨fun _ _ h => h, fun n a h => by
    show (if n = C.nx then some p else W.cm n) = some a
    have : n ≠ C.nx := fun e => by rw [e, st.nx _ (Nat.le_refl _)] at h; cases h
    rw [if_neg this]; exact h⟩
  have pF : W.F p = none := by
    cases q : W.F p with
    | none => rfl
    | some u => have := st.F p u q; rw [hp] at this; cases this
  have old : ∀ n o', C.get n = some o' → n ≠ C.nx := fun n o' h => Nat.ne_of_lt (Cells.lt h)
  have got : ∀ n o', (C.new o).get n = some o' → (n = C.nx ∧ o' = o) ∨ (n ≠ C.nx ∧ C.get n = some o') := fun n o' h => by
    by_cases e : n = C.nx
    · subst e; rw [get_new] at h; cases h; exact .inl ⟨rfl, rfl⟩
    · rw [get_new_ne e] at h; exact .inr ⟨e, h⟩
  refine ⟨⟨st.lnk.trans le, (st.tb.new hp).cm rfl, fun a o' h => by rw [upd_ne (np a o' (st.F a o' h))]; exact st.F a o' h, fun n o' h => ?_, fun n m a o1 o2 h1 h2 h3 h4 => ?_, fun n hn => ?_⟩, le, Nat.le_succ _, fun a o' h _ n => ⟨by rw [upd_ne (np a o' h)]; exact h, fun q => n ?_⟩⟩
  · rcases got n o' h with ⟨rfl, rfl⟩ | ⟨e, h⟩
    · exact ⟨p, ho, if_pos rfl, pF, upd_same, r.up le⟩
    · obtain ⟨a, ho', h1, h2, h3, h4⟩ := st.cells n o' h
      exact ⟨a, ho', (if_neg e).trans h1, h2, by rw [upd_ne (np a _ h3)]; exact h3, h4.up le⟩
  · have h3' : (if n = C.nx then some p else W.cm n) = some a := h3
    have h4' : (if m = C.nx then some p else W.cm m) = some a := h4
    rcases got n o1 h1 with ⟨rfl, _⟩ | ⟨e, h1⟩
    · rcases got m o2 h2 with ⟨rfl, _⟩ | ⟨e2, h2⟩
      · rfl
      · rw [if_pos rfl] at h3'; rw [if_neg e2] at h4'
        cases h3'
        obtain ⟨b, ho', k1, _, k3, _⟩ := st.cells m o2 h2
        rw [h4'] at k1; cases k1
        rw [hp] at k3; cases k3
    · rcases got m o2 h2 with ⟨rfl, _⟩ | ⟨e2, h2⟩
      · rw [if_pos rfl] at h4'; rw [if_neg e] at h3'
        cases h4'
        obtain ⟨b, ho', k1, _, k3, _⟩ := st.cells n o1 h1
        rw [h3'] at k1; cases k1
        rw [hp] at k3; cases k3
      · rw [if_neg e] at h3'; rw [if_neg e2] at h4'
        exact st.inj n m a o1 o2 h1 h2 h3' h4'
  · have hn' : C.nx + 1 ≤ n := hn
    show (if n = C.nx then some p else W.cm n) = none
    rw [if_neg (by omega)]; exact st.nx n (by omega)
  · rcases q with q | ⟨m, o2, q1, q2⟩
    · exact .inl q
    · have q2' : (if m = C.nx then some p else W.cm m) = some a := q2
      rcases got m o2 q1 with ⟨rfl, _⟩ | ⟨e, q1⟩
      · rw [if_pos rfl] at q2'; cases q2'
        exact absurd rfl (np _ _ h)
      · rw [if_neg e] at q2'
        exact .inr ⟨m, o2, q1, q2'⟩
theorem fr_set {n : Nat} {a : Addr} {o' o : O} {ho : HO} (st : StR G W C H) (hn : C.get n = some o') (ha : W.cm n = some a) (r : RepO G W o ho) :
    StR G W (C.set n o) (upd H a ho) ∧ Step W C H W (C.set n o) (upd H a ho) := by
  obtain ⟨b, hb, h1, h2, h3, h4⟩ := st.cells n o' hn
  rw [ha] at h1; cases h1
  have got : ∀ m o2, (C.set n o).get m = some o2 → (m = n ∧ o2 = o) ∨ (m ≠ n ∧ C.get m = some o2) := fun m o2 h => by
    by_cases e : m = n
    · subst e; rw [get_set hn] at h; cases h; exact .inl ⟨rfl, rfl⟩
    · rw [get_set_ne e] at h; exact .inr ⟨e, h⟩
  have nF : ∀ x u, W.F x = some u → x ≠ a := fun x u h e => by rw [e, h2] at h; cases h
  refine ⟨⟨st.lnk, st.tb.put h3 h4.pla, fun x u h => by rw [upd_ne (nF x u h)]; exact st.F x u h, fun m o2 h => ?_, fun m k x o1 o2 k1 k2 k3 k4 => ?_, st.nx⟩, .refl, Nat.le_refl _, fun x u h _ q => ⟨?_, fun z => q ?_⟩⟩
  · rcases got m o2 h with ⟨rfl, rfl⟩ | ⟨e, h⟩
    · exact ⟨a, ho, ha, h2, upd_same, r⟩
    · obtain ⟨x, hx, k1, k2, k3, k4⟩ := st.cells m o2 h
      have : x ≠ a := fun e2 => e (st.inj m n a o2 o' h hn (e2 ▸ k1) ha)
      exact ⟨x, hx, k1, k2, by rw [upd_ne this]; exact k3, k4⟩
  · have g1 : ∃ o1, C.get m = some o1 := by rcases got m o1 k1 with ⟨rfl, _⟩ | ⟨_, k1⟩; exact ⟨_, hn⟩; exact ⟨_, k1⟩
    have g2 : ∃ o1, C.get k = some o1 := by rcases got k o2 k2 with ⟨rfl, _⟩ | ⟨_, k2⟩; exact ⟨_, hn⟩; exact ⟨_, k2⟩
    obtain ⟨_, g1⟩ := g1
    obtain ⟨_, g2⟩ := g2
    exact st.inj m k x _ _ g1 g2 k3 k4
  · have : x ≠ a := fun e => q (.inr ⟨n, o', hn, e ▸ ha⟩)
    rw [upd_ne this]; exact h
  · rcases z with z | ⟨m, o2, z1, z2⟩
    · exact .inl z
    · rcases got m o2 z1 with ⟨rfl, _⟩ | ⟨_, z1⟩
      · exact .inr ⟨m, o', hn, z2⟩
      · exact .inr ⟨m, o2, z1, z2⟩
/-- a cell's list becomes known: it is never written again -/
theorem fr_frz {n : Nat} {a : Addr} {o : O} {ho : HO} (st : StR G W C H) (hn : C.get n = some o) (ha : W.cm n = some a) (hh : H a = some ho) :
    StR G ⟨upd W.F a ho, W.cm⟩ (C.del n) H ∧ Step W C H ⟨upd W.F a ho, W.cm⟩ (C.del n) H := by
  obtain ⟨b, hb, h1, h2, h3, h4⟩ := st.cells n o hn
  rw [ha] at h1; cases h1
  rw [hh] at h3; cases h3
  have nF : ∀ x u, W.F x = some u → x ≠ a := fun x u h e => by rw [e, h2] at h; cases h
  have le : W.le ⟨upd W.F a ho, W.cm⟩ := ⟨fun x u h => by show upd W.F a ho x = _; rw [upd_ne (nF x u h)]; exact h, fun _ _ h => h⟩
  have got : ∀ m o2, (C.del n).get m = some o2 → m ≠ n ∧ C.get m = some o2 := fun m o2 h => by
    by_cases e : m = n
    · subst e; rw [get_del] at h; cases h
    · rw [get_del_ne e] at h; exact ⟨e, h⟩
  refine ⟨⟨st.lnk.trans le, st.tb.kn hh h4.pla.1 le, fun x u h => ?_, fun m o2 h => ?_, fun m k x o1 o2 k1 k2 k3 k4 => st.inj m k x _ _ (got m o1 k1).2 (got k o2 k2).2 k3 k4, st.nx⟩, le, Nat.le_refl _, fun x u h _ q => ⟨h, fun z => q ?_⟩⟩
  · have h' : upd W.F a ho x = some u := h
    by_cases e : x = a
    · subst e; rw [upd_same] at h'; cases h'; exact hh
    · rw [upd_ne e] at h'; exact st.F x u h'
  · obtain ⟨e, h⟩ := got m o2 h
    obtain ⟨x, hx, k1, k2, k3, k4⟩ := st.cells m o2 h
    have : x ≠ a := fun e2 => e (st.inj m n a o2 o h hn (e2 ▸ k1) ha)
    exact ⟨x, hx, k1, by show upd W.F a ho x = none; rw [upd_ne this]; exact k2, k3, k4.up le⟩
  · rcases z with ⟨u2, z⟩ | ⟨m, o2, z1, z2⟩
    · have z' : upd W.F a ho x = some u2 := z
      by_cases e : x = a
      · subst e; exact .inr ⟨n, o, hn, ha⟩
      · rw [upd_ne e] at z'; exact .inl ⟨u2, z'⟩
    · exact .inr ⟨m, o2, (got m o2 z1).2, z2⟩
end

/-! ### names, constants -/
def eC (d : D) : EF := fun _ C => .ok d C
def eVar (i : Nat) : EF := fun s C => match s[i]? with
  | some (some d) => .ok d C
  | _ => .no
section
variable {X : Cx} {G : Glo} {Wx : WX} {a b c e : Expr} {fa fb fc f : EF} {pos : Pos}
theorem de_weak {t : TE} (h : PE X e t) (w : ∀ σ H Q, tD G Wx f σ H Q → t σ H Q) : DE X G Wx e f := ⟨PE.weak h w⟩
theorem de_c {v : V} {d : D} (h : PE X e (tC v)) (r : ∀ W, RepV G W d v) : DE X G Wx e (eC d) :=
  de_weak h fun σ H Q ⟨W, sl, C, rs, st, q⟩ => q W v H .refl st (r W)
theorem de_int {i : Int} {j} : DE X G Wx (.Constant (.int i) j pos) (eC (.int i)) := de_c pe_int fun _ => .int
theorem de_bl {i : Bool} {j} : DE X G Wx (.Constant (.bool i) j pos) (eC (.bl i)) := de_c pe_bl fun _ => .bl
theorem de_non {j} : DE X G Wx (.Constant .none j pos) (eC .non) := de_c pe_non fun _ => .non
theorem de_str {x : Str} {j} : DE X G Wx (.Constant (.str x) j pos) (eC (.str x)) := de_c pe_str fun _ => .str
theorem de_glob {x : Str} {v : V} {u : Value} {d : D} (hg : Gl X x) (hm : X.mg x = some u) (r : RelV v u) (rd : ∀ W, RepV G W d v) (hd : (x == ("__debug__" : Str)) = false := by decide) : DE X G Wx (.Name x pos) (eC d) := de_c (pe_glob hg hm r hd) rd
theorem de_varP {i : Nat} (h : PE X e (tVar i)) : DE X G Wx e (eVar i) := de_weak h fun σ H Q ⟨W, sl, C, rs, st, q⟩ => by
  unfold eVar at q
  split at q
  · rename_i d h'
    obtain ⟨v, h1, h2⟩ := rs.at_ i d h'
    exact ⟨v, h1, q W v H .refl st h2⟩
  · exact q.elim
theorem dv (i : Nat) {x : Str} (hN : X.N[i]? = some x := by rfl) (hv : Vis X.env.scope x := by first | exact Or.inl rfl | exact Or.inr (Or.inl rfl) | exact Or.inr (Or.inr rfl)) (hd : (x == ("__debug__" : Str)) = false := by decide)
    (hcd : (x == ("__classdict__" : Str)) = false := by decide) : DE X G Wx (.Name x pos) (eVar i) := de_varP (pe_var hN hv hd hcd)

/-! ### two-place operations -/
def e2 (g : D → D → Cells → Res D) (fa fb : EF) : EF := fun s C => (fa s C).bind fun x C => (fb s C).bind fun y C => g x y C
/-- what a rule by values is worth on data -/
def Op2 (G : Glo) (r : R2) (g : D → D → Cells → Res D) : Prop := ∀ (Wx : WX) (σ : L2.St) (W : Wd) (C : Cells) (H : Hp) (x y : D) (v u : V) (Q : VK), StR G W C H → RepV G W x v → RepV G W y u → Post G Wx σ (RepV G) W C H (g x y C) Q → r v u H Q
theorem op2_use {r : R2} {g : D → D → Cells → Res D} {ta tb : TE} (hr : Op2 G r g) {σ : L2.St} {H : Hp} {Q : VK} (h : tD G Wx (e2 g fa fb) σ H Q) : tOp r (tD G Wx fa) (tD G Wx fb) σ H Q := by
  obtain ⟨W, sl, C, rs, st, q⟩ := h
  exact ⟨W, sl, C, rs, st, q.bind fun x C1 W1 v H1 _ t st1 rx q1 => ⟨W1, sl, C1, rs.up t.le, st1, q1.bind fun y C2 W2 u H2 _ t2 st2 ry q2 => hr Wx σ W2 C2 H2 x y v u Q st2 (rx.up t2.le) ry q2⟩⟩
theorem de_op {op : Operator} {r : R2} {g : D → D → Cells → Res D} (ho : OpR X (binaryOp op) r) (hr : Op2 G r g) (ha : DE X G Wx a fa) (hb : DE X G Wx b fb) : DE X G Wx (.BinOp a op b pos) (e2 g fa fb) :=
  de_weak (pe_op ho ha.pe hb.pe) fun _ _ _ h => op2_use (ta := tD G Wx fa) (tb := tD G Wx fb) hr h
theorem de_cmp {op : CmpOp} {r : R2} {g : D → D → Cells → Res D} (ho : OpR X (compareOp op) r) (hr : Op2 G r g) (hm : behindInMarks op b = false) (ha : DE X G Wx a fa) (hb : DE X G Wx b fb) : DE X G Wx (.Compare a [op] [b] pos) (e2 g fa fb) :=
  de_weak (pe_cmpR ho ha.pe hb.pe hm) fun _ _ _ h => op2_use (ta := tD G Wx fa) (tb := tD G Wx fb) hr h
/-- a value as a truth -/
def asB (f : EF) : TF := fun s C => (f s C).bind fun d C => match d with | .bl b => .ok b C | _ => .no
theorem asB_use {σ : L2.St} {H : Hp} {Q : Bool → Hp → Prop} {W : Wd} {C : Cells} {r : Res D} (h : Post G Wx σ (fun _ a b => a = b) W C H (r.bind fun d C => match d with | .bl b => .ok b C | _ => .no) Q) :
    Post G Wx σ (RepV G) W C H r fun x H' => ∃ k, x = .bl k ∧ Q k H' := by
  refine h.bind fun d C1 W1 v H1 _ t st rr q => ?_
  cases d with
  | bl b => exact ⟨b, rr.bl_, q W1 b H1 .refl st rfl⟩
  | _ => exact q.elim
theorem dt_cmp {op : CmpOp} {r : R2} {g : D → D → Cells → Res D} (ho : OpR X (compareOp op) r) (hr : Op2 G r g) (hm : behindInMarks op b = false) (ha : DE X G Wx a fa) (hb : DE X G Wx b fb) : DT X G Wx (.Compare a [op] [b] pos) (asB (e2 g fa fb)) :=
  ⟨PT.weak (pt_cmpR ho ha.pe hb.pe hm) fun σ H Q ⟨W, sl, C, rs, st, q⟩ => op2_use (ta := tD G Wx fa) (tb := tD G Wx fb) hr ⟨W, sl, C, rs, st, asB_use q⟩⟩
theorem dt_val (h : DE X G Wx e f) (he : ∀ whole, isTrue e X.env whole = (do let v ← whole; standAt e.pos; holding [v] (truthy v)) := by intro _; rfl) : DT X G Wx e (asB f) :=
  ⟨PT.weak (pt_val h.pe he) fun σ H Q ⟨W, sl, C, rs, st, q⟩ => ⟨W, sl, C, rs, st, asB_use q⟩⟩
end

end DL

set_option Elab.async false
set_option linter.all false
set_option maxRecDepth 100000
set_option autoImplicit false
namespace DL
open PySem PySem.Spec PyProof.Rows L2

/-! ### the operators on data -/
def mxl : Nat := 16777216
theorem mxl_eq : mxl = sizeLine := sizeLine_eq.symm
instance CMul.dec (i j : Int) : Decidable (CMul i j) := by unfold CMul; exact inferInstance
instance CDiv.dec (i j : Int) : Decidable (CDiv i j) := by unfold CDiv; exact inferInstance
instance CPow.dec (i j : Int) : Decidable (CPow i j) := by unfold CPow; exact inferInstance
/-- a known list is made -/
def dCatL (C : Cells) (x y : D) : Res D := match trkOf C x, trkOf C y with
  | some a, some b => if a.length + b.length ≤ mxl then .ok (.lst (a ++ b)) C else .no
  | _, _ => .no
def dAdd (x y : D) (C : Cells) : Res D := match x, y with
  | .int i, .int j => .ok (.int (i + j)) C
  | .int i, .bl j => .ok (.int (i + b2i j)) C
  | .str a, .str b => if a.length + b.length ≤ mxl then .ok (.str (a ++ b)) C else .no
  | .tup a, .tup b => if a ≠ [] ∧ b ≠ [] ∧ a.length + b.length ≤ mxl then .ok (.tup (a ++ b)) C else .no
  | .lst a, y => dCatL C (.lst a) y
  | .cel a, y => dCatL C (.cel a) y
  | _, _ => .no
def dSub (x y : D) (C : Cells) : Res D := match x, y with
  | .int i, .int j => .ok (.int (i - j)) C
  | _, _ => .no
def dMul (x y : D) (C : Cells) : Res D := match x, y with
  | .int i, .int j => if CMul i j then .ok (.int (i * j)) C else .no
  | x, .int k => match trkOf C x with
    | some l => if -(2 ^ 63) ≤ k ∧ k < 2 ^ 63 ∧ l.length * k.toNat ≤ mxl then .ok (.lst (List.replicate k.toNat l).flatten) C else .no
    | _ => .no
  | _, _ => .no
def dDiv (x y : D) (C : Cells) : Res D := match x, y with
  | .int i, .int j => if CDiv i j then .ok (.int (i / j)) C else .no
  | _, _ => .no
def dMod (x y : D) (C : Cells) : Res D := match x, y with
  | .int i, .int j => if 0 < j then .ok (.int (i % j)) C else .no
  | _, _ => .no
def dPow (x y : D) (C : Cells) : Res D := match x, y with
  | .int i, .int j => if CPow i j then .ok (.int (i ^ j.toNat)) C else .no
  | _, _ => .no
/-- ints, texts by their order -/
def dLt (x y : D) (C : Cells) : Res D := match x, y with
  | .int i, .int j => .ok (.bl (decide (i < j))) C
  | _, _ => .no
def dLe (x y : D) (C : Cells) : Res D := match x, y with
  | .int i, .int j => .ok (.bl (decide (i ≤ j))) C
  | _, _ => .no
def dGt (x y : D) (C : Cells) : Res D := match x, y with
  | .int i, .int j => .ok (.bl (decide (j < i))) C
  | _, _ => .no
def dGe (x y : D) (C : Cells) : Res D := match x, y with
  | .int i, .int j => .ok (.bl (decide (j ≤ i))) C
  | _, _ => .no
def isN : D → Bool
  | .non => true
  | _ => false
def dIsN (x y : D) (C : Cells) : Res D := match y with
  | .non => .ok (.bl (isN x)) C
  | _ => .no
def dNotN (x y : D) (C : Cells) : Res D := match y with
  | .non => .ok (.bl (!isN x)) C
  | _ => .no

/-! ### equality -/
mutual
def eqD : D → D → Bool
  | .non, .non => true
  | .bl a, .bl b => a == b
  | .bl a, .int j => (if a then 1 else 0) == j
  | .int i, .bl b => i == (if b then 1 else 0)
  | .int i, .int j => i == j
  | .str x, .str y => x == y
  | .lst xs, .lst ys => eqDs xs ys
  | .tup xs, .tup ys => eqDs xs ys
  | _, _ => false
def eqDs : List D → List D → Bool
  | [], [] => true
  | x :: xs, y :: ys => eqD x y && eqDs xs ys
  | [], _ :: _ => false
  | _ :: _, [] => false
end
/-- plain data, n deep at most -/
def plain : Nat → D → Bool
  | 0, _ => false
  | _ + 1, .non => true
  | _ + 1, .bl _ => true
  | _ + 1, .int _ => true
  | _ + 1, .str s => PyData.strOk s
  | n + 1, .lst l => l.all (plain n)
  | n + 1, .tup l => l.all (plain n)
  | _ + 1, _ => false
mutual
def toP : D → PyData
  | .non => .none
  | .bl b => .bool b
  | .int i => .int i
  | .str s => .str s
  | .lst l => .list (toPs l)
  | .tup l => .tuple (toPs l)
  | _ => .none
def toPs : List D → List PyData
  | [] => []
  | d :: r => toP d :: toPs r
end
/-- a cell's list, the script, as a list -/
def vw (C : Cells) (d : D) : D := match lstOf C d with
  | some l => .lst l
  | none => d
def dEq (x y : D) (C : Cells) : Res D := if plain 30 (vw C x) && plain 30 (vw C y) then .ok (.bl (eqD (vw C x) (vw C y))) C else .no
def dNe (x y : D) (C : Cells) : Res D := if plain 30 (vw C x) && plain 30 (vw C y) then .ok (.bl (!eqD (vw C x) (vw C y))) C else .no

mutual
theorem eqv_toP : ∀ (n : Nat) (x y : D), plain n x = true → plain n y = true → PyData.eqv (toP x) (toP y) = eqD x y
  | 0, x, _, h, _ => by unfold plain at h; cases h
  | n + 1, x, y, h1, h2 => by
    cases x with
    | non => cases y <;> simp [plain] at h2 <;> simp [toP, PyData.eqv, eqD]
    | bl b => cases y <;> simp [plain] at h2 <;> simp [toP, PyData.eqv, eqD]
    | int b => cases y <;> simp [plain] at h2 <;> simp [toP, PyData.eqv, eqD]
    | str b => cases y <;> simp [plain] at h2 <;> simp [toP, PyData.eqv, eqD]
    | lst l =>
      cases y with
      | lst m => simp only [toP, PyData.eqv, eqD]; exact eqvs_toP n l m (by simpa [plain] using h1) (by simpa [plain] using h2)
      | _ => simp [plain] at h2 <;> simp [toP, PyData.eqv, eqD]
    | tup l =>
      cases y with
      | tup m => simp only [toP, PyData.eqv, eqD]; exact eqvs_toP n l m (by simpa [plain] using h1) (by simpa [plain] using h2)
      | _ => simp [plain] at h2 <;> simp [toP, PyData.eqv, eqD]
    | _ => simp [plain] at h1
theorem eqvs_toP : ∀ (n : Nat) (xs ys : List D), (∀ x ∈ xs, plain n x = true) → (∀ y ∈ ys, plain n y = true) → PyData.eqvAll (toPs xs) (toPs ys) = eqDs xs ys
  | _, [], [], _, _ => by simp [toPs, PyData.eqvAll, eqDs]
  | _, [], _ :: _, _, _ => by simp [toPs, PyData.eqvAll, eqDs]
  | _, _ :: _, [], _, _ => by simp [toPs, PyData.eqvAll, eqDs]
  | n, x :: xs, y :: ys, h1, h2 => by
    simp only [toPs, PyData.eqvAll, eqDs]
    rw [eqv_toP n x y (h1 x List.mem_cons_self) (h2 y List.mem_cons_self), eqvs_toP n xs ys (fun z hz => h1 z (List.mem_cons_of_mem _ hz)) (fun z hz => h2 z (List.mem_cons_of_mem _ hz))]
end
theorem depthAll_le {n : Nat} : ∀ {l : List PyData}, (∀ d ∈ l, PyData.depth d ≤ n) → PyData.depthAll l ≤ n
  | [], _ => by simp [PyData.depthAll]
  | d :: r, h => by
    have a := h d List.mem_cons_self
    have b := depthAll_le fun x hx => h x (List.mem_cons_of_mem d hx)
    simp only [PyData.depthAll]
    omega

mutual
theorem canLay_toP : ∀ (n : Nat) (x : D), plain n x = true → PyData.canLay0 (toP x) = true ∧ PyData.depth (toP x) ≤ n
  | 0, x, h => by unfold plain at h; cases h
  | n + 1, x, h => by
    cases x with
    | non => simp [toP, PyData.canLay0, PyData.depth]
    | bl b => simp [toP, PyData.canLay0, PyData.depth]
    | int b => simp [toP, PyData.canLay0, PyData.depth]
    | str b => simp only [toP, PyData.canLay0, PyData.depth]; exact ⟨by simpa [plain] using h, Nat.zero_le _⟩
    | lst l =>
      obtain ⟨a, b⟩ := canLays_toP n l (by simpa [plain] using h)
      simp only [toP, PyData.canLay0, PyData.depth]
      exact ⟨a, Nat.succ_le_succ b⟩
    | tup l =>
      obtain ⟨a, b⟩ := canLays_toP n l (by simpa [plain] using h)
      simp only [toP, PyData.canLay0, PyData.depth]
      exact ⟨a, Nat.succ_le_succ b⟩
    | _ => simp [plain] at h
theorem canLays_toP : ∀ (n : Nat) (xs : List D), (∀ x ∈ xs, plain n x = true) → PyData.canLayAll0 (toPs xs) = true ∧ PyData.depthAll (toPs xs) ≤ n
  | n, [], _ => by simp [toPs, PyData.canLayAll0, PyData.depthAll]
  | n, x :: xs, h => by
    obtain ⟨a1, b1⟩ := canLay_toP n x (h x List.mem_cons_self)
    obtain ⟨a2, b2⟩ := canLays_toP n xs fun z hz => h z (List.mem_cons_of_mem _ hz)
    simp only [toPs, PyData.canLayAll0, PyData.depthAll, a1, a2, Bool.and_self, true_and]
    omega
end
theorem shaped_toP {n : Nat} {x : D} (hn : n ≤ 64) (h : plain n x = true) : SeqAt.shaped (toP x) = true := by
  obtain ⟨a, b⟩ := canLay_toP n x h
  unfold SeqAt.shaped
  rw [a, decide_eq_true (Nat.le_trans b hn)]; rfl
section
variable {G : Glo} {W : Wd} {C : Cells} {H : Hp}
mutual
theorem dp_of (k : ∀ a o, W.F a = some o → H a = some o) : ∀ (n : Nat) (d : D) (v : V), plain n d = true → RepV G W d v → Dp G.K H v (toP d)
  | 0, d, _, h, _ => by unfold plain at h; cases h
  | n + 1, d, v, h, r => by
    cases d with
    | non => rw [r.non_]; exact .non
    | bl b => rw [r.bl_]; exact .bl b
    | int b => rw [r.int_]; exact .int b
    | str b => rw [r.str_]; exact .str b
    | lst l =>
      obtain ⟨a, vs, rfl, e, q⟩ := r.lst_
      exact .lst (.of (k _ _ e)) (dps_of k n l vs (by simpa [plain] using h) q)
    | tup l =>
      obtain ⟨a, vs, rfl, e, q⟩ := r.tup_
      exact .tup (.of (k _ _ e)) (dps_of k n l vs (by simpa [plain] using h) q)
    | _ => simp [plain] at h
theorem dps_of (k : ∀ a o, W.F a = some o → H a = some o) : ∀ (n : Nat) (ds : List D) (vs : List V), (∀ d ∈ ds, plain n d = true) → RepVs G W ds vs → DpAll G.K H vs (toPs ds)
  | n, [], _, _, r => by rw [r.nil_inv]; exact .nil
  | n, d :: ds, _, h, r => by
    obtain ⟨v, vr, rfl, s, t⟩ := r.cons_inv
    exact .cons (dp_of k n d v (h d List.mem_cons_self) s) (dps_of k n ds vr (fun z hz => h z (List.mem_cons_of_mem _ hz)) t)
end
theorem dp_vw (st : StR G W C H) {d : D} {v : V} (r : RepV G W d v) {n : Nat} (h : plain n (vw C d) = true) : Dp G.K H v (toP (vw C d)) := by
  cases e : lstOf C d with
  | some l =>
    have hv : vw C d = .lst l := by unfold vw; rw [e]
    rw [hv] at h ⊢
    obtain ⟨a, vs, rfl, s, q⟩ := lstOf_ok st r e
    cases n with
    | zero => unfold plain at h; cases h
    | succ n => exact .lst s (dps_of st.F n l vs (by simpa [plain] using h) q)
  | none =>
    have hv : vw C d = d := by unfold vw; rw [e]
    rw [hv] at h ⊢
    exact dp_of st.F n d v h r
theorem o2_eq : Op2 G (rEqD G.K) dEq := fun Wx σ W C H x y v u Q st rx ry q => by
  unfold dEq at q
  split at q
  · rename_i h
    obtain ⟨h1, h2⟩ := Bool.and_eq_true_iff.mp h
    refine ⟨toP (vw C x), toP (vw C y), dp_vw st rx h1, dp_vw st ry h2, shaped_toP (by decide) h1, shaped_toP (by decide) h2, ?_⟩
    rw [eqv_toP 30 _ _ h1 h2]
    exact q W _ H .refl st .bl
  · exact q.elim
theorem o2_ne : Op2 G (rNeD G.K) dNe := fun Wx σ W C H x y v u Q st rx ry q => by
  unfold dNe at q
  split at q
  · rename_i h
    obtain ⟨h1, h2⟩ := Bool.and_eq_true_iff.mp h
    refine ⟨toP (vw C x), toP (vw C y), dp_vw st rx h1, dp_vw st ry h2, shaped_toP (by decide) h1, shaped_toP (by decide) h2, ?_⟩
    rw [eqv_toP 30 _ _ h1 h2]
    exact q W _ H .refl st .bl
  · exact q.elim

/-! ### the operators' rules -/
def rStrCat : R2 := fun x y H Q => ∃ i j, x = .str i ∧ y = .str j ∧ i.length + j.length ≤ sizeLine ∧ Q (.str (i ++ j)) H
def rAddIB : R2 := fun x y H Q => ∃ i k, x = .int i ∧ y = .bl k ∧ Q (.int (i + b2i k)) H
def rAdd5 (K : PySem.W.Frag) : R2 := fun x y H Q => (rI0 fun i j => .int (i + j)) x y H Q ∨ rAddIB x y H Q ∨ rStrCat x y H Q ∨ rCatT K x y H Q ∨ rCat x y H Q
theorem op_add5 {X : Cx} : OpR X (binaryOp .Add) (rAdd5 X.K) := OpR.or op_add (OpR.or op_add_ib (OpR.or op_add_str (OpR.or op_catT op_cat)))
/-- a new known list -/
theorem new_lst {Wx : WX} {σ : L2.St} {l : List D} {vs : List V} {Q : VK} (st : StR G W C H) (r : RepVs G W l vs) (q : Post G Wx σ (RepV G) W C H (.ok (.lst l) C) Q) : ∀ p, H p = none → Q (.ref p) (upd H p (.lst vs)) := fun p hp => by
  obtain ⟨s1, s2⟩ := fr_fz (o := .lst vs) st hp
  exact q _ _ _ s2 s1 (.lst (by show upd W.F p _ p = _; exact upd_same) (r.up s2.le))
theorem new_tup {Wx : WX} {σ : L2.St} {l : List D} {vs : List V} {Q : VK} (st : StR G W C H) (r : RepVs G W l vs) (q : Post G Wx σ (RepV G) W C H (.ok (.tup l) C) Q) : ∀ p, H p = none → Q (.ref p) (upd H p (.tup vs)) := fun p hp => by
  obtain ⟨s1, s2⟩ := fr_fz (o := .tup vs) st hp
  exact q _ _ _ s2 s1 (.tup (by show upd W.F p _ p = _; exact upd_same) (r.up s2.le))
theorem o2_catL {Wx : WX} {σ : L2.St} {x y : D} {v u : V} {Q : VK} (st : StR G W C H) (rx : RepV G W x v) (ry : RepV G W y u) (q : Post G Wx σ (RepV G) W C H (dCatL C x y) Q) : rCat v u H Q := by
  unfold dCatL at q
  split at q
  · rename_i a b e1 e2
    split at q
    · rename_i hz
      obtain ⟨p1, vs, rfl, h1, r1⟩ := trkOf_ok st rx e1
      obtain ⟨p2, us, rfl, h2, r2⟩ := trkOf_ok st ry e2
      refine ⟨p1, p2, vs, us, rfl, rfl, h1, h2, ?_, new_lst st (r1.append r2) q⟩
      rw [← r1.length, ← r2.length, ← mxl_eq]; exact hz
    · exact q.elim
  · exact q.elim
theorem o2_add : Op2 G (rAdd5 G.K) dAdd := fun Wx σ W C H x y v u Q st rx ry q => by
  unfold dAdd at q
  split at q
  · exact .inl ⟨_, _, rx.int_, ry.int_, q W _ H .refl st .int⟩
  · exact .inr (.inl ⟨_, _, rx.int_, ry.bl_, q W _ H .refl st .int⟩)
  · split at q
    · rename_i hz
      exact .inr (.inr (.inl ⟨_, _, rx.str_, ry.str_, by rw [← mxl_eq]; exact hz, q W _ H .refl st .str⟩))
    · exact q.elim
  · split at q
    · rename_i a b hz
      obtain ⟨p1, vs, rfl, h1, r1⟩ := tupOf_ok st rx (l := a) rfl
      obtain ⟨p2, us, rfl, h2, r2⟩ := tupOf_ok st ry (l := b) rfl
      have n1 : vs ≠ [] := fun e => hz.1 (by have := r1.length; rw [e] at this; exact List.length_eq_zero_iff.mp this)
      have n2 : us ≠ [] := fun e => hz.2.1 (by have := r2.length; rw [e] at this; exact List.length_eq_zero_iff.mp this)
      exact .inr (.inr (.inr (.inl ⟨p1, p2, vs, us, rfl, rfl, h1, h2, n1, by rw [← r1.length, ← r2.length, ← mxl_eq]; exact hz.2.2, fun e => absurd e n2, fun _ => new_tup st (r1.append r2) q⟩)))
    · exact q.elim
  · exact .inr (.inr (.inr (.inr (o2_catL st rx ry q))))
  · exact .inr (.inr (.inr (.inr (o2_catL st rx ry q))))
  · exact q.elim
theorem o2_sub : Op2 G (rI0 fun i j => .int (i - j)) dSub := fun Wx σ W C H x y v u Q st rx ry q => by
  unfold dSub at q
  split at q
  · exact ⟨_, _, rx.int_, ry.int_, q W _ H .refl st .int⟩
  · exact q.elim
def rMul2 : R2 := fun x y H Q => (rI CMul fun i j => .int (i * j)) x y H Q ∨ rRep x y H Q
theorem op_mul2 {X : Cx} : OpR X (binaryOp .Mult) rMul2 := OpR.or op_mul op_rep
theorem RepVs.flat {l : List D} {vs : List V} (r : RepVs G W l vs) : ∀ k : Nat, RepVs G W (List.replicate k l).flatten (List.replicate k vs).flatten
  | 0 => .nil
  | k + 1 => by
    rw [List.replicate_succ, List.flatten_cons, List.replicate_succ, List.flatten_cons]
    exact r.append (r.flat k)
theorem o2_mul : Op2 G rMul2 dMul := fun Wx σ W C H x y v u Q st rx ry q => by
  unfold dMul at q
  split at q
  · split at q
    · rename_i hc
      exact .inl ⟨_, _, rx.int_, ry.int_, hc, q W _ H .refl st .int⟩
    · exact q.elim
  · rename_i k hn
    split at q
    · rename_i l e
      split at q
      · rename_i hz
        obtain ⟨p, vs, rfl, h1, r1⟩ := trkOf_ok st rx e
        exact .inr ⟨p, k, vs, rfl, ry.int_, h1, hz.1, hz.2.1, by rw [← r1.length, ← mxl_eq]; exact hz.2.2, new_lst st (r1.flat _) q⟩
      · exact q.elim
    · exact q.elim
  · exact q.elim
theorem o2_div : Op2 G (rI CDiv fun i j => .int (i / j)) dDiv := fun Wx σ W C H x y v u Q st rx ry q => by
  unfold dDiv at q
  split at q
  · split at q
    · rename_i hc
      exact ⟨_, _, rx.int_, ry.int_, hc, q W _ H .refl st .int⟩
    · exact q.elim
  · exact q.elim
theorem o2_mod : Op2 G (rI (fun _ j => 0 < j) fun i j => .int (i % j)) dMod := fun Wx σ W C H x y v u Q st rx ry q => by
  unfold dMod at q
  split at q
  · split at q
    · rename_i hc
      exact ⟨_, _, rx.int_, ry.int_, hc, q W _ H .refl st .int⟩
    · exact q.elim
  · exact q.elim
theorem o2_pow : Op2 G (rI CPow fun i j => .int (i ^ j.toNat)) dPow := fun Wx σ W C H x y v u Q st rx ry q => by
  unfold dPow at q
  split at q
  · split at q
    · rename_i hc
      exact ⟨_, _, rx.int_, ry.int_, hc, q W _ H .refl st .int⟩
    · exact q.elim
  · exact q.elim
theorem o2_lt : Op2 G (rI0 fun i j => .bl (decide (i < j))) dLt := fun Wx σ W C H x y v u Q st rx ry q => by
  unfold dLt at q
  split at q
  · exact ⟨_, _, rx.int_, ry.int_, q W _ H .refl st .bl⟩
  · exact q.elim
theorem o2_le : Op2 G (rI0 fun i j => .bl (decide (i ≤ j))) dLe := fun Wx σ W C H x y v u Q st rx ry q => by
  unfold dLe at q
  split at q
  · exact ⟨_, _, rx.int_, ry.int_, q W _ H .refl st .bl⟩
  · exact q.elim
theorem o2_gt : Op2 G (rI0 fun i j => .bl (decide (j < i))) dGt := fun Wx σ W C H x y v u Q st rx ry q => by
  unfold dGt at q
  split at q
  · exact ⟨_, _, rx.int_, ry.int_, q W _ H .refl st .bl⟩
  · exact q.elim
theorem o2_ge : Op2 G (rI0 fun i j => .bl (decide (j ≤ i))) dGe := fun Wx σ W C H x y v u Q st rx ry q => by
  unfold dGe at q
  split at q
  · exact ⟨_, _, rx.int_, ry.int_, q W _ H .refl st .bl⟩
  · exact q.elim
theorem isN_ok {d : D} {v : V} (r : RepV G W d v) : decide (v = .non) = isN d := by
  cases d with
  | non => rw [r.non_]; rfl
  | bl b => rw [r.bl_]; rfl
  | int b => rw [r.int_]; rfl
  | str b => rw [r.str_]; rfl
  | lst l => obtain ⟨_, _, rfl, _⟩ := r.lst_; rfl
  | tup l => obtain ⟨_, _, rfl, _⟩ := r.tup_; rfl
  | scr l => obtain ⟨_, _, rfl, _⟩ := r.scr_; rfl
  | ktp l => obtain ⟨_, _, rfl, _⟩ := r.ktp_; rfl
  | obj c l => obtain ⟨_, _, _, rfl, _⟩ := r.obj_; rfl
  | cel n => obtain ⟨_, rfl, _⟩ := r.cel_; rfl
  | opq k l => obtain ⟨_, _, rfl, _⟩ := r.opq_; rfl
theorem o2_isN : Op2 G (fun x y H Q => y = .non ∧ Q (.bl (decide (x = .non))) H) dIsN := fun Wx σ W C H x y v u Q st rx ry q => by
  unfold dIsN at q
  split at q
  · exact ⟨ry.non_, by rw [isN_ok rx]; exact q W _ H .refl st .bl⟩
  · exact q.elim
theorem o2_notN : Op2 G (fun x y H Q => y = .non ∧ Q (.bl (!decide (x = .non))) H) dNotN := fun Wx σ W C H x y v u Q st rx ry q => by
  unfold dNotN at q
  split at q
  · exact ⟨ry.non_, by rw [isN_ok rx]; exact q W _ H .refl st .bl⟩
  · exact q.elim
end
end DL

set_option Elab.async false
set_option linter.all false
set_option maxRecDepth 100000
set_option autoImplicit false
namespace DL
open PySem PySem.Spec PyProof.Rows L2
section
variable {X : Cx} {G : Glo} {Wx : WX} {a b c e : Expr} {fa fb fc f : EF} {pos : Pos}

/-! ### tests: and, or, not -/
def tAndF (f g : TF) : TF := fun s C => (f s C).bind fun b C => if b = true then g s C else .ok false C
def tOrF (f g : TF) : TF := fun s C => (f s C).bind fun b C => if b = true then .ok true C else g s C
def tNotF (f : TF) : TF := fun s C => (f s C).bind fun b C => .ok (!b) C
variable {ta tb : TF} {rest : List Expr}
theorem dw_and1 (ha : DT X G Wx a ta) : DW X G Wx (.BoolOp .And [a] pos) ta := ⟨pw_and1 ha.pt⟩
theorem dw_or1 (ha : DT X G Wx a ta) : DW X G Wx (.BoolOp .Or [a] pos) ta := ⟨pw_or1 ha.pt⟩
theorem dw_and (ha : DT X G Wx a ta) (hb : DW X G Wx (.BoolOp .And (b :: rest) pos) tb) : DW X G Wx (.BoolOp .And (a :: b :: rest) pos) (tAndF ta tb) :=
  ⟨PW.weak (pw_and ha.pt hb.pw) fun σ H Q ⟨W, sl, C, rs, st, q⟩ => ⟨W, sl, C, rs, st, q.bind fun x C1 W1 v H1 _ t st1 rx q1 => by
    subst rx
    cases x with
    | true => exact ⟨W1, sl, C1, rs.up t.le, st1, q1⟩
    | false => exact q1 W1 false H1 .refl st1 rfl⟩⟩
theorem dw_or (ha : DT X G Wx a ta) (hb : DW X G Wx (.BoolOp .Or (b :: rest) pos) tb) : DW X G Wx (.BoolOp .Or (a :: b :: rest) pos) (tOrF ta tb) :=
  ⟨PW.weak (pw_or ha.pt hb.pw) fun σ H Q ⟨W, sl, C, rs, st, q⟩ => ⟨W, sl, C, rs, st, q.bind fun x C1 W1 v H1 _ t st1 rx q1 => by
    subst rx
    cases x with
    | false => exact ⟨W1, sl, C1, rs.up t.le, st1, q1⟩
    | true => exact q1 W1 true H1 .refl st1 rfl⟩⟩
theorem dw_pt (h : DW X G Wx e ta) : DT X G Wx e ta := ⟨h.pw.pt⟩
theorem dt_not (ha : DT X G Wx a ta) : DT X G Wx (.UnaryOp .Not a pos) (tNotF ta) :=
  ⟨PT.weak (pt_not ha.pt) fun σ H Q ⟨W, sl, C, rs, st, q⟩ => ⟨W, sl, C, rs, st, q.bind fun x C1 W1 v H1 _ t st1 rx q1 => by
    subst rx
    exact q1 W1 _ H1 .refl st1 rfl⟩⟩
/-- .. as values (all truths) -/
def eAndF (f g : EF) : EF := fun s C => (f s C).bind fun d C => match d with | .bl true => g s C | .bl false => .ok (.bl false) C | _ => .no
def eOrF (f g : EF) : EF := fun s C => (f s C).bind fun d C => match d with | .bl true => .ok (.bl true) C | .bl false => g s C | _ => .no
def eNotF (f : EF) : EF := fun s C => (f s C).bind fun d C => match d with | .bl b => .ok (.bl (!b)) C | _ => .no
theorem de_one {op} (h : DE X G Wx a fa) : DE X G Wx (.BoolOp op [a] pos) fa := ⟨pe_one h.pe⟩
theorem de_and (ha : DE X G Wx a fa) (hb : DE X G Wx (.BoolOp .And (b :: rest) pos) fb) : DE X G Wx (.BoolOp .And (a :: b :: rest) pos) (eAndF fa fb) :=
  ⟨PE.weak (pe_and ha.pe hb.pe) fun σ H Q ⟨W, sl, C, rs, st, q⟩ => ⟨W, sl, C, rs, st, q.bind fun x C1 W1 v H1 _ t st1 rx q1 => by
    split at q1
    · exact ⟨true, rx.bl_, W1, sl, C1, rs.up t.le, st1, q1⟩
    · exact ⟨false, rx.bl_, q1 W1 _ H1 .refl st1 .bl⟩
    · exact q1.elim⟩⟩
theorem de_or (ha : DE X G Wx a fa) (hb : DE X G Wx (.BoolOp .Or (b :: rest) pos) fb) : DE X G Wx (.BoolOp .Or (a :: b :: rest) pos) (eOrF fa fb) :=
  ⟨PE.weak (pe_or ha.pe hb.pe) fun σ H Q ⟨W, sl, C, rs, st, q⟩ => ⟨W, sl, C, rs, st, q.bind fun x C1 W1 v H1 _ t st1 rx q1 => by
    split at q1
    · exact ⟨true, rx.bl_, q1 W1 _ H1 .refl st1 .bl⟩
    · exact ⟨false, rx.bl_, W1, sl, C1, rs.up t.le, st1, q1⟩
    · exact q1.elim⟩⟩
theorem de_not (ha : DE X G Wx a fa) : DE X G Wx (.UnaryOp .Not a pos) (eNotF fa) :=
  ⟨PE.weak (pe_not ha.pe) fun σ H Q ⟨W, sl, C, rs, st, q⟩ => ⟨W, sl, C, rs, st, q.bind fun x C1 W1 v H1 _ t st1 rx q1 => by
    split at q1
    · exact ⟨_, rx.bl_, q1 W1 _ H1 .refl st1 .bl⟩
    · exact q1.elim⟩⟩
def eIf (t : TF) (f g : EF) : EF := fun s C => (t s C).bind fun b C => if b = true then f s C else g s C
theorem de_ifExp {tc : TF} (hc : DT X G Wx c tc) (ha : DE X G Wx a fa) (hb : DE X G Wx b fb) : DE X G Wx (.IfExp c a b pos) (eIf tc fa fb) :=
  ⟨PE.weak (pe_ifExp hc.pt ha.pe hb.pe) fun σ H Q ⟨W, sl, C, rs, st, q⟩ => ⟨W, sl, C, rs, st, q.bind fun x C1 W1 v H1 _ t st1 rx q1 => by
    subst rx
    cases x with
    | true => exact ⟨W1, sl, C1, rs.up t.le, st1, q1⟩
    | false => exact ⟨W1, sl, C1, rs.up t.le, st1, q1⟩⟩⟩
/-- -a -/
def eNeg (f : EF) : EF := fun s C => (f s C).bind fun d C => match d with | .int i => .ok (.int (-i)) C | _ => .no
theorem de_neg (ha : DE X G Wx a fa) : DE X G Wx (.UnaryOp .USub a pos) (eNeg fa) :=
  ⟨PE.weak (pe_un un_neg ha.pe) fun σ H Q ⟨W, sl, C, rs, st, q⟩ => ⟨W, sl, C, rs, st, q.bind fun x C1 W1 v H1 _ t st1 rx q1 => by
    split at q1
    · exact ⟨_, rx.int_, q1 W1 _ H1 .refl st1 .int⟩
    · exact q1.elim⟩⟩

/-! ### chains a < b < c -/
def e3 (g g' : D → D → Cells → Res D) (fa fb fc : EF) : EF := fun s C => (fa s C).bind fun x C => (fb s C).bind fun y C => (g x y C).bind fun z C =>
  match z with | .bl true => (fc s C).bind fun w C => g' y w C | .bl false => .ok (.bl false) C | _ => .no
theorem chain_use {r r' : R2} {g g' : D → D → Cells → Res D} (hr : Op2 G r g) (hr' : Op2 G r' g') {σ : L2.St} {H : Hp} {Q : VK} {W : Wd} {sl : Sl} {C : Cells} (rs : RepS G W sl σ) (st : StR G W C H)
    (q : Post G Wx σ (RepV G) W C H (e3 g g' fa fb fc sl C) Q) : tChain r r' (tD G Wx fa) (tD G Wx fb) (tD G Wx fc) σ H Q := by
  refine ⟨W, sl, C, rs, st, q.bind fun x C1 W1 v H1 _ t st1 rx q1 => ⟨W1, sl, C1, rs.up t.le, st1, q1.bind fun y C2 W2 u H2 _ t2 st2 ry q2 => ?_⟩⟩
  refine hr Wx σ W2 C2 H2 x y v u _ st2 (rx.up t2.le) ry (q2.bind fun z C3 W3 zv H3 _ t3 st3 rz q3 => ?_)
  split at q3
  · refine ⟨true, rz.bl_, ?_⟩
    rw [if_pos rfl]
    exact ⟨W3, sl, C3, rs.up ((t.trans t2).trans t3).le, st3, q3.bind fun w' C4 W4 wv H4 _ t4 st4 rw' q4 => hr' Wx σ W4 C4 H4 y w' u wv Q st4 (ry.up (t3.trans t4).le) rw' q4⟩
  · refine ⟨false, rz.bl_, ?_⟩
    rw [if_neg Bool.false_ne_true]
    exact q3 W3 _ H3 .refl st3 .bl
  · exact q3.elim
theorem de_chain {op op' : CmpOp} {r r' : R2} {g g' : D → D → Cells → Res D} (ho : OpR X (compareOp op) r) (hr : Op2 G r g) (ho' : OpR X (compareOp op') r') (hr' : Op2 G r' g') (ha : DE X G Wx a fa) (hb : DE X G Wx b fb) (hc : DE X G Wx c fc)
    (hm : lastMarks [op, op'] [b, c] = false := by with_unfolding_all rfl) : DE X G Wx (.Compare a [op, op'] [b, c] pos) (e3 g g' fa fb fc) :=
  ⟨PE.weak (pe_chain ho ho' ha.pe hb.pe hc.pe hm) fun σ H Q ⟨W, sl, C, rs, st, q⟩ => chain_use hr hr' rs st q⟩
theorem dt_chain {op op' : CmpOp} {r r' : R2} {g g' : D → D → Cells → Res D} (ho : OpR X (compareOp op) r) (hr : Op2 G r g) (ho' : OpR X (compareOp op') r') (hr' : Op2 G r' g') (ha : DE X G Wx a fa) (hb : DE X G Wx b fb) (hc : DE X G Wx c fc)
    (hm : lastMarks [op, op'] [b, c] = false := by with_unfolding_all rfl) : DT X G Wx (.Compare a [op, op'] [b, c] pos) (asB (e3 g g' fa fb fc)) :=
  ⟨PT.weak (pt_chain ho ho' ha.pe hb.pe hc.pe hm) fun σ H Q ⟨W, sl, C, rs, st, q⟩ => chain_use hr hr' rs st (asB_use q)⟩

/-! ### arguments, tuples, lists -/
def aNil : AF := fun _ C => .ok [] C
def aCons (f : EF) (g : AF) : AF := fun s C => (f s C).bind fun x C => (g s C).bind fun xs C => .ok (x :: xs) C
variable {es : List Expr} {af : AF}
theorem da_nil : DA X G Wx [] aNil := ⟨PA.weak pa_nil fun σ H Q ⟨W, sl, C, rs, st, q⟩ => q W [] H .refl st .nil⟩
theorem da_cons (ha : DE X G Wx e f) (hr : DA X G Wx es af) (hs : starEach (e :: es) X.env = (false, eval e X.env) :: starEach es X.env := by rfl) : DA X G Wx (e :: es) (aCons f af) :=
  ⟨PA.weak (pa_cons ha.pe hr.pa hs) fun σ H Q ⟨W, sl, C, rs, st, q⟩ => ⟨W, sl, C, rs, st, q.bind fun x C1 W1 v H1 _ t st1 rx q1 => ⟨W1, sl, C1, rs.up t.le, st1, q1.bind fun xs C2 W2 vs H2 _ t2 st2 rxs q2 =>
    q2 W2 (v :: vs) H2 .refl st2 (.cons (rx.up t2.le) rxs)⟩⟩⟩
/-- a written tuple; a written list, known; a new cell with a list -/
def eTup (g : AF) : EF := fun s C => (g s C).bind fun xs C => if xs.length ≤ mxl then .ok (.tup xs) C else .no
def eLst (g : AF) : EF := fun s C => (g s C).bind fun xs C => if xs.length ≤ mxl then .ok (.lst xs) C else .no
def newL (xs : List D) (C : Cells) : Res D := .ok (.cel C.nx) (C.new (.lst xs))
def eLstC (g : AF) : EF := fun s C => (g s C).bind fun xs C => if xs.length ≤ mxl then newL xs C else .no
theorem new_cel {σ : L2.St} {l : List D} {vs : List V} {Q : VK} {W : Wd} {C : Cells} {H : Hp} (st : StR G W C H) (r : RepVs G W l vs) (q : Post G Wx σ (RepV G) W C H (newL l C) Q) : ∀ p, H p = none → Q (.ref p) (upd H p (.lst vs)) := fun p hp => by
  obtain ⟨s1, s2⟩ := fr_new (o := .lst l) (ho := .lst vs) st hp ⟨vs, rfl, r⟩
  exact q _ _ _ s2 s1 (.cel (if_pos rfl))
theorem de_tup {k} (h : DA X G Wx es af) : DE X G Wx (.Tuple es k pos) (eTup af) :=
  ⟨PE.weak (pe_tup h.pa) fun σ H Q ⟨W, sl, C, rs, st, q⟩ => ⟨W, sl, C, rs, st, q.bind fun xs C1 W1 vs H1 _ t st1 rx q1 => by
    split at q1
    · rename_i hz
      exact ⟨by rw [← rx.length, ← mxl_eq]; exact hz, new_tup st1 rx q1⟩
    · exact q1.elim⟩⟩
theorem de_lst (h : DA X G Wx es af) : DE X G Wx (.List es pos) (eLst af) :=
  ⟨PE.weak (pe_lst h.pa) fun σ H Q ⟨W, sl, C, rs, st, q⟩ => ⟨W, sl, C, rs, st, q.bind fun xs C1 W1 vs H1 _ t st1 rx q1 => by
    split at q1
    · rename_i hz
      exact ⟨by rw [← rx.length, ← mxl_eq]; exact hz, new_lst st1 rx q1⟩
    · exact q1.elim⟩⟩
theorem de_lstC (h : DA X G Wx es af) : DE X G Wx (.List es pos) (eLstC af) :=
  ⟨PE.weak (pe_lst h.pa) fun σ H Q ⟨W, sl, C, rs, st, q⟩ => ⟨W, sl, C, rs, st, q.bind fun xs C1 W1 vs H1 _ t st1 rx q1 => by
    split at q1
    · rename_i hz
      exact ⟨by rw [← rx.length, ← mxl_eq]; exact hz, new_cel st1 rx q1⟩
    · exact q1.elim⟩⟩

/-! ### indices -/
def dIx (x y : D) (C : Cells) : Res D := match y with
  | .int i => (match x with
    | .str z => (match (if z.length ≤ mxl then atI z.cps.toList i else none) with
      | some c => .ok (.str ⟨#[c]⟩) C
      | none => .no)
    | x => match seqOf C x with
      | some l => (match atI l i with
        | some d => .ok d C
        | none => .no)
      | none => .no)
  | _ => .no
theorem RepVs.atI {W : Wd} {l : List D} {vs : List V} {i : Int} {d : D} (r : RepVs G W l vs) (h : atI l i = some d) : ∃ v, atI vs i = some v ∧ RepV G W d v := by
  unfold L2.atI at h ⊢
  rw [← r.length]
  cases e : ixN l.length i with
  | none => rw [e] at h; cases h
  | some j =>
    rw [e] at h
    exact r.get h
theorem o2_ix : Op2 G (rIx G.K) dIx := fun Wx σ W C H x y v u Q st rx ry q => by
  unfold dIx at q
  split at q
  · rename_i i
    split at q
    · rename_i z
      split at q
      · rename_i c e
        split at e
        · rename_i hz
          exact .inr (.inr ⟨z, i, c, rx.str_, ry.int_, by rw [← mxl_eq]; exact hz, e, q W _ H .refl st .str⟩)
        · cases e
      · exact q.elim
    · split at q
      · rename_i l e
        split at q
        · rename_i d e2
          obtain ⟨p, vs, rfl, h1, r1⟩ := seqOf_ok st rx e
          obtain ⟨w, h2, r2⟩ := r1.atI e2
          rcases h1 with h1 | h1
          · exact .inl ⟨p, vs, i, w, rfl, ry.int_, h1, h2, q W w H .refl st r2⟩
          · exact .inr (.inl ⟨p, vs, i, w, rfl, ry.int_, h1, h2, q W w H .refl st r2⟩)
        · exact q.elim
      · exact q.elim
  · exact q.elim
theorem de_ix (hk : X.K = G.K) (ha : DE X G Wx a fa) (hb : DE X G Wx b fb) (hs : PlainIx b := by intro _ _; rfl) : DE X G Wx (.Subscript a b pos) (e2 dIx fa fb) :=
  ⟨PE.weak (pe_ix ix_seq ha.pe hb.pe hs) fun σ H Q h => by rw [hk]; exact op2_use (ta := tD G Wx fa) (tb := tD G Wx fb) o2_ix h⟩

/-! ### slices -/
abbrev OF := Sl → Cells → Res (Option Int)
structure DO (X : Cx) (G : Glo) (Wx : WX) (e : Option Expr) (f : OF) : Prop where
  po : PO X e (tR G Wx (fun _ a b => a = b) f)
theorem PO.weak {X : Cx} {e : Option Expr} {t t' : TO} (h : PO X e t) (w : ∀ σ H Q, t' σ H Q → t σ H Q) : PO X e t' := ⟨fun pins s σ H Q I q => h.run pins s σ H Q I (w σ H Q q)⟩
def oNone : OF := fun _ C => .ok none C
def oSome (f : EF) : OF := fun s C => (f s C).bind fun d C => match d with | .int i => .ok (some i) C | _ => .no
theorem do_none : DO X G Wx none oNone := ⟨PO.weak po_none fun σ H Q ⟨W, sl, C, rs, st, q⟩ => q W none H .refl st rfl⟩
theorem do_some (h : DE X G Wx e f) : DO X G Wx (some e) (oSome f) := ⟨PO.weak (po_some h.pe) fun σ H Q ⟨W, sl, C, rs, st, q⟩ => ⟨W, sl, C, rs, st, q.bind fun d C1 W1 v H1 _ t st1 rd q1 => by
    split at q1
    · exact ⟨_, rd.int_, q1 W1 _ H1 .refl st1 rfl⟩
    · exact q1.elim⟩⟩
/-- the items of xs[lo:hi] -/
def cutD (xs : List D) (lo hi : Option Int) : List D := (xs.drop (HT.sIx xs.length 0 lo)).take (HT.sIx xs.length xs.length hi - HT.sIx xs.length 0 lo)
theorem RepVs.cut {W : Wd} {l : List D} {vs : List V} (r : RepVs G W l vs) (lo hi : Option Int) : RepVs G W (cutD l lo hi) (cutV vs lo hi) := by
  unfold cutD cutV
  rw [← r.length]
  exact (r.drop _).take _
def dSl (x : D) (lo hi : Option Int) (C : Cells) : Res D := match x with
  | .str z => if z.length ≤ mxl then .ok (.str (cutS z lo hi)) C else .no
  | x => match lstOf C x with
    | some l => .ok (.lst (cutD l lo hi)) C
    | none => .no
def dSlC (x : D) (lo hi : Option Int) (C : Cells) : Res D := match lstOf C x with
    | some l => newL (cutD l lo hi) C
    | none => .no
def eSlG (g : D → Option Int → Option Int → Cells → Res D) (f : EF) (lo hi : OF) : EF := fun s C => (f s C).bind fun x C => (lo s C).bind fun l C => (hi s C).bind fun h C => g x l h C
abbrev rSl2 (K : PySem.W.Frag) : V → Option Int → Option Int → Hp → VK → Prop := fun x lo hi H Q => rSlL K x lo hi H Q ∨ rSlS x lo hi H Q
variable {lo hi : Option Expr} {fl fh : OF} {p2 : Pos}
theorem de_slG {g : D → Option Int → Option Int → Cells → Res D} (hk : X.K = G.K) (hg : ∀ (σ : L2.St) (W : Wd) (C : Cells) (H : Hp) (x : D) (v : V) (l h : Option Int) (Q : VK), StR G W C H → RepV G W x v → Post G Wx σ (RepV G) W C H (g x l h C) Q → rSl2 G.K v l h H Q)
    (he : DE X G Wx e f) (hl : DO X G Wx lo fl) (hh : DO X G Wx hi fh) : DE X G Wx (.Subscript e (.Slice lo hi none p2) pos) (eSlG g f fl fh) :=
  ⟨PE.weak (pe_slice (SlR.or sl_list sl_str) he.pe hl.po hh.po) fun σ H Q ⟨W, sl, C, rs, st, q⟩ => ⟨W, sl, C, rs, st, q.bind fun x C1 W1 v H1 _ t st1 rx q1 => ⟨W1, sl, C1, rs.up t.le, st1, q1.bind fun l C2 W2 l' H2 _ t2 st2 rl q2 => ⟨W2, sl, C2, rs.up (t.trans t2).le, st2, q2.bind fun h C3 W3 h' H3 _ t3 st3 rh q3 => by
    subst rl; subst rh
    rw [hk]
    exact hg σ W3 C3 H3 x v l h Q st3 (rx.up (t2.trans t3).le) q3⟩⟩⟩⟩
theorem de_sl (hk : X.K = G.K) (he : DE X G Wx e f) (hl : DO X G Wx lo fl) (hh : DO X G Wx hi fh) : DE X G Wx (.Subscript e (.Slice lo hi none p2) pos) (eSlG dSl f fl fh) :=
  de_slG hk (fun σ W C H x v l h Q st rx q => by
    unfold dSl at q
    split at q
    · split at q
      · rename_i hz
        exact .inr ⟨_, rx.str_, by rw [← mxl_eq]; exact hz, q W _ H .refl st .str⟩
      · exact q.elim
    · split at q
      · rename_i l' e
        obtain ⟨p, vs, rfl, h1, r1⟩ := lstOf_ok st rx e
        exact .inl ⟨p, vs, rfl, h1, new_lst st (r1.cut l h) q⟩
      · exact q.elim) he hl hh
theorem de_slC (hk : X.K = G.K) (he : DE X G Wx e f) (hl : DO X G Wx lo fl) (hh : DO X G Wx hi fh) : DE X G Wx (.Subscript e (.Slice lo hi none p2) pos) (eSlG dSlC f fl fh) :=
  de_slG hk (fun σ W C H x v l h Q st rx q => by
    unfold dSlC at q
    split at q
    · rename_i l' e
      obtain ⟨p, vs, rfl, h1, r1⟩ := lstOf_ok st rx e
      exact .inl ⟨p, vs, rfl, h1, new_cel st (r1.cut l h) q⟩
    · exact q.elim) he hl hh

/-! ### built-ins by name -/
def eA (g : List D → Cells → Res D) (af : AF) : EF := fun s C => (af s C).bind fun xs C => g xs C
def OpA (G : Glo) (r : List V → Hp → VK → Prop) (g : List D → Cells → Res D) : Prop := ∀ (Wx : WX) (σ : L2.St) (W : Wd) (C : Cells) (H : Hp) (xs : List D) (vs : List V) (Q : VK), StR G W C H → RepVs G W xs vs → Post G Wx σ (RepV G) W C H (g xs C) Q → r vs H Q
variable {x : Str} {p : Pos} {id T : String} {r : List V → Hp → VK → Prop} {g : List D → Cells → Res D}
theorem de_callB (hc : CallR X (.builtin id) r) (hr : OpA G r g) (hg : Gl X x) (hm : X.mg x = none) (hv : bootBuiltins x = some (.builtin id)) (ha : DA X G Wx (e :: es) af) (hn : x ≠ "__name__" := by decide) (hdb : (x == ("__debug__" : Str)) = false := by decide)
    (he : starEach (e :: es) X.env = (false, eval e X.env) :: starEach es X.env := by rfl) (hpl : (backTo pos (starEach es X.env)).any (·.1) = false := by rfl) : DE X G Wx (.Call (.Name x p) (e :: es) [] pos) (eA g af) :=
  ⟨PE.weak (pe_callB hc hg hm hv ha.pa hn hdb he hpl) fun σ H Q ⟨W, sl, C, rs, st, q⟩ => ⟨W, sl, C, rs, st, q.bind fun xs C1 W1 vs H1 _ t st1 rx q1 => hr Wx σ W1 C1 H1 xs vs Q st1 rx q1⟩⟩
theorem de_callT (hc : CallR X (.type T) r) (hr : OpA G r g) (hg : Gl X x) (hm : X.mg x = none) (hv : bootBuiltins x = some (.type T)) (ha : DA X G Wx (e :: es) af) (hn : x ≠ "__name__" := by decide) (hdb : (x == ("__debug__" : Str)) = false := by decide)
    (he : starEach (e :: es) X.env = (false, eval e X.env) :: starEach es X.env := by rfl) (hpl : (backTo pos (starEach es X.env)).any (·.1) = false := by rfl) : DE X G Wx (.Call (.Name x p) (e :: es) [] pos) (eA g af) :=
  ⟨PE.weak (pe_callTy hc hg hm hv ha.pa hn hdb he hpl) fun σ H Q ⟨W, sl, C, rs, st, q⟩ => ⟨W, sl, C, rs, st, q.bind fun xs C1 W1 vs H1 _ t st1 rx q1 => hr Wx σ W1 C1 H1 xs vs Q st1 rx q1⟩⟩
end
section
variable {G : Glo} {X : Cx}
theorem RepVs.one {W : Wd} {d : D} {vs : List V} (h : RepVs G W [d] vs) : ∃ v, vs = [v] ∧ RepV G W d v := by
  obtain ⟨v, vr, rfl, h1, h2⟩ := h.cons_inv
  exact ⟨v, by rw [h2.nil_inv], h1⟩
theorem RepVs.two {W : Wd} {d e : D} {vs : List V} (h : RepVs G W [d, e] vs) : ∃ v u, vs = [v, u] ∧ RepV G W d v ∧ RepV G W e u := by
  obtain ⟨v, vr, rfl, h1, h2⟩ := h.cons_inv
  obtain ⟨u, rfl, h3⟩ := h2.one
  exact ⟨v, u, rfl, h1, h3⟩
/-- len -/
def bLen (xs : List D) (C : Cells) : Res D := match xs with
  | [.str z] => if z.length ≤ mxl then .ok (.int z.length) C else .no
  | [.cel n] => (match C.get n with | some (.lst l) => .ok (.int l.length) C | some (.dk l) => .ok (.int l.length) C | _ => .no)
  | [d] => (match seqOf C d with | some l => .ok (.int l.length) C | none => .no)
  | _ => .no
def rLenS (K : PySem.W.Frag) : List V → Hp → VK → Prop := fun xs H Q => ∃ p ys, xs = [.ref p] ∧ (SqL K H p ys ∨ SqT K H p ys) ∧ Q (.int ys.length) H
def rLenZ : List V → Hp → VK → Prop := fun xs H Q => ∃ z, xs = [.str z] ∧ z.length ≤ sizeLine ∧ Q (.int z.length) H
def rLenD : List V → Hp → VK → Prop := fun xs H Q => ∃ a kvs, xs = [V.ref a] ∧ H a = some (.dK kvs) ∧ Q (.int kvs.length) H
def rLen3 (K : PySem.W.Frag) : List V → Hp → VK → Prop := fun xs H Q => rLenS K xs H Q ∨ rLenZ xs H Q ∨ rLenD xs H Q
theorem c_len : CallR X (.builtin "len") (rLen3 X.K) := CallR.or call_len_seq (CallR.or call_len_str call_lenD)
theorem Paired.len' {α β : Type} {F : α → β → Prop} : ∀ {l : List α} {m : List β}, Paired F l m → l.length = m.length
  | _, _, .nil => rfl
  | _, _, .cons _ t => by simp [Paired.len' t]
theorem oa_len : OpA G (rLen3 G.K) bLen := fun Wx σ W C H xs vs Q st rx q => by
  unfold bLen at q
  split at q
  · split at q
    · rename_i hz
      obtain ⟨v, rfl, r⟩ := rx.one
      exact .inr (.inl ⟨_, by rw [r.str_], by rw [← mxl_eq]; exact hz, q W _ H .refl st .int⟩)
    · exact q.elim
  · rename_i n
    obtain ⟨v, rfl, r⟩ := rx.one
    split at q
    · rename_i l e
      obtain ⟨a, us, rfl, h1, h2⟩ := trkOf_ok (l := l) st r (by simp only [trkOf, e])
      exact .inl ⟨a, us, rfl, .inl (.of h1), by rw [← h2.length]; exact q W _ H .refl st .int⟩
    · rename_i l e
      obtain ⟨a, rfl, h⟩ := r.cel_
      obtain ⟨b, ho, h1, h2, h3, us, rfl, h4⟩ := st.cells n _ e
      rw [h] at h1; cases h1
      exact .inr (.inr ⟨a, us, rfl, h3, by rw [← Paired.len' h4]; exact q W _ H .refl st .int⟩)
    · exact q.elim
  · rename_i d _ _
    obtain ⟨v, rfl, r⟩ := rx.one
    split at q
    · rename_i l e
      obtain ⟨a, us, rfl, h1, h2⟩ := seqOf_ok st r e
      exact .inl ⟨a, us, rfl, h1, by rw [← h2.length]; exact q W _ H .refl st .int⟩
    · exact q.elim
  · exact q.elim
/-- int(n), int(truth) -/
def bInt (xs : List D) (C : Cells) : Res D := match xs with
  | [.int i] => .ok (.int i) C
  | [.bl b] => .ok (.int (if b then 1 else 0)) C
  | _ => .no
theorem oa_int : OpA G (fun xs H Q => (∃ i, xs = [.int i] ∧ Q (.int i) H) ∨ ∃ k, xs = [.bl k] ∧ Q (.int (if k then 1 else 0)) H) bInt := fun Wx σ W C H xs vs Q st rx q => by
  unfold bInt at q
  split at q
  · obtain ⟨v, rfl, r⟩ := rx.one
    exact .inl ⟨_, by rw [r.int_], q W _ H .refl st .int⟩
  · obtain ⟨v, rfl, r⟩ := rx.one
    exact .inr ⟨_, by rw [r.bl_], q W _ H .refl st .int⟩
  · exact q.elim
/-- min, max of two ints -/
def bMin2 (xs : List D) (C : Cells) : Res D := match xs with
  | [.int i, .int j] => .ok (.int (if j < i then j else i)) C
  | _ => .no
def bMax2 (xs : List D) (C : Cells) : Res D := match xs with
  | [.int i, .int j] => .ok (.int (if j > i then j else i)) C
  | _ => .no
theorem oa_min2 : OpA G (fun xs H Q => ∃ i j, xs = [.int i, .int j] ∧ Q (.int (if j < i then j else i)) H) bMin2 := fun Wx σ W C H xs vs Q st rx q => by
  unfold bMin2 at q
  split at q
  · obtain ⟨v, u, rfl, r1, r2⟩ := rx.two
    exact ⟨_, _, by rw [r1.int_, r2.int_], q W _ H .refl st .int⟩
  · exact q.elim
theorem oa_max2 : OpA G (fun xs H Q => ∃ i j, xs = [.int i, .int j] ∧ Q (.int (if j > i then j else i)) H) bMax2 := fun Wx σ W C H xs vs Q st rx q => by
  unfold bMax2 at q
  split at q
  · obtain ⟨v, u, rfl, r1, r2⟩ := rx.two
    exact ⟨_, _, by rw [r1.int_, r2.int_], q W _ H .refl st .int⟩
  · exact q.elim
/-- lists of ints, of truths -/
def asInts : List D → Option (List Int)
  | [] => some []
  | .int i :: r => (asInts r).map (i :: ·)
  | _ => none
def asBls : List D → Option (List Bool)
  | [] => some []
  | .bl i :: r => (asBls r).map (i :: ·)
  | _ => none
theorem asInts_ok {W : Wd} : ∀ {l : List D} {vs : List V} {ns : List Int}, RepVs G W l vs → asInts l = some ns → vs = ns.map V.int
  | [], _, _, r, e => by cases e; rw [r.nil_inv]; rfl
  | d :: l, _, _, r, e => by
    obtain ⟨v, vr, rfl, h1, h2⟩ := r.cons_inv
    cases d with
    | int i =>
      unfold asInts at e
      cases q : asInts l with
      | none => rw [q] at e; cases e
      | some ms =>
        rw [q] at e; cases e
        rw [h1.int_, asInts_ok h2 q]; rfl
    | _ => cases e
theorem asBls_ok {W : Wd} : ∀ {l : List D} {vs : List V} {ns : List Bool}, RepVs G W l vs → asBls l = some ns → vs = ns.map V.bl
  | [], _, _, r, e => by cases e; rw [r.nil_inv]; rfl
  | d :: l, _, _, r, e => by
    obtain ⟨v, vr, rfl, h1, h2⟩ := r.cons_inv
    cases d with
    | bl i =>
      unfold asBls at e
      cases q : asBls l with
      | none => rw [q] at e; cases e
      | some ms =>
        rw [q] at e; cases e
        rw [h1.bl_, asBls_ok h2 q]; rfl
    | _ => cases e
@[simp] theorem asInts_map : ∀ ns : List Int, asInts (ns.map D.int) = some ns
  | [] => rfl
  | n :: r => by simp [asInts, asInts_map r]
@[simp] theorem asBls_map : ∀ ns : List Bool, asBls (ns.map D.bl) = some ns
  | [] => rfl
  | n :: r => by simp [asBls, asBls_map r]
def bAll (xs : List D) (C : Cells) : Res D := match xs with
  | [d] => (match (lstOf C d).bind asBls with | some bs => .ok (.bl (bs.all id)) C | none => .no)
  | _ => .no
def bAny (xs : List D) (C : Cells) : Res D := match xs with
  | [d] => (match (lstOf C d).bind asBls with | some bs => .ok (.bl (bs.any id)) C | none => .no)
  | _ => .no
def bSum (xs : List D) (C : Cells) : Res D := match xs with
  | [d] => (match (lstOf C d).bind asInts with | some ns => .ok (.int ns.sum) C | none => .no)
  | _ => .no
theorem lst_bind {α : Type} {W : Wd} {C : Cells} {H : Hp} {d : D} {v : V} {k : List D → Option α} {z : α} (st : StR G W C H) (r : RepV G W d v) (h : (lstOf C d).bind k = some z) : ∃ a vs l, v = .ref a ∧ SqL G.K H a vs ∧ RepVs G W l vs ∧ k l = some z := by
  cases e : lstOf C d with
  | none => rw [e] at h; cases h
  | some l =>
    rw [e] at h
    obtain ⟨a, vs, h1, h2, h3⟩ := lstOf_ok st r e
    exact ⟨a, vs, l, h1, h2, h3, h⟩
theorem oa_all : OpA G (rAll G.K) bAll := fun Wx σ W C H xs vs Q st rx q => by
  unfold bAll at q
  split at q
  · obtain ⟨v, rfl, r⟩ := rx.one
    split at q
    · rename_i bs e
      obtain ⟨a, us, l, rfl, h1, h2, h3⟩ := lst_bind st r e
      exact ⟨a, bs, rfl, by rw [← asBls_ok h2 h3]; exact h1, q W _ H .refl st .bl⟩
    · exact q.elim
  · exact q.elim
theorem oa_any : OpA G (rAny G.K) bAny := fun Wx σ W C H xs vs Q st rx q => by
  unfold bAny at q
  split at q
  · obtain ⟨v, rfl, r⟩ := rx.one
    split at q
    · rename_i bs e
      obtain ⟨a, us, l, rfl, h1, h2, h3⟩ := lst_bind st r e
      exact ⟨a, bs, rfl, by rw [← asBls_ok h2 h3]; exact h1, q W _ H .refl st .bl⟩
    · exact q.elim
  · exact q.elim
theorem oa_sum : OpA G (rSum G.K) bSum := fun Wx σ W C H xs vs Q st rx q => by
  unfold bSum at q
  split at q
  · obtain ⟨v, rfl, r⟩ := rx.one
    split at q
    · rename_i bs e
      obtain ⟨a, us, l, rfl, h1, h2, h3⟩ := lst_bind st r e
      exact ⟨a, bs, rfl, by rw [← asInts_ok h2 h3]; exact h1, q W _ H .refl st .int⟩
    · exact q.elim
  · exact q.elim
/-- the least, the greatest of ints -/
def minL : List Int → Int
  | [] => 0
  | [i] => i
  | i :: r => let m := minL r; if i ≤ m then i else m
def maxL : List Int → Int
  | [] => 0
  | [i] => i
  | i :: r => let m := maxL r; if m ≤ i then i else m
theorem minL_ok : ∀ {l : List Int}, l ≠ [] → minL l ∈ l ∧ ∀ y ∈ l, minL l ≤ y
  | [], h => absurd rfl h
  | [i], _ => by simp [minL]
  | i :: j :: r, _ => by
    obtain ⟨h1, h2⟩ := minL_ok (l := j :: r) (by simp)
    have e : minL (i :: j :: r) = if i ≤ minL (j :: r) then i else minL (j :: r) := rfl
    rw [e]
    split
    · rename_i h
      exact ⟨List.mem_cons_self, fun y hy => by rcases List.mem_cons.mp hy with rfl | hy; exact Int.le_refl _; exact Int.le_trans h (h2 y hy)⟩
    · rename_i h
      exact ⟨List.mem_cons_of_mem _ h1, fun y hy => by rcases List.mem_cons.mp hy with rfl | hy; omega; exact h2 y hy⟩
theorem maxL_ok : ∀ {l : List Int}, l ≠ [] → maxL l ∈ l ∧ ∀ y ∈ l, y ≤ maxL l
  | [], h => absurd rfl h
  | [i], _ => by simp [maxL]
  | i :: j :: r, _ => by
    obtain ⟨h1, h2⟩ := maxL_ok (l := j :: r) (by simp)
    have e : maxL (i :: j :: r) = if maxL (j :: r) ≤ i then i else maxL (j :: r) := rfl
    rw [e]
    split
    · rename_i h
      exact ⟨List.mem_cons_self, fun y hy => by rcases List.mem_cons.mp hy with rfl | hy; exact Int.le_refl _; exact Int.le_trans (h2 y hy) h⟩
    · rename_i h
      exact ⟨List.mem_cons_of_mem _ h1, fun y hy => by rcases List.mem_cons.mp hy with rfl | hy; omega; exact h2 y hy⟩
def bMin (xs : List D) (C : Cells) : Res D := match xs with
  | [d] => (match (lstOf C d).bind asInts with | some (i :: ns) => .ok (.int (minL (i :: ns))) C | _ => .no)
  | _ => .no
def bMax (xs : List D) (C : Cells) : Res D := match xs with
  | [d] => (match (lstOf C d).bind asInts with | some (i :: ns) => .ok (.int (maxL (i :: ns))) C | _ => .no)
  | _ => .no
theorem oa_min : OpA G (rMin G.K) bMin := fun Wx σ W C H xs vs Q st rx q => by
  unfold bMin at q
  split at q
  · obtain ⟨v, rfl, r⟩ := rx.one
    split at q
    · rename_i i bs e
      obtain ⟨a, us, l, rfl, h1, h2, h3⟩ := lst_bind st r e
      refine ⟨a, i :: bs, rfl, by rw [← asInts_ok h2 h3]; exact h1, by simp, fun m hm hy => ?_⟩
      obtain ⟨k1, k2⟩ := minL_ok (l := i :: bs) (by simp)
      have e : m = minL (i :: bs) := Int.le_antisymm (hy _ k1) (k2 _ hm)
      rw [e]; exact q W _ H .refl st .int
    · exact q.elim
  · exact q.elim
theorem oa_max : OpA G (rMax G.K) bMax := fun Wx σ W C H xs vs Q st rx q => by
  unfold bMax at q
  split at q
  · obtain ⟨v, rfl, r⟩ := rx.one
    split at q
    · rename_i i bs e
      obtain ⟨a, us, l, rfl, h1, h2, h3⟩ := lst_bind st r e
      refine ⟨a, i :: bs, rfl, by rw [← asInts_ok h2 h3]; exact h1, by simp, fun m hm hy => ?_⟩
      obtain ⟨k1, k2⟩ := maxL_ok (l := i :: bs) (by simp)
      have e : m = maxL (i :: bs) := Int.le_antisymm (k2 _ hm) (hy _ k1)
      rw [e]; exact q W _ H .refl st .int
    · exact q.elim
  · exact q.elim
/-- list(xs): known; a cell -/
def bList (xs : List D) (C : Cells) : Res D := match xs with
  | [d] => (match seqOf C d with | some l => .ok (.lst l) C | none => .no)
  | _ => .no
def bListC (xs : List D) (C : Cells) : Res D := match xs with
  | [d] => (match seqOf C d with | some l => newL l C | none => .no)
  | _ => .no
theorem oa_list : OpA G (fun xs H Q => ∃ p ys, xs = [.ref p] ∧ (SqL G.K H p ys ∨ SqT G.K H p ys) ∧ ∀ l, H l = none → Q (.ref l) (upd H l (.lst ys))) bList := fun Wx σ W C H xs vs Q st rx q => by
  unfold bList at q
  split at q
  · obtain ⟨v, rfl, r⟩ := rx.one
    split at q
    · rename_i l e
      obtain ⟨a, us, rfl, h1, h2⟩ := seqOf_ok st r e
      exact ⟨a, us, rfl, h1, new_lst st h2 q⟩
    · exact q.elim
  · exact q.elim
theorem oa_listC : OpA G (fun xs H Q => ∃ p ys, xs = [.ref p] ∧ (SqL G.K H p ys ∨ SqT G.K H p ys) ∧ ∀ l, H l = none → Q (.ref l) (upd H l (.lst ys))) bListC := fun Wx σ W C H xs vs Q st rx q => by
  unfold bListC at q
  split at q
  · obtain ⟨v, rfl, r⟩ := rx.one
    split at q
    · rename_i l e
      obtain ⟨a, us, rfl, h1, h2⟩ := seqOf_ok st r e
      exact ⟨a, us, rfl, h1, new_cel st h2 q⟩
    · exact q.elim
  · exact q.elim
end
end DL

set_option Elab.async false
set_option linter.all false
set_option maxRecDepth 100000
set_option autoImplicit false
namespace DL
open PySem PySem.Spec PyProof.Rows L2

/-! ### statements -/
def sNil : SF := fun s C => .nxt s C
def sSeq (f g : SF) : SF := fun s C => match f s C with
  | .nxt s C => g s C
  | r => r
def sPass : SF := fun s C => .nxt s C
def sBrk : SF := fun s C => .brk s C
def sCnt : SF := fun s C => .cnt s C
def Res.toS (r : Res D) (s : Sl) (k : D → Cells → SRes) : SRes := match r with
  | .ok d C => k d C
  | .err c C => .err c s C
  | .no => .no
def Res.toSB (r : Res Bool) (s : Sl) (k : Bool → Cells → SRes) : SRes := match r with
  | .ok d C => k d C
  | .err c C => .err c s C
  | .no => .no
def sRet (f : EF) : SF := fun s C => (f s C).toS s fun d C => .ret d C
def sRetN : SF := fun _ C => .ret .non C
def sDrop (f : EF) : SF := fun s C => (f s C).toS s fun _ C => .nxt s C
def sSet (i : Nat) (f : EF) : SF := fun s C => (f s C).toS s fun d C => .nxt (s.set i (some d)) C
def sIf (t : TF) (f g : SF) : SF := fun s C => (t s C).toSB s fun b C => if b = true then f s C else g s C
section
variable {X : Cx} {G : Glo} {Wx : WX} {e c : Expr} {f : EF} {st : Stmt} {rest : List Stmt} {g h : SF} {pos : Pos}
/-- an expression ahead of what follows in a statement -/
theorem SPost.toS {W : Wd} {C : Cells} {H : Hp} {sl : Sl} {σ : L2.St} {r : Res D} {k : D → Cells → SRes} {Dn : Ends} {Q : VK} (rs : RepS G W sl σ) (q : SPost G Wx W C H (r.toS sl k) Dn)
    (hk : ∀ d C1 W1 v H1, Step W C H W1 C1 H1 → StR G W1 C1 H1 → RepV G W1 d v → SPost G Wx W1 C1 H1 (k d C1) Dn → Q v H1) : Post G Wx σ (RepV G) W C H r Q := by
  cases r with
  | ok d C' => exact fun W' v H' t st' rr => hk d C' W' v H' t st' rr (SPost.step t q)
  | err c C' => exact fun W' H' t st' => q W' σ H' t st' (rs.up t.le)
  | no => exact q
theorem SPost.toSB {W : Wd} {C : Cells} {H : Hp} {sl : Sl} {σ : L2.St} {r : Res Bool} {k : Bool → Cells → SRes} {Dn : Ends} {Q : Bool → Hp → Prop} (rs : RepS G W sl σ) (q : SPost G Wx W C H (r.toSB sl k) Dn)
    (hk : ∀ d C1 W1 H1, Step W C H W1 C1 H1 → StR G W1 C1 H1 → SPost G Wx W1 C1 H1 (k d C1) Dn → Q d H1) : Post G Wx σ (fun _ a b => a = b) W C H r Q := by
  cases r with
  | ok d C' => exact fun W' v H' t st' rr => rr ▸ hk d C' W' H' t st' (SPost.step t q)
  | err c C' => exact fun W' H' t st' => q W' σ H' t st' (rs.up t.le)
  | no => exact q
theorem dss_nil : DSs X G Wx [] sNil := ⟨PSs.weak pss_nil fun D σ H ⟨W, sl, C, rs, st, q⟩ => q W σ H .refl st rs⟩
theorem seq_use {g h : SF} {Dn : Ends} {σ : L2.St} {H : Hp} (x : tSt G Wx (sSeq g h) Dn σ H) : tSt G Wx g { Dn with nx := tSt G Wx h Dn } σ H := by
  obtain ⟨W, sl, C, rs, st, q⟩ := x
  refine ⟨W, sl, C, rs, st, ?_⟩
  unfold sSeq at q
  cases e : g sl C with
  | nxt s' C' => rw [e] at q; exact fun W' σ' H' t st' rs' => ⟨W', s', C', rs', st', SPost.step t q⟩
  | ret d C' => rw [e] at q; exact q
  | brk s' C' => rw [e] at q; exact q
  | cnt s' C' => rw [e] at q; exact q
  | err c s' C' => rw [e] at q; exact q
  | no => rw [e] at q; exact q
theorem dss_cons (h1 : DS X G Wx st g) (h2 : DSs X G Wx rest h) : DSs X G Wx (st :: rest) (sSeq g h) := ⟨PSs.weak (pss_cons h1.ps h2.ps) fun D σ H x => seq_use x⟩
theorem dss_one (h1 : DS X G Wx st g) : DSs X G Wx [st] g := ⟨pss_one h1.ps⟩
theorem ds_pass : DS X G Wx (.Pass pos) sPass := ⟨PS.weak ps_pass fun D σ H ⟨W, sl, C, rs, st, q⟩ => q W σ H .refl st rs⟩
theorem ds_break : DS X G Wx (.Break pos) sBrk := ⟨PS.weak ps_break fun D σ H ⟨W, sl, C, rs, st, q⟩ => q W σ H .refl st rs⟩
theorem ds_continue : DS X G Wx (.Continue pos) sCnt := ⟨PS.weak ps_continue fun D σ H ⟨W, sl, C, rs, st, q⟩ => q W σ H .refl st rs⟩
theorem ds_doc {x j pos'} : DS X G Wx (.Expr (.Constant (.str x) j pos) pos') sPass := ⟨PS.weak ps_doc fun D σ H ⟨W, sl, C, rs, st, q⟩ => q W σ H .refl st rs⟩
theorem ds_ret (he : DE X G Wx e f) : DS X G Wx (.Return (some e) pos) (sRet f) := ⟨PS.weak (ps_ret he.pe) fun D σ H ⟨W, sl, C, rs, st, q⟩ => ⟨W, sl, C, rs, st, SPost.toS rs q fun d C1 W1 v H1 _ st1 rr q1 => q1 W1 v H1 .refl st1 rr⟩⟩
theorem ds_retN : DS X G Wx (.Return none pos) sRetN := ⟨PS.weak ps_retN fun D σ H ⟨W, sl, C, rs, st, q⟩ => q W .non H .refl st .non⟩
theorem ds_expr (he : DE X G Wx e f) (hs : swapsWith e none pos.line X.env = pure false := by rfl) : DS X G Wx (.Expr e pos) (sDrop f) := ⟨PS.weak (ps_expr he.pe hs) fun D σ H ⟨W, sl, C, rs, st, q⟩ => ⟨W, sl, C, rs, st, SPost.toS rs q fun d C1 W1 v H1 t st1 rr q1 => q1 W1 σ H1 .refl st1 (rs.up t.le)⟩⟩
theorem ds_set {i : Nat} {x : Str} {pos' : Pos} (hN : X.N.Nodup) (hi : X.N[i]? = some x) (hx : Loc X.env.scope x) (he : DE X G Wx e f) (hs : swapsWith e (some (.Name x pos')) pos.line X.env = pure false := by rfl) (hf : X.fn x = true ∨ X.env.scope.names.lookup x = some .local := by first | exact .inl rfl | exact .inr rfl | assumption) :
    DS X G Wx (.Assign [.Name x pos'] e pos) (sSet i f) := ⟨PS.weak (ps_set hN hi hx he.pe hs hf) fun D σ H ⟨W, sl, C, rs, st, q⟩ => ⟨W, sl, C, rs, st, SPost.toS rs q fun d C1 W1 v H1 t st1 rr q1 => q1 W1 _ H1 .refl st1 ((rs.up t.le).set i rr)⟩⟩
theorem ds_if {tc : TF} {a b : List Stmt} (hc : DT X G Wx c tc) (ha : DSs X G Wx a g) (hb : DSs X G Wx b h) : DS X G Wx (.If c a b pos) (sIf tc g h) := ⟨PS.weak (ps_if hc.pt ha.ps hb.ps) fun D σ H ⟨W, sl, C, rs, st, q⟩ => ⟨W, sl, C, rs, st, SPost.toSB rs q fun d C1 W1 H1 t st1 q1 => by
    cases d with
    | true => exact ⟨W1, sl, C1, rs.up t.le, st1, q1⟩
    | false => exact ⟨W1, sl, C1, rs.up t.le, st1, q1⟩⟩⟩
theorem ds_never : DS X G Wx st (fun _ _ => .no) := ⟨PS.weak ps_never fun D σ H ⟨_, _, _, _, _, q⟩ => q⟩

/-! ### while -/
def whileF (t : TF) (b : SF) : Nat → SF
  | 0, _, _ => .no
  | n + 1, s, C => (t s C).toSB s fun k C => if k = true then (match b s C with
    | .nxt s C => whileF t b n s C
    | .cnt s C => whileF t b n s C
    | .brk s C => .nxt s C
    | r => r) else .nxt s C
def wFuel : Nat := 1000000
def sWhile (t : TF) (b : SF) : SF := fun s C => whileF t b wFuel s C
theorem ds_while {tc : TF} {body : List Stmt} (hp : PassesOwn (model X.prog X.w) X.A X.env X.xe) (hc : DT X G Wx c tc) (hb : DSs X G Wx body g) : DS X G Wx (.While c body [] pos) (sWhile tc g) := ⟨PS.weak (ps_while hp hc.pt hb.ps) fun D σ H ⟨W, sl, C, rs, st, q⟩ => by
  refine ⟨fun m σ H => ∃ W sl C, RepS G W sl σ ∧ StR G W C H ∧ SPost G Wx W C H (whileF tc g m sl C) D, ⟨wFuel, W, sl, C, rs, st, q⟩, ?_⟩
  rintro m σ H ⟨W, sl, C, rs, st, q⟩
  cases m with
  | zero => exact q.elim
  | succ m =>
    refine ⟨W, sl, C, rs, st, SPost.toSB rs q fun d C1 W1 H1 t st1 q1 => ?_⟩
    cases d with
    | false => rw [if_neg Bool.false_ne_true] at q1 ⊢; exact q1 W1 σ H1 .refl st1 (rs.up t.le)
    | true =>
      rw [if_pos rfl] at q1 ⊢
      refine ⟨fun σ H => ∃ W sl C, RepS G W sl σ ∧ StR G W C H ∧ SPost G Wx W C H (whileF tc g m sl C) D, fun σ' H' n => ⟨m, Nat.lt_succ_self _, n⟩, W1, sl, C1, rs.up t.le, st1, ?_⟩
      cases e : g sl C1 with
      | nxt s' C' => rw [e] at q1; exact fun W' σ' H' t st' rs' => ⟨W', s', C', rs', st', SPost.step t q1⟩
      | cnt s' C' => rw [e] at q1; exact fun W' σ' H' t st' rs' => ⟨W', s', C', rs', st', SPost.step t q1⟩
      | ret d C' => rw [e] at q1; exact q1
      | brk s' C' => rw [e] at q1; exact q1
      | err c s' C' => rw [e] at q1; exact q1
      | no => rw [e] at q1; exact q1⟩

end

/-! ### targets -/
abbrev GF := D → Sl → Cells → Option Sl
abbrev GFs := List D → Sl → Cells → Option Sl
/-- a target's reading on data; tch: the slots that it changes -/
def GOk (G : Glo) (t : TG) (f : GF) (tch : List Nat) : Prop := ∀ (d : D) (v : V) (sl sl' : Sl) (σ : L2.St) (W : Wd) (C : Cells) (H : Hp) (Q : L2.St → Hp → Prop), StR G W C H → RepV G W d v → RepS G W sl σ → f d sl C = some sl' →
  (∀ σ', RepS G W sl' σ' → (∀ vs, (∀ i ∈ tch, i ∈ vs) → wipe σ' vs = wipe σ vs) → Q σ' H) → t v σ H Q
def GOks (G : Glo) (t : TGs) (f : GFs) (tch : List Nat) : Prop := ∀ (ds : List D) (us : List V) (sl sl' : Sl) (σ : L2.St) (W : Wd) (C : Cells) (H : Hp) (Q : L2.St → Hp → Prop), StR G W C H → RepVs G W ds us → RepS G W sl σ → f ds sl C = some sl' →
  (∀ σ', RepS G W sl' σ' → (∀ vs, (∀ i ∈ tch, i ∈ vs) → wipe σ' vs = wipe σ vs) → Q σ' H) → t us σ H Q
def gfName (i : Nat) : GF := fun d s _ => some (s.set i (some d))
def gfNil : GFs := fun l s _ => match l with | [] => some s | _ => none
def gfCons (f : GF) (g : GFs) : GFs := fun l s C => match l with
  | d :: r => (f d s C).bind fun s => g r s C
  | _ => none
def gfTup (n : Nat) (g : GFs) : GF := fun d s C => match d with
  | .tup l => if l.length = n then g l s C else none
  | _ => none
theorem wipe_set {σ : L2.St} {z : Option V} {i : Nat} : ∀ {vs : List Nat}, i ∈ vs → wipe (σ.set i z) vs = wipe σ vs
  | [], h => by cases h
  | v :: vs, h => by
    unfold wipe
    by_cases hi : i ∈ vs
    · rw [wipe_set hi]
    · have e : i = v := by
        rcases List.mem_cons.mp h with e | e
        · exact e
        · exact absurd e hi
      subst e
      clear h hi
      have aux : ∀ (us : List Nat), (wipe (σ.set i z) us).set i none = (wipe σ us).set i none := fun us => by
        induction us with
        | nil => unfold wipe; rw [List.set_set]
        | cons u us ih =>
          unfold wipe
          by_cases q : u = i
          · subst q; rw [List.set_set, List.set_set]; exact ih
          · rw [List.set_comm _ _ q, List.set_comm _ _ q, ih]
      exact aux vs
section
variable {G : Glo}
theorem g_name {i : Nat} : GOk G (gName i) (gfName i) [i] := fun d v sl sl' σ W C H Q st rv rs e q => by
  cases e
  exact q _ (rs.set i rv) fun vs h => wipe_set (h i (by simp))
theorem g_nil : GOks G gNil gfNil [] := fun ds us sl sl' σ W C H Q st rv rs e q => by
  cases ds with
  | nil => cases e; rw [rv.nil_inv]; exact ⟨rfl, q _ rs fun _ _ => rfl⟩
  | cons _ _ => cases e
theorem g_cons {t : TG} {u : TGs} {f : GF} {g : GFs} {a b : List Nat} (h1 : GOk G t f a) (h2 : GOks G u g b) : GOks G (gCons t u) (gfCons f g) (a ++ b) := fun ds us sl sl' σ W C H Q st rv rs e q => by
  cases ds with
  | nil => cases e
  | cons d r =>
    obtain ⟨v, vr, rfl, k1, k2⟩ := rv.cons_inv
    have e' : (f d sl C).bind (fun s => g r s C) = some sl' := e
    cases e1 : f d sl C with
    | none => rw [e1] at e'; cases e'
    | some s1 =>
      rw [e1] at e'
      exact ⟨v, vr, rfl, h1 d v sl s1 σ W C H _ st k1 rs e1 fun σ1 rs1 w1 => h2 r vr s1 sl' σ1 W C H Q st k2 rs1 e' fun σ2 rs2 w2 => q σ2 rs2 fun vs hv =>
        (w2 vs fun i hi => hv i (List.mem_append_right _ hi)).trans (w1 vs fun i hi => hv i (List.mem_append_left _ hi))⟩
theorem g_tup {u : TGs} {g : GFs} {n : Nat} {b : List Nat} (h : GOks G u g b) : GOk G (gTup G.K n u) (gfTup n g) b := fun d v sl sl' σ W C H Q st rv rs e q => by
  cases d with
  | tup l =>
    have e' : (if l.length = n then g l sl C else none) = some sl' := e
    split at e'
    · rename_i hl
      obtain ⟨a, vs, rfl, h1, h2⟩ := tupOf_ok st rv (l := l) rfl
      exact ⟨a, vs, rfl, h1, by rw [← h2.length]; exact hl, h l vs sl sl' σ W C H Q st h2 rs e' q⟩
    · cases e'
  | _ => cases e
end
/-- target = value -/
def sAsg (f : EF) (g : GF) : SF := fun s C => (f s C).toS s fun d C => match g d s C with | some s => .nxt s C | none => .no
section
variable {X : Cx} {G : Glo} {Wx : WX} {e c : Expr} {f : EF} {st : Stmt} {rest : List Stmt} {g h : SF} {pos : Pos}
theorem ds_asg {tg : Expr} {t : TG} {gf : GF} {tch : List Nat} (he : DE X G Wx e f) (hg : PG X tg t) (go : GOk G t gf tch) (hs : swapsWithSole [tg] e pos.line X.env = pure false := by rfl) (hw : swappedStores [tg] e X.env = pure none := by rfl)
    (h1 : (assignEach [tg] X.env).map (·.2) = [assign tg X.env] := by rfl) : DS X G Wx (.Assign [tg] e pos) (sAsg f gf) :=
  ⟨PS.weak (ps_asg he.pe hg hs hw h1) fun D σ H ⟨W, sl, C, rs, st, q⟩ => ⟨W, sl, C, rs, st, SPost.toS rs q fun d C1 W1 v H1 tt st1 rr q1 => by
    split at q1
    · rename_i s' e
      exact go d v sl s' σ W1 C1 H1 _ st1 rr (rs.up tt.le) e fun σ' rs' _ => q1 W1 σ' H1 .refl st1 rs'
    · exact q1.elim⟩⟩

/-! ### what is walked -/
abbrev IF := Sl → Cells → Res (List D)
/-- from this state on an iterator gives the items ds -/
structure Wlk (G : Glo) (J : It) (W : Wd) (C : Cells) (H : Hp) (ds : List D) : Prop where
  item : ∀ (i : Nat) (d : D), ds[i]? = some d → ∀ W' C' H', Step W C H W' C' H' → StR G W' C' H' → J.go i H' ∧ ∀ x H2, J.yld i H' x H2 → ∃ W2, Step W' C' H' W2 C' H2 ∧ StR G W2 C' H2 ∧ RepV G W2 d x
  stop : ∀ W' C' H', Step W C H W' C' H' → StR G W' C' H' → J.stop ds.length H'
def IPost (G : Glo) (Wx : WX) (σ : L2.St) (W : Wd) (C : Cells) (H : Hp) (r : Res (List D)) (R : It → Hp → Prop) : Prop :=
  match r with
  | .ok ds C' => ∀ W' J H', Step W C H W' C' H' → StR G W' C' H' → Wlk G J W' C' H' ds → R J H'
  | .err c C' => ∀ W' H', Step W C H W' C' H' → StR G W' C' H' → Wx (.ref (G.cls c)) none σ H'
  | .no => False
theorem IPost.step {σ : L2.St} {W W1 : Wd} {C C1 : Cells} {H H1 : Hp} {r : Res (List D)} {R : It → Hp → Prop} (s : Step W C H W1 C1 H1) (h : IPost G Wx σ W C H r R) : IPost G Wx σ W1 C1 H1 r R := by
  cases r with
  | ok a C' => exact fun W' J H' t => h W' J H' (s.trans t)
  | err c C' => exact fun W' H' t => h W' H' (s.trans t)
  | no => exact h
theorem IPost.bind {α β : Type} {σ : L2.St} {R1 : Wd → α → β → Prop} {W : Wd} {C : Cells} {H : Hp} {r : Res α} {k : α → Cells → Res (List D)} {R : It → Hp → Prop} {Q : β → Hp → Prop} (h : IPost G Wx σ W C H (r.bind k) R)
    (hk : ∀ a C1 W1 b H1, Step W C H W1 C1 H1 → StR G W1 C1 H1 → R1 W1 a b → IPost G Wx σ W1 C1 H1 (k a C1) R → Q b H1) : Post G Wx σ R1 W C H r Q := by
  cases r with
  | ok a C' => exact fun W' b H' t st rr => hk a C' W' b H' t st rr (IPost.step t h)
  | err c C' => exact h
  | no => exact h
def IOk (G : Glo) (Wx : WX) (wi : TI) (f : IF) : Prop := ∀ (σ : L2.St) (H : Hp) (R : It → Hp → Prop) (W : Wd) (sl : Sl) (C : Cells), RepS G W sl σ → StR G W C H → IPost G Wx σ W C H (f sl C) R → wi σ H R
/-- a known list, the script; a tuple; a range -/
def iLst (f : EF) : IF := fun s C => (f s C).bind fun d C => match d with | .lst l => .ok l C | .scr l => .ok l C | _ => .no
def iTpl (f : EF) : IF := fun s C => (f s C).bind fun d C => match d with | .tup l => .ok l C | .ktp l => .ok l C | _ => .no
def rngD (lo : Int) (n : Nat) : List D := (List.range n).map fun (i : Nat) => D.int (lo + i)
def iR1 (g : AF) : IF := fun s C => (g s C).bind fun xs C => match xs with
  | [.int j] => if -(2 ^ 62) ≤ j ∧ j < 2 ^ 62 then .ok (rngD 0 j.toNat) C else .no
  | _ => .no
def iR2 (g : AF) : IF := fun s C => (g s C).bind fun xs C => match xs with
  | [.int i, .int j] => if -(2 ^ 62) ≤ i ∧ i < 2 ^ 62 ∧ -(2 ^ 62) ≤ j ∧ j < 2 ^ 62 then .ok (rngD i (j - i).toNat) C else .no
  | _ => .no
theorem wlk_list {W : Wd} {C : Cells} {H : Hp} {a : Addr} {vs : List V} {l : List D} (h : SqL G.K W.F a vs) (r : RepVs G W l vs) : Wlk G (Itl G.K a) W C H l where
  item := fun i d e W' C' H' t st => by
    obtain ⟨v, h1, h2⟩ := r.get e
    have hs : SqL G.K H' a vs := SqL.up (fun x o q => st.F x o (t.le.F x o q)) h
    refine ⟨⟨vs, v, hs, h1⟩, fun x H2 y => ?_⟩
    obtain ⟨rfl, y⟩ := y
    have e2 := y vs hs
    rw [h1] at e2; cases e2
    exact ⟨W', .refl, st, h2.up t.le⟩
  stop := fun W' C' H' t st => ⟨vs, SqL.up (fun x o q => st.F x o (t.le.F x o q)) h, by rw [r.length]; exact Nat.le_refl _⟩
theorem wlk_tup {W : Wd} {C : Cells} {H : Hp} {a : Addr} {vs : List V} {l : List D} (h : SqT G.K W.F a vs) (r : RepVs G W l vs) : Wlk G (Itt G.K a) W C H l where
  item := fun i d e W' C' H' t st => by
    obtain ⟨v, h1, h2⟩ := r.get e
    have hs : SqT G.K H' a vs := SqT.up (fun x o q => st.F x o (t.le.F x o q)) h
    refine ⟨⟨vs, v, hs, h1⟩, fun x H2 y => ?_⟩
    obtain ⟨rfl, y⟩ := y
    have e2 := y vs hs
    rw [h1] at e2; cases e2
    exact ⟨W', .refl, st, h2.up t.le⟩
  stop := fun W' C' H' t st => ⟨vs, SqT.up (fun x o q => st.F x o (t.le.F x o q)) h, by rw [r.length]; exact Nat.le_refl _⟩
theorem wlk_rng {W : Wd} {C : Cells} {H : Hp} {lo : Int} {n : Nat} : Wlk G (Itr lo n) W C H (rngD lo n) where
  item := fun i d e W' C' H' t st => by
    unfold rngD at e
    rw [List.getElem?_map] at e
    have hi : i < n := by
      by_cases q : i < n
      · exact q
      · rw [List.getElem?_eq_none (by simpa using q)] at e; cases e
    rw [List.getElem?_range hi] at e
    cases e
    refine ⟨hi, fun x H2 y => ?_⟩
    obtain ⟨rfl, rfl⟩ := y
    exact ⟨W', .refl, st, .int⟩
  stop := fun W' C' H' t st => by
    show n ≤ (rngD lo n).length
    unfold rngD; rw [List.length_map, List.length_range]; exact Nat.le_refl _
theorem io_list (fo : EF) : IOk G Wx (iList G.K (tD G Wx fo)) (iLst fo) := fun σ H R W sl C rs st q => ⟨W, sl, C, rs, st, q.bind fun d C1 W1 v H1 t st1 rr q1 => by
  split at q1
  · obtain ⟨a, vs, rfl, h1, h2⟩ := rr.lst_
    exact ⟨a, rfl, ⟨vs, .of (st1.F _ _ h1)⟩, q1 W1 _ H1 .refl st1 (wlk_list (.of h1) h2)⟩
  · obtain ⟨a, vs, rfl, h1, h2⟩ := rr.scr_
    exact ⟨a, rfl, ⟨vs, SqL.up st1.F h1⟩, q1 W1 _ H1 .refl st1 (wlk_list h1 h2)⟩
  · exact q1.elim⟩
theorem io_tup (fo : EF) : IOk G Wx (iTup G.K (tD G Wx fo)) (iTpl fo) := fun σ H R W sl C rs st q => ⟨W, sl, C, rs, st, q.bind fun d C1 W1 v H1 t st1 rr q1 => by
  split at q1
  · obtain ⟨a, vs, rfl, h1, h2⟩ := rr.tup_
    exact ⟨a, rfl, ⟨vs, .of (st1.F _ _ h1)⟩, q1 W1 _ H1 .refl st1 (wlk_tup (.of h1) h2)⟩
  · obtain ⟨a, vs, rfl, h1, h2⟩ := rr.ktp_
    exact ⟨a, rfl, ⟨vs, SqT.up st1.F h1⟩, q1 W1 _ H1 .refl st1 (wlk_tup h1 h2)⟩
  · exact q1.elim⟩
theorem io_rng1 (fo : AF) : IOk G Wx (iRng1 (tAr G Wx fo)) (iR1 fo) := fun σ H R W sl C rs st q => ⟨W, sl, C, rs, st, q.bind fun xs C1 W1 vs H1 t st1 rr q1 => by
  split at q1
  · split at q1
    · rename_i h
      obtain ⟨v, rfl, h1⟩ := rr.one
      exact ⟨_, by rw [h1.int_], h.1, h.2, q1 W1 _ H1 .refl st1 wlk_rng⟩
    · exact q1.elim
  · exact q1.elim⟩
theorem io_rng2 (fo : AF) : IOk G Wx (iRng2 (tAr G Wx fo)) (iR2 fo) := fun σ H R W sl C rs st q => ⟨W, sl, C, rs, st, q.bind fun xs C1 W1 vs H1 t st1 rr q1 => by
  split at q1
  · split at q1
    · rename_i h
      obtain ⟨v, u, rfl, h1, h2⟩ := rr.two
      exact ⟨_, _, by rw [h1.int_, h2.int_], h, q1 W1 _ H1 .refl st1 wlk_rng⟩
    · exact q1.elim
  · exact q1.elim⟩

/-! ### for -/
def forF (tg : GF) (b : SF) : List D → SF
  | [], s, C => .nxt s C
  | d :: r, s, C => match tg d s C with
    | none => .no
    | some s => match b s C with
      | .nxt s C => forF tg b r s C
      | .cnt s C => forF tg b r s C
      | .brk s C => .nxt s C
      | x => x
def sFor (it : IF) (tg : GF) (b : SF) : SF := fun s C => match it s C with
  | .ok ds C => forF tg b ds s C
  | .err c C => .err c s C
  | .no => .no
theorem ds_for {tg iter : Expr} {body : List Stmt} {wi : TI} {t : TG} {gf : GF} {tch : List Nat} {fi : IF} (hp : PassesOwn (model X.prog X.w) X.A X.env X.xe) (hc : X.calm = true) (hi : PI X tg iter wi) (io : IOk G Wx wi fi) (hg : PG X tg t) (go : GOk G t gf tch) (hb : DSs X G Wx body g)
    (hs : ∀ x, foldedSetIterable iter X.env x = pure x := by intro _; rfl) : DS X G Wx (.For tg iter body [] pos) (sFor fi gf g) := ⟨PS.weak (ps_for hp hc hi hg hb.ps hs) fun D σ H ⟨W, sl, C, rs, st, q⟩ => by
  refine io σ H _ W sl C rs st ?_
  unfold sFor at q
  cases e : fi sl C with
  | no => rw [e] at q; exact q.elim
  | err c C1 => rw [e] at q; exact fun W' H' t' st' => q W' σ H' t' st' (rs.up t'.le)
  | ok ds C1 =>
    rw [e] at q
    intro W1 J H1 t1 st1 wk
    refine ⟨fun i m σ H => i ≤ ds.length ∧ m = ds.length - i ∧ ∃ W sl C, Step W1 C1 H1 W C H ∧ RepS G W sl σ ∧ StR G W C H ∧ SPost G Wx W C H (forF gf g (ds.drop i) sl C) D, ⟨ds.length, Nat.zero_le _, rfl, W1, sl, C1, .refl, rs.up t1.le, st1, by rw [List.drop_zero]; exact SPost.step t1 q⟩, ?_⟩
    rintro i m σ H ⟨hi, rfl, W, sl, C, t, rs, st, q⟩
    by_cases hlt : i < ds.length
    · have hd : ds[i]? = some ds[i] := List.getElem?_eq_getElem hlt
      have hdr : ds.drop i = ds[i] :: ds.drop (i + 1) := List.drop_eq_getElem_cons hlt
      obtain ⟨go_, y_⟩ := wk.item i _ hd W C H t st
      refine .inr ⟨go_, fun σ H => ∃ W sl C, Step W1 C1 H1 W C H ∧ RepS G W sl σ ∧ StR G W C H ∧ SPost G Wx W C H (forF gf g (ds.drop (i + 1)) sl C) D, fun σ' H' n => ⟨_, by omega, hlt, rfl, n⟩, fun x H' y => ?_⟩
      obtain ⟨W2, t2, st2, r2⟩ := y_ x H' y
      rw [hdr] at q
      unfold forF at q
      split at q
      · exact q.elim
      · rename_i s' e'
        refine go _ x sl s' σ W2 C H' _ st2 r2 (rs.up t2.le) e' fun σ' rs' _ => ⟨W2, s', C, rs', st2, ?_⟩
        have q := SPost.step t2 q
        cases eb : g s' C with
        | nxt s3 C3 => rw [eb] at q; exact fun W3 σ3 H3 t3 st3 rs3 => ⟨W3, s3, C3, (t.trans t2).trans t3, rs3, st3, SPost.step t3 q⟩
        | cnt s3 C3 => rw [eb] at q; exact fun W3 σ3 H3 t3 st3 rs3 => ⟨W3, s3, C3, (t.trans t2).trans t3, rs3, st3, SPost.step t3 q⟩
        | brk s3 C3 => rw [eb] at q; exact q
        | ret d C3 => rw [eb] at q; exact q
        | err c s3 C3 => rw [eb] at q; exact q
        | no => rw [eb] at q; exact q
    · have ei : i = ds.length := by omega
      subst ei
      rw [List.drop_length] at q
      exact .inl ⟨wk.stop W C H t st, q W σ H .refl st rs⟩⟩

/-! ### comprehensions -/
def W0 : WX := fun _ _ _ _ => False
structure DTs (X : Cx) (G : Glo) (Wx : WX) (ifs : List Expr) (f : TF) : Prop where
  pts : PTs X ifs (tTs G Wx f)
theorem PTs.weak {X : Cx} {es : List Expr} {t t' : TT} (h : PTs X es t) (w : ∀ σ H Q, t' σ H Q → t σ H Q) : PTs X es t' := ⟨fun pins s σ H Q I q => h.run pins s σ H Q I (w σ H Q q)⟩
def tYesF : TF := fun _ C => .ok true C
theorem dts_nil : DTs X G Wx [] tYesF := ⟨PTs.weak pts_nil fun σ H Q ⟨W, sl, C, rs, st, q⟩ => q W true H .refl st rfl⟩
theorem dts_one {t : TF} (h : DT X G Wx c t) : DTs X G Wx [c] t := ⟨pts_one h.pt⟩
def wipeD (sl : Sl) : List Nat → Sl
  | [] => sl
  | v :: vs => (wipeD sl vs).set v none
theorem RepS.wipe {W : Wd} {sl : Sl} {σ : L2.St} (h : RepS G W sl σ) : ∀ vs : List Nat, RepS G W (wipeD sl vs) (L2.wipe σ vs)
  | [] => h
  | v :: vs => (RepS.wipe h vs).setN v
def lcF (tg : GF) (t : TF) (f : EF) (vs : List Nat) : List D → Sl → Cells → Res (List D)
  | [], _, C => .ok [] C
  | d :: r, s, C => match tg d (wipeD s vs) C with
    | none => .no
    | some s' => match t s' C with
      | .ok true C => (match f s' C with
        | .ok y C => (match lcF tg t f vs r s C with
          | .ok ys C => .ok (y :: ys) C
          | _ => .no)
        | _ => .no)
      | .ok false C => lcF tg t f vs r s C
      | _ => .no
def lcG (it : IF) (tg : GF) (t : TF) (f : EF) (vs : List Nat) : AF := fun s C => (it s C).bind fun ds C => match lcF tg t f vs ds s C with
  | .ok ys C => if ds.length ≤ mxl then .ok ys C else .no
  | _ => .no
def eLc (it : IF) (tg : GF) (t : TF) (f : EF) (vs : List Nat) : EF := fun s C => (lcG it tg t f vs s C).bind fun ys C => .ok (.lst ys) C
def eLcC (it : IF) (tg : GF) (t : TF) (f : EF) (vs : List Nat) : EF := fun s C => (lcG it tg t f vs s C).bind newL
end
end DL

set_option Elab.async false
set_option linter.all false
set_option maxRecDepth 100000
set_option autoImplicit false
namespace DL
open PySem PySem.Spec PyProof.Rows L2
section
variable {G : Glo} {W W1 W2 : Wd} {C C1 C2 : Cells} {H H1 H2 : Hp} {p : Addr} {o : HO}
/-- something new that the state doesn't speak of -/
theorem fr_out (st : StR G W C H) (hp : H p = none) : StR G W C (upd H p o) ∧ Step W C H W C (upd H p o) ∧ ¬ Own W C p := by
  have np : ∀ a o', H a = some o' → a ≠ p := fun a o' h e => by rw [e, hp] at h; cases h
  refine ⟨⟨st.lnk, st.tb.new hp, fun a o' h => by rw [upd_ne (np a o' (st.F a o' h))]; exact st.F a o' h, fun n o' h => ?_, st.inj, st.nx⟩, ⟨.refl, Nat.le_refl _, fun a o' h _ n => ⟨by rw [upd_ne (np a o' h)]; exact h, n⟩⟩, ?_⟩
  · obtain ⟨a, ho, h1, h2, h3, h4⟩ := st.cells n o' h
    exact ⟨a, ho, h1, h2, by rw [upd_ne (np a _ h3)]; exact h3, h4⟩
  · rintro (⟨u, h⟩ | ⟨n, u, h1, h2⟩)
    · exact absurd rfl (np p u (st.F p u h))
    · obtain ⟨a, ho, k1, _, k3, _⟩ := st.cells n u h1
      rw [h2] at k1; cases k1
      exact absurd rfl (np p ho k3)
/-- .. changed -/
theorem fr_outset {u : HO} (st : StR G W C H) (n : ¬ Own W C p) (hp : H p = some u) (hu : Pla u) : StR G W C (upd H p o) := by
  have nF : ∀ a u, W.F a = some u → a ≠ p := fun a u h e => n (.inl ⟨u, e ▸ h⟩)
  refine ⟨st.lnk, st.tb.put hp hu, fun a o' h => by rw [upd_ne (nF a o' h)]; exact st.F a o' h, fun m o' h => ?_, st.inj, st.nx⟩
  obtain ⟨a, ho, h1, h2, h3, h4⟩ := st.cells m o' h
  have : a ≠ p := fun e => n (.inr ⟨m, o', h, e ▸ h1⟩)
  exact ⟨a, ho, h1, h2, by rw [upd_ne this]; exact h3, h4⟩
/-- all but p as in a step -/
structure StepX (p : Addr) (W : Wd) (C : Cells) (H : Hp) (W' : Wd) (C' : Cells) (H' : Hp) : Prop where
  le : W.le W'
  nx : C.nx ≤ C'.nx
  fr : ∀ a o, a ≠ p → H a = some o → Pla o → ¬ Own W C a → H' a = some o ∧ ¬ Own W' C' a
theorem Step.x (s : Step W C H W1 C1 H1) : StepX p W C H W1 C1 H1 := ⟨s.le, s.nx, fun a o _ => s.fr a o⟩
theorem StepX.trans (a : StepX p W C H W1 C1 H1) (b : StepX p W1 C1 H1 W2 C2 H2) : StepX p W C H W2 C2 H2 :=
  ⟨a.le.trans b.le, Nat.le_trans a.nx b.nx, fun x o q h z n => let ⟨h1, n1⟩ := a.fr x o q h z n; b.fr x o q h1 z n1⟩
theorem StepX.st (s : StepX p W C H W1 C1 H1) (hp : H p = none) : Step W C H W1 C1 H1 := ⟨s.le, s.nx, fun a o h => s.fr a o (fun e => by rw [e, hp] at h; cases h) h⟩
theorem stepX_set (n : ¬ Own W C p) : StepX p W C H W C (upd H p o) := ⟨.refl, Nat.le_refl _, fun a o' q h _ n => ⟨by rw [upd_ne q]; exact h, n⟩⟩
/-- what stood outside becomes known -/
theorem adopt (st : StR G W C H) (n : ¬ Own W C p) (hp : H p = some o) (ho : Pla o) : StR G ⟨upd W.F p o, W.cm⟩ C H ∧ StepX p W C H ⟨upd W.F p o, W.cm⟩ C H := by
  have nF : ∀ a u, W.F a = some u → a ≠ p := fun a u h e => n (.inl ⟨u, e ▸ h⟩)
  have le : W.le ⟨upd W.F p o, W.cm⟩ := ⟨fun a o' h => by show upd W.F p o a = _; rw [upd_ne (nF a o' h)]; exact h, fun _ _ h => h⟩
  refine ⟨⟨st.lnk.trans le, st.tb.kn hp ho.1 le, fun a o' h => ?_, fun m o' h => ?_, st.inj, st.nx⟩, le, Nat.le_refl _, fun a o' q h _ n2 => ⟨h, fun z => n2 ?_⟩⟩
  · have h' : upd W.F p o a = some o' := h
    by_cases e : a = p
    · subst e; rw [upd_same] at h'; cases h'; exact hp
    · rw [upd_ne e] at h'; exact st.F a o' h'
  · obtain ⟨a, ho, h1, h2, h3, h4⟩ := st.cells m o' h
    have : a ≠ p := fun e => n (.inr ⟨m, o', h, e ▸ h1⟩)
    exact ⟨a, ho, h1, by show upd W.F p o a = none; rw [upd_ne this]; exact h2, h3, h4.up le⟩
  · rcases z with ⟨u, z⟩ | z
    · have z' : upd W.F p o a = some u := z
      rw [upd_ne q] at z'; exact .inl ⟨u, z'⟩
    · exact .inr z
/-- .. a cell -/
theorem adoptC {x : O} (st : StR G W C H) (n : ¬ Own W C p) (hp : H p = some o) (r : RepO G W x o) : StR G ⟨W.F, fun n => if n = C.nx then some p else W.cm n⟩ (C.new x) H ∧ StepX p W C H ⟨W.F, fun n => if n = C.nx then some p else W.cm n⟩ (C.new x) H := by
  have le : W.le ⟨W.F, fun n => if n = C.nx then some p else W.cm n⟩ := ⟨fun _ _ h => h, fun n a h => by
    show (if n = C.nx then some p else W.cm n) = some a
    have : n ≠ C.nx := fun e => by rw [e, st.nx _ (Nat.le_refl _)] at h; cases h
    rw [if_neg this]; exact h⟩
  have pF : W.F p = none := by
    cases q : W.F p with
    | none => rfl
    | some u => exact absurd (.inl ⟨u, q⟩) n
  have got : ∀ n o', (C.new x).get n = some o' → (n = C.nx ∧ o' = x) ∨ (n ≠ C.nx ∧ C.get n = some o') := fun n o' h => by
    by_cases e : n = C.nx
    · subst e; rw [get_new] at h; cases h; exact .inl ⟨rfl, rfl⟩
    · rw [get_new_ne e] at h; exact .inr ⟨e, h⟩
  refine ⟨⟨st.lnk.trans le, st.tb.cm rfl, st.F, fun m o' h => ?_, fun i j a o1 o2 h1 h2 h3 h4 => ?_, fun m hm => ?_⟩, le, Nat.le_succ _, fun a o' q h _ n2 => ⟨h, fun z => n2 ?_⟩⟩
  · rcases got m o' h with ⟨rfl, rfl⟩ | ⟨e, h⟩
    · exact ⟨p, o, if_pos rfl, pF, hp, r.up le⟩
    · obtain ⟨a, ho', h1, h2, h3, h4⟩ := st.cells m o' h
      exact ⟨a, ho', (if_neg e).trans h1, h2, h3, h4.up le⟩
  · have h3' : (if i = C.nx then some p else W.cm i) = some a := h3
    have h4' : (if j = C.nx then some p else W.cm j) = some a := h4
    rcases got i o1 h1 with ⟨rfl, _⟩ | ⟨e, h1⟩
    · rcases got j o2 h2 with ⟨rfl, _⟩ | ⟨e2, h2⟩
      · rfl
      · rw [if_pos rfl] at h3'; rw [if_neg e2] at h4'
        cases h3'
        exact absurd (.inr ⟨j, o2, h2, h4'⟩) n
    · rcases got j o2 h2 with ⟨rfl, _⟩ | ⟨e2, h2⟩
      · rw [if_pos rfl] at h4'; rw [if_neg e] at h3'
        cases h4'
        exact absurd (.inr ⟨i, o1, h1, h3'⟩) n
      · rw [if_neg e] at h3'; rw [if_neg e2] at h4'
        exact st.inj i j a o1 o2 h1 h2 h3' h4'
  · have hm' : C.nx + 1 ≤ m := hm
    show (if m = C.nx then some p else W.cm m) = none
    rw [if_neg (by omega)]; exact st.nx m (by omega)
  · rcases z with z | ⟨m, o2, q1, q2⟩
    · exact .inl z
    · have q2' : (if m = C.nx then some p else W.cm m) = some a := q2
      rcases got m o2 q1 with ⟨rfl, _⟩ | ⟨e, q1⟩
      · rw [if_pos rfl] at q2'; cases q2'
        exact absurd rfl q
      · rw [if_neg e] at q2'
        exact .inr ⟨m, o2, q1, q2'⟩
end

section
variable {X : Cx} {G : Glo} {Wx : WX} {e c : Expr} {f : EF} {pos : Pos}
/-- what a list comprehension is wanted for: the list at D (outside of the state) is given to the end -/
theorem lc_use {wi : TI} {t : TG} {gf : GF} {tch vs : List Nat} {tt : TF} {fe : EF} {fi : IF} {fin : List D → Cells → Res D} (io : IOk G Wx wi fi) (go : GOk G t gf tch) (ht : ∀ i ∈ tch, i ∈ vs)
    (hfin : ∀ (σ : L2.St) (W : Wd) (C : Cells) (H : Hp) (l : List D) (us : List V) (Dp : Addr) (Q : VK), StR G W C H → ¬ Own W C Dp → H Dp = some (.lst us) → RepVs G W l us →
      (∀ W1 C1 H1, StepX Dp W C H W1 C1 H1 → H1 = H → ∀ d v, StR G W1 C1 H1 → RepV G W1 d v → fin l C = .ok d C1 → Q v H1) → Q (.ref Dp) H)
    {σ : L2.St} {H : Hp} {Q : VK} {W : Wd} {sl : Sl} {C : Cells} (rs : RepS G W sl σ) (st : StR G W C H)
    (q : Post G Wx σ (RepV G) W C H ((lcG fi gf tt fe vs sl C).bind fin) Q) : tLc wi t (tTs G W0 tt) (tD G W0 fe) vs σ H Q := by
  refine io σ H _ W sl C rs st ?_
  unfold lcG at q
  cases e : fi sl C with
  | no => rw [e] at q; exact q.elim
  | err c C1 => rw [e] at q; exact q
  | ok ds C1 =>
    rw [e] at q
    intro W1 J H1 t1 st1 wk Dp hD
    have q : Post G Wx σ (RepV G) W C H (Res.bind (match lcF gf tt fe vs ds sl C1 with | .ok ys C => if ds.length ≤ mxl then .ok ys C else .no | _ => .no) fin) Q := q
    cases e2 : lcF gf tt fe vs ds sl C1 with
    | no => rw [e2] at q; exact q.elim
    | err c C2 => rw [e2] at q; exact q.elim
    | ok ys Ce =>
      rw [e2] at q
      have q : Post G Wx σ (RepV G) W C H (Res.bind (if ds.length ≤ mxl then .ok ys Ce else .no) fin) Q := q
      split at q
      · rename_i hz
        have q : Post G Wx σ (RepV G) W C H (fin ys Ce) Q := q
        obtain ⟨st2, t2, n2⟩ := fr_out (o := .lst []) st1 hD
        refine ⟨fun i m H => i ≤ ds.length ∧ m = ds.length - i ∧ ∃ W C acc us rest, StepX Dp W1 C1 (upd H1 Dp (.lst [])) W C H ∧ StR G W C H ∧ ¬ Own W C Dp ∧ H Dp = some (.lst us) ∧ RepVs G W acc us ∧ acc.length ≤ i ∧ lcF gf tt fe vs (ds.drop i) sl C = .ok rest Ce ∧ ys = acc ++ rest,
          ⟨ds.length, Nat.zero_le _, rfl, W1, C1, [], [], ys, ⟨.refl, Nat.le_refl _, fun a o _ h _ n => ⟨h, n⟩⟩, st2, n2, upd_same, .nil, Nat.zero_le _, by rw [List.drop_zero]; exact e2, rfl⟩, ?_⟩
        rintro i m H2 ⟨hi, rfl, W2, C2, acc, us, rest, t3, st3, n3, hD3, racc, hacc, erest, eys⟩
        have wk2 : ∀ {W' C' H'}, StepX Dp W1 C1 (upd H1 Dp (.lst [])) W' C' H' → Step W1 C1 H1 W' C' H' := fun s => (t2.x.trans s).st hD
        by_cases hlt : i < ds.length
        · have hd : ds[i]? = some ds[i] := List.getElem?_eq_getElem hlt
          have hdr : ds.drop i = ds[i] :: ds.drop (i + 1) := List.drop_eq_getElem_cons hlt
          obtain ⟨go_, y_⟩ := wk.item i _ hd W2 C2 H2 (wk2 t3) st3
          refine .inr ⟨go_, fun H => ∃ W C acc us rest', StepX Dp W1 C1 (upd H1 Dp (.lst [])) W C H ∧ StR G W C H ∧ ¬ Own W C Dp ∧ H Dp = some (.lst us) ∧ RepVs G W acc us ∧ acc.length ≤ i + 1 ∧ lcF gf tt fe vs (ds.drop (i + 1)) sl C = .ok rest' Ce ∧ ys = acc ++ rest', fun H' n => ⟨_, ?_, hlt, rfl, n⟩, fun x H4 y => ?_⟩
          · omega
          obtain ⟨W4, t4, st4, r4⟩ := y_ x H4 y
          rw [hdr] at erest
          unfold lcF at erest
          cases eg : gf ds[i] (wipeD sl vs) C2 with
          | none => rw [eg] at erest; cases erest
          | some s' =>
            rw [eg] at erest
            have hD4 := (t4.fr Dp _ hD3 pla_lst n3).1
            have n4 := (t4.fr Dp _ hD3 pla_lst n3).2
            refine go _ x (wipeD sl vs) s' (L2.wipe σ vs) W4 C2 H4 _ st4 r4 ((rs.up (t1.le.trans (t3.le.trans t4.le))).wipe vs) eg fun σ' rs' hw => ⟨?_, W4, s', C2, rs', st4, ?_⟩
            · rw [hw vs ht]
              have ww : ∀ us : List Nat, L2.wipe (L2.wipe σ vs) us = L2.wipe (L2.wipe σ vs) us := fun _ => rfl
              have : ∀ (ks : List Nat), (∀ k ∈ ks, k ∈ vs) → L2.wipe (L2.wipe σ vs) ks = L2.wipe σ vs := fun ks => by
                induction ks with
                | nil => intro _; rfl
                | cons k ks ih =>
                  intro hk
                  show (L2.wipe (L2.wipe σ vs) ks).set k none = _
                  rw [ih fun z hz => hk z (List.mem_cons_of_mem _ hz)]
                  have gone : ∀ (ms : List Nat), k ∈ ms → (L2.wipe σ ms).set k none = L2.wipe σ ms := fun ms => by
                    induction ms with
                    | nil => intro h; cases h
                    | cons m ms ih2 =>
                      intro h
                      unfold L2.wipe
                      by_cases e : m = k
                      · subst e; rw [List.set_set]
                      · rcases List.mem_cons.mp h with z | z
                        · exact absurd z.symm e
                        · rw [List.set_comm _ _ e, ih2 z]
                  exact gone vs (hk k List.mem_cons_self)
              exact this vs fun _ h => h
            · cases et : tt s' C2 with
              | no => simp only [et] at erest; cases erest
              | err c C5 => simp only [et] at erest; cases erest
              | ok b C5 =>
                simp only [et] at erest
                intro W5 b' H5 t5 st5 eb
                subst eb
                have hD5 := (t5.fr Dp _ hD4 pla_lst n4).1
                have n5 := (t5.fr Dp _ hD4 pla_lst n4).2
                have tt5 := t3.trans (t4.trans t5).x
                cases b with
                | false =>
                  rw [if_neg Bool.false_ne_true]
                  exact ⟨W5, C5, acc, us, rest, tt5, st5, n5, hD5, racc.up (t4.trans t5).le, Nat.le_succ_of_le hacc, erest, eys⟩
                | true =>
                  rw [if_pos rfl]
                  refine ⟨W5, s', C5, rs'.up t5.le, st5, ?_⟩
                  cases ef : fe s' C5 with
                  | no => simp only [ef] at erest; cases erest
                  | err c C6 => simp only [ef] at erest; cases erest
                  | ok y C6 =>
                    simp only [ef] at erest
                    cases el : lcF gf tt fe vs (ds.drop (i + 1)) sl C6 with
                    | no => rw [el] at erest; cases erest
                    | err c C7 => rw [el] at erest; cases erest
                    | ok ys' C7 =>
                      rw [el] at erest
                      cases erest
                      intro W6 v6 H6 t6 st6 r6
                      have hD6 := (t6.fr Dp _ hD5 pla_lst n5).1
                      have n6 := (t6.fr Dp _ hD5 pla_lst n5).2
                      refine ⟨us, hD6, ?_, W6, C6, acc ++ [y], us ++ [v6], ys', (tt5.trans t6.x).trans (stepX_set n6), fr_outset st6 n6 hD6 pla_lst, n6, upd_same, (racc.up ((t4.trans t5).trans t6).le).append (.cons r6 .nil), ?_, el, by rw [eys]; simp⟩
                      · rw [← racc.length, ← mxl_eq]; omega
                      · rw [List.length_append, List.length_singleton]; omega
        · have ei : i = ds.length := by omega
          subst ei
          rw [List.drop_length] at erest
          cases erest
          rw [List.append_nil] at eys
          subst eys
          refine .inl ⟨wk.stop W2 _ H2 (wk2 t3) st3, hfin σ W2 _ H2 _ us Dp Q st3 n3 hD3 racc fun W5 C5 H5 t5 e5 d v st5 r5 ef => ?_⟩
          rw [ef] at q
          exact q W5 v H5 (t1.trans ((t2.x.trans (t3.trans t5)).st hD)) st5 r5
      · exact q.elim
theorem fin_lst : ∀ (σ : L2.St) (W : Wd) (C : Cells) (H : Hp) (l : List D) (us : List V) (Dp : Addr) (Q : VK), StR G W C H → ¬ Own W C Dp → H Dp = some (.lst us) → RepVs G W l us →
      (∀ W1 C1 H1, StepX Dp W C H W1 C1 H1 → H1 = H → ∀ d v, StR G W1 C1 H1 → RepV G W1 d v → (fun ys C => Res.ok (D.lst ys) C) l C = .ok d C1 → Q v H1) → Q (.ref Dp) H := fun σ W C H l us Dp Q st n hd r k => by
  obtain ⟨s1, s2⟩ := adopt st n hd pla_lst
  exact k _ C H s2 rfl (.lst l) _ s1 (.lst (by show upd W.F Dp _ Dp = _; exact upd_same) (r.up s2.le)) rfl
theorem fin_cel : ∀ (σ : L2.St) (W : Wd) (C : Cells) (H : Hp) (l : List D) (us : List V) (Dp : Addr) (Q : VK), StR G W C H → ¬ Own W C Dp → H Dp = some (.lst us) → RepVs G W l us →
      (∀ W1 C1 H1, StepX Dp W C H W1 C1 H1 → H1 = H → ∀ d v, StR G W1 C1 H1 → RepV G W1 d v → newL l C = .ok d C1 → Q v H1) → Q (.ref Dp) H := fun σ W C H l us Dp Q st n hd r k => by
  obtain ⟨s1, s2⟩ := adoptC (x := .lst l) st n hd ⟨us, rfl, r⟩
  exact k _ _ H s2 rfl (.cel C.nx) _ s1 (.cel (if_pos rfl)) rfl
section
variable {elt tg iter : Expr} {ifs : List Expr} {scope : Scope} {own : List (Str × Nat)} {wi : TI} {t : TG} {gf : GF} {tch : List Nat} {tt : TF} {fi : IF}
theorem de_lc (hc : X.calm = true) (hN : X.N.Nodup) (hi : PI X tg iter wi) (io : IOk G Wx wi fi) (ok : BlkOk X.N X.env.scope scope own) (go : GOk G t gf tch) (htc : ∀ i ∈ tch, i ∈ own.map (·.2))
    (hg : ∀ (s : Shared) (H : Hp) (C : Addr) (cl : List (Str × Addr)) (fp : List Addr), PG (X.blk s H scope (compEnvC scope cl C X.env) fp) tg t) (ht : ∀ (s : Shared) (H : Hp) (C : Addr) (cl : List (Str × Addr)) (fp : List Addr), DTs (X.blk s H scope (compEnvC scope cl C X.env) fp) G W0 ifs tt)
    (he : ∀ (s : Shared) (H : Hp) (C : Addr) (cl : List (Str × Addr)) (fp : List Addr), DE (X.blk s H scope (compEnvC scope cl C X.env) fp) G W0 elt f) (hs : ∀ x, foldedSetIterable iter X.env x = pure x := by intro _; rfl) :
    DE X G Wx (.ListComp elt [⟨tg, iter, ifs, 0⟩] scope pos) (eLc fi gf tt f (own.map (·.2))) :=
  ⟨PE.weak (pe_lc hc hN hi ok hg (fun s H C cl fp => (ht s H C cl fp).pts) (fun s H C cl fp => (he s H C cl fp).pe) hs) fun σ H Q ⟨W, sl, C, rs, st, q⟩ => lc_use io go htc fin_lst rs st q⟩
theorem de_lcC (hc : X.calm = true) (hN : X.N.Nodup) (hi : PI X tg iter wi) (io : IOk G Wx wi fi) (ok : BlkOk X.N X.env.scope scope own) (go : GOk G t gf tch) (htc : ∀ i ∈ tch, i ∈ own.map (·.2))
    (hg : ∀ (s : Shared) (H : Hp) (C : Addr) (cl : List (Str × Addr)) (fp : List Addr), PG (X.blk s H scope (compEnvC scope cl C X.env) fp) tg t) (ht : ∀ (s : Shared) (H : Hp) (C : Addr) (cl : List (Str × Addr)) (fp : List Addr), DTs (X.blk s H scope (compEnvC scope cl C X.env) fp) G W0 ifs tt)
    (he : ∀ (s : Shared) (H : Hp) (C : Addr) (cl : List (Str × Addr)) (fp : List Addr), DE (X.blk s H scope (compEnvC scope cl C X.env) fp) G W0 elt f) (hs : ∀ x, foldedSetIterable iter X.env x = pure x := by intro _; rfl) :
    DE X G Wx (.ListComp elt [⟨tg, iter, ifs, 0⟩] scope pos) (eLcC fi gf tt f (own.map (·.2))) :=
  ⟨PE.weak (pe_lc hc hN hi ok hg (fun s H C cl fp => (ht s H C cl fp).pts) (fun s H C cl fp => (he s H C cl fp).pe) hs) fun σ H Q ⟨W, sl, C, rs, st, q⟩ => lc_use io go htc fin_cel rs st q⟩
/-- name = [..] on one line -/
theorem ds_setLcG {fin : List D → Cells → Res D} (hfin : ∀ (σ : L2.St) (W : Wd) (C : Cells) (H : Hp) (l : List D) (us : List V) (Dp : Addr) (Q : VK), StR G W C H → ¬ Own W C Dp → H Dp = some (.lst us) → RepVs G W l us →
      (∀ W1 C1 H1, StepX Dp W C H W1 C1 H1 → H1 = H → ∀ d v, StR G W1 C1 H1 → RepV G W1 d v → fin l C = .ok d C1 → Q v H1) → Q (.ref Dp) H)
    {i : Nat} {y : Str} {py spos : Pos} (hc : X.calm = true) (hN : X.N.Nodup) (hy : X.N[i]? = some y) (hyl : X.env.scope.names.lookup y = some .local)
    (hsw : swapsWith (.ListComp elt [⟨tg, iter, ifs, 0⟩] scope pos) (some (.Name y py)) spos.line X.env = pure true) (hi : PI X tg iter wi) (io : IOk G Wx wi fi) (ok : BlkOk X.N X.env.scope scope own) (go : GOk G t gf tch) (htc : ∀ i ∈ tch, i ∈ own.map (·.2))
    (hg : ∀ (s : Shared) (H : Hp) (C : Addr) (cl : List (Str × Addr)) (fp : List Addr), PG (X.blk s H scope (compEnvC scope cl C X.env) fp) tg t) (ht : ∀ (s : Shared) (H : Hp) (C : Addr) (cl : List (Str × Addr)) (fp : List Addr), DTs (X.blk s H scope (compEnvC scope cl C X.env) fp) G W0 ifs tt)
    (he : ∀ (s : Shared) (H : Hp) (C : Addr) (cl : List (Str × Addr)) (fp : List Addr), DE (X.blk s H scope (compEnvC scope cl C X.env) fp) G W0 elt f) (hs : ∀ x, foldedSetIterable iter X.env x = pure x := by intro _; rfl) :
    DS X G Wx (.Assign [.Name y py] (.ListComp elt [⟨tg, iter, ifs, 0⟩] scope pos) spos) (sSet i fun s C => (lcG fi gf tt f (own.map (·.2)) s C).bind fin) :=
  ⟨PS.weak (ps_setLc hc hN hy hyl hsw hi ok hg (fun s H C cl fp => (ht s H C cl fp).pts) (fun s H C cl fp => (he s H C cl fp).pe) hs) fun D σ H ⟨W, sl, C, rs, st, q⟩ =>
    lc_use (Q := fun x H1 => gName i x σ H1 D.nx) io go htc hfin rs st (SPost.toS (Q := fun x H1 => gName i x σ H1 D.nx) rs q fun d C1 W1 v H1 t1 st1 rr q1 => q1 W1 _ H1 .refl st1 ((rs.up t1.le).set i rr))⟩
end
end
end DL

set_option Elab.async false
set_option linter.all false
set_option maxRecDepth 100000
set_option autoImplicit false
namespace DL
open PySem PySem.Spec PyProof.Rows L2

/-! ### a def's promise -/
/-- the promise of a def whose worth on data is F -/
def spD (G : Glo) (np : Nat) (F : Fn) : Sp := fun vs H Q E => vs.length = np ∧ ∃ W ds C, RepVs G W ds vs ∧ StR G W C H ∧ Post G (fun c d _ H => E c d H) [] (RepV G) W C H (F ds C) Q
/-- a def's body on data: n slots, np parameters -/
def callF (n np : Nat) (g : SF) : Fn := fun ds C => if ds.length = np then (match g (ds.map some ++ List.replicate (n - ds.length) none) C with
  | .nxt _ C => .ok .non C
  | .ret d C => .ok d C
  | .err c _ C => .err c C
  | _ => .no) else .no
def Arity (F : Fn) (np : Nat) : Prop := ∀ ds C, F ds C ≠ .no → ds.length = np
theorem arity_call {n np : Nat} {g : SF} : Arity (callF n np g) np := fun ds C h => by
  unfold callF at h
  split at h
  · assumption
  · exact absurd rfl h
section
variable {G : Glo} {P : Program} {w : World} {mg : Str → Option Value} {base : Heap}
theorem RepS.start {W : Wd} {ds : List D} {vs : List V} {N : List Str} (r : RepVs G W ds vs) : RepS G W (ds.map some ++ List.replicate (N.length - ds.length) none) (L2.start N vs) := by
  unfold L2.start
  refine ⟨by simp [r.length], fun i d e => ?_⟩
  by_cases hi : i < ds.length
  · rw [List.getElem?_append_left (by simpa using hi), List.getElem?_map] at e
    rw [List.getElem?_append_left (by simpa [← r.length] using hi), List.getElem?_map]
    cases q : ds[i]? with
    | none => rw [q] at e; cases e
    | some d' =>
      rw [q] at e
      cases e
      obtain ⟨v, h1, h2⟩ := r.get q
      exact ⟨v, by rw [h1]; rfl, h2⟩
  · rw [List.getElem?_append_right (by simpa using hi), List.getElem?_replicate] at e
    split at e <;> cases e
/-- THE RULE for a def: its body's worth on data -/
theorem fun_ok {x qual : Str} {st : Stmt} {f : Addr} {fd : FuncData} {N ps : List Str} {k n np : Nat} {g : SF} (F : Fun G.K x qual st f fd) (S : FnScope N ps (defScope st)) (hn : N.length = n) (hp : ps.length = np)
    (hbody : ∀ (cdv : Value) (A : Around) (outer : List Env) (s : Shared) (H : Hp) (E : XK), Room k (A.deeper (envOfC qual (defScope st) s.heap.objs.size f cdv)) →
      DSs (cxOf (L2.CX P w) P w G.K mg base N qual (defScope st) f cdv A outer s H E) G (fun c d _ H => E c d H) (defBody st) g) :
    FnOk P w G.K mg base (L2.CX P w) (k + 1) f fd ps (spD G np (callF n np g)) := by
  refine Fun.okX F S (fun vs H Q E h => h.1.trans hp.symm) fun cdv A outer s H vs Q E hr h => ⟨_, (hbody cdv A outer s H E hr).ps, ?_⟩
  obtain ⟨hl, W, ds, C, rv, st, q⟩ := h
  refine ⟨W, _, C, RepS.start (N := N) rv, st, ?_⟩
  unfold callF at q
  rw [if_pos (rv.length.trans hl), ← hn] at q
  cases e : g (ds.map some ++ List.replicate (N.length - ds.length) none) C with
  | nxt s' C' => rw [e] at q; exact fun W' σ' H' t st' _ => q W' .non H' t st' .non
  | ret d C' => rw [e] at q; exact fun W' v H' t st' r => q W' v H' t st' r
  | err c s' C' => rw [e] at q; exact fun W' σ' H' t st' _ => q W' H' t st'
  | brk s' C' => rw [e] at q; exact q.elim
  | cnt s' C' => rw [e] at q; exact q.elim
  | no => rw [e] at q; exact q.elim
/-- what a caller must know of a def -/
structure Callee (P : Program) (w : World) (G : Glo) (mg : Str → Option Value) (base : Heap) (k : Nat) (x : Str) (np : Nat) (dd : List D) (F : Fn) : Prop where
  ar : Arity F np
  ex : ∃ f fd ps ds dvs, ps.length = np ∧ FnOk P w G.K mg base (L2.CX P w) k f fd ps (spD G np F) ∧ mg x = some (.ref f) ∧ PySem.W.keepIn G.K (.ref f) = true ∧ Binds G.K fd ps ds ∧ Vals dvs ds ∧ ∀ W, RepVs G W dd dvs
/-- methods by the class: the number of parameters, the worth -/
abbrev MTab := Nat → Option (Nat × Fn)
structure MethOk (P : Program) (w : World) (G : Glo) (mg : Str → Option Value) (base : Heap) (k : Nat) (m : Str) (M : MTab) : Prop where
  ex : ∀ c np F, M c = some (np, F) → Arity F np ∧ Cls G.K (G.cls c) ∧ (∀ vs, (flds G.T c vs).lookup m = none) ∧ ∃ f fd ps, ps.length = np ∧ FnOk P w G.K mg base (L2.CX P w) k f fd ps (spD G np F) ∧ Meth G.K (G.cls c) m f ∧ Binds G.K fd ps []
/-- a class that is called -/
structure MakeOk (P : Program) (w : World) (G : Glo) (mg : Str → Option Value) (base : Heap) (k : Nat) (x : Str) (c np : Nat) (dd : List D) (F : Fn) : Prop where
  ar : Arity F np
  ex : ∃ f fd ps ds dvs, ps.length = np ∧ FnOk P w G.K mg base (L2.CX P w) k f fd ps (spD G np F) ∧ mg x = some (.ref (G.cls c)) ∧ Mk G.K (G.cls c) f ∧ Binds G.K fd ps ds ∧ Vals dvs ds ∧ ∀ W, RepVs G W dd dvs
end

def eCall (F : Fn) (dd : List D) (af : AF) : EF := fun s C => (af s C).bind fun xs C => F (xs ++ dd) C
def eMeth (M : MTab) (fo : EF) (af : AF) : EF := fun s C => (fo s C).bind fun x C => match objOf C x with
  | some (c, _) => (match M c with
    | some (_, F) => (af s C).bind fun xs C => F (x :: xs) C
    | none => .no)
  | none => .no
/-- a new instance, an object of its own; .. known from then on -/
def mkC (c : Nat) (F : Fn) (xs : List D) (C : Cells) : Res D := match F (.cel C.nx :: xs) (C.new (.obj c [])) with
  | .ok .non C' => .ok (.cel C.nx) C'
  | .err k C' => .err k C'
  | _ => .no
def mkF (T : Tab) (c : Nat) (F : Fn) (xs : List D) (C : Cells) : Res D := match F (.cel C.nx :: xs) (C.new (.obj c [])) with
  | .ok .non C' => (match C'.get C.nx with
    | some (.obj c' l) => if c' = c ∧ l.length = (T.fl c).length then .ok (.obj c l) (C'.del C.nx) else .no
    | _ => .no)
  | .err k C' => .err k C'
  | _ => .no
def eMake (mk : List D → Cells → Res D) (dd : List D) (af : AF) : EF := fun s C => (af s C).bind fun xs C => mk (xs ++ dd) C
section
variable {X : Cx} {G : Glo} {Wx : WX} {e o : Expr} {es : List Expr} {f : EF} {af : AF} {x m : Str} {p pos apos : Pos} {k np : Nat} {dd : List D} {F : Fn}
theorem spD_of {W : Wd} {C : Cells} {H : Hp} {ds : List D} {vs : List V} {σ : L2.St} {Q : VK} (ar : Arity F np) (rv : RepVs G W ds vs) (st : StR G W C H) (q : Post G Wx σ (RepV G) W C H (F ds C) Q) : spD G np F vs H Q (fun c d H => Wx c d σ H) := by
  have hn : F ds C ≠ .no := fun e => by rw [e] at q; exact q.elim
  refine ⟨by rw [← rv.length]; exact ar ds C hn, W, ds, C, rv, st, ?_⟩
  cases e : F ds C with
  | ok d C' => rw [e] at q; exact q
  | err c C' => rw [e] at q; exact q
  | no => exact absurd e hn
theorem de_call (hk : X.K = G.K) (cl : Callee X.prog X.w G X.mg X.base k x np dd F) (hr : Room k X.A) (hg : Gl X x) (tk : Takes X Wx) (ha : DA X G Wx (e :: es) af) (hdb : (x == ("__debug__" : Str)) = false := by decide)
    (he : starEach (e :: es) X.env = (false, eval e X.env) :: starEach es X.env := by rfl) (hpl : (backTo pos (starEach es X.env)).any (·.1) = false := by rfl) : DE X G Wx (.Call (.Name x p) (e :: es) [] pos) (eCall F dd af) := by
  obtain ⟨ar, f, fd, ps, ds, dvs, hp, ok, hm, kp, hb, hd, rd⟩ := cl
  refine ⟨PE.weak (pe_callSD (E := fun σ c d H => Wx c d σ H) (by rw [hk]; exact ok) hr hg hm (by rw [hk]; exact kp) (by rw [hk]; exact hb) hd (fun σ => passAt tk σ) ha.pa hdb he hpl) fun σ H Q ⟨W, sl, C, rs, st, q⟩ => ⟨W, sl, C, rs, st, q.bind fun xs C1 W1 vs H1 _ t st1 rx q1 => ?_⟩⟩
  exact spD_of ar (rx.append (rd W1)) st1 q1
/-- f() -/
theorem pe_call0SD {f : Addr} {fd : FuncData} {ps : List Str} {sp : Sp} {dvs : List V} {ds : List Value} {E : L2.St → XK} (ok : FnOk X.prog X.w X.K X.mg X.base (L2.CX X.prog X.w) k f fd ps sp) (hr : Room k X.A) (hg : Gl X x) (hm : X.mg x = some (.ref f)) (kp : PySem.W.keepIn X.K (.ref f) = true)
    (hb : Binds X.K fd ps ds) (hd : Vals dvs ds) (hx : ∀ σ, PassesAt (L2.CX X.prog X.w) X σ (E σ)) (hdb : (x == ("__debug__" : Str)) = false) : PE X (.Call (.Name x p) [] [] pos) (fun σ H Q => sp dvs H Q (E σ)) :=
  ⟨fun pins s σ H Q I q => wpAny_Call_Name_kw (ld_glob I hg hm (PySem.W.callWith_K0 I.kIn kp (run_fnSD (us := []) (vs := []) ok hr hb hd (hx σ) I .nil q)) hdb)⟩
theorem de_call0 (hk : X.K = G.K) (cl : Callee X.prog X.w G X.mg X.base k x np dd F) (hr : Room k X.A) (hg : Gl X x) (tk : Takes X Wx) (hdb : (x == ("__debug__" : Str)) = false := by decide) : DE X G Wx (.Call (.Name x p) [] [] pos) (eCall F dd aNil) := by
  obtain ⟨ar, f, fd, ps, ds, dvs, hp, ok, hm, kp, hb, hd, rd⟩ := cl
  refine ⟨PE.weak (pe_call0SD (E := fun σ c d H => Wx c d σ H) (by rw [hk]; exact ok) hr hg hm (by rw [hk]; exact kp) (by rw [hk]; exact hb) hd (fun σ => passAt tk σ) hdb) fun σ H Q ⟨W, sl, C, rs, st, q⟩ => ?_⟩
  exact spD_of ar (rd W) st q

/-! ### methods -/
/-- o.m(..), the method by the instance's class; A: how the arguments come -/
def tMethD (X : Cx) (Wx : WX) (k : Nat) (m : Str) (to : TE) (t : TA) : TE := fun σ H Q => to σ H fun x H1 => ∃ a Cl dx fs f fd ps sp, x = .ref a ∧ H1 a = some (.ins Cl dx fs) ∧ Cls X.K Cl ∧ fs.lookup m = none ∧
  FnOk X.prog X.w X.K X.mg X.base (L2.CX X.prog X.w) k f fd ps sp ∧ Meth X.K Cl m f ∧ Binds X.K fd ps [] ∧ t σ H1 fun vs H2 => sp (x :: vs) H2 Q (fun c d H => Wx c d σ H)
theorem pe_methD {pl : Sem Bool} {to : TE} {t : TA} (he : PE X o to) (hr : Room k X.A) (tk : Takes X Wx) (ha : PA X (e :: es) t)
    (hst : starEach (e :: es) X.env = (false, eval e X.env) :: starEach es X.env) (hpl : (backTo pos (starEach es X.env)).any (·.1) = false)
    (ht : eval (.Call (.Attribute o m apos) (e :: es) [] pos) X.env = (do
      let ov ← eval o X.env
      standAt apos.atName
      let (f, first) ← holding [ov] (getMethod ov m pl)
      callWith pos f first (backTo pos (starEach (e :: es) X.env)) (backToKw pos (keywordEach [] X.env)))) : PE X (.Call (.Attribute o m apos) (e :: es) [] pos) (tMethD X Wx k m to t) := by
  refine ⟨fun pins s σ H Q I h => PySem.W.methodCall_KW (pl := pl) (thn (he.run pins s σ H _ I h) fun u s1 hu => ?_) ht⟩
  obtain ⟨x, H1, I1, rx, a, Cl, dx, fs, f, fd, ps, sp, ex, ea, c, l, ok, hm, hb, q⟩ := hu
  subst ex
  obtain rfl : u = Value.ref a := rx
  refine getmeth_ok I1 ea c hm l (PySem.W.callWith_K (first := [.ref a]) (h₀ := X.base) I.ok.mod.kin hm.kp (thn (ha.run pos pins s1 σ H1 _ I1 q) fun us s2 h2 => ?_) hst hpl)
  obtain ⟨vs, H2, I2, r, q2⟩ := h2
  refine ⟨I2.kIn, run_fnSD (us := .ref a :: us) (vs := .ref a :: vs) (dvs := []) (E := fun σ c d H => Wx c d σ H) ok hr hb .nil (passAt tk σ) I2 (.cons rfl r) ?_⟩
  rw [List.append_nil]; exact q2
theorem pe_methD0 {pl : Sem Bool} {to : TE} (he : PE X o to) (hr : Room k X.A) (tk : Takes X Wx)
    (ht : eval (.Call (.Attribute o m apos) [] [] pos) X.env = (do
      let ov ← eval o X.env
      standAt apos.atName
      let (f, first) ← holding [ov] (getMethod ov m pl)
      callWith pos f first (backTo pos (starEach [] X.env)) (backToKw pos (keywordEach [] X.env)))) : PE X (.Call (.Attribute o m apos) [] [] pos) (tMethD X Wx k m to tNil) := by
  refine ⟨fun pins s σ H Q I h => PySem.W.methodCall_KW (pl := pl) (thn (he.run pins s σ H _ I h) fun u s1 hu => ?_) ht⟩
  obtain ⟨x, H1, I1, rx, a, Cl, dx, fs, f, fd, ps, sp, ex, ea, c, l, ok, hm, hb, q⟩ := hu
  subst ex
  obtain rfl : u = Value.ref a := rx
  refine getmeth_ok I1 ea c hm l (PySem.W.callWith_K0 (first := [.ref a]) I1.kIn hm.kp (run_fnSD (us := [.ref a]) (vs := [.ref a]) (dvs := []) (E := fun σ c d H => Wx c d σ H) ok hr hb .nil (passAt tk σ) I1 (.cons rfl .nil) ?_))
  exact q
theorem meth_use {M : MTab} (hk : X.K = G.K) (mo : MethOk X.prog X.w G X.mg X.base k m M) {t : TA} (ht : ∀ σ H Q, tAr G Wx af σ H Q → t σ H Q) {σ : L2.St} {H : Hp} {Q : VK} (h : tD G Wx (eMeth M f af) σ H Q) : tMethD X Wx k m (tD G Wx f) t σ H Q := by
  obtain ⟨W, sl, C, rs, st, q⟩ := h
  refine ⟨W, sl, C, rs, st, q.bind fun x C1 W1 v H1 _ t1 st1 rx q1 => ?_⟩
  split at q1
  · rename_i c l eo
    split at q1
    · rename_i np F eM
      obtain ⟨ar, cl, nl, f', fd, ps, hp, ok, hm, hb⟩ := mo.ex c np F eM
      obtain ⟨a, dx, vs, rfl, h1, h2, h3⟩ := objOf_ok st1 rx eo
      refine ⟨a, G.cls c, dx, _, f', fd, ps, _, rfl, h1, by rw [hk]; exact cl, nl vs, by rw [hk]; exact ok, by rw [hk]; exact hm, by rw [hk]; exact hb, ht _ _ _ ⟨W1, sl, C1, rs.up t1.le, st1, q1.bind fun xs C2 W2 us H2 _ t2 st2 rxs q2 => ?_⟩⟩
      exact spD_of ar (.cons (rx.up t2.le) rxs) st2 q2
    · exact q1.elim
  · exact q1.elim
theorem de_meth {pl : Sem Bool} {M : MTab} (hk : X.K = G.K) (mo : MethOk X.prog X.w G X.mg X.base k m M) (hr : Room k X.A) (tk : Takes X Wx) (he : DE X G Wx o f) (ha : DA X G Wx (e :: es) af)
    (hst : starEach (e :: es) X.env = (false, eval e X.env) :: starEach es X.env := by rfl) (hpl : (backTo pos (starEach es X.env)).any (·.1) = false := by rfl)
    (ht : eval (.Call (.Attribute o m apos) (e :: es) [] pos) X.env = (do
      let ov ← eval o X.env
      standAt apos.atName
      let (f, first) ← holding [ov] (getMethod ov m pl)
      callWith pos f first (backTo pos (starEach (e :: es) X.env)) (backToKw pos (keywordEach [] X.env))) := by rfl) : DE X G Wx (.Call (.Attribute o m apos) (e :: es) [] pos) (eMeth M f af) :=
  ⟨PE.weak (pe_methD he.pe hr tk ha.pa hst hpl ht) fun σ H Q h => meth_use hk mo (fun _ _ _ q => q) h⟩
theorem de_meth0 {pl : Sem Bool} {M : MTab} (hk : X.K = G.K) (mo : MethOk X.prog X.w G X.mg X.base k m M) (hr : Room k X.A) (tk : Takes X Wx) (he : DE X G Wx o f)
    (ht : eval (.Call (.Attribute o m apos) [] [] pos) X.env = (do
      let ov ← eval o X.env
      standAt apos.atName
      let (f, first) ← holding [ov] (getMethod ov m pl)
      callWith pos f first (backTo pos (starEach [] X.env)) (backToKw pos (keywordEach [] X.env))) := by rfl) : DE X G Wx (.Call (.Attribute o m apos) [] [] pos) (eMeth M f aNil) :=
  ⟨PE.weak (pe_methD0 he.pe hr tk ht) fun σ H Q h => meth_use hk mo (fun σ H Q ⟨W, sl, C, rs, st, q⟩ => q W [] H .refl st .nil) h⟩

/-! ### making an instance -/
theorem run_makeSD {pins : List (Addr × Obj)} {σ : L2.St} {H : Hp} {s : Shared} {Q : VK} {us : List Value} {vs : List V} {Cl f : Addr} {fd : FuncData} {ps : List Str} {sp : Sp} {ds : List Value} {dvs : List V} {E : XK} (M : Mk X.K Cl f) (ok : FnOk X.prog X.w X.K X.mg X.base (L2.CX X.prog X.w) k f fd ps sp) (hr : Room (k + 1) X.A)
    (hb : Binds X.K fd ps ds) (hd : Vals dvs ds) (hx : PassesAt (L2.CX X.prog X.w) X σ E) (I : Inv X pins σ H s) (r : Vals vs us)
    (h : ∀ x dx, H x = none → H dx = none → dx ≠ x → sp (.ref x :: (vs ++ dvs)) (upd (upd H dx (.own x)) x (.ins Cl dx [])) (fun v H2 => v = .non ∧ Q (.ref x) H2) E) : wpAny (model X.prog X.w) X.A (call (.ref Cl) us) (EP X pins σ Q) X.xe s := by
  have hq := h (s.heap.objs.size + 1) s.heap.objs.size (I.hok.fresh (Nat.le_succ _)) I.fresh (Nat.ne_of_lt (Nat.lt_succ_self _))
  have J := Inv.made (C := Cl) I
  have rr : Vals (V.ref (s.heap.objs.size + 1) :: (vs ++ dvs)) (Value.ref (s.heap.objs.size + 1) :: (us ++ ds)) := .cons rfl (r.append hd)
  have hl : (Value.ref (s.heap.objs.size + 1) :: us ++ ds).length = ps.length := (rr.length.symm.trans (ok.len _ _ _ _ hq))
  have run := ok.run (X.A.under (.builtin "type.__call__" ⟨.ref Cl :: us, []⟩)) X.stack _ _ ⟨Value.ref (s.heap.objs.size + 1) :: us, []⟩ _ _ _ E (hr.make Cl us []) (J.env0.make Cl us []) (hb _ (Value.ref (s.heap.objs.size + 1) :: us) J.kIn hl) rr hq
  refine wpAny_call (make_map (f := f) I.kIn M.makes M.init (beq_iff_eq.mp M.fn) (codeAny_mono run fun z s' hz => ?_))
  cases z with
  | error ex => exact hx pins _ _ ex s' J hz
  | ok fl =>
    cases fl with
    | ret u =>
      obtain ⟨v, H', J3, rv, ev, q3⟩ := J.after hz
      subst ev
      exact ⟨rv, ⟨V.ref (s.heap.objs.size + 1), H', J3, rfl, q3⟩⟩
    | _ => exact False.elim hz
theorem pe_makeSD {Cl f : Addr} {fd : FuncData} {ps : List Str} {sp : Sp} {ds : List Value} {dvs : List V} {E : L2.St → XK} {t : TA} (M : Mk X.K Cl f) (ok : FnOk X.prog X.w X.K X.mg X.base (L2.CX X.prog X.w) k f fd ps sp) (hr : Room (k + 1) X.A) (hg : Gl X x) (hm : X.mg x = some (.ref Cl))
    (hb : Binds X.K fd ps ds) (hd : Vals dvs ds) (hx : ∀ σ, PassesAt (L2.CX X.prog X.w) X σ (E σ)) (ha : PA X (e :: es) t) (hdb : (x == ("__debug__" : Str)) = false) (he : starEach (e :: es) X.env = (false, eval e X.env) :: starEach es X.env) (hpl : (backTo pos (starEach es X.env)).any (·.1) = false) :
    PE X (.Call (.Name x p) (e :: es) [] pos) (fun σ H Q => t σ H fun vs H1 => ∀ x dx, H1 x = none → H1 dx = none → dx ≠ x → sp (.ref x :: (vs ++ dvs)) (upd (upd H1 dx (.own x)) x (.ins Cl dx [])) (fun v H2 => v = .non ∧ Q (.ref x) H2) (E σ)) :=
  ⟨fun pins s σ H Q I h => wpAny_Call_Name_kw (ld_glob I hg hm (PySem.W.callWith_K (h₀ := X.base) I.ok.mod.kin M.kp (thn (ha.run pos pins s σ H _ I h) fun us s1 ⟨vs, H1, I1, r, q⟩ => ⟨I1.kIn, run_makeSD M ok hr hb hd (hx σ) I1 r q⟩) he hpl) hdb)⟩
theorem pe_make0SD {Cl f : Addr} {fd : FuncData} {ps : List Str} {sp : Sp} {ds : List Value} {dvs : List V} {E : L2.St → XK} (M : Mk X.K Cl f) (ok : FnOk X.prog X.w X.K X.mg X.base (L2.CX X.prog X.w) k f fd ps sp) (hr : Room (k + 1) X.A) (hg : Gl X x) (hm : X.mg x = some (.ref Cl))
    (hb : Binds X.K fd ps ds) (hd : Vals dvs ds) (hx : ∀ σ, PassesAt (L2.CX X.prog X.w) X σ (E σ)) (hdb : (x == ("__debug__" : Str)) = false) :
    PE X (.Call (.Name x p) [] [] pos) (fun σ H Q => ∀ x dx, H x = none → H dx = none → dx ≠ x → sp (.ref x :: ([] ++ dvs)) (upd (upd H dx (.own x)) x (.ins Cl dx [])) (fun v H2 => v = .non ∧ Q (.ref x) H2) (E σ)) :=
  ⟨fun pins s σ H Q I h => wpAny_Call_Name_kw (ld_glob I hg hm (PySem.W.callWith_K0 I.kIn M.kp (run_makeSD (us := []) M ok hr hb hd (hx σ) I .nil h)) hdb)⟩
/-- the new instance's two objects -/
theorem fr_make {c : Nat} {W : Wd} {C : Cells} {H : Hp} {y dx : Addr} (st : StR G W C H) (hy : H y = none) (hd : H dx = none) (ne : dx ≠ y) :
    ∃ W', StR G W' (C.new (.obj c [])) (upd (upd H dx (.own y)) y (.ins (G.cls c) dx [])) ∧ Step W C H W' (C.new (.obj c [])) (upd (upd H dx (.own y)) y (.ins (G.cls c) dx [])) ∧ W'.cm C.nx = some y := by
  obtain ⟨st1, t1, _⟩ := fr_out (o := .own y) st hd
  obtain ⟨st2, t2⟩ := fr_new (p := y) (o := .obj c []) (ho := .ins (G.cls c) dx []) st1 (by rw [upd_ne (Ne.symm ne)]; exact hy) ⟨dx, [], by unfold flds; simp, .nil, Nat.zero_le _⟩
  exact ⟨_, st2, t1.trans t2, if_pos rfl⟩
theorem make_use {c : Nat} {mk : List D → Cells → Res D} {W : Wd} {C : Cells} {H : Hp} {σ : L2.St} {Q : VK} {xs : List D} {vs : List V} {y dx : Addr} (ar : Arity F np) (st : StR G W C H) (rx : RepVs G W xs vs) (hy : H y = none) (hd : H dx = none) (ne : dx ≠ y)
    (q : Post G Wx σ (RepV G) W C H (mk xs C) Q) (hmk : mk = mkC c F ∨ mk = mkF G.T c F) : spD G np F (.ref y :: vs) (upd (upd H dx (.own y)) y (.ins (G.cls c) dx [])) (fun v H2 => v = .non ∧ Q (.ref y) H2) (fun c d H => Wx c d σ H) := by
  obtain ⟨W', st', t', cm'⟩ := fr_make (c := c) st hy hd ne
  refine spD_of (ds := .cel C.nx :: xs) ar (.cons (.cel cm') (rx.up t'.le)) st' ?_
  rcases hmk with rfl | rfl
  · unfold mkC at q
    cases ef : F (.cel C.nx :: xs) (C.new (.obj c [])) with
    | no => rw [ef] at q; exact q
    | err k' C' => rw [ef] at q; exact Post.step t' q
    | ok d C' =>
      rw [ef] at q
      cases d with
      | non => exact fun W2 v H2 t2 st2 r2 => ⟨r2.non_, q W2 _ H2 (t'.trans t2) st2 (.cel (t2.le.cm _ _ cm'))⟩
      | _ => exact q.elim
  · unfold mkF at q
    cases ef : F (.cel C.nx :: xs) (C.new (.obj c [])) with
    | no => rw [ef] at q; exact q
    | err k' C' => rw [ef] at q; exact Post.step t' q
    | ok d C' =>
      rw [ef] at q
      cases d with
      | non =>
        simp only at q
        split at q
        · rename_i c' l eg
          split at q
          · rename_i hc
            obtain ⟨rfl, hl⟩ := hc
            intro W2 v H2 t2 st2 r2
            obtain ⟨a, ho, h1, h2, h3, dx', us, rfl, h4, h5⟩ := st2.cells _ _ eg
            rw [t2.le.cm _ _ cm'] at h1
            cases h1
            obtain ⟨st3, t3⟩ := fr_frz st2 eg (t2.le.cm _ _ cm') h3
            exact ⟨r2.non_, q _ _ H2 ((t'.trans t2).trans t3) st3 (.obj (by show upd W2.F y _ y = _; exact upd_same) (h4.up t3.le) hl)⟩
          · exact q.elim
        · exact q.elim
      | _ => exact q.elim
theorem de_make {c : Nat} {mk : List D → Cells → Res D} (hk : X.K = G.K) (mo : MakeOk X.prog X.w G X.mg X.base k x c np dd F) (hmk : mk = mkC c F ∨ mk = mkF G.T c F) (hr : Room (k + 1) X.A) (hg : Gl X x) (tk : Takes X Wx) (ha : DA X G Wx (e :: es) af) (hdb : (x == ("__debug__" : Str)) = false := by decide)
    (he : starEach (e :: es) X.env = (false, eval e X.env) :: starEach es X.env := by rfl) (hpl : (backTo pos (starEach es X.env)).any (·.1) = false := by rfl) : DE X G Wx (.Call (.Name x p) (e :: es) [] pos) (eMake mk dd af) := by
  obtain ⟨ar, f, fd, ps, ds, dvs, hp, ok, hm, M, hb, hd, rd⟩ := mo
  refine ⟨PE.weak (pe_makeSD (E := fun σ c d H => Wx c d σ H) (by rw [hk]; exact M) (by rw [hk]; exact ok) hr hg hm (by rw [hk]; exact hb) hd (fun σ => passAt tk σ) ha.pa hdb he hpl) fun σ H Q ⟨W, sl, C, rs, st, q⟩ => ⟨W, sl, C, rs, st, q.bind fun xs C1 W1 vs H1 _ t st1 rx q1 => fun y dx hy hd' ne => ?_⟩⟩
  exact make_use ar st1 (rx.append (rd W1)) hy hd' ne q1 hmk
theorem de_make0 {c : Nat} {mk : List D → Cells → Res D} (hk : X.K = G.K) (mo : MakeOk X.prog X.w G X.mg X.base k x c np dd F) (hmk : mk = mkC c F ∨ mk = mkF G.T c F) (hr : Room (k + 1) X.A) (hg : Gl X x) (tk : Takes X Wx) (hdb : (x == ("__debug__" : Str)) = false := by decide) : DE X G Wx (.Call (.Name x p) [] [] pos) (eMake mk dd aNil) := by
  obtain ⟨ar, f, fd, ps, ds, dvs, hp, ok, hm, M, hb, hd, rd⟩ := mo
  refine ⟨PE.weak (pe_make0SD (E := fun σ c d H => Wx c d σ H) (by rw [hk]; exact M) (by rw [hk]; exact ok) hr hg hm (by rw [hk]; exact hb) hd (fun σ => passAt tk σ) hdb) fun σ H Q ⟨W, sl, C, rs, st, q⟩ => fun y dx hy hd' ne => ?_⟩
  exact make_use (xs := [] ++ dd) (vs := [] ++ dvs) ar st (by simpa using rd W) hy hd' ne q hmk
end
end DL

set_option Elab.async false
set_option linter.all false
set_option maxRecDepth 100000
set_option autoImplicit false
namespace DL
open PySem PySem.Spec PyProof.Rows L2

/-! ### fields -/
/-- what the text has of an own class -/
structure ClsX (K : PySem.W.Frag) (C : Addr) : Prop where
  cl : Cls K C
  ha : PySem.W.findIn K (.ref C) "__class__" = some (some (.builtin "object.__class__"))
  hn : PySem.W.specialIn K (.builtin "object.__class__") "__get__" = some (some (.builtin "getset_descriptor.__get__"))
  ht : PySem.W.takesIn K (.builtin "object.__class__") = some true
  hm : PySem.W.mroIn K C (.type "object") = some true
structure CF (G : Glo) : Prop where
  cls : ∀ c, c < G.T.ncl → ClsX G.K (G.cls c)
  na : ∀ c k, c < G.T.ncl → k ∈ G.T.fl c → NoAttr G.K (G.cls c) (G.T.nm k)
  nd : ∀ c, c < G.T.ncl → ((G.T.fl c).map G.T.nm).Nodup
  few : ∀ c, c < G.T.ncl → (G.T.fl c).length < 900
theorem zip_lookup : ∀ {ns : List Str} {vs : List V} {i : Nat} {n : Str}, ns.Nodup → ns[i]? = some n → (ns.zip vs).lookup n = vs[i]?
  | [], _, _, _, _, h => by simp at h
  | m :: ns, [], i, n, _, _ => by simp
  | m :: ns, v :: vs, 0, n, _, h => by
    simp at h; subst h
    simp [List.zip_cons_cons, List.lookup]
  | m :: ns, v :: vs, i + 1, n, nd, h => by
    have h' : ns[i]? = some n := by simpa using h
    have ne : ¬ n = m := fun e => (List.nodup_cons.mp nd).1 (e ▸ List.mem_of_getElem? h')
    have hb : (n == m) = false := beq_eq_false_iff_ne.mpr ne
    simp only [List.zip_cons_cons, List.lookup, hb]
    rw [zip_lookup (List.nodup_cons.mp nd).2 h']
    simp
theorem zip_put : ∀ {ns : List Str} {vs : List V} {i : Nat} {n : Str} {y : V}, ns.Nodup → ns[i]? = some n → i < vs.length → putF n y (ns.zip vs) = ns.zip (vs.set i y)
  | [], _, _, _, _, _, h, _ => by simp at h
  | m :: ns, [], i, n, _, _, _, h => by simp at h
  | m :: ns, v :: vs, 0, n, y, _, h, _ => by
    simp at h; subst h
    show (if m = m then _ else _) = _
    rw [if_pos rfl]; rfl
  | m :: ns, v :: vs, i + 1, n, y, nd, h, hl => by
    have h' : ns[i]? = some n := by simpa using h
    have ne : ¬ m = n := fun e => (List.nodup_cons.mp nd).1 (e ▸ List.mem_of_getElem? h')
    show (if m = n then _ else (m, v) :: putF n y (ns.zip vs)) = _
    rw [if_neg ne, zip_put (List.nodup_cons.mp nd).2 h' (by simpa using hl)]; rfl
theorem zip_add : ∀ {ns : List Str} {vs : List V} {n : Str} {y : V}, ns.Nodup → ns[vs.length]? = some n → putF n y (ns.zip vs) = ns.zip (vs ++ [y])
  | [], _, _, _, _, h => by simp at h
  | m :: ns, [], n, y, _, h => by
    simp at h; subst h
    have e : (m :: ns).zip ([] : List V) = [] := by simp
    rw [e]
    simp [putF, List.zip_cons_cons]
  | m :: ns, v :: vs, n, y, nd, h => by
    have h' : ns[vs.length]? = some n := by simpa using h
    have ne : ¬ m = n := fun e => (List.nodup_cons.mp nd).1 (e ▸ List.mem_of_getElem? h')
    show (if m = n then _ else (m, v) :: putF n y (ns.zip vs)) = _
    rw [if_neg ne, zip_add (List.nodup_cons.mp nd).2 h']; rfl
theorem idx_get {l : List Nat} {k : Nat} (h : k ∈ l) : l[l.idxOf k]? = some k := by
  have hl := List.idxOf_lt_length_of_mem h
  rw [List.getElem?_eq_getElem hl]
  simp
def fld (T : Tab) (k : Nat) (x : D) (C : Cells) : Res D := match objOf C x with
  | some (c, l) => if c < T.ncl ∧ k ∈ T.fl c then (match l[(T.fl c).idxOf k]? with
    | some d => .ok d C
    | none => .no) else .no
  | none => .no
def eFld (T : Tab) (k : Nat) (f : EF) : EF := fun s C => (f s C).bind fun x C => fld T k x C
section
variable {X : Cx} {G : Glo} {Wx : WX} {e o value : Expr} {es : List Expr} {f fo fv : EF} {af : AF} {x m : Str} {p pos pos' apos cpos : Pos}
theorem de_fld {k : Nat} (hk : X.K = G.K) (cf : CF G) (hx : G.T.nm k = x) (he : DE X G Wx e f) (hb : attributeBase e x X.env (eval e X.env) = eval e X.env := by rfl) : DE X G Wx (.Attribute e x pos) (eFld G.T k f) :=
  ⟨PE.weak (pe_fld he.pe hb) fun σ H Q ⟨W, sl, C, rs, st, q⟩ => ⟨W, sl, C, rs, st, q.bind fun y C1 W1 v H1 _ t st1 rx q1 => by
    unfold fld at q1
    split at q1
    · rename_i c l eo
      split at q1
      · rename_i hc
        split at q1
        · rename_i d ed
          obtain ⟨a, dx, vs, rfl, h1, h2, h3⟩ := objOf_ok st1 rx eo
          obtain ⟨w, h4, h5⟩ := h2.get ed
          subst hx
          refine ⟨a, G.cls c, dx, _, w, rfl, h1, by rw [hk]; exact (cf.cls c hc.1).cl, by rw [hk]; exact cf.na c k hc.1 hc.2, ?_, q1 W1 w H1 .refl st1 h5⟩
          unfold flds
          rw [zip_lookup (cf.nd c hc.1) (by rw [List.getElem?_map, idx_get hc.2]; rfl)]
          exact h4
        · exact q1.elim
      · exact q1.elim
    · exact q1.elim⟩⟩
/-- e.x = value: the value first -/
def setFld (T : Tab) (k : Nat) (x d : D) (C : Cells) : Option Cells := match x with
  | .cel n => (match C.get n with
    | some (.obj c l) => if c < T.ncl ∧ k ∈ T.fl c then (if (T.fl c).idxOf k < l.length then some (C.set n (.obj c (l.set ((T.fl c).idxOf k) d)))
        else if (T.fl c).idxOf k = l.length then some (C.set n (.obj c (l ++ [d]))) else none) else none
    | _ => none)
  | _ => none
def sFldF (T : Tab) (k : Nat) (fo fv : EF) : SF := fun s C => (fv s C).toS s fun d C => (fo s C).toS s fun x C => match setFld T k x d C with | some C => .nxt s C | none => .no
theorem ds_fld {k : Nat} (hk : X.K = G.K) (cf : CF G) (hx : G.T.nm k = x) (ho : DE X G Wx o fo) (hv : DE X G Wx value fv) (hs : swapsWith value (some (.Attribute o x pos')) pos.line X.env = pure false := by rfl) : DS X G Wx (.Assign [.Attribute o x pos'] value pos) (sFldF G.T k fo fv) :=
  ⟨PS.weak (ps_fld ho.pe hv.pe hs) fun Dn σ H ⟨W, sl, C, rs, st, q⟩ => ⟨W, sl, C, rs, st, SPost.toS rs q fun d C1 W1 v H1 t1 st1 rd q1 => ⟨W1, sl, C1, rs.up t1.le, st1, SPost.toS (rs.up t1.le) q1 fun y C2 W2 u H2 t2 st2 ry q2 => by
    split at q2
    · rename_i C3 ec
      unfold setFld at ec
      split at ec
      · rename_i n
        obtain ⟨a, rfl, hn⟩ := ry.cel_
        split at ec
        · rename_i c l eg
          split at ec
          · rename_i hc
            obtain ⟨b, ho, h1, h2, h3, dx, vs, rfl, h4, h5⟩ := st2.cells n _ eg
            rw [hn] at h1; cases h1
            subst hx
            have nd := cf.nd c hc.1
            have nm : ((G.T.fl c).map G.T.nm)[(G.T.fl c).idxOf k]? = some (G.T.nm k) := by rw [List.getElem?_map, idx_get hc.2]; rfl
            have few : (flds G.T c vs).length < 1000 := by
              have := cf.few c hc.1
              unfold flds; rw [List.length_zip, List.length_map]; omega
            have lt := List.idxOf_lt_length_of_mem hc.2
            refine ⟨a, G.cls c, dx, _, rfl, h3, by rw [hk]; exact (cf.cls c hc.1).cl, by rw [hk]; exact cf.na c k hc.1 hc.2, few, ?_⟩
            split at ec
            · rename_i hlt
              cases ec
              obtain ⟨st3, t3⟩ := fr_set (o := .obj c (l.set ((G.T.fl c).idxOf k) d)) (ho := .ins (G.cls c) dx (putF (G.T.nm k) v (flds G.T c vs))) st2 eg hn ⟨dx, vs.set ((G.T.fl c).idxOf k) v, by unfold flds; rw [zip_put nd nm (by rw [← h4.length]; exact hlt)], h4.set _ (rd.up t2.le), by rw [List.length_set]; exact h5⟩
              exact q2 _ _ _ t3 st3 ((rs.up (t1.trans t2).le).up t3.le)
            · split at ec
              · rename_i hnl heq
                cases ec
                obtain ⟨st3, t3⟩ := fr_set (o := .obj c (l ++ [d])) (ho := .ins (G.cls c) dx (putF (G.T.nm k) v (flds G.T c vs))) st2 eg hn ⟨dx, vs ++ [v], by unfold flds; rw [zip_add nd (by rw [← h4.length, ← heq]; exact nm)], h4.append (.cons (rd.up t2.le) .nil), by rw [List.length_append, List.length_singleton]; omega⟩
                exact q2 _ _ _ t3 st3 ((rs.up (t1.trans t2).le).up t3.le)
              · cases ec
          · cases ec
        · cases ec
      · cases ec
    · exact q2.elim⟩⟩⟩

/-! ### methods of built-in types -/
def eBm (ty : Cells → D → Bool) (g : D → List D → Cells → Res D) (fo : EF) (af : AF) : EF := fun s C => (fo s C).bind fun x C => if ty C x = true then (af s C).bind fun xs C => g x xs C else .no
def OpM (G : Glo) (r : V → List V → Hp → VK → Prop) (g : D → List D → Cells → Res D) : Prop := ∀ (Wx : WX) (σ : L2.St) (W : Wd) (C : Cells) (H : Hp) (x : D) (v : V) (xs : List D) (vs : List V) (Q : VK), StR G W C H → RepV G W x v → RepVs G W xs vs → Post G Wx σ (RepV G) W C H (g x xs C) Q → r v vs H Q
def TyM (G : Glo) (T : String) (ty : Cells → D → Bool) : Prop := ∀ (W : Wd) (C : Cells) (H : Hp) (x : D) (v : V), StR G W C H → RepV G W x v → ty C x = true → tyV G.K T v H
variable {T id : String} {r : V → List V → Hp → VK → Prop} {g : D → List D → Cells → Res D} {ty : Cells → D → Bool} {name : Str}
theorem de_bm (hk : X.K = G.K) (pa : PlainAttrs T) (slot : Slot T name id) (hty : typeOf (.builtin id) = pure (.type "method_descriptor")) (hm : MtR X id r) (om : OpM G r g) (tm : TyM G T ty) (ho : DE X G Wx o fo) (ha : DA X G Wx (e :: es) af)
    (hbase : attributeBase o name X.env (eval o X.env) = eval o X.env := by rfl)
    (hfew : ((backTo cpos (starEach (e :: es) X.env)).all (fun x => !x.1) && (backToKw cpos (keywordEach [] X.env)).all (fun x => x.1.isSome)
      && decide ((e :: es).length + ([] : List Keyword).length + (if ([] : List Keyword).isEmpty then 0 else 1) < 30)) = true := by rfl)
    (hline : (apos.endLine == cpos.line) = true := by rfl) (hs : starEach (e :: es) X.env = (false, eval e X.env) :: starEach es X.env := by rfl) (hplain : (backTo cpos (starEach es X.env)).any (·.1) = false := by rfl) : DE X G Wx (.Call (.Attribute o name apos) (e :: es) [] cpos) (eBm ty g fo af) :=
  ⟨PE.weak (pe_bm pa slot hty hm ho.pe ha.pa hbase hfew hline hs hplain) fun σ H Q ⟨W, sl, C, rs, st, q⟩ => ⟨W, sl, C, rs, st, q.bind fun y C1 W1 v H1 _ t st1 rx q1 => by
    split at q1
    · rename_i hy
      exact ⟨by rw [hk]; exact tm W1 C1 H1 y v st1 rx hy, W1, sl, C1, rs.up t.le, st1, q1.bind fun xs C2 W2 vs H2 _ t2 st2 rxs q2 => om Wx σ W2 C2 H2 y v xs vs Q st2 (rx.up t2.le) rxs q2⟩
    · exact q1.elim⟩⟩
theorem de_bm0 (hk : X.K = G.K) (pa : PlainAttrs T) (slot : Slot T name id) (hty : typeOf (.builtin id) = pure (.type "method_descriptor")) (hm : MtR X id r) (om : OpM G r g) (tm : TyM G T ty) (ho : DE X G Wx o fo)
    (hbase : attributeBase o name X.env (eval o X.env) = eval o X.env := by rfl) (hline : (apos.endLine == cpos.line) = true := by rfl) : DE X G Wx (.Call (.Attribute o name apos) [] [] cpos) (eBm ty g fo aNil) :=
  ⟨PE.weak (pe_bm0 pa slot hty hm ho.pe hbase hline) fun σ H Q ⟨W, sl, C, rs, st, q⟩ => ⟨W, sl, C, rs, st, q.bind fun y C1 W1 v H1 _ t st1 rx q1 => by
    split at q1
    · rename_i hy
      exact ⟨by rw [hk]; exact tm W1 C1 H1 y v st1 rx hy, om Wx σ W1 C1 H1 y v [] [] Q st1 rx .nil q1⟩
    · exact q1.elim⟩⟩
def tyL (C : Cells) (d : D) : Bool := (lstOf C d).isSome
theorem tm_list : TyM G "list" tyL := fun W C H x v st r h => by
  cases e : lstOf C x with
  | none => unfold tyL at h; rw [e] at h; cases h
  | some l =>
    obtain ⟨a, vs, rfl, h1, _⟩ := lstOf_ok st r e
    exact .inl ⟨rfl, vs, h1⟩
/-- the list methods that change: the receiver is a cell -/
def atL (C : Cells) (x : D) (k : Nat → List D → Res D) : Res D := match x with
  | .cel n => (match C.get n with | some (.lst l) => k n l | _ => .no)
  | _ => .no
def mAppend (x : D) (xs : List D) (C : Cells) : Res D := atL C x fun n l => match xs with
  | [y] => if l.length < mxl then .ok .non (C.set n (.lst (l ++ [y]))) else .no
  | _ => .no
def mExtend (x : D) (xs : List D) (C : Cells) : Res D := atL C x fun n l => match xs with
  | [y] => (match trkOf C y with | some l2 => if l.length + l2.length ≤ mxl then .ok .non (C.set n (.lst (l ++ l2))) else .no | none => .no)
  | _ => .no
def mClear (x : D) (xs : List D) (C : Cells) : Res D := atL C x fun n l => match xs with
  | [] => .ok .non (C.set n (.lst []))
  | _ => .no
def mPop (x : D) (xs : List D) (C : Cells) : Res D := atL C x fun n l => match xs with
  | [] => (match l[l.length - 1]? with | some d => .ok d (C.set n (.lst l.dropLast)) | none => .no)
  | _ => .no
theorem atL_ok {W : Wd} {C : Cells} {H : Hp} {σ : L2.St} {Q : VK} {y : D} {v : V} {k : Nat → List D → Res D} (st : StR G W C H) (r : RepV G W y v) (q : Post G Wx σ (RepV G) W C H (atL C y k) Q) :
    ∃ n l a vs, C.get n = some (.lst l) ∧ v = .ref a ∧ W.cm n = some a ∧ H a = some (.lst vs) ∧ RepVs G W l vs ∧ Post G Wx σ (RepV G) W C H (k n l) Q := by
  unfold atL at q
  split at q
  · rename_i n
    split at q
    · rename_i l e
      obtain ⟨a, rfl, h⟩ := r.cel_
      obtain ⟨b, vs, h1, h2, h3, h4⟩ := st.cel_lst e
      rw [h] at h1; cases h1
      exact ⟨n, l, a, vs, e, rfl, h, h3, h4, q⟩
    · exact q.elim
  · exact q.elim
theorem om_append : OpM G rAppend mAppend := fun Wx σ W C H x v xs vs Q st rx rxs q => by
  obtain ⟨n, l, a, us, e, rfl, h, h3, h4, q⟩ := atL_ok st rx q
  split at q
  · split at q
    · rename_i hz
      obtain ⟨u, rfl, hu⟩ := rxs.one
      refine ⟨a, us, u, rfl, rfl, h3, by rw [← h4.length, ← mxl_eq]; exact hz, ?_⟩
      obtain ⟨s1, s2⟩ := fr_set (o := .lst (l ++ [_])) (ho := .lst (us ++ [u])) st e h ⟨_, rfl, h4.append (.cons hu .nil)⟩
      exact q W _ _ s2 s1 .non
    · exact q.elim
  · exact q.elim
theorem om_extend : OpM G rExtend mExtend := fun Wx σ W C H x v xs vs Q st rx rxs q => by
  obtain ⟨n, l, a, us, e, rfl, h, h3, h4, q⟩ := atL_ok st rx q
  split at q
  · rename_i y
    split at q
    · rename_i l2 e2
      split at q
      · rename_i hz
        obtain ⟨u, rfl, hu⟩ := rxs.one
        obtain ⟨b, zs, rfl, k1, k2⟩ := trkOf_ok st hu e2
        refine ⟨a, b, us, zs, rfl, rfl, h3, k1, by rw [← h4.length, ← k2.length, ← mxl_eq]; exact hz, ?_⟩
        obtain ⟨s1, s2⟩ := fr_set (o := .lst (l ++ l2)) (ho := .lst (us ++ zs)) st e h ⟨_, rfl, h4.append k2⟩
        exact q W _ _ s2 s1 .non
      · exact q.elim
    · exact q.elim
  · exact q.elim
theorem om_clear : OpM G rClear mClear := fun Wx σ W C H x v xs vs Q st rx rxs q => by
  obtain ⟨n, l, a, us, e, rfl, h, h3, h4, q⟩ := atL_ok st rx q
  split at q
  · refine ⟨a, us, rfl, rxs.nil_inv, h3, ?_⟩
    obtain ⟨s1, s2⟩ := fr_set (o := .lst []) (ho := .lst []) st e h ⟨_, rfl, .nil⟩
    exact q W _ _ s2 s1 .non
  · exact q.elim
theorem RepVs.dropLast {W : Wd} {l : List D} {vs : List V} (r : RepVs G W l vs) : RepVs G W l.dropLast vs.dropLast := by
  rw [List.dropLast_eq_take, List.dropLast_eq_take, ← r.length]
  exact r.take _
theorem om_pop : OpM G rPop mPop := fun Wx σ W C H x v xs vs Q st rx rxs q => by
  obtain ⟨n, l, a, us, e, rfl, h, h3, h4, q⟩ := atL_ok st rx q
  split at q
  · split at q
    · rename_i d ed
      obtain ⟨u, k1, k2⟩ := h4.get ed
      refine ⟨a, us, u, rfl, rxs.nil_inv, h3, by rw [← h4.length]; exact k1, ?_⟩
      obtain ⟨s1, s2⟩ := fr_set (o := .lst l.dropLast) (ho := .lst us.dropLast) st e h ⟨_, rfl, h4.dropLast⟩
      exact q W _ _ s2 s1 (k2.up s2.le)
    · exact q.elim
  · exact q.elim

/-! ### o[i] = v, o a list -/
def setIx (x i d : D) (C : Cells) : Option Cells := match x, i with
  | .cel n, .int k => (match C.get n with | some (.lst l) => (match ixN l.length k with | some j => some (C.set n (.lst (l.set j d))) | none => none) | _ => none)
  | _, _ => none
def sIxF (fo fi fv : EF) : SF := fun s C => (fv s C).toS s fun d C => (fo s C).toS s fun x C => (fi s C).toS s fun i C => match setIx x i d C with | some C => .nxt s C | none => .no
variable {ei : Expr} {fi : EF}
theorem ds_setIx {ipos : Pos} (ho : DE X G Wx o fo) (hi : DE X G Wx ei fi) (hv : DE X G Wx value fv)
    (ha : ∀ v, assign (.Subscript o ei ipos) X.env v = (do
      let ov ← holding [v] (eval o X.env)
      let iv ← holding [v, ov] (eval ei X.env)
      standAt ipos
      holding [v, ov, iv] (setItem ov iv v)
      release [v, ov, iv] []) := by intro _; rfl)
    (hs : swapsWithSole [.Subscript o ei ipos] value pos.line X.env = pure false := by rfl) (hw : swappedStores [.Subscript o ei ipos] value X.env = pure none := by rfl)
    (h1 : (assignEach [.Subscript o ei ipos] X.env).map (·.2) = [assign (.Subscript o ei ipos) X.env] := by rfl) : DS X G Wx (.Assign [.Subscript o ei ipos] value pos) (sIxF fo fi fv) :=
  ⟨PS.weak (ps_asg hv.pe (pg_sub ho.pe hi.pe set_list ha) hs hw h1) fun Dn σ H ⟨W, sl, C, rs, st, q⟩ => ⟨W, sl, C, rs, st, SPost.toS rs q fun d C1 W1 v H1 t1 st1 rd q1 => ⟨W1, sl, C1, rs.up t1.le, st1, SPost.toS (rs.up t1.le) q1 fun y C2 W2 u H2 t2 st2 ry q2 => ⟨W2, sl, C2, rs.up (t1.trans t2).le, st2, SPost.toS (rs.up (t1.trans t2).le) q2 fun i C3 W3 w H3 t3 st3 ri q3 => by
    split at q3
    · rename_i C4 ec
      unfold setIx at ec
      split at ec
      · rename_i n k
        obtain ⟨a, rfl, hn⟩ := (ry.up t3.le).cel_
        split at ec
        · rename_i l eg
          split at ec
          · rename_i j ej
            cases ec
            obtain ⟨b, vs, k1, k2, k3, k4⟩ := st3.cel_lst eg
            rw [hn] at k1; cases k1
            refine ⟨a, vs, k, j, rfl, ri.int_, k3, by rw [← k4.length]; exact ej, ?_⟩
            obtain ⟨s1, s2⟩ := fr_set (o := .lst (l.set j d)) (ho := .lst (vs.set j v)) st3 eg hn ⟨_, rfl, k4.set j (rd.up (t2.trans t3).le)⟩
            exact q3 W3 σ _ s2 s1 ((rs.up ((t1.trans t2).trans t3).le).up s2.le)
          · cases ec
        · cases ec
      · cases ec
    · exact q3.elim⟩⟩⟩⟩

/-! ### what is a cell becomes known -/
def frz (f : EF) : EF := fun s C => (f s C).bind fun d C => match d with
  | .cel n => (match C.get n with
    | some (.lst l) => .ok (.lst l) (C.del n)
    | _ => .ok d C)
  | d => .ok d C
theorem de_frz (h : DE X G Wx e f) : DE X G Wx e (frz f) :=
  de_weak h.pe fun σ H Q ⟨W, sl, C, rs, st, q⟩ => ⟨W, sl, C, rs, st, q.bind fun d C1 W1 v H1 _ t st1 rd q1 => by
    split at q1
    · rename_i n
      split at q1
      · rename_i l eg
        obtain ⟨a, rfl, hn⟩ := rd.cel_
        obtain ⟨b, vs, k1, k2, k3, k4⟩ := st1.cel_lst eg
        rw [hn] at k1; cases k1
        obtain ⟨s1, s2⟩ := fr_frz st1 eg hn k3
        exact q1 _ _ H1 s2 s1 (.lst (by show upd W1.F a _ a = _; exact upd_same) (k4.up s2.le))
      · exact q1 W1 v H1 .refl st1 rd
    · exact q1 W1 v H1 .refl st1 rd⟩
/-- behind a statement the list at slot i becomes known -/
def sFrz (i : Nat) (g : SF) : SF := fun s C => match g s C with
  | .nxt s C => (match s[i]? with
    | some (some (.cel n)) => (match C.get n with
      | some (.lst l) => .nxt (s.set i (some (.lst l))) (C.del n)
      | _ => .nxt s C)
    | _ => .nxt s C)
  | r => r
theorem ds_frz {st : Stmt} {g : SF} (i : Nat) (h : DS X G Wx st g) : DS X G Wx st (sFrz i g) := ⟨PS.weak h.ps fun Dn σ H ⟨W, sl, C, rs, st, q⟩ => ⟨W, sl, C, rs, st, by
  unfold sFrz at q
  cases e : g sl C with
  | nxt s' C' =>
    rw [e] at q
    intro W' σ' H' t st' rs'
    have q : SPost G Wx W C H (match s'[i]? with
      | some (some (.cel n)) => (match C'.get n with
        | some (.lst l) => .nxt (s'.set i (some (.lst l))) (C'.del n)
        | _ => .nxt s' C')
      | _ => .nxt s' C') Dn := q
    split at q
    · rename_i n ei
      split at q
      · rename_i l eg
        obtain ⟨v, hv, rv⟩ := rs'.at_ i _ ei
        obtain ⟨a, rfl, hn⟩ := rv.cel_
        obtain ⟨b, vs, k1, k2, k3, k4⟩ := st'.cel_lst eg
        rw [hn] at k1; cases k1
        obtain ⟨s1, s2⟩ := fr_frz st' eg hn k3
        refine q _ σ' H' (t.trans s2) s1 ?_
        have hi : i < σ'.length := (List.getElem?_eq_some_iff.mp hv).1
        have := (rs'.up s2.le).set i (d := .lst l) (v := .ref a) (.lst (by show upd W'.F a _ a = _; exact upd_same) (k4.up s2.le))
        have es : σ'.set i (some (.ref a)) = σ' := by
          apply List.ext_getElem? ; intro j
          by_cases q : j = i
          · subst q; rw [List.getElem?_set_self hi, hv]
          · rw [List.getElem?_set_ne (Ne.symm q)]
        rw [es] at this
        exact this
      · exact q W' σ' H' t st' rs'
    · exact q W' σ' H' t st' rs'
  | ret d C' => rw [e] at q; exact q
  | brk s' C' => rw [e] at q; exact q
  | cnt s' C' => rw [e] at q; exact q
  | err c s' C' => rw [e] at q; exact q
  | no => rw [e] at q; exact q⟩⟩
end
end DL

set_option Elab.async false
set_option linter.all false
set_option maxRecDepth 100000
set_option autoImplicit false
namespace DL
open PySem PySem.Spec PyProof.Rows L2

/-! ### isinstance: kinds of values: 0 None, 1 bool, 2 int, 3 str, 4 list, 5 tuple, 6 dict, 10 + c an object of the class c -/
def kndO : O → Nat
  | .lst _ => 4
  | .dk _ => 6
  | .dt _ => 6
  | .obj c _ => 10 + c
def knd (C : Cells) : D → Option Nat
  | .non => some 0
  | .bl _ => some 1
  | .int _ => some 2
  | .str _ => some 3
  | .lst _ => some 4
  | .scr _ => none
  | .ktp _ => some 5
  | .tup _ => some 5
  | .obj c _ => some (10 + c)
  | .cel n => (C.get n).map kndO
  | .opq _ _ => none
def tyName : Nat → String
  | 0 => "NoneType" | 1 => "bool" | 2 => "int" | 3 => "str" | 4 => "list" | 5 => "tuple" | 6 => "dict" | _ => "ValueError"
def kvOf (G : Glo) (n : Nat) : Value := if n < 10 then .type (tyName n) else .ref (G.cls (n - 10))
/-- between built-in types -/
def isB : Nat → Nat → Option Bool
  | 2, 1 => some true
  | t, v => if 1 ≤ t ∧ t ≤ 6 ∧ v ≤ 6 then some (t == v) else none
abbrev ITab := List ((Nat × Nat) × Bool)
def isT (tb : ITab) (t v : Nat) : Option Bool := if t < 10 ∧ v < 10 then isB t v else tb.lookup (t, v)
def KitF (G : Glo) : ITab → Prop
  | [] => True
  | ((t, v), b) :: r => PySem.W.kitOne G.K (kvOf G v) (kvOf G t) = some b ∧ KitF G r
theorem KitF.get {G : Glo} : ∀ {tb : ITab} {t v : Nat} {b : Bool}, KitF G tb → tb.lookup (t, v) = some b → PySem.W.kitOne G.K (kvOf G v) (kvOf G t) = some b
  | [], _, _, _, _, h => by simp at h
  | ((t', v'), b') :: r, t, v, b, k, h => by
    by_cases e : (t, v) = (t', v')
    · obtain ⟨rfl, rfl⟩ := Prod.mk.inj e
      simp [List.lookup] at h
      rw [← h]; exact k.1
    · have hb : ((t, v) == (t', v')) = false := beq_eq_false_iff_ne.mpr e
      simp only [List.lookup, hb] at h
      exact KitF.get k.2 h
theorem isB_ok {K : PySem.W.Frag} : ∀ t v : Nat, t < 10 → v < 10 → ∀ b, isB t v = some b → PySem.W.kitOne K (.type (tyName v)) (.type (tyName t)) = some b := by
  have h : ∀ t : Fin 7, ∀ v : Fin 7, ∀ b, isB t.val v.val = some b → kitB (tyName v.val) (tyName t.val) = some b := by decide +kernel
  intro t v ht hv b e
  by_cases ht7 : t < 7
  · by_cases hv7 : v < 7
    · exact kit_ty (h ⟨t, ht7⟩ ⟨v, hv7⟩ b e)
    · unfold isB at e
      split at e
      · omega
      · rw [if_neg (by omega)] at e; cases e
  · unfold isB at e
    split at e
    · omega
    · rw [if_neg (by omega)] at e; cases e
theorem isT_ok {G : Glo} {tb : ITab} (k : KitF G tb) {t v : Nat} {b : Bool} (e : isT tb t v = some b) : PySem.W.kitOne G.K (kvOf G v) (kvOf G t) = some b := by
  unfold isT at e
  split at e
  · rename_i h
    unfold kvOf
    rw [if_pos h.1, if_pos h.2]
    exact isB_ok t v h.1 h.2 b e
  · exact k.get e
theorem tyX_ins {G : Glo} (cf : CF G) {c : Nat} {a dx : Addr} {fs : List (Str × V)} {H : Hp} (hc : c < G.T.ncl) (h : H a = some (.ins (G.cls c) dx fs)) : TyX G.K H (.ref a) (kvOf G (10 + c)) := by
  unfold kvOf
  rw [if_neg (by omega), Nat.add_sub_cancel_left]
  have x := cf.cls c hc
  exact .base (.ins h x.cl x.ha x.hn x.ht x.hm)
theorem knd_ok {G : Glo} {W : Wd} {C : Cells} {H : Hp} {d : D} {v : V} {n : Nat} (cf : CF G) (st : StR G W C H) (r : RepV G W d v) (h : knd C d = some n) (hn : n < 10 + G.T.ncl) : TyX G.K H v (kvOf G n) := by
  cases d with
  | non => cases h; rw [r.non_]; exact .base .non
  | bl b => cases h; rw [r.bl_]; exact .base (.bl _)
  | int b => cases h; rw [r.int_]; exact .base (.int _)
  | str b => cases h; rw [r.str_]; exact .base (.str _)
  | lst l => cases h; obtain ⟨a, vs, rfl, e, _⟩ := r.lst_; exact .base (.lst (st.F _ _ e))
  | scr l => cases h
  | tup l =>
    cases h
    obtain ⟨a, vs, rfl, e, _⟩ := r.tup_
    exact .base (.tup (st.F _ _ e))
  | ktp l =>
    cases h
    obtain ⟨a, vs, rfl, e, _⟩ := r.ktp_
    rcases SqT.up st.F e with (e | ⟨o, e⟩) | ⟨o, its, k, e, c, _⟩
    · exact .base (.tup e)
    · exact .fTuple e
    · exact .kTuple e c
  | obj c l =>
    cases h
    obtain ⟨a, dx, vs, rfl, e, _⟩ := r.obj_
    exact tyX_ins cf (by omega) (st.F _ _ e)
  | cel m =>
    have h' : (C.get m).map kndO = some n := h
    cases e : C.get m with
    | none => rw [e] at h'; cases h'
    | some o =>
      rw [e] at h'
      obtain ⟨a, rfl, ha⟩ := r.cel_
      obtain ⟨b, ho, h1, h2, h3, h4⟩ := st.cells m o e
      rw [ha] at h1; cases h1
      cases o with
      | lst l => cases h'; obtain ⟨vs, rfl, _⟩ := h4; exact .base (.lst h3)
      | dk l => cases h'; obtain ⟨vs, rfl, _⟩ := h4; exact .base (.dK h3)
      | dt l => cases h'; obtain ⟨vs, rfl, _⟩ := h4; exact .base (.dT h3)
      | obj c l =>
        cases h'
        obtain ⟨dx, vs, rfl, _⟩ := h4
        have hn' : 10 + c < 10 + G.T.ncl := hn
        exact tyX_ins cf (by omega) h3
  | opq k l => cases h
def eIsi (T : Tab) (tb : ITab) (t : Nat) (f : EF) : EF := fun s C => (f s C).bind fun x C => match knd C x with
  | some v => if v < 10 + T.ncl then (match isT tb t v with | some b => .ok (.bl b) C | none => .no) else .no
  | none => .no
section
variable {X : Cx} {G : Glo} {Wx : WX} {a b e o i value : Expr} {es : List Expr} {f fa fb fo fi fv : EF} {af : AF} {x m : Str} {p pos pos' p2 apos cpos : Pos} {tb : ITab}
/-- isinstance(x, T), T a built-in type or an own class by its name -/
theorem de_isi {t : Nat} {cv : V} (hk : X.K = G.K) (cf : CF G) (kf : KitF G tb) (hT : ClsV cv (kvOf G t)) (hc : PE X b (tC cv)) (ha : DE X G Wx a fa) (hg : Gl X "isinstance") (hm : X.mg "isinstance" = none)
    (hpl : (backTo pos (starEach [b] X.env)).any (·.1) = false := by rfl) (he : starEach [a, b] X.env = (false, eval a X.env) :: starEach [b] X.env := by rfl) (he2 : starEach [b] X.env = (false, eval b X.env) :: starEach [] X.env := by rfl) :
    DE X G Wx (.Call (.Name "isinstance" p) [a, b] [] pos) (eIsi G.T tb t fa) :=
  ⟨PE.weak (pe_callB call_isi hg hm (by decide +kernel) (pa_cons ha.pe (pa_cons hc pa_nil he2) he) (by decide) (by decide) he hpl) fun σ H Q ⟨W, sl, C, rs, st, q⟩ => ⟨W, sl, C, rs, st, q.bind fun y C1 W1 v H1 _ t1 st1 rx q1 => by
    split at q1
    · rename_i n en
      split at q1
      · rename_i hn
        split at q1
        · rename_i bb eb
          exact ⟨v, cv, _, _, bb, rfl, hT, by rw [hk]; exact knd_ok cf st1 rx en hn, by rw [hk]; exact isT_ok kf eb, q1 W1 _ H1 .refl st1 .bl⟩
        · exact q1.elim
      · exact q1.elim
    · exact q1.elim⟩⟩

/-! ### in, not in: a sign in a text, a flat thing in a list or tuple -/
def flatD : D → Bool
  | .non => true | .bl _ => true | .int _ => true | .str _ => true
  | _ => false
def eqF : D → D → Bool
  | .non, .non => true
  | .bl a, .bl b => a == b
  | .bl a, .int b => (if a then 1 else 0) == b
  | .int a, .bl b => a == (if b then 1 else 0)
  | .int a, .int b => a == b
  | .str a, .str b => a == b
  | _, _ => false
def inF (x : D) (l : List D) : Bool := l.any fun y => eqF y x
/-- a text of one sign -/
def sgn1 (s : Str) : Option Nat := match s.cps.toList with | [c] => some c | _ => none
theorem sgn1_ok {s : Str} {c : Nat} (h : sgn1 s = some c) : s = ⟨#[c]⟩ := by
  unfold sgn1 at h
  split at h
  · rename_i c' e
    cases h
    cases s with
    | mk a =>
      have e' : a.toList = [c] := e
      have : a = #[c] := by rw [← Array.toArray_toList (xs := a), e']
      rw [this]
  · cases h
def dInG (neg : Bool) (x y : D) (C : Cells) : Res D := match y with
  | .str z => (match x with
    | .str s => (match sgn1 s with
      | some c => .ok (.bl (if neg then !decide (c ∈ z.cps.toList) else decide (c ∈ z.cps.toList))) C
      | none => .no)
    | _ => .no)
  | y => match seqOf C y with
    | some l => if flatD x = true ∧ l.all flatD = true then .ok (.bl (if neg then !inF x l else inF x l)) C else .no
    | none => .no
def rSign (neg : Bool) : R2 := fun x y H Q => ∃ (c : Nat) (z : Str), x = .str ⟨#[c]⟩ ∧ y = .str z ∧ Q (.bl (if neg then !decide (c ∈ z.cps.toList) else decide (c ∈ z.cps.toList))) H
def rIn2 (K : PySem.W.Frag) (neg : Bool) : R2 := fun x y H Q => rSign neg x y H Q ∨ rIn K neg x y H Q
theorem op_in2 : OpR X (compareOp .In) (rIn2 X.K false) := OpR.or op_in_sign op_in_seq
theorem op_nin2 : OpR X (compareOp .NotIn) (rIn2 X.K true) := OpR.or op_notIn_sign op_notIn_seq
theorem flat_ok {W : Wd} {d : D} {v : V} (r : RepV G W d v) (h : flatD d = true) : flatV v = true := by
  cases d with
  | non => rw [r.non_]; rfl
  | bl b => rw [r.bl_]; rfl
  | int b => rw [r.int_]; rfl
  | str b => rw [r.str_]; rfl
  | _ => cases h
theorem eqF_ok {W : Wd} {d e : D} {v u : V} (r : RepV G W d v) (s : RepV G W e u) (h : flatD d = true) (h2 : flatD e = true) : eqV v u = eqF d e := by
  cases d with
  | non => rw [r.non_]; cases e with
    | non => rw [s.non_]; rfl
    | bl b => rw [s.bl_]; rfl
    | int b => rw [s.int_]; rfl
    | str b => rw [s.str_]; rfl
    | _ => cases h2
  | bl b => rw [r.bl_]; cases e with
    | non => rw [s.non_]; rfl
    | bl b => rw [s.bl_]; rfl
    | int b => rw [s.int_]; rfl
    | str b => rw [s.str_]; rfl
    | _ => cases h2
  | int b => rw [r.int_]; cases e with
    | non => rw [s.non_]; rfl
    | bl b => rw [s.bl_]; rfl
    | int b => rw [s.int_]; rfl
    | str b => rw [s.str_]; rfl
    | _ => cases h2
  | str b => rw [r.str_]; cases e with
    | non => rw [s.non_]; rfl
    | bl b => rw [s.bl_]; rfl
    | int b => rw [s.int_]; rfl
    | str b => rw [s.str_]; rfl
    | _ => cases h2
  | _ => cases h
theorem flats_ok {W : Wd} : ∀ {l : List D} {vs : List V}, RepVs G W l vs → l.all flatD = true → vs.all flatV = true
  | [], _, r, _ => by rw [r.nil_inv]; rfl
  | d :: l, _, r, h => by
    obtain ⟨v, vr, rfl, h1, h2⟩ := r.cons_inv
    rw [List.all_cons, Bool.and_eq_true] at h ⊢
    exact ⟨flat_ok h1 h.1, flats_ok h2 h.2⟩
theorem inF_ok {W : Wd} {x : D} {u : V} (rx : RepV G W x u) (hx : flatD x = true) : ∀ {l : List D} {vs : List V}, RepVs G W l vs → l.all flatD = true → inV u vs = inF x l
  | [], _, r, _ => by rw [r.nil_inv]; rfl
  | d :: l, _, r, h => by
    obtain ⟨v, vr, rfl, h1, h2⟩ := r.cons_inv
    rw [List.all_cons, Bool.and_eq_true] at h
    have := inF_ok rx hx h2 h.2
    unfold inV inF at this ⊢
    rw [List.any_cons, List.any_cons, eqF_ok h1 rx h.1 hx, this]
theorem o2_in {neg : Bool} : Op2 G (rIn2 G.K neg) (dInG neg) := fun Wx σ W C H x y v u Q st rx ry q => by
  unfold dInG at q
  split at q
  · split at q
    · split at q
      · rename_i c e
        exact .inl ⟨c, _, by rw [rx.str_, sgn1_ok e], ry.str_, q W _ H .refl st .bl⟩
      · exact q.elim
    · exact q.elim
  · split at q
    · rename_i l e
      split at q
      · rename_i hf
        obtain ⟨a, vs, rfl, h1, h2⟩ := seqOf_ok st ry e
        refine .inr ⟨a, vs, rfl, h1, flat_ok rx hf.1, flats_ok h2 hf.2, ?_⟩
        rw [inF_ok rx hf.1 h2 hf.2]
        exact q W _ H .refl st .bl
      · exact q.elim
    · exact q.elim

/-! ### sorted ints; max, min with a default -/
def sortI (l : List Int) : List Int := l.mergeSort (· ≤ ·)
theorem sortI_perm (l : List Int) : (sortI l).Perm l := List.mergeSort_perm _ _
theorem sortI_sorted (l : List Int) : (sortI l).Pairwise (· ≤ ·) := by
  have := List.pairwise_mergeSort (le := fun (a b : Int) => decide (a ≤ b)) (fun a b c h1 h2 => by simp only [decide_eq_true_eq] at *; omega) (fun a b => by simp only [Bool.or_eq_true, decide_eq_true_eq]; omega) l
  exact this.imp fun h => by simpa using h
theorem sorted_uniq : ∀ {l m : List Int}, l.Perm m → l.Pairwise (· ≤ ·) → m.Pairwise (· ≤ ·) → l = m := fun h h1 h2 => List.Perm.eq_of_pairwise (fun a b _ _ h1 h2 => Int.le_antisymm h1 h2) h1 h2 h
def bSortI (xs : List D) (C : Cells) : Res D := match xs with
  | [d] => (match (lstOf C d).bind asInts with | some ns => .ok (.lst ((sortI ns).map D.int)) C | none => .no)
  | _ => .no
theorem ints_rep {W : Wd} : ∀ ns : List Int, RepVs G W (ns.map D.int) (ns.map V.int)
  | [] => .nil
  | n :: r => .cons .int (ints_rep r)
theorem oa_sortI : OpA G (rSortedI G.K) bSortI := fun Wx σ W C H xs vs Q st rx q => by
  unfold bSortI at q
  split at q
  · obtain ⟨v, rfl, r⟩ := rx.one
    split at q
    · rename_i ns e
      obtain ⟨a, us, l, rfl, h1, h2, h3⟩ := lst_bind st r e
      refine ⟨a, ns, rfl, by rw [← asInts_ok h2 h3]; exact h1, fun ns' p hp hs hpn => ?_⟩
      obtain rfl : ns' = sortI ns := sorted_uniq (hp.trans (sortI_perm ns).symm) hs (sortI_sorted ns)
      exact new_lst st (ints_rep _) q p hpn
    · exact q.elim
  · exact q.elim
def rMaxD (K : PySem.W.Frag) : List V → List V → Hp → VK → Prop := fun vs zs H Q => ∃ (a : Addr) (ns : List Int) (z : V), vs = [V.ref a] ∧ zs = [z] ∧ SqL K H a (ns.map V.int) ∧ Q (match ns with | [] => z | n :: r => .int (PySem.W.maxOf n r)) H
def rMinD (K : PySem.W.Frag) : List V → List V → Hp → VK → Prop := fun vs zs H Q => ∃ (a : Addr) (ns : List Int) (z : V), vs = [V.ref a] ∧ zs = [z] ∧ SqL K H a (ns.map V.int) ∧ Q (match ns with | [] => z | n :: r => .int (PySem.W.minOf n r)) H
theorem cr_maxD (hc : X.calm = true) (hu : X.A.units + 64 < cLine) : CallRK X (.builtin "max") [Str.ofString "default"] (rMaxD X.K) := by
  intro pins s σ H xs zs us ws Q I r r2 h
  obtain ⟨a, ns, z, rfl, rfl, hs, q⟩ := h
  obtain ⟨its, rv, hl, _⟩ := I.list hs
  rw [Vals.ref1 r]
  obtain ⟨w, rfl, rw'⟩ := vals1 r2
  refine PySem.W.max_list_datum_default (xs := ns) (I.ok.hd hc) hl.isList (PySem.W.HoldAll.of_ints rv.ints) (by show X.A.units + 1 + 0 < cLine; omega) (fun e h' tk k => ?_) (fun y ys i v h' tk e hv hh k => ?_)
  · subst e
    exact ⟨z, H, I.kept k, rw', q⟩
  · subst e
    obtain ⟨t, rfl⟩ := PySem.W.int_of_holds hh
    exact ⟨.int (PySem.W.maxOf y ys), H, I.kept k, ⟨t, rfl⟩, q⟩
theorem cr_minD (hc : X.calm = true) (hu : X.A.units + 64 < cLine) : CallRK X (.builtin "min") [Str.ofString "default"] (rMinD X.K) := by
  intro pins s σ H xs zs us ws Q I r r2 h
  obtain ⟨a, ns, z, rfl, rfl, hs, q⟩ := h
  obtain ⟨its, rv, hl, _⟩ := I.list hs
  rw [Vals.ref1 r]
  obtain ⟨w, rfl, rw'⟩ := vals1 r2
  refine PySem.W.min_list_datum_default (xs := ns) (I.ok.hd hc) hl.isList (PySem.W.HoldAll.of_ints rv.ints) (by show X.A.units + 1 + 0 < cLine; omega) (fun e h' tk k => ?_) (fun y ys i v h' tk e hv hh k => ?_)
  · subst e
    exact ⟨z, H, I.kept k, rw', q⟩
  · subst e
    obtain ⟨t, rfl⟩ := PySem.W.int_of_holds hh
    exact ⟨.int (PySem.W.minOf y ys), H, I.kept k, ⟨t, rfl⟩, q⟩
def mxD (g : Int → List Int → Int) (x z : D) (C : Cells) : Res D := match (lstOf C x).bind asInts with
  | some [] => .ok z C
  | some (n :: r) => .ok (.int (g n r)) C
  | none => .no
theorem de_mxD {id : String} {r : List V → List V → Hp → VK → Prop} {g : Int → List Int → Int} {kn : Str} {kpos : Pos} (hk : X.K = G.K) (hc : CallRK X (.builtin id) [Str.ofString "default"] r)
    (hr : ∀ vs zs H Q, (∃ (a : Addr) (ns : List Int) (z : V), vs = [V.ref a] ∧ zs = [z] ∧ SqL X.K H a (ns.map V.int) ∧ Q (match ns with | [] => z | n :: r => .int (g n r)) H) → r vs zs H Q)
    (hg : Gl X x) (hm : X.mg x = none) (hv : bootBuiltins x = some (.builtin id)) (ha : DE X G Wx a fa) (hb : DE X G Wx b fb) (hn : x ≠ "__name__" := by decide) (hdb : (x == ("__debug__" : Str)) = false := by decide) (hs1 : starEach [a] X.env = (false, eval a X.env) :: starEach [] X.env := by rfl)
    (he : backTo pos (starEach [a] X.env) = (false, eval a X.env) :: backTo pos (starEach [] X.env) := by rfl) (hpl : (backTo pos (starEach [a] X.env)).any (·.1) = false := by rfl)
    (hall : (backToKw pos (keywordEach [⟨some kn, b, kpos⟩] X.env)).all (·.1.isSome) = true := by rfl) (hnone : (backToKw pos (keywordEach [⟨some kn, b, kpos⟩] X.env)).any (·.1.isNone) = false := by rfl) (hks : (backToKw pos (keywordEach [⟨some kn, b, kpos⟩] X.env)).filterMap (·.1) = [Str.ofString "default"] := by rfl) :
    DE X G Wx (.Call (.Name x p) [a] [⟨some kn, b, kpos⟩] pos) (e2 (mxD g) fa fb) :=
  ⟨PE.weak (pe_callBK hc hg hm hv (pa_cons ha.pe pa_nil hs1) (pk_cons hb.pe pk_nil) hn hdb he hpl hall hnone hks) fun σ H Q ⟨W, sl, C, rs, st, q⟩ => ⟨W, sl, C, rs, st, q.bind fun y C1 W1 v H1 _ t1 st1 rx q1 => ⟨W1, sl, C1, rs.up t1.le, st1, q1.bind fun z C2 W2 u H2 _ t2 st2 rz q2 => by
    refine hr _ _ _ _ ?_
    unfold mxD at q2
    split at q2
    · rename_i e
      obtain ⟨a, us, l, rfl, h1, h2, h3⟩ := lst_bind st2 (rx.up t2.le) e
      exact ⟨a, [], u, rfl, rfl, by rw [hk, ← asInts_ok h2 h3]; exact h1, q2 W2 u H2 .refl st2 rz⟩
    · rename_i n r e
      obtain ⟨a, us, l, rfl, h1, h2, h3⟩ := lst_bind st2 (rx.up t2.le) e
      exact ⟨a, n :: r, u, rfl, rfl, by rw [hk, ← asInts_ok h2 h3]; exact h1, q2 W2 _ H2 .refl st2 .int⟩
    · exact q2.elim⟩⟩⟩
end
end DL

set_option Elab.async false
set_option linter.all false
set_option maxRecDepth 100000
set_option autoImplicit false
namespace DL
open PySem PySem.Spec PyProof.Rows L2

/-! ### dicts -/
/-- a key: an int or a text; a tuple of such -/
def keyOf : D → Option Key
  | .int i => some (.inl i)
  | .str s => some (.inr s)
  | _ => none
def keyD : Key → D
  | .inl i => .int i
  | .inr s => .str s
def keysOf : List D → Option (List Key)
  | [] => some []
  | d :: r => match keyOf d, keysOf r with
    | some k, some ks => some (k :: ks)
    | _, _ => none
def lookD {κ : Type} [DecidableEq κ] (l : List (κ × D)) (k : κ) : Option D := (l.find? fun p => decide (p.1 = k)).map (·.2)
def putD {κ : Type} [DecidableEq κ] (l : List (κ × D)) (k : κ) (d : D) : List (κ × D) := if l.any (fun p => decide (p.1 = k)) then l.map fun p => if p.1 = k then (p.1, d) else p else l ++ [(k, d)]
def dropD {κ : Type} [DecidableEq κ] (l : List (κ × D)) (k : κ) : List (κ × D) := l.filter fun p => decide (p.1 ≠ k)
def RO (G : Glo) (W : Wd) : Option D → Option V → Prop
  | some d, some v => RepV G W d v
  | none, none => True
  | _, _ => False
section
variable {G : Glo} {W : Wd} {C : Cells} {H : Hp}
theorem keyOf_ok {d : D} {v : V} {k : Key} (r : RepV G W d v) (h : keyOf d = some k) : v = kV k := by
  cases d with
  | int i => cases h; exact r.int_
  | str s => cases h; exact r.str_
  | _ => cases h
theorem keyD_ok (k : Key) : RepV G W (keyD k) (kV k) := by
  cases k with
  | inl i => exact .int
  | inr s => exact .str
theorem keysOf_ok : ∀ {l : List D} {vs : List V} {ks : List Key}, RepVs G W l vs → keysOf l = some ks → vs = ks.map kV
  | [], _, _, r, h => by cases h; rw [r.nil_inv]; rfl
  | d :: l, _, ks, r, h => by
    obtain ⟨v, vr, rfl, h1, h2⟩ := r.cons_inv
    unfold keysOf at h
    split at h
    · rename_i k ks' e1 e2
      cases h
      rw [keyOf_ok h1 e1, keysOf_ok h2 e2]; rfl
    · cases h
variable {κ : Type} [DecidableEq κ]
theorem look_ok : ∀ {l : List (κ × D)} {m : List (κ × V)} (k : κ), RepKV G W l m → RO G W (lookD l k) (valV m k)
  | _, _, k, .nil => by simp [lookD, valV, RO]
  | _, _, k, .cons (a := p) (b := q) (l₁ := l) (l₂ := m) h t => by
    obtain ⟨e, r⟩ := h
    by_cases hk : p.1 = k
    · have h1 : lookD (p :: l) k = some p.2 := by simp [lookD, List.find?_cons, hk]
      have h2 : valV (q :: m) k = some q.2 := valV_pos (e ▸ hk)
      rw [h1, h2]; exact r
    · have h1 : lookD (p :: l) k = lookD l k := by simp [lookD, List.find?_cons, hk]
      have h2 : valV (q :: m) k = valV m k := valV_neg (e ▸ hk)
      rw [h1, h2]; exact look_ok k t
theorem look_some {l : List (κ × D)} {m : List (κ × V)} {k : κ} {d : D} (r : RepKV G W l m) (h : lookD l k = some d) : ∃ v, valV m k = some v ∧ RepV G W d v := by
  have q := look_ok k r
  rw [h] at q
  cases e : valV m k with
  | none => rw [e] at q; exact q.elim
  | some v => rw [e] at q; exact ⟨v, rfl, q⟩
theorem look_none {l : List (κ × D)} {m : List (κ × V)} {k : κ} (r : RepKV G W l m) (h : lookD l k = none) : valV m k = none := by
  have q := look_ok k r
  rw [h] at q
  cases e : valV m k with
  | none => rfl
  | some v => rw [e] at q; exact q.elim
theorem look_is {l : List (κ × D)} {m : List (κ × V)} {k : κ} (r : RepKV G W l m) : (valV m k).isSome = (lookD l k).isSome := by
  cases h : lookD l k with
  | none => rw [look_none r h]; rfl
  | some d => obtain ⟨v, e, _⟩ := look_some r h; rw [e]; rfl
theorem any_ok : ∀ {l : List (κ × D)} {m : List (κ × V)} (k : κ), RepKV G W l m → (m.any fun p => decide (p.1 = k)) = l.any fun p => decide (p.1 = k)
  | _, _, k, .nil => rfl
  | _, _, k, .cons h t => by rw [List.any_cons, List.any_cons, any_ok k t, h.1]
theorem repl_ok {d : D} {v : V} (r : RepV G W d v) : ∀ {l : List (κ × D)} {m : List (κ × V)} (k : κ), RepKV G W l m → RepKV G W (l.map fun p => if p.1 = k then (p.1, d) else p) (m.map fun p => if p.1 = k then (p.1, v) else p)
  | _, _, k, .nil => .nil
  | _, _, k, .cons (a := p) (b := q) h t => by
    have hd : (if p.1 = k then (p.1, d) else p).1 = (if q.1 = k then (q.1, v) else q).1 ∧ RepV G W (if p.1 = k then (p.1, d) else p).2 (if q.1 = k then (q.1, v) else q).2 := by
      by_cases hk : p.1 = k
      · rw [if_pos hk, if_pos (h.1 ▸ hk)]; exact ⟨h.1, r⟩
      · rw [if_neg hk, if_neg (h.1 ▸ hk)]; exact h
    exact .cons hd (repl_ok r k t)
theorem snoc_ok {d : D} {v : V} (r : RepV G W d v) : ∀ {l : List (κ × D)} {m : List (κ × V)} (k : κ), RepKV G W l m → RepKV G W (l ++ [(k, d)]) (m ++ [(k, v)])
  | _, _, k, .nil => .cons ⟨rfl, r⟩ .nil
  | _, _, k, .cons h t => .cons h (snoc_ok r k t)
theorem put_ok {l : List (κ × D)} {m : List (κ × V)} {d : D} {v : V} (k : κ) (h : RepKV G W l m) (r : RepV G W d v) : RepKV G W (putD l k d) (putK m k v) := by
  unfold putD putK
  rw [any_ok k h]
  split
  · exact repl_ok r k h
  · exact snoc_ok r k h
theorem drop_ok : ∀ {l : List (κ × D)} {m : List (κ × V)} (k : κ), RepKV G W l m → RepKV G W (dropD l k) (dropK m k)
  | _, _, k, .nil => .nil
  | _, _, k, .cons (a := p) (b := q) (l₁ := l) (l₂ := m) h t => by
    have ih := drop_ok k t
    unfold dropD dropK at ih ⊢
    rw [List.filter_cons, List.filter_cons]
    by_cases hk : p.1 = k
    · rw [if_neg (by simp [hk]), if_neg (by simp [h.1 ▸ hk])]; exact ih
    · rw [if_pos (by simp [hk]), if_pos (by simp [show ¬ q.1 = k from h.1 ▸ hk])]; exact .cons h ih
theorem keys_ok : ∀ {l : List (Key × D)} {m : List (Key × V)}, RepKV G W l m → RepVs G W (l.map fun p => keyD p.1) (m.map fun p => kV p.1)
  | _, _, .nil => .nil
  | _, _, .cons (a := p) (b := q) h t => .cons (show RepV G W (keyD p.1) (kV q.1) by rw [← h.1]; exact keyD_ok _) (keys_ok t)
end
/-- what a dict (a cell) tells of a key; none: no dict, no key -/
def dGetK (C : Cells) (x y : D) : Option (Option D) := match x with
  | .cel n => (match C.get n with
    | some (.dk l) => (keyOf y).map fun k => lookD l k
    | some (.dt l) => (match y with | .tup ks => (keysOf ks).map fun k => lookD l k | _ => none)
    | _ => none)
  | _ => none
def dPutK (C : Cells) (x y d : D) : Option Cells := match x with
  | .cel n => (match C.get n with
    | some (.dk l) => (match keyOf y with | some k => if l.length < mxl then some (C.set n (.dk (putD l k d))) else none | none => none)
    | some (.dt l) => (match y with | .tup ks => (match keysOf ks with | some k => if l.length < mxl then some (C.set n (.dt (putD l k d))) else none | none => none) | _ => none)
    | _ => none)
  | _ => none
section
variable {X : Cx} {G : Glo} {Wx : WX} {W : Wd} {C : Cells} {H : Hp}
theorem dGetK_ok {x y : D} {v u : V} {r : Option D} (st : StR G W C H) (rx : RepV G W x v) (ry : RepV G W y u) (h : dGetK C x y = some r) :
    ∃ a o, v = .ref a ∧ DGet H a u o ∧ RO G W r o := by
  cases x with
  | cel n =>
    obtain ⟨a, rfl, ha⟩ := rx.cel_
    simp only [dGetK] at h
    cases e : C.get n with
    | none => rw [e] at h; cases h
    | some ob =>
      rw [e] at h
      obtain ⟨b, ho, h1, h2, h3, h4⟩ := st.cells n _ e
      rw [ha] at h1; cases h1
      cases ob with
      | dk l =>
        obtain ⟨m, rfl, h4⟩ := h4
        simp only at h
        cases ek : keyOf y with
        | none => rw [ek] at h; cases h
        | some k =>
          rw [ek] at h; cases h
          rw [keyOf_ok ry ek]
          exact ⟨a, valV m k, rfl, DGet.k h3, look_ok k h4⟩
      | dt l =>
        obtain ⟨m, rfl, h4⟩ := h4
        simp only at h
        cases y with
        | tup ks =>
          simp only at h
          cases ek : keysOf ks with
          | none => rw [ek] at h; cases h
          | some k =>
            rw [ek] at h; cases h
            obtain ⟨c, vs, rfl, s, q⟩ := ry.tup_
            rw [keysOf_ok q ek] at s
            exact ⟨a, valV m k, rfl, DGet.t h3 (st.F _ _ s), look_ok k h4⟩
        | _ => cases h
      | _ => cases h
  | _ => cases h
theorem dPutK_ok {x y d : D} {v u w : V} {C' : Cells} (st : StR G W C H) (rx : RepV G W x v) (ry : RepV G W y u) (rd : RepV G W d w) (h : dPutK C x y d = some C') :
    ∃ a H', v = .ref a ∧ DPut H a u w H' ∧ StR G W C' H' ∧ Step W C H W C' H' := by
  cases x with
  | cel n =>
    obtain ⟨a, rfl, ha⟩ := rx.cel_
    simp only [dPutK] at h
    cases e : C.get n with
    | none => rw [e] at h; cases h
    | some ob =>
      rw [e] at h
      obtain ⟨b, ho, h1, h2, h3, h4⟩ := st.cells n _ e
      rw [ha] at h1; cases h1
      cases ob with
      | dk l =>
        obtain ⟨m, rfl, h4⟩ := h4
        simp only at h
        cases ek : keyOf y with
        | none => rw [ek] at h; cases h
        | some k =>
          simp only [ek] at h
          split at h
          · rename_i hz
            cases h
            rw [keyOf_ok ry ek]
            obtain ⟨s1, s2⟩ := fr_set (o := .dk (putD l k d)) (ho := .dK (putK m k w)) st e ha ⟨_, rfl, put_ok k h4 rd⟩
            exact ⟨a, _, rfl, DPut.k h3 (by rw [← Paired.len' h4, ← mxl_eq]; exact hz), s1, s2⟩
          · cases h
      | dt l =>
        obtain ⟨m, rfl, h4⟩ := h4
        simp only at h
        cases y with
        | tup ks =>
          simp only at h
          cases ek : keysOf ks with
          | none => rw [ek] at h; cases h
          | some k =>
            simp only [ek] at h
            split at h
            · rename_i hz
              cases h
              obtain ⟨c, vs, rfl, s, q⟩ := ry.tup_
              rw [keysOf_ok q ek] at s
              obtain ⟨s1, s2⟩ := fr_set (o := .dt (putD l k d)) (ho := .dT (putK m k w)) st e ha ⟨_, rfl, put_ok k h4 rd⟩
              exact ⟨a, _, rfl, DPut.t h3 (st.F _ _ s) (by rw [← Paired.len' h4, ← mxl_eq]; exact hz), s1, s2⟩
            · cases h
        | _ => cases h
      | _ => cases h
  | _ => cases h
/-- {} -/
def eNewK : EF := fun _ C => .ok (.cel C.nx) (C.new (.dk []))
def eNewT : EF := fun _ C => .ok (.cel C.nx) (C.new (.dt []))
variable {a b e o i value : Expr} {es : List Expr} {f fa fb fo fi fv fd : EF} {af : AF} {x m : Str} {p pos pos' p2 apos cpos : Pos}
theorem de_newK : DE X G Wx (.Dict [] [] pos) eNewK := de_weak pe_dnewK fun σ H Q ⟨W, sl, C, rs, st, q⟩ => fun p hp => by
  obtain ⟨s1, s2⟩ := fr_new (o := .dk []) (ho := .dK []) st hp ⟨[], rfl, .nil⟩
  exact q _ _ _ s2 s1 (.cel (if_pos rfl))
theorem de_newT : DE X G Wx (.Dict [] [] pos) eNewT := de_weak pe_dnewT fun σ H Q ⟨W, sl, C, rs, st, q⟩ => fun p hp => by
  obtain ⟨s1, s2⟩ := fr_new (o := .dt []) (ho := .dT []) st hp ⟨[], rfl, .nil⟩
  exact q _ _ _ s2 s1 (.cel (if_pos rfl))
/-- d[k] -/
def dGetF (x y : D) (C : Cells) : Res D := match dGetK C x y with
  | some (some d) => .ok d C
  | _ => .no
theorem de_dget (hu : X.A.units + 64 < cLine) (ho : DE X G Wx o fo) (hi : DE X G Wx i fi) (hs : NoSl i := by intro _ _; rfl) : DE X G Wx (.Subscript o i pos) (e2 dGetF fo fi) :=
  ⟨PE.weak (pe_dget (by omega) ho.pe hi.pe hs) fun σ H Q ⟨W, sl, C, rs, st, q⟩ => ⟨W, sl, C, rs, st, q.bind fun x C1 W1 v H1 _ t st1 rx q1 => ⟨W1, sl, C1, rs.up t.le, st1, q1.bind fun y C2 W2 u H2 _ t2 st2 ry q2 => by
    unfold dGetF at q2
    split at q2
    · rename_i d ed
      obtain ⟨a, o, rfl, g, h⟩ := dGetK_ok st2 (rx.up t2.le) ry ed
      cases o with
      | none => exact h.elim
      | some w => exact ⟨a, w, rfl, g, q2 W2 w H2 .refl st2 h⟩
    · exact q2.elim⟩⟩⟩
/-- k in d, k not in d -/
def dInD (neg : Bool) (y x : D) (C : Cells) : Res D := match dGetK C x y with
  | some r => .ok (.bl (if neg then !r.isSome else r.isSome)) C
  | none => .no
theorem dInD_ok {σ : L2.St} {Q : VK} {neg : Bool} {x y : D} {v u : V} (st : StR G W C H) (rx : RepV G W x v) (ry : RepV G W y u) (q : Post G Wx σ (RepV G) W C H (dInD neg y x C) Q) : ∃ a o, v = .ref a ∧ DGet H a u o ∧ Q (.bl (if neg then !o.isSome else o.isSome)) H := by
  unfold dInD at q
  split at q
  · rename_i r er
    obtain ⟨a, o, rfl, g, h⟩ := dGetK_ok st rx ry er
    have e : o.isSome = r.isSome := by
      cases r with
      | none => cases o with
        | none => rfl
        | some w => exact h.elim
      | some d => cases o with
        | none => exact h.elim
        | some w => rfl
    exact ⟨a, o, rfl, g, by rw [e]; exact q W _ H .refl st .bl⟩
  · exact q.elim
theorem in_use {neg : Bool} {t : TE} (ht : t = (if neg then tDNotIn (tD G Wx fi) (tD G Wx fo) else tDIn (tD G Wx fi) (tD G Wx fo))) {σ : L2.St} {H : Hp} {Q : VK} (h : tD G Wx (e2 (dInD neg) fi fo) σ H Q) : t σ H Q := by
  obtain ⟨W, sl, C, rs, st, q⟩ := h
  subst ht
  cases neg with
  | false => exact ⟨W, sl, C, rs, st, q.bind fun y C1 W1 u H1 _ t st1 ry q1 => ⟨W1, sl, C1, rs.up t.le, st1, q1.bind fun x C2 W2 v H2 _ t2 st2 rx q2 => dInD_ok st2 rx (ry.up t2.le) q2⟩⟩
  | true => exact ⟨W, sl, C, rs, st, q.bind fun y C1 W1 u H1 _ t st1 ry q1 => ⟨W1, sl, C1, rs.up t.le, st1, q1.bind fun x C2 W2 v H2 _ t2 st2 rx q2 => dInD_ok st2 rx (ry.up t2.le) q2⟩⟩
theorem de_din (hu : X.A.units + 64 < cLine) (hi : DE X G Wx i fi) (ho : DE X G Wx o fo) (hm : behindInMarks .In o = false := by rfl) : DE X G Wx (.Compare i [.In] [o] pos) (e2 (dInD false) fi fo) := de_weak (pe_cmp (pc_din (by omega) hi.pe ho.pe) hm) fun σ H Q h => in_use (neg := false) rfl h
theorem de_dnin (hu : X.A.units + 64 < cLine) (hi : DE X G Wx i fi) (ho : DE X G Wx o fo) (hm : behindInMarks .NotIn o = false := by rfl) : DE X G Wx (.Compare i [.NotIn] [o] pos) (e2 (dInD true) fi fo) := de_weak (pe_cmp (pc_dnotin (by omega) hi.pe ho.pe) hm) fun σ H Q h => in_use (neg := true) rfl h
theorem dt_din (hu : X.A.units + 64 < cLine) (hi : DE X G Wx i fi) (ho : DE X G Wx o fo) (hm : behindInMarks .In o = false := by rfl) : DT X G Wx (.Compare i [.In] [o] pos) (asB (e2 (dInD false) fi fo)) := ⟨PT.weak (pt_cmp (pc_din (by omega) hi.pe ho.pe) hm) fun σ H Q ⟨W, sl, C, rs, st, q⟩ => in_use (neg := false) rfl ⟨W, sl, C, rs, st, asB_use q⟩⟩
theorem dt_dnin (hu : X.A.units + 64 < cLine) (hi : DE X G Wx i fi) (ho : DE X G Wx o fo) (hm : behindInMarks .NotIn o = false := by rfl) : DT X G Wx (.Compare i [.NotIn] [o] pos) (asB (e2 (dInD true) fi fo)) := ⟨PT.weak (pt_cmp (pc_dnotin (by omega) hi.pe ho.pe) hm) fun σ H Q ⟨W, sl, C, rs, st, q⟩ => in_use (neg := true) rfl ⟨W, sl, C, rs, st, asB_use q⟩⟩
/-- d[k] = v: the value first -/
def sDPutF (fo fi fv : EF) : SF := fun s C => (fv s C).toS s fun d C => (fo s C).toS s fun x C => (fi s C).toS s fun y C => match dPutK C x y d with | some C => .nxt s C | none => .no
theorem ds_dput (hu : X.A.units + 64 < cLine) (ho : DE X G Wx o fo) (hi : DE X G Wx i fi) (hv : DE X G Wx value fv) (hs : swapsWith value (some (.Subscript o i pos')) pos.line X.env = pure false := by rfl) : DS X G Wx (.Assign [.Subscript o i pos'] value pos) (sDPutF fo fi fv) :=
  ⟨PS.weak (ps_dput (by omega) ho.pe hi.pe hv.pe hs) fun Dn σ H ⟨W, sl, C, rs, st, q⟩ => ⟨W, sl, C, rs, st, SPost.toS rs q fun d C1 W1 v H1 t1 st1 rd q1 => ⟨W1, sl, C1, rs.up t1.le, st1, SPost.toS (rs.up t1.le) q1 fun x C2 W2 u H2 t2 st2 rx q2 => ⟨W2, sl, C2, rs.up (t1.trans t2).le, st2, SPost.toS (rs.up (t1.trans t2).le) q2 fun y C3 W3 w H3 t3 st3 ry q3 => by
    split at q3
    · rename_i C4 ec
      obtain ⟨a, H4, rfl, g, s1, s2⟩ := dPutK_ok st3 (rx.up t3.le) ry (rd.up (t2.trans t3).le) ec
      exact ⟨a, H4, rfl, g, q3 W3 σ H4 s2 s1 (rs.up (((t1.trans t2).trans t3).trans s2).le)⟩
    · exact q3.elim⟩⟩⟩⟩
/-- list(d): the items, the keys -/
def bListK (xs : List D) (C : Cells) : Res D := match xs with
  | [d] => (match seqOf C d with
    | some l => .ok (.lst l) C
    | none => (match d with
      | .cel n => (match C.get n with | some (.dk l) => .ok (.lst (l.map fun p => keyD p.1)) C | _ => .no)
      | _ => .no))
  | _ => .no
def rListK (K : PySem.W.Frag) : List V → Hp → VK → Prop := fun xs H Q => (∃ p ys, xs = [.ref p] ∧ (SqL K H p ys ∨ SqT K H p ys) ∧ ∀ l, H l = none → Q (.ref l) (upd H l (.lst ys))) ∨ rListD xs H Q
theorem call_listK {X : Cx} (hc : X.calm = true) : CallR X (.type "list") (rListK X.K) := CallR.or call_list_of (call_list_dK hc)
theorem oa_listK : OpA G (rListK G.K) bListK := fun Wx σ W C H xs vs Q st rx q => by
  unfold bListK at q
  split at q
  · split at q
    · rename_i d l e
      exact .inl (oa_list Wx σ W C H _ vs Q st rx (by unfold bList; simp only [e]; exact q))
    · split at q
      · rename_i n _
        obtain ⟨v, rfl, r⟩ := rx.one
        split at q
        · rename_i l e
          obtain ⟨a, rfl, ha⟩ := r.cel_
          obtain ⟨b, ho, h1, h2, h3, m, rfl, h4⟩ := st.cells n _ e
          rw [ha] at h1; cases h1
          exact .inr ⟨a, m, rfl, h3, new_lst st (keys_ok h4) q⟩
        · exact q.elim
      · exact q.elim
  · exact q.elim
/-- a new list by + as a cell -/
def dCatC (x y : D) (C : Cells) : Res D := match trkOf C x, trkOf C y with
  | some a, some b => if a.length + b.length ≤ mxl then newL (a ++ b) C else .no
  | _, _ => .no
theorem o2_catC : Op2 G rCat dCatC := fun Wx σ W C H x y v u Q st rx ry q => by
  unfold dCatC at q
  split at q
  · rename_i a b e1 e2
    split at q
    · rename_i hz
      obtain ⟨p1, vs, rfl, h1, r1⟩ := trkOf_ok st rx e1
      obtain ⟨p2, us, rfl, h2, r2⟩ := trkOf_ok st ry e2
      refine ⟨p1, p2, vs, us, rfl, rfl, h1, h2, ?_, new_cel st (r1.append r2) q⟩
      rw [← r1.length, ← r2.length, ← mxl_eq]; exact hz
    · exact q.elim
  · exact q.elim
end
/-! ### the law's own promise -/
def spLaw (K : PySem.W.Frag) (tb : List (Addr × Str) := []) : Sp := fun vs H Q _ => ∃ (a : Addr) (ns : List Int), vs = [.ref a] ∧ SqL K H a (ns.map V.int) ∧ ns.length ≤ 63 ∧ (∀ p ∈ tb, H p.1 = some (.tbl #[])) ∧ ∀ H', Q (.bl true) H'
def C0 : Cells := ⟨0, fun _ => none, fun _ _ => rfl⟩
def Wd0 : Wd := ⟨fun _ => none, fun _ => none⟩
/-- all of a heap but the tables -/
def noTbl (H : Hp) : Hp := fun a => match H a with | some (.tbl _) => none | x => x
theorem noTbl_of {H : Hp} {a : Addr} {o : HO} (h : H a = some o) (ho : ∀ ps, o ≠ .tbl ps) : noTbl H a = some o := by
  unfold noTbl; rw [h]
  cases o with
  | tbl ps => exact absurd rfl (ho ps)
  | _ => rfl
theorem of_noTbl {H : Hp} {a : Addr} {o : HO} (h : noTbl H a = some o) : H a = some o := by
  unfold noTbl at h
  split at h
  · cases h
  · exact h
theorem law_sp {G : Glo} {F : Fn} (hW : G.W0 = Wd0) (h : ∀ ns : List Int, ns.length ≤ 63 → ∃ C', F [.scr (ns.map D.int)] C0 = .ok (.bl true) C') {vs : List V} {H : Hp} {Q : VK} {E : XK} (s : spLaw G.K G.tb vs H Q E) : spD G 1 F vs H Q E := by
  obtain ⟨a, ns, rfl, hS, hl, ht, k⟩ := s
  obtain ⟨C', e⟩ := h ns hl
  have hS' : SqL G.K (noTbl H) a (ns.map V.int) := by
    rcases hS with (h | ⟨o, h⟩) | h
    · exact .inl (.inl (noTbl_of h fun _ z => (nomatch z)))
    · exact .inl (.inr ⟨o, noTbl_of h fun _ z => (nomatch z)⟩)
    · exact .inr h
  refine ⟨rfl, ⟨noTbl H, fun _ => none⟩, [.scr (ns.map D.int)], C0, .cons (.scr hS' (ints_rep ns)) .nil, ⟨?_, ⟨fun a ps z => ?_, fun p hp => ?_⟩, fun _ _ q => of_noTbl q, (fun n o q => nomatch (show (none : Option O) = some o from q)), (fun n m a o o' q => nomatch (show (none : Option O) = some o from q)), fun _ _ => rfl⟩, ?_⟩
  · rw [hW]; exact ⟨fun _ _ q => (nomatch (show (none : Option HO) = some _ from q)), fun _ _ q => (nomatch (show (none : Option Addr) = some _ from q))⟩
  · have z' : noTbl H a = some (.tbl ps) := z
    unfold noTbl at z'
    split at z'
    · cases z'
    · rename_i h; exact h ps z'
  · refine ⟨#[], ht p hp, trivial, fun pos cv hc => ?_⟩
    have z : codeAmong pos [] = some cv := hc
    simp [codeAmong] at z
  rw [e]
  intro W' v H' t st r
  rw [r.bl_]; exact k H'
theorem law_fn {G : Glo} {P : Program} {w : World} {mg : Str → Option Value} {base : Heap} {k : Nat} {f : Addr} {fd : FuncData} {ps : List Str} {F : Fn} (ok : FnOk P w G.K mg base (L2.CX P w) k f fd ps (spD G 1 F)) (hW : G.W0 = Wd0)
    (h : ∀ ns : List Int, ns.length ≤ 63 → ∃ C', F [.scr (ns.map D.int)] C0 = .ok (.bl true) C') : FnOk P w G.K mg base (L2.CX P w) k f fd ps (spLaw G.K G.tb) := ok.imp fun vs H Q E s => law_sp hW h s
theorem cx_none {P : Program} {w : World} {H : Hp} {s : Shared} {e : Value} {s' : Shared} (h : L2.CX P w [] H s (fun _ _ _ => False) e s') : False := by
  obtain ⟨_, _, _, _, _, _, _, _, _, _, _, _, z⟩ := h
  exact z
/-- the goal that the head leaves, from the law's worth on data -/
theorem law_walk {l : PySem.W.OpenLaw} {q : Program} {loose : List Str} {XP : (Str → Option Value) → Heap → Prop} {YP : World → Heap → Prop} {d : DefRec} {K : Params → PySem.W.Frag} {k : Nat} {x : Str} (hn : l.most = some 63) (hdf : d.params.defaults = []) (hr : Room k callerA)
    (hY : ∀ (w : World) (h : Heap), YP w h → (K w.params).In h)
    (F : ∀ (w : World) (mg : Str → Option Value) (fa : Addr) (h : Heap), (K w.params).In h → h.Ns mainGlobals mg → mg d.name = some (.ref fa) →
      ∃ fd : FuncData, (∀ (s : Shared) (u : Value), BindsTo s fd ⟨[u], []⟩ [(x, u)]) ∧ ∀ base : Heap, (K w.params).In base → base.Ns mainGlobals mg → FnOk l.prog w (K w.params) mg base (L2.CX l.prog w) k fa fd [x] (spLaw (K w.params))) :
    PySem.W.WalkO q loose XP YP l.row.toRowW d [] (fun f vs => PySem.call f vs) :=
  L2.walk_of (n := 63) (k := k) (x := x) (CX := fun w => L2.CX l.prog w) (sp := fun w => spLaw (K w.params)) hn (by decide) hdf hr hY F (fun _ _ a ns hl _ hS => ⟨a, ns, rfl, hS, hl, fun p hp => (nomatch hp), fun _ => rfl⟩) fun _ _ _ _ _ z => cx_none z
/-- a def as the head tells of it -/
def DefF (K : PySem.W.Frag) (mg : Str → Option Value) (x : Str) (st : Stmt) : Prop := ∃ f fd, Fun K x x st f fd ∧ mg x = some (.ref f)
theorem def_mk {K : PySem.W.Frag} {h : Heap} {mg : Str → Option Value} {x : Str} {st : Stmt} {f : Addr} {oc : Value} {od an : Option Addr} {osl : Array (Option Value)} {kV doc pm cdv ct : Value} (X : K.In h) (G : h.Ns mainGlobals mg) (a : PySem.W.nsIn K mainGlobals x = some (some (.ref f)))
    (l : K.lookup f = some ⟨oc, od, .func (PySem.W.fnOf x x (defArgs st) (defBody st) (defScope st) .none kV doc pm an cdv ct), osl⟩) (c : PySem.W.codeIn K cdv x = true) (k : PySem.W.keepIn K (.ref f) = true) : DefF K mg x st :=
  ⟨f, _, fun_mk l c k, PySem.W.mg_of X G a⟩
end DL

set_option Elab.async false
set_option linter.all false
set_option maxRecDepth 100000
set_option autoImplicit false
namespace DL
open PySem PySem.Spec PyProof.Rows L2
section
variable {X : Cx} {G : Glo} {Wx : WX}
/-! ### what is never reached -/
def sNo : SF := fun _ _ => .no
def eNo : EF := fun _ _ => .no
theorem ds_dead {st : Stmt} : DS X G Wx st sNo := ⟨⟨fun _ _ _ _ _ _ h => by obtain ⟨W, sl, C, _, _, q⟩ := h; exact q.elim⟩⟩
theorem de_dead {e : Expr} : DE X G Wx e eNo := ⟨⟨fun _ _ _ _ _ _ h => by obtain ⟨W, sl, C, _, _, q⟩ := h; exact q.elim⟩⟩
/-! ### a text walked sign by sign -/
def iSt (f : EF) : IF := fun s C => (f s C).bind fun d C => match d with | .str z => .ok (z.cps.toList.map fun c => D.str ⟨#[c]⟩) C | _ => .no
theorem wlk_str {W : Wd} {C : Cells} {H : Hp} {z : Str} : Wlk G (Its z) W C H (z.cps.toList.map fun c => D.str ⟨#[c]⟩) where
  item := fun i d e W' C' H' t st => by
    rw [List.getElem?_map, Array.getElem?_toList] at e
    cases hz : z.cps[i]? with
    | none => rw [hz] at e; cases e
    | some c =>
      rw [hz] at e
      cases e
      have hi : i < z.cps.size := by
        by_cases q : i < z.cps.size
        · exact q
        · rw [Array.getElem?_eq_none (by omega)] at hz; cases hz
      refine ⟨hi, fun x H2 y => ?_⟩
      obtain ⟨rfl, c', h1, rfl⟩ := y
      rw [hz] at h1; cases h1
      exact ⟨W', .refl, st, .str⟩
  stop := fun W' C' H' t st => by
    show z.cps.size ≤ _
    simp
theorem io_str (fo : EF) : IOk G Wx (iStr (tD G Wx fo)) (iSt fo) := fun σ H R W sl C rs st q => ⟨W, sl, C, rs, st, q.bind fun d C1 W1 v H1 t st1 rr q1 => by
  split at q1
  · exact ⟨_, rr.str_, q1 W1 _ H1 .refl st1 wlk_str⟩
  · exact q1.elim⟩
end
/-! ### a method called through its class -/
section
variable {prog : Program} {w : World} {A : Around} {E : Value → Shared → Prop} {s : Shared} {K : PySem.W.Frag} {m : Str → Option Value}
theorem method_ofcls {h₀ : Heap} {L : Addr} {name : Str} {C : Addr} {v : Value} {pl : Sem Bool} {Q : Value × List Value → Shared → Prop} (F : Fr h₀ L s.heap m) (X₀ : K.In h₀) (hr : PySem.W.readsIn K C (.type "type") = true)
    (e : PySem.W.findCls K (.ref C) (.type "type") name = some (.val v)) (hh : PySem.W.handedIn v = true) (h : Q (v, []) { s with toks := s.toks + 1 }) : wpAny (model prog w) A (getMethod (.ref C) name pl) Q E s := by
  have X := X₀.keeps F.keep
  have hr' := hr
  simp only [PySem.W.readsIn, Bool.and_eq_true, beq_iff_eq] at hr'
  obtain ⟨⟨⟨⟨a, b⟩, c'⟩, d⟩, f⟩ := hr'
  unfold getMethod specialOf
  refine wpAny_bind (wpAny_bind ((PySem.W.looks_typeIn X b).here ((PySem.W.looks_findIn X c').here ?_)))
  dsimp only
  rw [if_pos PySem.W.canon_tga]
  refine wpAny_bind (wpAny_mono (Q := fun v => Q (v, [])) (E := E) ?_ (fun _ _ z => wpAny_pure z) fun _ _ z => z)
  exact PySem.W.cls_value X hr e hh h
end
structure ClsOk (P : Program) (w : World) (G : Glo) (mg : Str → Option Value) (base : Heap) (k : Nat) (x m : Str) (np : Nat) (F : Fn) : Prop where
  ar : Arity F np
  ex : ∃ C f fd ps, ps.length = np ∧ FnOk P w G.K mg base (L2.CX P w) k f fd ps (spD G np F) ∧ mg x = some (.ref C) ∧ PySem.W.readsIn G.K C (.type "type") = true ∧ PySem.W.findCls G.K (.ref C) (.type "type") m = some (.val (.ref f)) ∧ PySem.W.keepIn G.K (.ref f) = true ∧ Binds G.K fd ps []
section
variable {X : Cx} {G : Glo} {Wx : WX} {x m : Str} {k np : Nat} {F : Fn} {e : Expr} {es : List Expr} {af : AF} {p apos pos : Pos}
theorem de_clsm {pl : Sem Bool} (hk : X.K = G.K) (cl : ClsOk X.prog X.w G X.mg X.base k x m np F) (hr : Room k X.A) (hg : Gl X x) (tk : Takes X Wx) (ha : DA X G Wx (e :: es) af) (hdb : (x == ("__debug__" : Str)) = false := by decide)
    (hst : starEach (e :: es) X.env = (false, eval e X.env) :: starEach es X.env := by rfl) (hpl : (backTo pos (starEach es X.env)).any (·.1) = false := by rfl)
    (ht : eval (.Call (.Attribute (.Name x p) m apos) (e :: es) [] pos) X.env = (do
      let ov ← eval (.Name x p) X.env
      standAt apos.atName
      let (f, first) ← holding [ov] (getMethod ov m pl)
      callWith pos f first (backTo pos (starEach (e :: es) X.env)) (backToKw pos (keywordEach [] X.env))) := by rfl) : DE X G Wx (.Call (.Attribute (.Name x p) m apos) (e :: es) [] pos) (eCall F [] af) := by
  obtain ⟨ar, C, f, fd, ps, hp, ok, hm, rd, fc, kp, hb⟩ := cl
  rw [← hk] at ok rd fc kp hb
  refine ⟨PE.weak (t := fun σ H Q => tAr G Wx af σ H fun vs H1 => spD G np F vs H1 Q (fun c d H => Wx c d σ H)) ⟨fun pins s σ H Q I h => ?_⟩ fun σ H Q ⟨W, sl, C, rs, st, q⟩ => ⟨W, sl, C, rs, st, q.bind fun xs C1 W1 vs H1 _ t st1 rx q1 => ?_⟩⟩
  · refine PySem.W.methodCall_KW (pl := pl) (ld_glob I hg hm ?_ hdb) ht
    obtain ⟨mm, fr⟩ := I.fr
    refine method_ofcls fr I.ok.mod.kin rd fc (by rfl) ?_
    refine PySem.W.callWith_K (first := []) (h₀ := X.base) I.ok.mod.kin kp (thn (ha.pa.run pos pins _ σ H _ (I.tok _) h) fun us s2 h2 => ?_) hst hpl
    obtain ⟨vs, H2, I2, r, q2⟩ := h2
    refine ⟨I2.kIn, run_fnSD (dvs := []) (E := fun σ c d H => Wx c d σ H) ok hr hb .nil (passAt tk σ) I2 r ?_⟩
    rw [List.append_nil]; exact q2
  · refine spD_of ar ?_ st1 q1
    rw [List.append_nil]; exact rx
end
end DL

set_option Elab.async false
set_option linter.all false
set_option maxRecDepth 100000
set_option autoImplicit false
namespace DL
open PySem PySem.Spec PyProof.Rows L2
section
variable {G : Glo} {P : Program} {w : World} {mg : Str → Option Value} {base : Heap}
/-- a def with defaults -/
theorem fun_okD {x qual : Str} {st : Stmt} {f : Addr} {fd : FuncData} {N ps : List Str} {dvs : List V} {k n np : Nat} {g : SF} (F : FunD G.K x qual (defArgs st) (defBody st) (defScope st) dvs [] f fd) (S : FnScope N ps (defScope st)) (hn : N.length = n) (hp : ps.length = np)
    (hbody : ∀ (cdv : Value) (A : Around) (outer : List Env) (s : Shared) (H : Hp) (E : XK), Room k (A.deeper (envOfC qual (defScope st) s.heap.objs.size f cdv)) →
      DSs (cxOf (L2.CX P w) P w G.K mg base N qual (defScope st) f cdv A outer s H E) G (fun c d _ H => E c d H) (defBody st) g) :
    FnOk P w G.K mg base (L2.CX P w) (k + 1) f fd ps (spD G np (callF n np g)) := by
  refine FunD.ok F S (fun vs H Q E h => h.1.trans hp.symm) fun cdv A outer s H vs Q E hr h => ⟨_, (hbody cdv A outer s H E hr).ps, ?_⟩
  obtain ⟨hl, W, ds, C, rv, st, q⟩ := h
  refine ⟨W, _, C, RepS.start (N := N) rv, st, ?_⟩
  unfold callF at q
  rw [if_pos (rv.length.trans hl), ← hn] at q
  cases e : g (ds.map some ++ List.replicate (N.length - ds.length) none) C with
  | nxt s' C' => rw [e] at q; exact fun W' σ' H' t st' r => q W' .non H' t st' .non
  | ret d C' => rw [e] at q; exact fun W' v H' t st' r => q W' v H' t st' r
  | brk s' C' => rw [e] at q; exact q.elim
  | cnt s' C' => rw [e] at q; exact q.elim
  | err c s' C' => rw [e] at q; exact fun W' σ' H' t st' r => q W' H' t st'
  | no => rw [e] at q; exact q.elim
end
theorem fund_mk {K : PySem.W.Frag} {x qual : Str} {st : Stmt} {f T : Addr} {oc oc' : Value} {od od' an : Option Addr} {osl osl' : Array (Option Value)} {kV doc pm cdv ct : Value} {n : Nat} {dvs : List V} {its : List Value}
    (l : K.lookup f = some ⟨oc, od, .func (PySem.W.fnOf x qual (defArgs st) (defBody st) (defScope st) (.ref T) kV doc pm an cdv ct), osl⟩) (c : PySem.W.codeIn K cdv qual = true) (k : PySem.W.keepIn K (.ref f) = true)
    (lT : K.lookup T = some ⟨oc', od', .seq its.toArray n, osl'⟩) (r : Vals dvs its) (hd : dvs ≠ []) : FunD K x qual (defArgs st) (defBody st) (defScope st) dvs [] f (PySem.W.fnOf x qual (defArgs st) (defBody st) (defScope st) (.ref T) kV doc pm an cdv ct) :=
  ⟨⟨oc, od, .ref T, kV, doc, pm, an, cdv, ct, osl, rfl, l, c, .inr ⟨hd, T, _, its, n, rfl, lT, rfl, r⟩, .inl rfl⟩, k⟩
/-- no field of that name -/
theorem flds_none {T : Tab} {c : Nat} {m : Str} (h : m ∉ (T.fl c).map T.nm) : ∀ vs : List V, (flds T c vs).lookup m = none := fun vs => by
  unfold flds
  generalize (T.fl c).map T.nm = ns at h
  induction ns generalizing vs with
  | nil => rfl
  | cons a r ih =>
    cases vs with
    | nil => rfl
    | cons v vr =>
      rw [List.zip_cons_cons, List.lookup_cons]
      have : (m == a) = false := by
        rw [beq_eq_false_iff_ne]; intro e; exact h (by simp [e])
      rw [this]
      exact ih vr fun z => h (by simp [z])
/-- tables of functions by the class: Cls and the rest -/
theorem meth_ok {P : Program} {w : World} {G : Glo} {mg : Str → Option Value} {base : Heap} {k : Nat} {m : Str} {c np : Nat} {F : Fn} {f : Addr} {fd : FuncData} {ps : List Str} (cf : CF G) (hc : c < G.T.ncl) (hn : m ∉ (G.T.fl c).map G.T.nm) (ar : Arity F np) (hp : ps.length = np)
    (ok : FnOk P w G.K mg base (L2.CX P w) k f fd ps (spD G np F)) (me : Meth G.K (G.cls c) m f) (hb : Binds G.K fd ps []) :
    Arity F np ∧ Cls G.K (G.cls c) ∧ (∀ vs, (flds G.T c vs).lookup m = none) ∧ ∃ f fd ps, ps.length = np ∧ FnOk P w G.K mg base (L2.CX P w) k f fd ps (spD G np F) ∧ Meth G.K (G.cls c) m f ∧ Binds G.K fd ps [] :=
  ⟨ar, (cf.cls c hc).cl, flds_none hn, f, fd, ps, hp, ok, me, hb⟩
/-- a constant of the module -/
theorem de_kon {X : Cx} {G : Glo} {Wx : WX} {x : Str} {v : V} {d : D} {pos : Pos} (hg : Gl X x) (h : ∃ u, X.mg x = some u ∧ RelV v u) (rd : ∀ W, RepV G W d v) (hd : (x == ("__debug__" : Str)) = false := by decide) : DE X G Wx (.Name x pos) (eC d) := by
  obtain ⟨u, h1, h2⟩ := h
  exact de_glob hg h1 h2 rd hd
end DL

set_option Elab.async false
set_option linter.all false
set_option maxRecDepth 100000
set_option autoImplicit false
namespace DL
open PySem PySem.Spec PyProof.Rows L2
open Classical
/-! ### loops over what may change: at each turn what is walked still stands -/
abbrev IK := Sl → Cells → Res (List D × (Cells → Prop))
structure WlkK (G : Glo) (J : It) (W : Wd) (C : Cells) (H : Hp) (ds : List D) (kp : Cells → Prop) : Prop where
  item : ∀ (i : Nat) (d : D), ds[i]? = some d → ∀ W' C' H', Step W C H W' C' H' → StR G W' C' H' → kp C' → J.go i H' ∧ ∀ x H2, J.yld i H' x H2 → ∃ W2, Step W' C' H' W2 C' H2 ∧ StR G W2 C' H2 ∧ RepV G W2 d x
  stop : ∀ W' C' H', Step W C H W' C' H' → StR G W' C' H' → kp C' → J.stop ds.length H'
def IPostK (G : Glo) (Wx : WX) (σ : L2.St) (W : Wd) (C : Cells) (H : Hp) (r : Res (List D × (Cells → Prop))) (R : It → Hp → Prop) : Prop :=
  match r with
  | .ok p C' => ∀ W' J H', Step W C H W' C' H' → StR G W' C' H' → WlkK G J W' C' H' p.1 p.2 → R J H'
  | .err c C' => ∀ W' H', Step W C H W' C' H' → StR G W' C' H' → Wx (.ref (G.cls c)) none σ H'
  | .no => False
def IOkK (G : Glo) (Wx : WX) (wi : TI) (f : IK) : Prop := ∀ (σ : L2.St) (H : Hp) (R : It → Hp → Prop) (W : Wd) (sl : Sl) (C : Cells), RepS G W sl σ → StR G W C H → IPostK G Wx σ W C H (f sl C) R → wi σ H R
def celK (d : D) (C : Cells) : Res (List D × (Cells → Prop)) := match d with
  | .cel n => (match C.get n with | some (.lst l) => .ok (l, fun C' => C'.get n = some (.lst l)) C | _ => .no)
  | .lst l => .ok (l, fun _ => True) C
  | .scr l => .ok (l, fun _ => True) C
  | _ => .no
def iCel (f : EF) : IK := fun s C => (f s C).bind celK
noncomputable def forK (kp : Cells → Prop) (tg : GF) (b : SF) : List D → SF
  | [], s, C => if kp C then .nxt s C else .no
  | d :: r, s, C => if kp C then (match tg d s C with
    | none => .no
    | some s => match b s C with
      | .nxt s C => forK kp tg b r s C
      | .cnt s C => forK kp tg b r s C
      | .brk s C => .nxt s C
      | x => x) else .no
noncomputable def sForK (it : IK) (tg : GF) (b : SF) : SF := fun s C => match it s C with
  | .ok p C => forK p.2 tg b p.1 s C
  | .err c C => .err c s C
  | .no => .no
noncomputable def lcK (kp : Cells → Prop) (tg : GF) (t : TF) (f : EF) (vs : List Nat) : List D → Sl → Cells → Res (List D)
  | [], _, C => if kp C then .ok [] C else .no
  | d :: r, s, C => if kp C then (match tg d (wipeD s vs) C with
    | none => .no
    | some s' => match t s' C with
      | .ok true C => (match f s' C with
        | .ok y C => (match lcK kp tg t f vs r s C with
          | .ok ys C => .ok (y :: ys) C
          | _ => .no)
        | _ => .no)
      | .ok false C => lcK kp tg t f vs r s C
      | _ => .no) else .no
noncomputable def lcKG (it : IK) (tg : GF) (t : TF) (f : EF) (vs : List Nat) : AF := fun s C => (it s C).bind fun p C => match lcK p.2 tg t f vs p.1 s C with
  | .ok ys C => if p.1.length ≤ mxl then .ok ys C else .no
  | _ => .no
noncomputable def eLcK (it : IK) (tg : GF) (t : TF) (f : EF) (vs : List Nat) : EF := fun s C => (lcKG it tg t f vs s C).bind fun ys C => .ok (.lst ys) C
noncomputable def eLcKC (it : IK) (tg : GF) (t : TF) (f : EF) (vs : List Nat) : EF := fun s C => (lcKG it tg t f vs s C).bind newL
section
variable {X : Cx} {G : Glo} {Wx : WX} {pos : Pos} {g : SF} {W : Wd} {C : Cells} {H : Hp}
theorem Wlk.k {J : It} {ds : List D} (h : Wlk G J W C H ds) {kp : Cells → Prop} : WlkK G J W C H ds kp := ⟨fun i d e W' C' H' t st _ => h.item i d e W' C' H' t st, fun W' C' H' t st _ => h.stop W' C' H' t st⟩
theorem wlk_cel {n : Nat} {a : Addr} {l : List D} (hn : W.cm n = some a) : WlkK G (Itl G.K a) W C H l (fun C' => C'.get n = some (.lst l)) where
  item := fun i d e W' C' H' t st k => by
    obtain ⟨b, ho, h1, h2, h3, vs, rfl, h4⟩ := st.cells n _ k
    rw [t.le.cm n a hn] at h1; cases h1
    obtain ⟨v, h5, h6⟩ := h4.get e
    have hs : SqL G.K H' a vs := .of h3
    refine ⟨⟨vs, v, hs, h5⟩, fun x H2 y => ?_⟩
    obtain ⟨rfl, y⟩ := y
    have e2 := y vs hs
    rw [h5] at e2; cases e2
    exact ⟨W', .refl, st, h6⟩
  stop := fun W' C' H' t st k => by
    obtain ⟨b, ho, h1, h2, h3, vs, rfl, h4⟩ := st.cells n _ k
    rw [t.le.cm n a hn] at h1; cases h1
    exact ⟨vs, .of h3, by rw [h4.length]; exact Nat.le_refl _⟩
theorem io_cel (fo : EF) : IOkK G Wx (iList G.K (tD G Wx fo)) (iCel fo) := fun σ H R W sl C rs st q => by
  refine ⟨W, sl, C, rs, st, ?_⟩
  unfold iCel at q
  cases e : fo sl C with
  | no => rw [e] at q; exact q.elim
  | err c C1 => rw [e] at q; exact q
  | ok d C1 =>
    rw [e] at q
    intro W1 v H1 t st1 rr
    replace q : IPostK G Wx σ W C H (celK d C1) R := q
    unfold celK at q
    split at q
    · rename_i n
      split at q
      · rename_i l eg
        obtain ⟨a, rfl, ha⟩ := rr.cel_
        obtain ⟨b, ho, h1, h2, h3, vs, rfl, h4⟩ := st1.cells n _ eg
        rw [ha] at h1; cases h1
        exact ⟨a, rfl, ⟨vs, .of h3⟩, q W1 _ H1 t st1 (wlk_cel ha)⟩
      · exact q.elim
    · obtain ⟨a, vs, rfl, h1, h2⟩ := rr.lst_
      exact ⟨a, rfl, ⟨vs, .of (st1.F _ _ h1)⟩, q W1 _ H1 t st1 (wlk_list (.of h1) h2).k⟩
    · obtain ⟨a, vs, rfl, h1, h2⟩ := rr.scr_
      exact ⟨a, rfl, ⟨vs, SqL.up st1.F h1⟩, q W1 _ H1 t st1 (wlk_list h1 h2).k⟩
    · exact q.elim
theorem ds_forK {tg iter : Expr} {body : List Stmt} {wi : TI} {t : TG} {gf : GF} {tch : List Nat} {fi : IK} (hp : PassesOwn (model X.prog X.w) X.A X.env X.xe) (hc : X.calm = true) (hi : PI X tg iter wi) (io : IOkK G Wx wi fi) (hg : PG X tg t) (go : GOk G t gf tch) (hb : DSs X G Wx body g)
    (hs : ∀ x, foldedSetIterable iter X.env x = pure x := by intro _; rfl) : DS X G Wx (.For tg iter body [] pos) (sForK fi gf g) := ⟨PS.weak (ps_for hp hc hi hg hb.ps hs) fun D σ H ⟨W, sl, C, rs, st, q⟩ => by
  refine io σ H _ W sl C rs st ?_
  unfold sForK at q
  cases e : fi sl C with
  | no => rw [e] at q; exact q.elim
  | err c C1 => rw [e] at q; exact fun W' H' t' st' => q W' σ H' t' st' (rs.up t'.le)
  | ok dk C1 =>
    obtain ⟨ds, kp⟩ := dk
    rw [e] at q
    intro W1 J H1 t1 st1 wk
    refine ⟨fun i m σ H => i ≤ ds.length ∧ m = ds.length - i ∧ ∃ W sl C, Step W1 C1 H1 W C H ∧ RepS G W sl σ ∧ StR G W C H ∧ SPost G Wx W C H (forK kp gf g (ds.drop i) sl C) D, ⟨ds.length, Nat.zero_le _, rfl, W1, sl, C1, .refl, rs.up t1.le, st1, by rw [List.drop_zero]; exact SPost.step t1 q⟩, ?_⟩
    rintro i m σ H ⟨hi, rfl, W, sl, C, t, rs, st, q⟩
    by_cases hlt : i < ds.length
    · have hd : ds[i]? = some ds[i] := List.getElem?_eq_getElem hlt
      have hdr : ds.drop i = ds[i] :: ds.drop (i + 1) := List.drop_eq_getElem_cons hlt
      rw [hdr] at q
      unfold forK at q
      have hkp : kp C := Classical.byContradiction fun z => by rw [if_neg z] at q; exact q.elim
      rw [if_pos hkp] at q
      obtain ⟨go_, y_⟩ := wk.item i _ hd W C H t st hkp
      refine .inr ⟨go_, fun σ H => ∃ W sl C, Step W1 C1 H1 W C H ∧ RepS G W sl σ ∧ StR G W C H ∧ SPost G Wx W C H (forK kp gf g (ds.drop (i + 1)) sl C) D, fun σ' H' n => ⟨_, by omega, hlt, rfl, n⟩, fun x H' y => ?_⟩
      obtain ⟨W2, t2, st2, r2⟩ := y_ x H' y
      split at q
      · exact q.elim
      · rename_i s' e'
        refine go _ x sl s' σ W2 C H' _ st2 r2 (rs.up t2.le) e' fun σ' rs' _ => ⟨W2, s', C, rs', st2, ?_⟩
        have q := SPost.step t2 q
        cases eb : g s' C with
        | nxt s3 C3 => rw [eb] at q; exact fun W3 σ3 H3 t3 st3 rs3 => ⟨W3, s3, C3, (t.trans t2).trans t3, rs3, st3, SPost.step t3 q⟩
        | cnt s3 C3 => rw [eb] at q; exact fun W3 σ3 H3 t3 st3 rs3 => ⟨W3, s3, C3, (t.trans t2).trans t3, rs3, st3, SPost.step t3 q⟩
        | brk s3 C3 => rw [eb] at q; exact q
        | ret d C3 => rw [eb] at q; exact q
        | err c s3 C3 => rw [eb] at q; exact q
        | no => rw [eb] at q; exact q
    · have ei : i = ds.length := by omega
      subst ei
      rw [List.drop_length] at q
      have q : SPost G Wx W C H (if kp C then .nxt sl C else .no) D := q
      split at q
      · rename_i hkp
        exact .inl ⟨wk.stop W C H t st hkp, q W σ H .refl st rs⟩
      · exact q.elim⟩

end
section
variable {X : Cx} {G : Glo} {Wx : WX} {e c : Expr} {f : EF} {pos : Pos}
theorem lcK_use {wi : TI} {t : TG} {gf : GF} {tch vs : List Nat} {tt : TF} {fe : EF} {fi : IK} {fin : List D → Cells → Res D} (io : IOkK G Wx wi fi) (go : GOk G t gf tch) (ht : ∀ i ∈ tch, i ∈ vs)
    (hfin : ∀ (σ : L2.St) (W : Wd) (C : Cells) (H : Hp) (l : List D) (us : List V) (Dp : Addr) (Q : VK), StR G W C H → ¬ Own W C Dp → H Dp = some (.lst us) → RepVs G W l us →
      (∀ W1 C1 H1, StepX Dp W C H W1 C1 H1 → H1 = H → ∀ d v, StR G W1 C1 H1 → RepV G W1 d v → fin l C = .ok d C1 → Q v H1) → Q (.ref Dp) H)
    {σ : L2.St} {H : Hp} {Q : VK} {W : Wd} {sl : Sl} {C : Cells} (rs : RepS G W sl σ) (st : StR G W C H)
    (q : Post G Wx σ (RepV G) W C H ((lcKG fi gf tt fe vs sl C).bind fin) Q) : tLc wi t (tTs G W0 tt) (tD G W0 fe) vs σ H Q := by
  refine io σ H _ W sl C rs st ?_
  unfold lcKG at q
  cases e : fi sl C with
  | no => rw [e] at q; exact q.elim
  | err c C1 => rw [e] at q; exact q
  | ok dk C1 =>
    obtain ⟨ds, kp⟩ := dk
    rw [e] at q
    intro W1 J H1 t1 st1 wk Dp hD
    have q : Post G Wx σ (RepV G) W C H (Res.bind (match lcK kp gf tt fe vs ds sl C1 with | .ok ys C => if ds.length ≤ mxl then .ok ys C else .no | _ => .no) fin) Q := q
    cases e2 : lcK kp gf tt fe vs ds sl C1 with
    | no => rw [e2] at q; exact q.elim
    | err c C2 => rw [e2] at q; exact q.elim
    | ok ys Ce =>
      rw [e2] at q
      have q : Post G Wx σ (RepV G) W C H (Res.bind (if ds.length ≤ mxl then .ok ys Ce else .no) fin) Q := q
      split at q
      · rename_i hz
        have q : Post G Wx σ (RepV G) W C H (fin ys Ce) Q := q
        obtain ⟨st2, t2, n2⟩ := fr_out (o := .lst []) st1 hD
        refine ⟨fun i m H => i ≤ ds.length ∧ m = ds.length - i ∧ ∃ W C acc us rest, StepX Dp W1 C1 (upd H1 Dp (.lst [])) W C H ∧ StR G W C H ∧ ¬ Own W C Dp ∧ H Dp = some (.lst us) ∧ RepVs G W acc us ∧ acc.length ≤ i ∧ lcK kp gf tt fe vs (ds.drop i) sl C = .ok rest Ce ∧ ys = acc ++ rest,
          ⟨ds.length, Nat.zero_le _, rfl, W1, C1, [], [], ys, ⟨.refl, Nat.le_refl _, fun a o _ h _ n => ⟨h, n⟩⟩, st2, n2, upd_same, .nil, Nat.zero_le _, by rw [List.drop_zero]; exact e2, rfl⟩, ?_⟩
        rintro i m H2 ⟨hi, rfl, W2, C2, acc, us, rest, t3, st3, n3, hD3, racc, hacc, erest, eys⟩
        have wk2 : ∀ {W' C' H'}, StepX Dp W1 C1 (upd H1 Dp (.lst [])) W' C' H' → Step W1 C1 H1 W' C' H' := fun s => (t2.x.trans s).st hD
        by_cases hlt : i < ds.length
        · have hd : ds[i]? = some ds[i] := List.getElem?_eq_getElem hlt
          have hdr : ds.drop i = ds[i] :: ds.drop (i + 1) := List.drop_eq_getElem_cons hlt
          rw [hdr] at erest
          unfold lcK at erest
          have hkp : kp C2 := Classical.byContradiction fun z => by rw [if_neg z] at erest; cases erest
          rw [if_pos hkp] at erest
          obtain ⟨go_, y_⟩ := wk.item i _ hd W2 C2 H2 (wk2 t3) st3 hkp
          refine .inr ⟨go_, fun H => ∃ W C acc us rest', StepX Dp W1 C1 (upd H1 Dp (.lst [])) W C H ∧ StR G W C H ∧ ¬ Own W C Dp ∧ H Dp = some (.lst us) ∧ RepVs G W acc us ∧ acc.length ≤ i + 1 ∧ lcK kp gf tt fe vs (ds.drop (i + 1)) sl C = .ok rest' Ce ∧ ys = acc ++ rest', fun H' n => ⟨_, ?_, hlt, rfl, n⟩, fun x H4 y => ?_⟩
          · omega
          obtain ⟨W4, t4, st4, r4⟩ := y_ x H4 y
          cases eg : gf ds[i] (wipeD sl vs) C2 with
          | none => rw [eg] at erest; cases erest
          | some s' =>
            rw [eg] at erest
            have hD4 := (t4.fr Dp _ hD3 pla_lst n3).1
            have n4 := (t4.fr Dp _ hD3 pla_lst n3).2
            refine go _ x (wipeD sl vs) s' (L2.wipe σ vs) W4 C2 H4 _ st4 r4 ((rs.up (t1.le.trans (t3.le.trans t4.le))).wipe vs) eg fun σ' rs' hw => ⟨?_, W4, s', C2, rs', st4, ?_⟩
            · rw [hw vs ht]
              have ww : ∀ us : List Nat, L2.wipe (L2.wipe σ vs) us = L2.wipe (L2.wipe σ vs) us := fun _ => rfl
              have : ∀ (ks : List Nat), (∀ k ∈ ks, k ∈ vs) → L2.wipe (L2.wipe σ vs) ks = L2.wipe σ vs := fun ks => by
                induction ks with
                | nil => intro _; rfl
                | cons k ks ih =>
                  intro hk
                  show (L2.wipe (L2.wipe σ vs) ks).set k none = _
                  rw [ih fun z hz => hk z (List.mem_cons_of_mem _ hz)]
                  have gone : ∀ (ms : List Nat), k ∈ ms → (L2.wipe σ ms).set k none = L2.wipe σ ms := fun ms => by
                    induction ms with
                    | nil => intro h; cases h
                    | cons m ms ih2 =>
                      intro h
                      unfold L2.wipe
                      by_cases e : m = k
                      · subst e; rw [List.set_set]
                      · rcases List.mem_cons.mp h with z | z
                        · exact absurd z.symm e
                        · rw [List.set_comm _ _ e, ih2 z]
                  exact gone vs (hk k List.mem_cons_self)
              exact this vs fun _ h => h
            · cases et : tt s' C2 with
              | no => simp only [et] at erest; cases erest
              | err c C5 => simp only [et] at erest; cases erest
              | ok b C5 =>
                simp only [et] at erest
                intro W5 b' H5 t5 st5 eb
                subst eb
                have hD5 := (t5.fr Dp _ hD4 pla_lst n4).1
                have n5 := (t5.fr Dp _ hD4 pla_lst n4).2
                have tt5 := t3.trans (t4.trans t5).x
                cases b with
                | false =>
                  rw [if_neg Bool.false_ne_true]
                  exact ⟨W5, C5, acc, us, rest, tt5, st5, n5, hD5, racc.up (t4.trans t5).le, Nat.le_succ_of_le hacc, erest, eys⟩
                | true =>
                  rw [if_pos rfl]
                  refine ⟨W5, s', C5, rs'.up t5.le, st5, ?_⟩
                  cases ef : fe s' C5 with
                  | no => simp only [ef] at erest; cases erest
                  | err c C6 => simp only [ef] at erest; cases erest
                  | ok y C6 =>
                    simp only [ef] at erest
                    cases el : lcK kp gf tt fe vs (ds.drop (i + 1)) sl C6 with
                    | no => rw [el] at erest; cases erest
                    | err c C7 => rw [el] at erest; cases erest
                    | ok ys' C7 =>
                      rw [el] at erest
                      cases erest
                      intro W6 v6 H6 t6 st6 r6
                      have hD6 := (t6.fr Dp _ hD5 pla_lst n5).1
                      have n6 := (t6.fr Dp _ hD5 pla_lst n5).2
                      refine ⟨us, hD6, ?_, W6, C6, acc ++ [y], us ++ [v6], ys', (tt5.trans t6.x).trans (stepX_set n6), fr_outset st6 n6 hD6 pla_lst, n6, upd_same, (racc.up ((t4.trans t5).trans t6).le).append (.cons r6 .nil), ?_, el, by rw [eys]; simp⟩
                      · rw [← racc.length, ← mxl_eq]; omega
                      · rw [List.length_append, List.length_singleton]; omega
        · have ei : i = ds.length := by omega
          subst ei
          rw [List.drop_length] at erest
          unfold lcK at erest
          have hkp : kp C2 := Classical.byContradiction fun z => by rw [if_neg z] at erest; cases erest
          rw [if_pos hkp] at erest
          cases erest
          rw [List.append_nil] at eys
          subst eys
          refine .inl ⟨wk.stop W2 _ H2 (wk2 t3) st3 hkp, hfin σ W2 _ H2 _ us Dp Q st3 n3 hD3 racc fun W5 C5 H5 t5 e5 d v st5 r5 ef => ?_⟩
          rw [ef] at q
          exact q W5 v H5 (t1.trans ((t2.x.trans (t3.trans t5)).st hD)) st5 r5
      · exact q.elim
section
variable {elt tg iter : Expr} {ifs : List Expr} {scope : Scope} {own : List (Str × Nat)} {wi : TI} {t : TG} {gf : GF} {tch : List Nat} {tt : TF} {fi : IK}
theorem de_lcK (hc : X.calm = true) (hN : X.N.Nodup) (hi : PI X tg iter wi) (io : IOkK G Wx wi fi) (ok : BlkOk X.N X.env.scope scope own) (go : GOk G t gf tch) (htc : ∀ i ∈ tch, i ∈ own.map (·.2))
    (hg : ∀ (s : Shared) (H : Hp) (C : Addr) (cl : List (Str × Addr)) (fp : List Addr), PG (X.blk s H scope (compEnvC scope cl C X.env) fp) tg t) (ht : ∀ (s : Shared) (H : Hp) (C : Addr) (cl : List (Str × Addr)) (fp : List Addr), DTs (X.blk s H scope (compEnvC scope cl C X.env) fp) G W0 ifs tt)
    (he : ∀ (s : Shared) (H : Hp) (C : Addr) (cl : List (Str × Addr)) (fp : List Addr), DE (X.blk s H scope (compEnvC scope cl C X.env) fp) G W0 elt f) (hs : ∀ x, foldedSetIterable iter X.env x = pure x := by intro _; rfl) :
    DE X G Wx (.ListComp elt [⟨tg, iter, ifs, 0⟩] scope pos) (eLcK fi gf tt f (own.map (·.2))) :=
  ⟨PE.weak (pe_lc hc hN hi ok hg (fun s H C cl fp => (ht s H C cl fp).pts) (fun s H C cl fp => (he s H C cl fp).pe) hs) fun σ H Q ⟨W, sl, C, rs, st, q⟩ => lcK_use io go htc fin_lst rs st q⟩
theorem de_lcKC (hc : X.calm = true) (hN : X.N.Nodup) (hi : PI X tg iter wi) (io : IOkK G Wx wi fi) (ok : BlkOk X.N X.env.scope scope own) (go : GOk G t gf tch) (htc : ∀ i ∈ tch, i ∈ own.map (·.2))
    (hg : ∀ (s : Shared) (H : Hp) (C : Addr) (cl : List (Str × Addr)) (fp : List Addr), PG (X.blk s H scope (compEnvC scope cl C X.env) fp) tg t) (ht : ∀ (s : Shared) (H : Hp) (C : Addr) (cl : List (Str × Addr)) (fp : List Addr), DTs (X.blk s H scope (compEnvC scope cl C X.env) fp) G W0 ifs tt)
    (he : ∀ (s : Shared) (H : Hp) (C : Addr) (cl : List (Str × Addr)) (fp : List Addr), DE (X.blk s H scope (compEnvC scope cl C X.env) fp) G W0 elt f) (hs : ∀ x, foldedSetIterable iter X.env x = pure x := by intro _; rfl) :
    DE X G Wx (.ListComp elt [⟨tg, iter, ifs, 0⟩] scope pos) (eLcKC fi gf tt f (own.map (·.2))) :=
  ⟨PE.weak (pe_lc hc hN hi ok hg (fun s H C cl fp => (ht s H C cl fp).pts) (fun s H C cl fp => (he s H C cl fp).pe) hs) fun σ H Q ⟨W, sl, C, rs, st, q⟩ => lcK_use io go htc fin_cel rs st q⟩
/-- name = [..] on one line -/
theorem ds_setLcK {fin : List D → Cells → Res D} (hfin : ∀ (σ : L2.St) (W : Wd) (C : Cells) (H : Hp) (l : List D) (us : List V) (Dp : Addr) (Q : VK), StR G W C H → ¬ Own W C Dp → H Dp = some (.lst us) → RepVs G W l us →
      (∀ W1 C1 H1, StepX Dp W C H W1 C1 H1 → H1 = H → ∀ d v, StR G W1 C1 H1 → RepV G W1 d v → fin l C = .ok d C1 → Q v H1) → Q (.ref Dp) H)
    {i : Nat} {y : Str} {py spos : Pos} (hc : X.calm = true) (hN : X.N.Nodup) (hy : X.N[i]? = some y) (hyl : X.env.scope.names.lookup y = some .local)
    (hsw : swapsWith (.ListComp elt [⟨tg, iter, ifs, 0⟩] scope pos) (some (.Name y py)) spos.line X.env = pure true) (hi : PI X tg iter wi) (io : IOkK G Wx wi fi) (ok : BlkOk X.N X.env.scope scope own) (go : GOk G t gf tch) (htc : ∀ i ∈ tch, i ∈ own.map (·.2))
    (hg : ∀ (s : Shared) (H : Hp) (C : Addr) (cl : List (Str × Addr)) (fp : List Addr), PG (X.blk s H scope (compEnvC scope cl C X.env) fp) tg t) (ht : ∀ (s : Shared) (H : Hp) (C : Addr) (cl : List (Str × Addr)) (fp : List Addr), DTs (X.blk s H scope (compEnvC scope cl C X.env) fp) G W0 ifs tt)
    (he : ∀ (s : Shared) (H : Hp) (C : Addr) (cl : List (Str × Addr)) (fp : List Addr), DE (X.blk s H scope (compEnvC scope cl C X.env) fp) G W0 elt f) (hs : ∀ x, foldedSetIterable iter X.env x = pure x := by intro _; rfl) :
    DS X G Wx (.Assign [.Name y py] (.ListComp elt [⟨tg, iter, ifs, 0⟩] scope pos) spos) (sSet i fun s C => (lcKG fi gf tt f (own.map (·.2)) s C).bind fin) :=
  ⟨PS.weak (ps_setLc hc hN hy hyl hsw hi ok hg (fun s H C cl fp => (ht s H C cl fp).pts) (fun s H C cl fp => (he s H C cl fp).pe) hs) fun D σ H ⟨W, sl, C, rs, st, q⟩ =>
    lcK_use (Q := fun x H1 => gName i x σ H1 D.nx) io go htc hfin rs st (SPost.toS (Q := fun x H1 => gName i x σ H1 D.nx) rs q fun d C1 W1 v H1 t1 st1 rr q1 => q1 W1 _ H1 .refl st1 ((rs.up t1.le).set i rr))⟩
end
end
end DL

set_option Elab.async false
set_option linter.all false
set_option maxRecDepth 100000
set_option autoImplicit false
namespace DL
open PySem PySem.Spec PyProof.Rows L2
/-! ### equality that looks through the cells, at every depth -/
def vwn : Nat → Cells → D → D
  | 0, _, d => d
  | n + 1, C, d => match lstOf C d with
    | some l => .lst (l.map (vwn n C))
    | none => (match d with
      | .tup l => .tup (l.map (vwn n C))
      | .ktp l => .tup (l.map (vwn n C))
      | d => d)
def dEqV (x y : D) (C : Cells) : Res D := if plain 30 (vwn 30 C x) && plain 30 (vwn 30 C y) then .ok (.bl (eqD (vwn 30 C x) (vwn 30 C y))) C else .no
def dNeV (x y : D) (C : Cells) : Res D := if plain 30 (vwn 30 C x) && plain 30 (vwn 30 C y) then .ok (.bl (!eqD (vwn 30 C x) (vwn 30 C y))) C else .no
section
variable {G : Glo} {W : Wd} {C : Cells} {H : Hp}
theorem dp_vwn (st : StR G W C H) : ∀ (m n : Nat) (d : D) (v : V), RepV G W d v → plain n (vwn m C d) = true → Dp G.K H v (toP (vwn m C d))
  | 0, n, d, v, r, h => dp_of st.F n d v h r
  | m + 1, n, d, v, r, h => by
    have all : ∀ (l : List D) (vs : List V) (k : Nat), RepVs G W l vs → (∀ x ∈ l.map (vwn m C), plain k x = true) → DpAll G.K H vs (toPs (l.map (vwn m C))) := by
      intro l
      induction l with
      | nil => intro vs k q _; rw [q.nil_inv]; exact .nil
      | cons d r ih =>
        intro vs k q hq
        obtain ⟨v, vr, rfl, s, t⟩ := q.cons_inv
        exact .cons (dp_vwn st m k d v s (hq _ (by simp))) (ih vr k t fun x hx => hq x (by simp at hx ⊢; exact .inr hx))
    unfold vwn at h ⊢
    cases e : lstOf C d with
    | some l =>
      simp only [e] at h ⊢
      obtain ⟨a, vs, rfl, s, q⟩ := lstOf_ok st r e
      cases n with
      | zero => unfold plain at h; cases h
      | succ n => exact .lst s (all l vs n q (by simpa [plain] using h))
    | none =>
      simp only [e] at h ⊢
      split at h
      · rename_i l
        obtain ⟨a, vs, rfl, e2, q⟩ := r.tup_
        cases n with
        | zero => unfold plain at h; cases h
        | succ n => exact .tup (.of (st.F _ _ e2)) (all l vs n q (by simpa [plain] using h))
      · rename_i l
        obtain ⟨a, vs, rfl, e2, q⟩ := r.ktp_
        cases n with
        | zero => unfold plain at h; cases h
        | succ n => exact .tup (SqT.up st.F e2) (all l vs n q (by simpa [plain] using h))
      · exact dp_of st.F n d v h r
end
section
variable {G : Glo}
theorem o2_eqV : Op2 G (rEqD G.K) dEqV := fun Wx σ W C H x y v u Q st rx ry q => by
  unfold dEqV at q
  split at q
  · rename_i h
    obtain ⟨h1, h2⟩ := Bool.and_eq_true_iff.mp h
    refine ⟨toP (vwn 30 C x), toP (vwn 30 C y), dp_vwn st _ _ _ _ rx h1, dp_vwn st _ _ _ _ ry h2, shaped_toP (by decide) h1, shaped_toP (by decide) h2, ?_⟩
    rw [eqv_toP 30 _ _ h1 h2]
    exact q W _ H .refl st .bl
  · exact q.elim
theorem o2_neV : Op2 G (rNeD G.K) dNeV := fun Wx σ W C H x y v u Q st rx ry q => by
  unfold dNeV at q
  split at q
  · rename_i h
    obtain ⟨h1, h2⟩ := Bool.and_eq_true_iff.mp h
    refine ⟨toP (vwn 30 C x), toP (vwn 30 C y), dp_vwn st _ _ _ _ rx h1, dp_vwn st _ _ _ _ ry h2, shaped_toP (by decide) h1, shaped_toP (by decide) h2, ?_⟩
    rw [eqv_toP 30 _ _ h1 h2]
    exact q W _ H .refl st .bl
  · exact q.elim
end
/-! what is plain looks like itself -/
theorem vwn_plain : ∀ (n m : Nat) (C : Cells) (d : D), plain n d = true → vwn m C d = d
  | _, 0, _, _, _ => rfl
  | 0, _ + 1, _, d, h => by unfold plain at h; cases h
  | n + 1, m + 1, C, d, h => by
    cases d with
    | lst l =>
      have h' : ∀ x ∈ l, plain n x = true := by simpa [plain] using h
      have : l.map (vwn m C) = l := by
        conv => rhs; rw [← List.map_id l]
        exact List.map_congr_left fun x hx => vwn_plain n m C x (h' x hx)
      unfold vwn
      simp only [lstOf, this]
    | tup l =>
      have h' : ∀ x ∈ l, plain n x = true := by simpa [plain] using h
      have : l.map (vwn m C) = l := by
        conv => rhs; rw [← List.map_id l]
        exact List.map_congr_left fun x hx => vwn_plain n m C x (h' x hx)
      unfold vwn
      simp only [lstOf, this]
    | non => rfl
    | bl b => rfl
    | int i => rfl
    | str s => rfl
    | obj c l => simp [plain] at h
    | cel c => simp [plain] at h
    | opq c l => simp [plain] at h
    | scr l => simp [plain] at h
    | ktp l => simp [plain] at h
/-- isinstance of an own class, from what K holds -/
theorem kit_own {K : PySem.W.Frag} {C : Addr} {t : Value} {b : Bool} (ci : PySem.W.isClsIn K C = true) (ty : PySem.W.typeIn K (.ref C) = some (.type "type")) (self : PySem.W.subIn K (.ref C) (.ref C) = some true) (s : PySem.W.subIn K t (.ref C) = some b) : PySem.W.kitOne K t (.ref C) = some b := by
  unfold PySem.W.kitOne
  split
  · rename_i q
    have e : t = .ref C := by simpa using q
    rw [e, self] at s
    exact s
  · unfold PySem.W.kitCls
    have ci' : (PySem.W.clsIn K C).isSome = true := ci
    simp only [ci', ty]
    exact s
theorem kit_bty {K : PySem.W.Frag} {C : Addr} {T : String} {b : Bool} (m : PySem.W.kitMeta T = true) (s : PySem.W.subIn K (.ref C) (.type T) = some b) : PySem.W.kitOne K (.ref C) (.type T) = some b := by
  unfold PySem.W.kitOne
  split
  · rename_i q
    have e : (Value.ref C) = .type T := by simpa using q
    cases e
  · unfold PySem.W.kitCls
    simp only [m, if_true]
    exact s
end DL

set_option Elab.async false
set_option linter.all false
set_option maxRecDepth 100000
set_option autoImplicit false
namespace DL
open PySem PySem.Spec PyProof.Rows L2
/-! ### enumerate -/
def enumD (l : List D) : List D := l.mapIdx fun i d => .tup [.int (i : Nat), d]
def iEn (g : AF) : IF := fun s C => (g s C).bind fun xs C => match xs with
  | [.lst l] => .ok (enumD l) C
  | [.scr l] => .ok (enumD l) C
  | _ => .no
section
variable {X : Cx} {G : Glo} {Wx : WX}
theorem wlk_enum {W : Wd} {C : Cells} {H : Hp} {a : Addr} {vs : List V} {l : List D} (h : SqL G.K W.F a vs) (r : RepVs G W l vs) : Wlk G (Ite G.K a) W C H (enumD l) where
  item := fun i d e W' C' H' t st => by
    unfold enumD at e
    rw [List.getElem?_mapIdx] at e
    cases hl : l[i]? with
    | none => rw [hl] at e; cases e
    | some d0 =>
      rw [hl] at e
      cases e
      obtain ⟨v, h1, h2⟩ := r.get hl
      have hs : SqL G.K H' a vs := SqL.up (fun x o q => st.F x o (t.le.F x o q)) h
      refine ⟨⟨vs, v, hs, h1⟩, fun x H2 y => ?_⟩
      obtain ⟨T, u, rfl, hT, rfl, y⟩ := y
      have e2 := y vs hs
      rw [h1] at e2; cases e2
      obtain ⟨s1, s2⟩ := fr_fz (o := .tup [.int (i : Nat), v]) st hT
      exact ⟨_, s2, s1, .tup (by show upd W'.F T _ T = _; exact upd_same) (.cons .int (.cons ((h2.up t.le).up s2.le) .nil))⟩
  stop := fun W' C' H' t st => ⟨vs, SqL.up (fun x o q => st.F x o (t.le.F x o q)) h, by rw [enumD, List.length_mapIdx, r.length]; exact Nat.le_refl _⟩
theorem io_enum (fo : AF) : IOk G Wx (iEnum G.K (tAr G Wx fo)) (iEn fo) := fun σ H R W sl C rs st q => ⟨W, sl, C, rs, st, q.bind fun xs C1 W1 vs H1 t st1 rr q1 => by
  split at q1
  · obtain ⟨v, rfl, r⟩ := rr.one
    obtain ⟨a, us, rfl, h1, h2⟩ := r.lst_
    exact ⟨a, us, rfl, .of (st1.F _ _ h1), q1 W1 _ H1 .refl st1 (wlk_enum (.of h1) h2)⟩
  · obtain ⟨v, rfl, r⟩ := rr.one
    obtain ⟨a, us, rfl, h1, h2⟩ := r.scr_
    exact ⟨a, us, rfl, SqL.up st1.F h1, q1 W1 _ H1 .refl st1 (wlk_enum h1 h2)⟩
  · exact q1.elim⟩
end
/-! ### zip, of known lists -/
def zipD (l m : List D) : List D := (l.zip m).map fun p => .tup [p.1, p.2]
def kn : D → Option (List D)
  | .lst l => some l
  | .scr l => some l
  | _ => none
def iZp (g : AF) : IF := fun s C => (g s C).bind fun xs C => match xs with
  | [x, y] => (match kn x, kn y with
    | some l, some m => .ok (zipD l m) C
    | _, _ => .no)
  | _ => .no
section
variable {X : Cx} {G : Glo} {Wx : WX}
theorem kn_ok {W : Wd} {d : D} {v : V} {l : List D} (r : RepV G W d v) (e : kn d = some l) : ∃ a vs, v = .ref a ∧ SqL G.K W.F a vs ∧ RepVs G W l vs := by
  unfold kn at e
  split at e
  · cases e
    obtain ⟨a, us, rfl, h1, h2⟩ := r.lst_
    exact ⟨a, us, rfl, .of h1, h2⟩
  · cases e
    obtain ⟨a, us, rfl, h1, h2⟩ := r.scr_
    exact ⟨a, us, rfl, h1, h2⟩
  · cases e
theorem wlk_zip {W : Wd} {C : Cells} {H : Hp} {a b : Addr} {vs us : List V} {l m : List D} (h : SqL G.K W.F a vs) (k : SqL G.K W.F b us) (r : RepVs G W l vs) (q : RepVs G W m us) : Wlk G (Itz G.K a b) W C H (zipD l m) where
  item := fun i d e W' C' H' t st => by
    unfold zipD at e
    rw [List.getElem?_map] at e
    cases hz : (l.zip m)[i]? with
    | none => rw [hz] at e; cases e
    | some p =>
      rw [hz] at e
      cases e
      obtain ⟨e1, e2⟩ := List.getElem?_zip_eq_some.1 hz
      obtain ⟨v, h1, h2⟩ := r.get e1
      obtain ⟨u, k1, k2⟩ := q.get e2
      have hs : SqL G.K H' a vs := SqL.up (fun x o q => st.F x o (t.le.F x o q)) h
      have ks : SqL G.K H' b us := SqL.up (fun x o q => st.F x o (t.le.F x o q)) k
      refine ⟨⟨vs, us, v, u, hs, ks, h1, k1⟩, fun x H2 y => ?_⟩
      obtain ⟨T, u1, u2, rfl, hT, rfl, y1, y2⟩ := y
      have z1 := y1 vs hs
      have z2 := y2 us ks
      rw [h1] at z1; cases z1
      rw [k1] at z2; cases z2
      obtain ⟨s1, s2⟩ := fr_fz (o := .tup [v, u]) st hT
      exact ⟨_, s2, s1, .tup (by show upd W'.F T _ T = _; exact upd_same) (.cons ((h2.up t.le).up s2.le) (.cons ((k2.up t.le).up s2.le) .nil))⟩
  stop := fun W' C' H' t st => ⟨vs, us, SqL.up (fun x o q => st.F x o (t.le.F x o q)) h, SqL.up (fun x o q => st.F x o (t.le.F x o q)) k, by
    rw [zipD, List.length_map, List.length_zip, r.length, q.length]; omega⟩
theorem io_zip (fo : AF) : IOk G Wx (iZip G.K (tAr G Wx fo)) (iZp fo) := fun σ H R W sl C rs st q => ⟨W, sl, C, rs, st, q.bind fun xs C1 W1 vs H1 t st1 rr q1 => by
  split at q1
  · split at q1
    · rename_i x y _ _ l m e1 e2
      obtain ⟨v, u, rfl, h1, h2⟩ := rr.two
      obtain ⟨a, us, rfl, k1, k2⟩ := kn_ok h1 e1
      obtain ⟨b, ws, rfl, k3, k4⟩ := kn_ok h2 e2
      exact ⟨a, b, us, ws, rfl, SqL.up st1.F k1, SqL.up st1.F k3, q1 W1 _ H1 .refl st1 (wlk_zip k1 k3 k2 k4)⟩
    · exact q1.elim
  · exact q1.elim⟩
end
end DL

set_option Elab.async false
set_option linter.all false
set_option maxRecDepth 100000
set_option autoImplicit false
namespace DL
open PySem PySem.Spec PyProof.Rows L2
section
variable {X : Cx} {G : Glo} {Wx : WX} {pos : Pos}
/-! ### list.pop(i) -/
def mPopA (x : D) (xs : List D) (C : Cells) : Res D := atL C x fun n l => match xs with
  | [.int i] => if 0 ≤ i ∧ i < l.length ∧ l.length ≤ mxl then (match l[i.toNat]? with | some d => .ok d (C.set n (.lst (l.eraseIdx i.toNat))) | none => .no) else .no
  | _ => .no
theorem RepVs.erase {W : Wd} {l : List D} {vs : List V} (r : RepVs G W l vs) (i : Nat) : RepVs G W (l.eraseIdx i) (vs.eraseIdx i) := by
  rw [List.eraseIdx_eq_take_drop_succ, List.eraseIdx_eq_take_drop_succ]
  exact (r.take _).append (r.drop _)
theorem om_popA : OpM G rPopAt mPopA := fun Wx σ W C H x v xs vs Q st rx rxs q => by
  obtain ⟨n, l, a, us, e, rfl, h, h3, h4, q⟩ := atL_ok st rx q
  split at q
  · rename_i i _
    split at q
    · rename_i hi
      split at q
      · rename_i d ed
        obtain ⟨u, k1, k2⟩ := h4.get ed
        obtain ⟨w, rfl, hw⟩ := rxs.one
        have hlen := h4.length
        have hm : l.length ≤ 16777216 := hi.2.2
        have h62 : i < 16777216 := by omega
        refine ⟨a, us, i, i.toNat, u, rfl, by rw [hw.int_], h3, by omega, by omega, ?_, k1, ?_⟩
        · rw [← hlen]
          unfold seqIndex?
          simp
          omega
        · obtain ⟨s1, s2⟩ := fr_set (o := .lst (l.eraseIdx i.toNat)) (ho := .lst (us.eraseIdx i.toNat)) st e h ⟨_, rfl, h4.erase _⟩
          exact q W _ _ s2 s1 (k2.up s2.le)
      · exact q.elim
    · exact q.elim
  · exact q.elim
/-! ### division of and by large numbers -/
def dDivW (x y : D) (C : Cells) : Res D := match x, y with
  | .int i, .int j => if 0 < j ∧ j.natAbs.log2 < 9000 then .ok (.int (i / j)) C else .no
  | _, _ => .no
theorem o2_divW : Op2 G (rI CDivW fun i j => .int (i / j)) dDivW := fun Wx σ W C H x y v u Q st rx ry q => by
  unfold dDivW at q
  split at q
  · split at q
    · rename_i hc
      exact ⟨_, _, rx.int_, ry.int_, hc, q W _ H .refl st .int⟩
    · exact q.elim
  · exact q.elim
/-! ### sorted pairs -/
def prOf : D → Option (Int × Int)
  | .tup [.int i, .int j] => some (i, j)
  | _ => none
def asPr : List D → Option (List (Int × Int))
  | [] => some []
  | d :: r => match prOf d, asPr r with
    | some p, some l => some (p :: l)
    | _, _ => none
def prD (p : Int × Int) : D := .tup [.int p.1, .int p.2]
def lePr (p q : Int × Int) : Bool := decide (p.1 < q.1 ∨ (p.1 = q.1 ∧ p.2 ≤ q.2))
def sortP (l : List (Int × Int)) : List (Int × Int) := l.mergeSort lePr
theorem asPr_map : ∀ l : List (Int × Int), asPr (l.map prD) = some l
  | [] => rfl
  | p :: r => by
    have h : prOf (prD p) = some p := rfl
    rw [List.map_cons]
    unfold asPr
    rw [asPr_map r, h]
theorem sortP_perm (l : List (Int × Int)) : (sortP l).Perm l := List.mergeSort_perm _ _
theorem sortP_sorted (l : List (Int × Int)) : (sortP l).Pairwise fun p q => lePr p q = true :=
  List.pairwise_mergeSort (le := lePr) (fun a b c h1 h2 => by simp only [lePr, decide_eq_true_eq] at *; omega) (fun a b => by simp only [lePr, Bool.or_eq_true, decide_eq_true_eq]; omega) l
theorem sortP_uniq {l m : List (Int × Int)} (h : l.Perm m) (h1 : l.Pairwise fun p q => lePr p q = true) (h2 : m.Pairwise fun p q => lePr p q = true) : l = m :=
  List.Perm.eq_of_pairwise (fun a b _ _ h1 h2 => by
    simp only [lePr, decide_eq_true_eq] at h1 h2
    exact Prod.ext (by omega) (by omega)) h1 h2 h
theorem prOf_ok {d : D} {p : Int × Int} (h : prOf d = some p) : d = prD p := by
  unfold prOf at h
  split at h
  · cases h; rfl
  · cases h
theorem asPr_ok : ∀ {l : List D} {ps : List (Int × Int)}, asPr l = some ps → l = ps.map prD
  | [], ps, h => by cases h; rfl
  | d :: l, ps, h => by
    unfold asPr at h
    split at h
    · rename_i p qs e1 e2
      cases h
      rw [asPr_ok e2, prOf_ok e1]; rfl
    · cases h
theorem pr_vs {W : Wd} : ∀ {ps : List (Int × Int)} {vs : List V}, RepVs G W (ps.map prD) vs → ∃ k : V → Int × Int, (∀ x ∈ vs, ∃ t, x = V.ref t ∧ W.F t = some (.tup [.int (k x).1, .int (k x).2])) ∧ vs.map k = ps
  | [], _, r => by
    rw [r.nil_inv]
    exact ⟨fun _ => (0, 0), by simp, rfl⟩
  | p :: ps, _, r => by
    obtain ⟨v, vr, rfl, h1, h2⟩ := r.cons_inv
    obtain ⟨k, hk, e⟩ := pr_vs h2
    obtain ⟨a, us, rfl, h3, h4⟩ := RepV.tup_ h1
    obtain ⟨u, w, rfl, hu, hw⟩ := h4.two
    rw [hu.int_, hw.int_] at h3
    refine ⟨fun x => match x with | V.ref t => (match W.F t with | some (.tup [.int i, .int j]) => (i, j) | _ => (0, 0)) | _ => (0, 0), fun x m => ?_, ?_⟩
    · rcases List.mem_cons.1 m with rfl | m
      · exact ⟨a, rfl, by simp only [h3]⟩
      · obtain ⟨t, rfl, ht⟩ := hk x m
        exact ⟨t, rfl, by simp only [ht]⟩
    · rw [List.map_cons]
      congr 1
      · simp only [h3]
      · rw [← e]
        apply List.map_congr_left
        intro x m
        obtain ⟨t, rfl, ht⟩ := hk x m
        simp only [ht]
def bSortP (xs : List D) (C : Cells) : Res D := match xs with
  | [d] => (match (lstOf C d).bind asPr with | some ps => .ok (.lst ((sortP ps).map prD)) C | none => .no)
  | _ => .no
theorem ltP_le {k : V → Int × Int} {x y : V} (h : ltP k y x = false) : lePr (k x) (k y) = true := by
  have h2 : ¬ (SrtO.lexB (k y) (k x) = true) := by
    have : SrtO.lexB (k y) (k x) = false := h
    rw [this]; decide
  rw [SrtO.lexB_iff] at h2
  simp only [lePr, decide_eq_true_eq]
  omega
theorem reps_of {W : Wd} {k : V → Int × Int} : ∀ {ys : List V}, (∀ x ∈ ys, ∃ t, x = V.ref t ∧ W.F t = some (.tup [.int (k x).1, .int (k x).2])) → RepVs G W ((ys.map k).map prD) ys
  | [], _ => .nil
  | y :: ys, h => by
    obtain ⟨t, e, ht⟩ := h y (by simp)
    refine .cons ?_ (reps_of fun x m => h x (by simp [m]))
    rw [e] at ht ⊢
    exact RepV.tup ht (.cons .int (.cons .int .nil))
theorem oa_sortP : OpA G (rSortedPO G.K) bSortP := fun Wx σ W C H xs vs Q st rx q => by
  unfold bSortP at q
  split at q
  · obtain ⟨v, rfl, r⟩ := rx.one
    split at q
    · rename_i ps e
      obtain ⟨a, us, l, rfl, h1, h2, h3⟩ := lst_bind st r e
      have hl := asPr_ok h3
      subst hl
      obtain ⟨k, hk, ek⟩ := pr_vs h2
      refine ⟨a, us, k, rfl, h1, fun x m => ?_, fun ys p hs hb hp => ?_⟩
      · obtain ⟨t, rfl, ht⟩ := hk x m
        exact ⟨t, rfl, st.F _ _ ht⟩
      · have pm : ys.Perm us := hb.perm
        have ee : ys.map k = sortP ps := by
          refine sortP_uniq ?_ ?_ (sortP_sorted ps)
          · rw [← ek]; exact (pm.map k).trans (by rw [ek]; exact (sortP_perm ps).symm)
          · rw [List.pairwise_map]
            exact hs.imp fun {x y} q => ltP_le q
        have rr : RepVs G W ((sortP ps).map prD) ys := by
          rw [← ee]
          exact reps_of fun x m => hk x (pm.mem_iff.1 m)
        exact new_lst st rr q p hp
    · exact q.elim
  · exact q.elim
/-! ### range with a step -/
def rngC (lo c : Int) (n : Nat) : List D := (List.range n).map fun (i : Nat) => D.int (lo + i * c)
theorem wlk_rngC {W : Wd} {C : Cells} {H : Hp} {lo c : Int} {n : Nat} : Wlk G (Itc lo c n) W C H (rngC lo c n) where
  item := fun i d e W' C' H' t st => by
    unfold rngC at e
    rw [List.getElem?_map] at e
    have hi : i < n := by
      by_cases q : i < n
      · exact q
      · rw [List.getElem?_eq_none (by simpa using q)] at e; cases e
    rw [List.getElem?_range hi] at e
    cases e
    refine ⟨hi, fun x H2 y => ?_⟩
    obtain ⟨rfl, rfl⟩ := y
    exact ⟨W', .refl, st, .int⟩
  stop := fun W' C' H' t st => by
    show n ≤ (rngC lo c n).length
    unfold rngC; rw [List.length_map, List.length_range]; exact Nat.le_refl _
/-- how many numbers lo, lo + c, .. are below hi -/
def rngN (lo hi c : Int) : Nat := ((hi - lo + c - 1) / c).toNat
def iR3 (g : AF) : IF := fun s C => (g s C).bind fun xs C => match xs with
  | [.int i, .int j, .int c] => if -1000000 ≤ i ∧ i ≤ 1000000 ∧ -1000000 ≤ j ∧ j ≤ 1000000 ∧ 0 < c ∧ c ≤ 1000000 then .ok (rngC i c (Builtin.Range.rangeSize i j c).toNat) C else .no
  | _ => .no
theorem rgC_of {i j c : Int} (h : -1000000 ≤ i ∧ i ≤ 1000000 ∧ -1000000 ≤ j ∧ j ≤ 1000000 ∧ 0 < c ∧ c ≤ 1000000) : RgC i j c (Builtin.Range.rangeSize i j c).toNat := by
  have h0 : 0 ≤ Builtin.Range.rangeSize i j c ∧ Builtin.Range.rangeSize i j c ≤ 2000001 := by
    unfold Builtin.Range.rangeSize
    rw [if_pos h.2.2.2.2.1]
    split
    · have h1 : (j - i - 1) / c ≤ j - i - 1 := Int.ediv_le_self _ (by omega)
      have h2 : 0 ≤ (j - i - 1) / c := Int.ediv_nonneg (by omega) (by omega)
      omega
    · omega
  refine ⟨by omega, by omega, ?_, by rw [Int.toNat_of_nonneg h0.1]⟩
  unfold Builtin.Range.small
  generalize Builtin.Range.rangeSize i j c = z at h0
  simp only [Builtin.Range.rangeFitsLong, Bool.and_eq_true, Bool.or_eq_true, decide_eq_true_eq, beq_iff_eq]
  refine ⟨⟨⟨⟨by omega, by omega⟩, by omega⟩, by omega⟩, .inr ?_⟩
  rw [if_pos (show c > 0 from h.2.2.2.2.1)]
  simp only [Builtin.Range.rangeFitsLong, Bool.and_eq_true, decide_eq_true_eq]
  omega
theorem io_rng3 (fo : AF) : IOk G Wx (iRng3 (tAr G Wx fo)) (iR3 fo) := fun σ H R W sl C rs st q => ⟨W, sl, C, rs, st, q.bind fun xs C1 W1 vs H1 t st1 rr q1 => by
  split at q1
  · split at q1
    · rename_i h
      obtain ⟨v, vr, rfl, h1, hr⟩ := rr.cons_inv
      obtain ⟨u, w, rfl, h2, h3⟩ := hr.two
      exact ⟨_, _, _, _, by rw [h1.int_, h2.int_, h3.int_], rgC_of h, q1 W1 _ H1 .refl st1 wlk_rngC⟩
    · exact q1.elim
  · exact q1.elim⟩
/-! ### dict.get(k, d), dict.pop(k, d) -/
/-- get: what a dict tells, or else the other thing -/
def eGet2 (fo fi fd : EF) : EF := fun s C => (fo s C).bind fun x C => match dGetK C x (.int 0), dGetK C x (.tup []) with
  | none, none => .no
  | _, _ => (fi s C).bind fun y C => (fd s C).bind fun z C => match dGetK C x y with
    | some (some d) => .ok d C
    | some none => .ok z C
    | none => .no
theorem isD_of {W : Wd} {C : Cells} {H : Hp} {x y : D} {v : V} {r : Option D} (st : StR G W C H) (rx : RepV G W x v) (h : dGetK C x y = some r) : ∃ a, v = .ref a ∧ IsD H a := by
  cases x with
  | cel n =>
    obtain ⟨a, rfl, ha⟩ := rx.cel_
    simp only [dGetK] at h
    cases e : C.get n with
    | none => rw [e] at h; cases h
    | some ob =>
      rw [e] at h
      obtain ⟨b, ho, h1, h2, h3, h4⟩ := st.cells n _ e
      rw [ha] at h1; cases h1
      cases ob with
      | dk l =>
        obtain ⟨m, rfl, h4⟩ := h4
        exact ⟨a, rfl, .inl ⟨m, .inl h3⟩⟩
      | dt l =>
        obtain ⟨m, rfl, h4⟩ := h4
        exact ⟨a, rfl, .inr ⟨m, .inl h3⟩⟩
      | lst l => cases h
      | obj c l => cases h
  | _ => cases h
variable {o ei ef : Expr} {fo fi fd : EF} {apos cpos : Pos}
theorem de_get2 (hu : X.A.units + 64 < cLine) (ho : DE X G Wx o fo) (hi : DE X G Wx ei fi) (hd : DE X G Wx ef fd) (m : M2 X o "get" apos ei ef cpos) : DE X G Wx (.Call (.Attribute o "get" apos) [ei, ef] [] cpos) (eGet2 fo fi fd) :=
  ⟨PE.weak (pe_dget2 (by omega) ho.pe hi.pe hd.pe m) fun σ H Q ⟨W, sl, C, rs, st, q⟩ => ⟨W, sl, C, rs, st, q.bind fun x C1 W1 v H1 _ t st1 rx q1 => by
    have hD : ∃ a, v = .ref a ∧ IsD H1 a := by
      cases e1 : dGetK C1 x (.int 0) with
      | some r => exact isD_of st1 rx e1
      | none =>
        cases e2 : dGetK C1 x (.tup []) with
        | some r => exact isD_of st1 rx e2
        | none => rw [e1, e2] at q1; exact q1.elim
    obtain ⟨a, rfl, hD⟩ := hD
    have q1' : Post G Wx σ (RepV G) W1 C1 H1 ((fi sl C1).bind fun y C => (fd sl C).bind fun z C => match dGetK C x y with | some (some d) => .ok d C | some none => .ok z C | none => .no) Q := by
      cases e1 : dGetK C1 x (.int 0) with
      | some r => rw [e1] at q1; exact q1
      | none =>
        cases e2 : dGetK C1 x (.tup []) with
        | some r => rw [e1, e2] at q1; exact q1
        | none => rw [e1, e2] at q1; exact q1.elim
    refine ⟨a, rfl, hD, W1, sl, C1, rs.up t.le, st1, q1'.bind fun y C2 W2 u H2 _ t2 st2 ry q2 => ⟨W2, sl, C2, (rs.up t.le).up t2.le, st2, q2.bind fun z C3 W3 w H3 _ t3 st3 rz q3 => ?_⟩⟩
    have rx3 := (rx.up t2.le).up t3.le
    have ry3 := ry.up t3.le
    split at q3
    · rename_i d ed
      obtain ⟨a', ov, e, g, h⟩ := dGetK_ok st3 rx3 ry3 ed
      cases e
      cases ov with
      | none => exact h.elim
      | some w' => exact ⟨some w', g, q3 W3 w' H3 .refl st3 h⟩
    · rename_i ed
      obtain ⟨a', ov, e, g, h⟩ := dGetK_ok st3 rx3 ry3 ed
      cases e
      cases ov with
      | none => exact ⟨none, g, q3 W3 w H3 .refl st3 rz⟩
      | some w' => exact h.elim
    · exact q3.elim⟩⟩
/-! ### a dict written out -/
abbrev PF := Sl → Cells → Res (List (D × D))
def pNil : PF := fun _ C => .ok [] C
def pCons (fk fv : EF) (r : PF) : PF := fun s C => (fk s C).bind fun x C => (fv s C).bind fun y C => (r s C).bind fun ps C => .ok ((x, y) :: ps) C
def RepPs (G : Glo) (W : Wd) : List (D × D) → List (V × V) → Prop := Paired fun p q => RepV G W p.1 q.1 ∧ RepV G W p.2 q.2
structure DPs (X : Cx) (G : Glo) (Wx : WX) (pos : Pos) (keys : List (Option Expr)) (values : List Expr) (trs : List (TE × TE)) (f : PF) : Prop where
  pps : PPs X pos keys values trs
  use : ∀ σ H Q, tR G Wx (RepPs G) f σ H Q → tPairs trs σ H Q
theorem dps_nil : DPs X G Wx pos [] [] [] pNil := ⟨pps_nil, fun σ H Q ⟨W, sl, C, rs, st, q⟩ => q W [] H .refl st .nil⟩
theorem dps_cons {k v : Expr} {ks : List (Option Expr)} {vs : List Expr} {fk fv : EF} {trs : List (TE × TE)} {r : PF} (hk : DE X G Wx k fk) (hv : DE X G Wx v fv) (hr : DPs X G Wx pos ks vs trs r) : DPs X G Wx pos (some k :: ks) (v :: vs) ((tD G Wx fk, tD G Wx fv) :: trs) (pCons fk fv r) :=
  ⟨pps_cons hk.pe hv.pe hr.pps, fun σ H Q ⟨W, sl, C, rs, st, q⟩ => ⟨W, sl, C, rs, st, q.bind fun x C1 W1 v H1 _ t st1 rx q1 => ⟨W1, sl, C1, rs.up t.le, st1, q1.bind fun y C2 W2 u H2 _ t2 st2 ry q2 => hr.use _ _ _ ⟨W2, sl, C2, (rs.up t.le).up t2.le, st2, q2.bind fun ps C3 W3 zs H3 _ t3 st3 rz q3 => q3 W3 _ H3 .refl st3 (.cons ⟨(rx.up t2.le).up t3.le, ry.up t3.le⟩ rz)⟩⟩⟩⟩
def keyPs : List (D × D) → Option (List (Key × D))
  | [] => some []
  | (x, y) :: r => match keyOf x, keyPs r with
    | some k, some l => some ((k, y) :: l)
    | _, _ => none
def mergeD (kvs more : List (Key × D)) : List (Key × D) := more.foldl (fun acc kv => putD acc kv.1 kv.2) kvs
theorem keyPs_ok {W : Wd} : ∀ {ps : List (D × D)} {zs : List (V × V)} {l : List (Key × D)}, RepPs G W ps zs → keyPs ps = some l → ∃ m, zs = m.map (fun kv => (kV kv.1, kv.2)) ∧ RepKV G W l m
  | [], _, _, r, h => by cases h; cases r; exact ⟨[], rfl, .nil⟩
  | (x, y) :: ps, _, l, r, h => by
    cases r with
    | cons hd tl =>
      rename_i z zs
      unfold keyPs at h
      split at h
      · rename_i k l' e1 e2
        cases h
        obtain ⟨m, rfl, hm⟩ := keyPs_ok tl e2
        refine ⟨(k, z.2) :: m, ?_, .cons ⟨rfl, hd.2⟩ hm⟩
        rw [List.map_cons, ← keyOf_ok hd.1 e1]
      · cases h
theorem merge_ok {W : Wd} : ∀ {more : List (Key × D)} {more' : List (Key × V)} {l : List (Key × D)} {m : List (Key × V)}, RepKV G W more more' → RepKV G W l m → RepKV G W (mergeD l more) (mergeK m more')
  | _, _, _, _, .nil, h => h
  | _, _, _, _, .cons hd tl, h => by
    unfold mergeD mergeK
    rw [List.foldl_cons, List.foldl_cons, ← hd.1]
    exact merge_ok tl (put_ok _ h hd.2)
theorem Paired.len2 {α β : Type} {F : α → β → Prop} {l : List α} {m : List β} (h : Paired F l m) : l.length = m.length := Paired.len' h
def eDisp (f : PF) : EF := fun s C => (f s (C.new (.dk []))).bind fun ps C2 => match C2.get C.nx, keyPs ps with
  | some (.dk []), some kvs => if kvs.length ≤ 15 then .ok (.cel C.nx) (C2.set C.nx (.dk (mergeD [] kvs))) else .no
  | _, _ => .no
theorem de_disp {keys : List (Option Expr)} {values : List Expr} {trs : List (TE × TE)} {f : PF} (h : DPs X G Wx pos keys values trs f) (hall : keys.all (·.isSome) = true) (hl : keys.length = values.length) (h0 : keys ≠ []) (h15 : keys.length ≤ 15) : DE X G Wx (.Dict keys values pos) (eDisp f) :=
  de_weak (pe_disp h.pps hall hl h0 h15) fun σ H Q ⟨W, sl, C, rs, st, q⟩ => fun p hp => by
    obtain ⟨s1, s2⟩ := fr_new (o := .dk []) (ho := .dK []) st hp ⟨[], rfl, .nil⟩
    refine h.use _ _ _ ⟨_, sl, C.new (.dk []), rs.up s2.le, s1, ?_⟩
    have q' := Post.step (Q := Q) s2 q
    unfold eDisp at q'
    refine q'.bind fun ps C2 W2 zs H2 _ t2 st2 rz q2 => ?_
    have hcm : W2.cm C.nx = some p := t2.le.cm _ _ (if_pos rfl)
    split at q2
    · rename_i kvs e1 e2
      split at q2
      · rename_i h15'
        obtain ⟨b, ho, h1, h2, h3, m0, rfl, h4⟩ := st2.cells _ _ e1
        rw [hcm] at h1; cases h1
        cases h4
        obtain ⟨m, rfl, hm⟩ := keyPs_ok rz e2
        refine ⟨h3, m, rfl, by rw [← Paired.len2 hm]; exact h15', ?_⟩
        obtain ⟨u1, u2⟩ := fr_set (o := .dk (mergeD [] kvs)) (ho := .dK (mergeK [] m)) st2 e1 hcm ⟨_, rfl, merge_ok hm .nil⟩
        exact q2 _ _ _ u2 u1 (.cel hcm)
      · exact q2.elim
    · exact q2.elim
/-! ### a tuple that the program's top made -/
theorem de_konT {x : Str} {a : Addr} {vs : List V} {ds : List D} (hk : X.K = G.K) (hg : Gl X x) (hm : X.mg x = some (.ref a)) (hs : ∀ H : Hp, SqT X.K H a vs) (hr : ∀ W, RepVs G W ds vs) (hd : (x == ("__debug__" : Str)) = false := by decide) : DE X G Wx (.Name x pos) (eC (.ktp ds)) :=
  de_glob hg hm (v := .ref a) rfl (fun W => RepV.ktp (by rw [← hk]; exact hs _) (hr W)) hd
theorem de_konT2 {x : Str} {vs : List V} {ds : List D} (hk : X.K = G.K) (hg : Gl X x) (hm : ∃ a, X.mg x = some (.ref a) ∧ ∀ H : Hp, SqT X.K H a vs) (hr : ∀ W, RepVs G W ds vs) (hd : (x == ("__debug__" : Str)) = false := by decide) : DE X G Wx (.Name x pos) (eC (.ktp ds)) := by
  obtain ⟨a, h1, h2⟩ := hm
  exact de_konT hk hg h1 h2 hr hd
end
end DL

set_option Elab.async false
set_option linter.all false
set_option maxRecDepth 100000
set_option autoImplicit false
namespace DL
open PySem PySem.Spec PyProof.Rows L2
/-! ### lists compared by their lengths, or being of the same objects -/
def rListL (neg : Bool) (K : PySem.W.Frag) : R2 := fun x y H Q => ∃ a b xs ys, x = .ref a ∧ y = .ref b ∧ SqL K H a xs ∧ SqL K H b ys ∧ ((xs.length ≠ ys.length ∧ Q (.bl neg) H) ∨ (xs = ys ∧ (∀ v ∈ xs, ∃ p, v = .ref p) ∧ Q (.bl !neg) H))
section
variable {X : Cx} {G : Glo} {Wx : WX}
theorem vals_refs : ∀ {xs : List V} {us ws : List Value}, Vals xs us → Vals xs ws → (∀ v ∈ xs, ∃ p, v = .ref p) → us = ws
  | [], _, _, r, q, _ => by cases r; cases q; rfl
  | v :: xs, _, _, r, q, h => by
    cases r with
    | cons r1 r2 =>
      cases q with
      | cons q1 q2 =>
        obtain ⟨p, rfl⟩ := h v (by simp)
        cases (show _ = Value.ref p from r1)
        cases (show _ = Value.ref p from q1)
        rw [vals_refs r2 q2 fun v m => h v (by simp [m])]
theorem op_eqL (hu : X.A.units + 64 < cLine) : OpR X (compareOp .Eq) (rListL false X.K) := by
  intro pins s σ H x y v u Q I rx ry h
  obtain ⟨a, b, xs, ys, rfl, rfl, ha, hb, h⟩ := h
  cases (show v = Value.ref a from rx)
  cases (show u = Value.ref b from ry)
  obtain ⟨us, r1, p1, _⟩ := I.list ha
  obtain ⟨ws, r2, p2, _⟩ := I.list hb
  rcases h with ⟨hne, q⟩ | ⟨rfl, hr, q⟩
  · exact SeqAt.RcAt.lists_lengths p1.isList p2.isList (by
      rw [List.size_toArray, List.size_toArray, ← r1.length, ← r2.length]; simpa using hne) (by omega) _ _ _ _ ⟨.bl false, H, I, rfl, q⟩
  · have e := vals_refs r1 r2 hr
    subst e
    refine SeqAt.RcAt.lists (e := fun _ => true) p1.isList p2.isList rfl (by omega) (fun j h1 h2 => SeqAt.EqAt.same _) _ _ _ _ ?_
    rw [show ((List.range us.toArray.size).all fun _ => true) = true from List.all_eq_true.mpr fun _ _ => rfl]
    exact ⟨.bl true, H, I, rfl, q⟩
theorem op_neL (hu : X.A.units + 64 < cLine) : OpR X (compareOp .NotEq) (rListL true X.K) := by
  intro pins s σ H x y v u Q I rx ry h
  obtain ⟨a, b, xs, ys, rfl, rfl, ha, hb, h⟩ := h
  cases (show v = Value.ref a from rx)
  cases (show u = Value.ref b from ry)
  obtain ⟨us, r1, p1, _⟩ := I.list ha
  obtain ⟨ws, r2, p2, _⟩ := I.list hb
  rcases h with ⟨hne, q⟩ | ⟨rfl, hr, q⟩
  · exact SeqAt.RcNeAt.lists_lengths p1.isList p2.isList (by
      rw [List.size_toArray, List.size_toArray, ← r1.length, ← r2.length]; simpa using hne) (by omega) _ _ _ _ ⟨.bl true, H, I, rfl, q⟩
  · have e := vals_refs r1 r2 hr
    subst e
    refine SeqAt.RcNeAt.lists (e := fun _ => true) p1.isList p2.isList rfl (by omega) (fun j h1 h2 => SeqAt.EqAt.same _) _ _ _ _ ?_
    rw [show ((List.range us.toArray.size).all fun _ => true) = true from List.all_eq_true.mpr fun _ _ => rfl]
    exact ⟨.bl false, H, I, rfl, q⟩
def celN : D → Option Nat
  | .cel n => some n
  | _ => none
def sameC : List D → List D → Bool
  | [], [] => true
  | x :: l, y :: m => (match celN x, celN y with | some i, some j => i == j | _, _ => false) && sameC l m
  | _, _ => false
def listL (neg : Bool) (x y : D) (C : Cells) : Res D := match lstOf C x, lstOf C y with
  | some l, some m => if l.length = m.length then (if sameC l m = true then .ok (.bl !neg) C else .no) else .ok (.bl neg) C
  | _, _ => .no
abbrev dEqL := listL false
abbrev dNeL := listL true
theorem celN_ok {d : D} {n : Nat} (h : celN d = some n) : d = .cel n := by
  cases d <;> cases h; rfl
theorem sameC_ok {W : Wd} : ∀ {l m : List D} {vs us : List V}, RepVs G W l vs → RepVs G W m us → sameC l m = true → vs = us ∧ ∀ v ∈ vs, ∃ p, v = .ref p
  | [], [], _, _, r, q, _ => by rw [r.nil_inv, q.nil_inv]; exact ⟨rfl, by simp⟩
  | [], _ :: _, _, _, _, _, h => by cases h
  | _ :: _, [], _, _, _, _, h => by cases h
  | x :: l, y :: m, _, _, r, q, h => by
    obtain ⟨v, vr, rfl, h1, h2⟩ := r.cons_inv
    obtain ⟨u, ur, rfl, k1, k2⟩ := q.cons_inv
    unfold sameC at h
    rw [Bool.and_eq_true] at h
    obtain ⟨e, h⟩ := h
    split at e
    · rename_i i j e1 e2
      have : i = j := by simpa using e
      subst this
      have e1 := celN_ok e1
      have e2 := celN_ok e2
      subst e1; subst e2
      obtain ⟨a, rfl, ha⟩ := h1.cel_
      obtain ⟨b, rfl, hb⟩ := k1.cel_
      rw [ha] at hb; cases hb
      obtain ⟨rfl, hr⟩ := sameC_ok h2 k2 h
      exact ⟨rfl, fun v mm => by
        rcases List.mem_cons.1 mm with rfl | mm
        · exact ⟨a, rfl⟩
        · exact hr v mm⟩
    · cases e
theorem o2_listL (neg : Bool) : Op2 G (rListL neg G.K) (listL neg) := fun Wx σ W C H x y v u Q st rx ry q => by
  unfold listL at q
  split at q
  · rename_i l m e1 e2
    obtain ⟨a, vs, rfl, h1, h2⟩ := lstOf_ok st rx e1
    obtain ⟨b, us, rfl, k1, k2⟩ := lstOf_ok st ry e2
    split at q
    · split at q
      · rename_i hs
        obtain ⟨rfl, hr⟩ := sameC_ok h2 k2 hs
        exact ⟨a, b, vs, vs, rfl, rfl, h1, k1, .inr ⟨rfl, hr, q W _ H .refl st .bl⟩⟩
      · exact q.elim
    · rename_i hl
      exact ⟨a, b, vs, us, rfl, rfl, h1, k1, .inl ⟨by rw [← h2.length, ← k2.length]; exact hl, q W _ H .refl st .bl⟩⟩
  · exact q.elim
end
end DL

set_option Elab.async false
set_option linter.all false
set_option maxRecDepth 100000
set_option maxHeartbeats 1000000
set_option autoImplicit false
namespace DL
open PySem PySem.Spec PyProof.Rows L2
/-! ### exceptions: raise, try, isinstance -/
/-- the exception at a, as the heap holds it -/
def ExcV (a : Addr) (cls : Value) (d : Option Addr) : HO := .ext fun h => ∃ oe : Obj, h.get? a = some oe ∧ oe.cls = cls ∧ oe.dict = d ∧ ∃ vs, oe.data = .fields vs
section
variable {X : Cx} {pins : List (Addr × Obj)} {σ : L2.St} {H : Hp} {s : Shared}
theorem hok_reg {P : Program} {w : World} {h : Heap} {a : Addr} {o : HO} (k : HOk P w H h) (na : H a = none) (new : ObjOk P w (upd H a o) h a o) : HOk P w (upd H a o) h := fun b u e => by
  by_cases q : b = a
  · subst q; rw [upd_same] at e; cases e; exact new
  · rw [upd_ne q] at e
    refine (k b u e).stay (fun _ _ _ z => z) (fun c z => ?_) fun c xs z => ?_
    · rw [upd_ne (ne_of_none z na)]; exact z
    · rw [upd_ne (ne_of_none z na)]; exact z
theorem inv_reg {a : Addr} {oe : Obj} {cls : Value} {d : Option Addr} (I : Inv X pins σ H s) (ha : s.heap.get? a = some oe) (hz : Zc cls d oe) (hd : ∃ vs, oe.data = .fields vs) (na : H a = none) (n0 : X.s_0.heap.get? a = none) (nL : a ≠ X.env.locals)
    (np : ∀ p ∈ X.pn ++ pins, p.1 ≠ a) : Inv X pins σ (upd H a (ExcV a cls d)) s := by
  have nS : ∀ b o, X.s_0.heap.get? b = some o → b ≠ a := fun b o e z => by rw [z, n0] at e; cases e
  refine ⟨I.ok, I.os, I.bare, ⟨I.base.keep, I.base.slot, fun b o e n hx => ?_, I.base.there, fun b xs e => ?_, fun b o u e => ?_, fun b ps e => ?_⟩, I.loc, I.cell, ?_, fun x c e => ?_, fun p hp => ?_, ?_, I.len⟩
  · rw [upd_ne (nS b o e)]; exact I.base.free b o e n hx
  · have z := I.base.tups b xs e
    rw [upd_ne (ne_of_none z na)]; exact z
  · have z := I.base.frzs b o u e
    rw [upd_ne (ne_of_none z na)]; exact z
  · obtain ⟨m, z⟩ := I.base.tbls b ps e
    exact ⟨m, by rw [upd_ne (ne_of_none z na)]; exact z⟩
  · rw [upd_ne (Ne.symm nL)]; exact I.free
  · have : c ≠ a := fun z => by
      obtain ⟨v, o, ho, hc⟩ := I.cell x c e
      obtain ⟨vs, hv⟩ := hd
      rw [z, ha] at ho; cases ho
      rw [hv] at hc; cases hc
    rw [upd_ne this]; exact I.freeC x c e
  · obtain ⟨e, n, ne, nf, dd⟩ := I.pin p hp
    exact ⟨e, by rw [upd_ne (np p hp)]; exact n, ne, nf, dd⟩
  · refine hok_reg I.hok na ?_
    refine ⟨⟨oe, ha, hz.1, hz.2, hd⟩, ⟨oe, ha⟩, fun h1 h2 ⟨oe1, e1, r⟩ st => ⟨oe1, st _ e1, r⟩⟩
/-- what the clause wishes: behind the suite the exception is known -/
def wAsX (K : PySem.W.Frag) (c : Value) (i : Nat) (ts : Addr → Value → Option Addr → TS) (Wout : WX) (D : Ends) : WX := fun cls d σ H =>
  ∃ b, PySem.W.exmOne K cls c = some b ∧ (b = true → ∀ a, H a = none → ts a cls d { nx := fun σ' H' => D.nx (σ'.set i none) (upd H' a (ExcV a cls d)), rt := fun v H' => D.rt v (upd H' a (ExcV a cls d)), bk := fun σ' H' => D.bk (σ'.set i none) (upd H' a (ExcV a cls d)), ct := fun σ' H' => D.ct (σ'.set i none) (upd H' a (ExcV a cls d)) } (σ.set i (some (.ref a))) H) ∧
    (b = false → Wout cls d σ H)
variable {x n : Str} {c : Value} {i : Nat} {body suite : List Stmt} {b₀ : Stmt} {np pos pos' : Pos} {tb : WX → TS} {ts : Addr → Value → Option Addr → TS} {Wout : WX}
theorem ps_try_asX (hs : X.stack = X.env :: X.outer) (hf : X.env.frame = some X.env.locals) (hex : X.ex = []) (hpn : X.pn = []) (hN : X.N.Nodup) (hi : X.N[i]? = some n) (hln : X.env.kindOf n = some .local) (hc : Names X x c) (tk : Takes X Wout)
    (hb : ∀ (W : WX) (pn : List (Addr × Obj)) (xe : Value → Shared → Prop), Takes (X.tr pn xe) W → PassesOwn (model X.prog X.w) X.A X.env xe → PSs (X.tr pn xe) body (tb W))
    (hsu : ∀ (a : Addr) (oe : Obj) (cls : Value) (d : Option Addr) (pn : List (Addr × Obj)), Zc cls d oe → (∃ vs, oe.data = .fields vs) → PSs (X.suite a ((a, oe) :: pn)) (b₀ :: suite) (ts a cls d)) :
    PS X (.Try body [.ExceptHandler (some (.Name x np)) (some n) (b₀ :: suite) pos'] [] [] pos) (fun D σ H => tb (wAsX X.K c i ts Wout D) D σ H) := by
  refine ⟨fun pins s σ H D I h => ?_⟩
  have ok := I.ok
  have hfr : X.A.frames = some (X.env :: X.outer) := by rw [ok.frames, hs]
  have hloc : Loc X.env.scope n := .inl hln
  refine wpAny_Try_except ?_
  refine wpAny_mono ((hb (wAsX X.K c i ts Wout D) (X.pn ++ pins) (fun e s₁ => wpAny (model X.prog X.w) X.A (noteFrame e X.env) (fun _ s₂ => wpAny (model X.prog X.w) X.A (setFlight e none) (fun _ s₃ =>
    wpAny (model X.prog X.w) X.A (handleBy e X.env [.ExceptHandler (some (.Name x np)) (some n) (b₀ :: suite) pos']) (SP X pins D) X.xe s₃) X.xe s₂) X.xe s₁) (fun u s' xx => ?_) PassesOwn.looking).run [] s σ H D (I.toTry _) h) (fun f s1 hsp => ?_) (fun e s1 he => he)
  · -- the catch
    obtain ⟨a, B, sI, pins', σ', H', cls, d, rfl, J', nb, up, sky, na, os, ag, b, hb1, hyes, hno⟩ := xx
    have J : Inv X pins σ' H' sI := J'.ofTry ok
    have sky' : Sky B (X.env :: X.outer) a (Zc cls d) X.env.locals s'.heap := by rw [← hs]; exact sky
    show wpAny (model X.prog X.w) X.A (noteFrame (.ref a) X.env) _ _ _
    refine Sky.land Zc.steady hfr hf sky' fun h3 fl3 up3 => ?_
    have J3 : Inv X pins σ' H' { s' with heap := h3 } := J.landed nb fl3.1 (up.trans up3) os ag
    obtain ⟨oe3, vs3, he3, hz3, hd3⟩ := fl3.there
    have notFr : ∀ {h : Heap} {o : Obj} {vs : Array Value}, h.FunFrames B (X.env :: X.outer) → h.get? a = some o → o.data = .fields vs → a ∉ frs (X.env :: X.outer) := fun {h o vs} ff e dd hm => by
      obtain ⟨_, o', e', hnf⟩ := ff.mem hm
      rw [e] at e'; cases e'
      exact hnf _ dd
    have nfr := notFr fl3.2.2.1 he3 hd3
    have nL : a ≠ X.env.locals := fun z => nfr (List.mem_filterMap.mpr ⟨X.env, List.mem_cons_self, by rw [hf, z]⟩)
    have nF : a ∉ X.fs := fun hm => by
      obtain ⟨e, he, q⟩ := List.mem_filterMap.mp hm
      exact nfr (List.mem_filterMap.mpr ⟨e, List.mem_cons_of_mem _ he, q⟩)
    have n0 : X.s_0.heap.get? a = none := by
      cases q : X.s_0.heap.get? a with
      | none => rfl
      | some o =>
        obtain ⟨o', e1⟩ := J.base.there a o q (by rw [hex]; simp)
        have e2 := nb a o' e1 (by rw [hs]; exact nfr)
        rw [fl3.2.1] at e2; cases e2
    have S3 := J3.suite he3 hd3 na nL nF
    have npins : ∀ p ∈ X.pn ++ pins, p.1 ≠ a := fun p hp z => by
      have e1 := (J.pin p hp).1
      have e2 := nb p.1 p.2 e1 (by
        rw [hs, z]; exact nfr)
      rw [z, fl3.2.1] at e2; cases e2
    refine wpAny_handleBy_cons (codeAny_handlers_test ?_) (by intro q; cases q)
    have LT : PySem.W.Looks (model X.prog X.w) h3 (typeOf (.ref a)) cls := fun A Q E s k q => wpAny_typeOf_ref (k _ _ he3) (by rw [hz3.1]; exact q)
    have LM := PySem.W.exm_one (M := model X.prog X.w) (J3.kIn) LT hb1
    have test : ∀ {Q : Value → Shared → Prop} {E : Value → Shared → Prop}, Q c { s' with heap := h3 } → wpAny (model X.prog X.w) (X.A.mark (some (.ref a))) (eval (.Name x np) X.env) Q E { s' with heap := h3 } := fun {Q E} q => by
      obtain ⟨hg, hdbg, hm | ⟨hm, hv, hnn⟩⟩ := hc
      · exact ld_glob (X := X.suite a ((a, oe3) :: (X.pn ++ pins))) S3 hg hm q hdbg
      · exact ld_blt (X := X.suite a ((a, oe3) :: (X.pn ++ pins))) S3 hg hm hv q hnn hdbg
    refine test (LM.here ?_)
    cases b with
    | true =>
      refine codeAny_handlers_suite_as ?_
      refine HandSPX.lands_againZ fl3 fun h4 fl4 up4 => ?_
      have J4 : Inv X pins σ' H' { s' with heap := h4 } := J.landed nb fl4.1 ((up.trans up3).trans up4) os ag
      obtain ⟨oe4, vs4, he4, hz4, hd4⟩ := fl4.there
      have S4 := J4.suite he4 hd4 na nL nF
      refine store_ok (X := X.suite a ((a, oe4) :: (X.pn ++ pins))) (v := .ref a) S4 hN hi hloc rfl (fun s5 S5 => ?_) (.inr hln)
      refine wpAny_mono ((hsu a oe4 cls d (X.pn ++ pins) hz4 ⟨_, hd4⟩).run [] s5 _ H' _ S5 (hyes rfl a na)) (fun f s6 hsp => ?_) (fun _ _ z => False.elim z)
      have reg : ∀ {σ6 : L2.St} {H6 : Hp}, Inv (X.suite a ((a, oe4) :: (X.pn ++ pins))) [] σ6 H6 s6 → Inv X pins σ6 (upd H6 a (ExcV a cls d)) s6 := fun {σ6 H6} S6 => by
        have pp := S6.pin (a, oe4) (List.mem_append_left _ List.mem_cons_self)
        exact inv_reg (S6.unsuite ok) pp.1 hz4 ⟨_, hd4⟩ pp.2.1 n0 nL npins
      have end_ : ∀ {σ6 : L2.St} {H6 : Hp} {Q : Shared → Prop}, Inv (X.suite a ((a, oe4) :: (X.pn ++ pins))) [] σ6 H6 s6 → (∀ s7, Inv X pins (σ6.set i none) (upd H6 a (ExcV a cls d)) s7 → Q s7) →
          wpAny (model X.prog X.w) X.A (do bindName X.env n .none; unbindBehindTheSuite X.env n pos') (fun _ s7 => Q s7) X.xe s6 := fun {σ6 H6 Q} S6 hq => gone_ok (reg S6) hN hi hln hq
      cases f with
      | next =>
        obtain ⟨σ6, H6, S6, q6⟩ := hsp
        exact end_ S6 fun s7 J7 => ⟨_, _, J7, q6⟩
      | brk =>
        obtain ⟨σ6, H6, S6, q6⟩ := hsp
        exact end_ S6 fun s7 J7 => ⟨_, _, J7, q6⟩
      | cont =>
        obtain ⟨σ6, H6, S6, q6⟩ := hsp
        exact end_ S6 fun s7 J7 => ⟨_, _, J7, q6⟩
      | ret u =>
        obtain ⟨v6, σ6, H6, S6, r6, q6⟩ := hsp
        exact end_ S6 fun s7 J7 => ⟨_, _, _, J7, r6, q6⟩
    | false =>
      show wpAny _ X.A (handleBy (.ref a) X.env []) _ _ _
      refine wpAny_handleBy_nil ?_
      obtain ⟨k1, k2, k3, oe, vs, T, oT, ts', he, hz, hd, h1, hr⟩ := id fl3
      unfold PySem.passOn
      refine wpAny_bind (wpAny_field he hd h1 ?_)
      rw [if_neg (show ¬ ((Value.ref T == Value.none) = true) from by simp)]
      have fin : wpAny (model X.prog X.w) X.A (setFlight (.ref a) X.env.frame) (fun _ s4 => wpAny (model X.prog X.w) X.A (throw (.ref a) : Sem Flow) (SP X pins D) X.xe s4) X.xe { s' with heap := h3 } := by
        rw [hf]
        refine HandSPX.setFlight_upZ fl3 fun h4 hh4 up4 => wpAny_throw (tk _ _ ?_)
        exact ⟨a, B, sI, pins, σ', H', cls, d, rfl, J, nb, (up.trans up3).trans up4, .inr (.inr (by rw [hs]; exact hh4)), na, os, ag, hno rfl⟩
      first
        | exact wpAny_bind (wpAny_pure (wpAny_bind fin))
        | exact wpAny_bind fin
  · cases f with
    | next =>
      obtain ⟨σ', H', J', q⟩ := hsp
      exact wpAny_execs_nil ⟨σ', H', J'.ofTry ok, q⟩
    | brk =>
      obtain ⟨σ', H', J', q⟩ := hsp
      exact ⟨σ', H', J'.ofTry ok, q⟩
    | cont =>
      obtain ⟨σ', H', J', q⟩ := hsp
      exact ⟨σ', H', J'.ofTry ok, q⟩
    | ret u =>
      obtain ⟨v, σ', H', J', r, q⟩ := hsp
      exact ⟨v, σ', H', J'.ofTry ok, r, q⟩
end

/-! ### isinstance of a known exception -/
def rIsX (K : PySem.W.Frag) : List V → Hp → VK → Prop := fun xs H Q => ∃ (a D : Addr) (c : V) (cv : Value) (b : Bool), xs = [.ref a, c] ∧ H a = some (ExcV a (.ref D) none) ∧ ClsV c cv ∧ ExcC K D ∧ PySem.W.kitOne K (.ref D) cv = some b ∧ Q (.bl b) H
theorem call_isX {X : Cx} : CallR X (.builtin "isinstance") (rIsX X.K) := by
  intro pins s σ H xs us Q I r h
  obtain ⟨a, D, c, cv, b, rfl, ha, hcv, C, e, q⟩ := h
  obtain ⟨u1, u2, rfl, r1, r2⟩ := vals2 r
  cases r1
  have ec := hcv.eq r2
  subst ec
  obtain ⟨⟨oe, hget, h1, h2, vs, hv⟩, _, _⟩ := (show ObjOk X.prog X.w H s.heap a (ExcV a (.ref D) none) from I.hok a _ ha)
  have J : PySem.W.InstAt s.heap a oe D none := by
    obtain ⟨oc, od, oda, osl⟩ := oe
    dsimp only at h1 h2 hv
    subst h1 h2 hv
    exact ⟨hget, rfl, rfl, trivial⟩
  exact PySem.W.kia_one (PySem.W.handS_kitx_exc C.hg C.hk C.hs C.hd C.ha C.hn C.ht C.hm) I.kIn J e (fun z => nomatch z) fun tk => ⟨.bl b, H, I.kept (t' := tk) fun _ _ z => z, rfl, q⟩
/-- what the text has of the exceptions' classes cs -/
structure ExF (G : Glo) (cs : List Nat) : Prop where
  ex : ∀ c ∈ cs, ExcC G.K (G.cls c)
  oq : ∀ c ∈ cs, ∀ vs a, G.oq c vs a = ExcV a (.ref (G.cls c)) none
/-- between the exceptions' classes -/
def SubF (G : Glo) : ITab → Prop
  | [] => True
  | ((t, v), b) :: r => PySem.W.subIn G.K (.ref (G.cls (v - 10))) (.ref (G.cls (t - 10))) = some b ∧ SubF G r
theorem SubF.get {G : Glo} : ∀ {tb : ITab} {t v : Nat} {b : Bool}, SubF G tb → tb.lookup (t, v) = some b → PySem.W.subIn G.K (.ref (G.cls (v - 10))) (.ref (G.cls (t - 10))) = some b
  | [], _, _, _, _, h => by simp at h
  | ((t', v'), b') :: r, t, v, b, k, h => by
    by_cases e : (t, v) = (t', v')
    · obtain ⟨rfl, rfl⟩ := Prod.mk.inj e
      simp [List.lookup] at h
      rw [← h]; exact k.1
    · have hb : ((t, v) == (t', v')) = false := beq_eq_false_iff_ne.mpr e
      simp only [List.lookup, hb] at h
      exact SubF.get k.2 h
def eIsiX (T : Tab) (tb : ITab) (cs : List Nat) (t : Nat) (f : EF) : EF := fun s C => (f s C).bind fun x C => match x with
  | .opq c _ => if c ∈ cs then (match tb.lookup (t, 10 + c) with | some b => .ok (.bl b) C | none => .no) else .no
  | x => (match knd C x with
    | some v => if v < 10 + T.ncl then (match isT tb t v with | some b => .ok (.bl b) C | none => .no) else .no
    | none => .no)
section
variable {X : Cx} {G : Glo} {Wx : WX} {a b e o i value : Expr} {es : List Expr} {f fa fb fo fi fv : EF} {af : AF} {x m : Str} {p pos pos' p2 apos cpos : Pos} {tb : ITab}
theorem de_isiX {t : Nat} {cv : V} {cs : List Nat} (hk : X.K = G.K) (cf : CF G) (kf : KitF G tb) (ef : ExF G cs) (hT : ClsV cv (kvOf G t)) (hc : PE X b (tC cv)) (ha : DE X G Wx a fa) (hg : Gl X "isinstance") (hm : X.mg "isinstance" = none)
    (hpl : (backTo pos (starEach [b] X.env)).any (·.1) = false := by rfl) (he : starEach [a, b] X.env = (false, eval a X.env) :: starEach [b] X.env := by rfl) (he2 : starEach [b] X.env = (false, eval b X.env) :: starEach [] X.env := by rfl) :
    DE X G Wx (.Call (.Name "isinstance" p) [a, b] [] pos) (eIsiX G.T tb cs t fa) :=
  ⟨PE.weak (pe_callB (CallR.or call_isi call_isX) hg hm (by decide +kernel) (pa_cons ha.pe (pa_cons hc pa_nil he2) he) (by decide) (by decide) he hpl) fun σ H Q ⟨W, sl, C, rs, st, q⟩ => ⟨W, sl, C, rs, st, q.bind fun y C1 W1 v H1 _ t1 st1 rx q1 => by
    split at q1
    · rename_i c _ _
      split at q1
      · rename_i hc
        split at q1
        · rename_i bb eb
          obtain ⟨a', vs, rfl, h1, _⟩ := rx.opq_
          rw [ef.oq c hc] at h1
          refine .inr ⟨a', G.cls c, cv, _, bb, rfl, st1.F _ _ h1, hT, by rw [hk]; exact ef.ex c hc, ?_, q1 W1 _ H1 .refl st1 .bl⟩
          have := kf.get eb
          unfold kvOf at this
          rw [if_neg (show ¬ 10 + c < 10 by omega), show 10 + c - 10 = c by omega] at this
          rw [hk]; exact this
        · exact q1.elim
      · exact q1.elim
    · split at q1
      · rename_i n en
        split at q1
        · rename_i hn
          split at q1
          · rename_i bb eb
            exact .inl ⟨v, cv, _, _, bb, rfl, hT, by rw [hk]; exact knd_ok cf st1 rx en hn, by rw [hk]; exact isT_ok kf eb, q1 W1 _ H1 .refl st1 .bl⟩
          · exact q1.elim
        · exact q1.elim
      · exact q1.elim⟩⟩
/-! ### raise -/
structure RaF (K : PySem.W.Frag) (C : Addr) : Prop where
  ex : PySem.W.excIn K C [.type "ValueError", .type "Exception", .type "BaseException", .type "object"] "ValueError.__new__" = true
  kp : PySem.W.keepIn K (.ref C) = true
  sb : PySem.W.subIn K (.ref C) (.type "BaseException") = some true
  ty : PySem.W.typeIn K (.ref C) = some (.type "type")
def sRaise (c : Nat) : SF := fun s C => .err c s C
theorem ds_raise {m : Str} {j : Nat} {c : Nat} (hk : X.K = G.K) (hc : X.calm = true) (tk : Takes X Wx) (ra : RaF G.K (G.cls c)) (hm : X.mg x = some (.ref (G.cls c))) (hg : Gl X x) (hdb : (x == ("__debug__" : Str)) = false := by decide) :
    DS X G Wx (.Raise (some (.Call (.Name x p) [.Constant (.str m) j p2] [] pos)) none pos') (sRaise c) :=
  ⟨PS.weak (ps_raise hc tk (pmk_own PySem.F.excBase_ValueError (by rw [hk]; exact ra.ex) hm (by rw [hk]; exact ra.kp) (raises_own (by rw [hk]; exact ra.sb) (by rw [hk]; exact ra.ty)) hg hdb)) fun D σ H ⟨W, sl, C, rs, st, q⟩ => q W σ H .refl st rs⟩
end
/-! ### try -/
theorem set_none_set {α : Type} {l : List (Option α)} {i j : Nat} {d : Option α} : ((l.set i none).set j d).set i none = (l.set j d).set i none := by
  by_cases h : i = j
  · subst h; simp
  · rw [List.set_comm _ _ (Ne.symm h), List.set_comm _ _ (Ne.symm h), List.set_set]
/-- the class t that a clause names -/
structure ClF (K : PySem.W.Frag) (C : Addr) : Prop where
  sb : PySem.W.subIn K (.ref C) (.type "BaseException") = some true
  hd : PySem.W.hasDictIn K C = true
  ty : PySem.W.typeIn K (.ref C) = some (.type "type")
def sTryAs (tb : ITab) (cs : List Nat) (t i j : Nat) (gb : SF) : SF := fun s C => match gb s C with
  | .err c s' C' => if c ∈ cs then (match tb.lookup (10 + t, 10 + c) with
    | some true => .nxt ((s'.set j (some (.opq c []))).set i none) C'
    | some false => .err c s' C'
    | none => .no) else .no
  | r => r
def sTryOnly (tb : ITab) (t : Nat) (gb gs : SF) : SF := fun s C => match gb s C with
  | .err c s' C' => (match tb.lookup (10 + t, 10 + c) with
    | some true => (match gs s' C' with | .err _ _ _ => .no | r => r)
    | some false => .err c s' C'
    | none => .no)
  | r => r
section
variable {X : Cx} {G : Glo} {Wx : WX} {x n y : Str} {i j t : Nat} {tb : ITab} {cs : List Nat} {body suite : List Stmt} {b₀ : Stmt} {gb gs : SF} {np pos pos' py pn0 ps0 : Pos}
theorem exm_get {c : Nat} {b : Bool} (sf : SubF G tb) (cl : ClF G.K (G.cls t)) (e : tb.lookup (10 + t, 10 + c) = some b) : PySem.W.exmOne G.K (.ref (G.cls c)) (.ref (G.cls t)) = some b := by
  have := sf.get e
  rw [show 10 + c - 10 = c by omega, show 10 + t - 10 = t by omega] at this
  exact PySem.W.exm_ref cl.sb cl.hd cl.ty this
theorem ds_tryAs (hk : X.K = G.K) (hs : X.stack = X.env :: X.outer) (hf : X.env.frame = some X.env.locals) (hex : X.ex = []) (hpn : X.pn = []) (hN : X.N.Nodup) (hi : X.N[i]? = some n) (hln : X.env.kindOf n = some .local) (hj : X.N[j]? = some y) (hly : Loc X.env.scope y)
    (ef : ExF G cs) (sf : SubF G tb) (cl : ClF G.K (G.cls t)) (hg : Gl X x) (hm : X.mg x = some (.ref (G.cls t))) (tk : Takes X Wx)
    (hb : ∀ (W : WX) (pn : List (Addr × Obj)) (xe : Value → Shared → Prop), Takes (X.tr pn xe) W → PassesOwn (model X.prog X.w) X.A X.env xe → DSs (X.tr pn xe) G W body gb)
    (hdb : (x == ("__debug__" : Str)) = false := by decide) (hv : Vis X.env.scope n := by first | exact Or.inl rfl | exact Or.inr (Or.inl rfl) | exact Or.inr (Or.inr rfl)) (hd : (n == ("__debug__" : Str)) = false := by decide)
    (hcd : (n == ("__classdict__" : Str)) = false := by decide) (hsw : swapsWith (.Name n pn0) (some (.Name y py)) ps0.line X.env = pure false := by rfl) (hfn : X.fn y = true ∨ X.env.scope.names.lookup y = some .local := by first | exact .inl rfl | exact .inr rfl | assumption) :
    DS X G Wx (.Try body [.ExceptHandler (some (.Name x np)) (some n) [.Assign [.Name y py] (.Name n pn0) ps0] pos'] [] [] pos) (sTryAs tb cs t i j gb) :=
  ⟨PS.weak (ps_try_asX (tb := fun W => tSt G W gb) (c := .ref (G.cls t)) (i := i) (ts := fun a _ _ D σ H => (∃ σ0 : L2.St, σ = σ0.set i (some (V.ref a))) ∧ D.nx (σ.set j (some (V.ref a))) H) (Wout := Wx) hs hf hex hpn hN hi hln ⟨hg, hdb, .inl hm⟩ tk (fun W pn xe tk hp => (hb W pn xe tk hp).ps)
      (fun a oe cls d pn _ _ => ⟨fun pins s σ H D I h => by
        have q := (pss_one (ps_set (X := X.suite a ((a, oe) :: pn)) (i := j) (pos := ps0) (pos' := py) hN hj hly (pe_var (X := X.suite a ((a, oe) :: pn)) (pos := pn0) (i := i) hi hv hd hcd) hsw hfn)).run pins s σ H D I
        obtain ⟨⟨σ0, e0⟩, h2⟩ := h
        have hl : i < σ0.length := by
          have h1 := I.len
          rw [e0, List.length_set] at h1
          have h3 : σ0.length = X.N.length := h1
          rw [h3]
          exact (List.getElem?_eq_some_iff.mp hi).1
        exact q ⟨V.ref a, by rw [e0]; exact List.getElem?_set_self hl, h2⟩⟩)) fun D σ H ⟨W, sl, C, rs, st, q⟩ => ⟨W, sl, C, rs, st, by
    unfold sTryAs at q
    cases e : gb sl C with
    | nxt s' C' => rw [e] at q; exact q
    | ret d C' => rw [e] at q; exact q
    | brk s' C' => rw [e] at q; exact q
    | cnt s' C' => rw [e] at q; exact q
    | no => rw [e] at q; exact q
    | err c s' C' =>
      rw [e] at q
      simp only at q
      split at q
      · rename_i hc
        intro W' σ' H' t' st' rs'
        cases el : tb.lookup (10 + t, 10 + c) with
        | none => rw [el] at q; exact q.elim
        | some b =>
          rw [el] at q
          refine ⟨b, by rw [hk]; exact exm_get sf cl el, fun hb a na => ?_, fun hb => ?_⟩
          · subst hb
            refine ⟨⟨σ', rfl⟩, ?_⟩
            obtain ⟨st2, t2⟩ := fr_fz (o := ExcV a (.ref (G.cls c)) none) st' na (fun _ z => (nomatch z))
            have q' : SPost G Wx W C H (.nxt ((s'.set j (some (.opq c []))).set i none) C') D := q
            refine q' _ _ _ (t'.trans t2) st2 ?_
            rw [← set_none_set]
            refine RepS.setN (((rs'.up t2.le).setN (z := some (V.ref a)) i).set j (.opq (vs := []) ?_ .nil)) i
            rw [ef.oq c hc]
            show upd W'.F a _ a = _
            exact upd_same
          · subst hb
            exact q W' σ' H' t' st' rs'
      · exact q.elim⟩⟩
theorem ds_tryOnly (hk : X.K = G.K) (hs : X.stack = X.env :: X.outer) (hf : X.env.frame = some X.env.locals) (sf : SubF G tb) (cl : ClF G.K (G.cls t)) (hg : Gl X x) (hm : X.mg x = some (.ref (G.cls t))) (tk : Takes X Wx)
    (hb : ∀ (W : WX) (pn : List (Addr × Obj)) (xe : Value → Shared → Prop), Takes (X.tr pn xe) W → PassesOwn (model X.prog X.w) X.A X.env xe → DSs (X.tr pn xe) G W body gb)
    (hsu : ∀ (a : Addr) (pn : List (Addr × Obj)), DSs (X.suite a pn) G W0 (b₀ :: suite) gs) (hdb : (x == ("__debug__" : Str)) = false := by decide) :
    DS X G Wx (.Try body [.ExceptHandler (some (.Name x np)) none (b₀ :: suite) pos'] [] [] pos) (sTryOnly tb t gb gs) :=
  ⟨PS.weak (ps_try_only (tb := fun W => tSt G W gb) (c := .ref (G.cls t)) (ts := fun _ _ _ => tSt G W0 gs) (Wout := Wx) hs hf ⟨hg, hdb, .inl hm⟩ tk (fun W pn xe tk hp => (hb W pn xe tk hp).ps) (fun a oe cls d pn _ _ => (hsu a _).ps)) fun D σ H ⟨W, sl, C, rs, st, q⟩ => ⟨W, sl, C, rs, st, by
    unfold sTryOnly at q
    cases e : gb sl C with
    | nxt s' C' => rw [e] at q; exact q
    | ret d C' => rw [e] at q; exact q
    | brk s' C' => rw [e] at q; exact q
    | cnt s' C' => rw [e] at q; exact q
    | no => rw [e] at q; exact q
    | err c s' C' =>
      rw [e] at q
      simp only at q
      intro W' σ' H' t' st' rs'
      cases el : tb.lookup (10 + t, 10 + c) with
      | none => rw [el] at q; exact q.elim
      | some b =>
        rw [el] at q
        refine ⟨b, by rw [hk]; exact exm_get sf cl el, fun hb a na => ?_, fun hb => ?_⟩
        · subst hb
          refine ⟨W', s', C', rs', st', ?_⟩
          simp only at q
          have q := SPost.step t' q
          cases e2 : gs s' C' with
          | nxt s2 C2 => rw [e2] at q; exact q
          | ret d C2 => rw [e2] at q; exact q
          | brk s2 C2 => rw [e2] at q; exact q
          | cnt s2 C2 => rw [e2] at q; exact q
          | no => rw [e2] at q; exact q
          | err c2 s2 C2 => rw [e2] at q; exact q.elim
        · subst hb
          exact q W' σ' H' t' st' rs'⟩⟩
end
end DL

set_option Elab.async false
set_option linter.all false
set_option maxRecDepth 100000
set_option maxHeartbeats 1000000
set_option autoImplicit false
namespace DL
open PySem PySem.Spec PyProof.Rows L2
/-! ### a lambda handed to a def -/
abbrev Glo.at_ (G : Glo) (w1 : Wd) : Glo := { G with W0 := w1 }
section
variable {G : Glo} {w1 W W' : Wd} {C C' : Cells} {H H' : Hp}
mutual
theorem repV_at : ∀ {d : D} {v : V}, RepV (G.at_ w1) W d v ↔ RepV G W d v
  | .non, _ => by unfold RepV; exact Iff.rfl
  | .bl _, _ => by unfold RepV; exact Iff.rfl
  | .int _, _ => by unfold RepV; exact Iff.rfl
  | .str _, _ => by unfold RepV; exact Iff.rfl
  | .lst ds, _ => by
    unfold RepV
    exact ⟨fun ⟨a, vs, e, s, r⟩ => ⟨a, vs, e, s, repVs_at.1 r⟩, fun ⟨a, vs, e, s, r⟩ => ⟨a, vs, e, s, repVs_at.2 r⟩⟩
  | .scr ds, _ => by
    unfold RepV
    exact ⟨fun ⟨a, vs, e, s, r⟩ => ⟨a, vs, e, s, repVs_at.1 r⟩, fun ⟨a, vs, e, s, r⟩ => ⟨a, vs, e, s, repVs_at.2 r⟩⟩
  | .tup ds, _ => by
    unfold RepV
    exact ⟨fun ⟨a, vs, e, s, r⟩ => ⟨a, vs, e, s, repVs_at.1 r⟩, fun ⟨a, vs, e, s, r⟩ => ⟨a, vs, e, s, repVs_at.2 r⟩⟩
  | .ktp ds, _ => by
    unfold RepV
    exact ⟨fun ⟨a, vs, e, s, r⟩ => ⟨a, vs, e, s, repVs_at.1 r⟩, fun ⟨a, vs, e, s, r⟩ => ⟨a, vs, e, s, repVs_at.2 r⟩⟩
  | .obj c ds, _ => by
    unfold RepV
    exact ⟨fun ⟨a, dx, vs, e, s, r, l⟩ => ⟨a, dx, vs, e, s, repVs_at.1 r, l⟩, fun ⟨a, dx, vs, e, s, r, l⟩ => ⟨a, dx, vs, e, s, repVs_at.2 r, l⟩⟩
  | .cel n, _ => by unfold RepV; exact Iff.rfl
  | .opq c ds, _ => by
    unfold RepV
    exact ⟨fun ⟨a, vs, e, s, r⟩ => ⟨a, vs, e, s, repVs_at.1 r⟩, fun ⟨a, vs, e, s, r⟩ => ⟨a, vs, e, s, repVs_at.2 r⟩⟩
theorem repVs_at : ∀ {ds : List D} {vs : List V}, RepVs (G.at_ w1) W ds vs ↔ RepVs G W ds vs
  | [], _ => by unfold RepVs; exact Iff.rfl
  | d :: r, _ => by
    unfold RepVs
    exact ⟨fun ⟨v, vr, e, s, t⟩ => ⟨v, vr, e, repV_at.1 s, repVs_at.1 t⟩, fun ⟨v, vr, e, s, t⟩ => ⟨v, vr, e, repV_at.2 s, repVs_at.2 t⟩⟩
end
theorem repKV_at {κ : Type} {l : List (κ × D)} {m : List (κ × V)} : RepKV (G.at_ w1) W l m ↔ RepKV G W l m :=
  ⟨fun h => Paired.mapP h fun _ _ q => ⟨q.1, repV_at.1 q.2⟩, fun h => Paired.mapP h fun _ _ q => ⟨q.1, repV_at.2 q.2⟩⟩
theorem repO_at : ∀ {o : O} {h : HO}, RepO (G.at_ w1) W o h ↔ RepO G W o h
  | .lst _, _ => ⟨fun ⟨vs, e, r⟩ => ⟨vs, e, repVs_at.1 r⟩, fun ⟨vs, e, r⟩ => ⟨vs, e, repVs_at.2 r⟩⟩
  | .dk _, _ => ⟨fun ⟨vs, e, r⟩ => ⟨vs, e, repKV_at.1 r⟩, fun ⟨vs, e, r⟩ => ⟨vs, e, repKV_at.2 r⟩⟩
  | .dt _, _ => ⟨fun ⟨vs, e, r⟩ => ⟨vs, e, repKV_at.1 r⟩, fun ⟨vs, e, r⟩ => ⟨vs, e, repKV_at.2 r⟩⟩
  | .obj _ _, _ => ⟨fun ⟨dx, vs, e, r, l⟩ => ⟨dx, vs, e, repVs_at.1 r, l⟩, fun ⟨dx, vs, e, r, l⟩ => ⟨dx, vs, e, repVs_at.2 r, l⟩⟩
theorem StR.to (st : StR G W C H) (h : w1.le W) : StR (G.at_ w1) W C H :=
  ⟨h, st.tb, st.F, fun n o e => let ⟨a, ho, h1, h2, h3, h4⟩ := st.cells n o e; ⟨a, ho, h1, h2, h3, repO_at.2 h4⟩, st.inj, st.nx⟩
theorem StR.of (st : StR (G.at_ w1) W C H) (h : G.W0.le w1) : StR G W C H :=
  ⟨h.trans st.lnk, st.tb, st.F, fun n o e => let ⟨a, ho, h1, h2, h3, h4⟩ := st.cells n o e; ⟨a, ho, h1, h2, h3, repO_at.1 h4⟩, st.inj, st.nx⟩
theorem RepS.to {sl : Sl} {σ : L2.St} (r : RepS G W sl σ) : RepS (G.at_ w1) W sl σ := ⟨r.len, fun i d e => let ⟨v, h1, h2⟩ := r.at_ i d e; ⟨v, h1, repV_at.2 h2⟩⟩
theorem RepS.of {sl : Sl} {σ : L2.St} (r : RepS (G.at_ w1) W sl σ) : RepS G W sl σ := ⟨r.len, fun i d e => let ⟨v, h1, h2⟩ := r.at_ i d e; ⟨v, h1, repV_at.1 h2⟩⟩
open Classical in
/-- a lambda was made: its code object is known; it has a number -/
theorem fr_lam {f : Addr} (st : StR G W C H) (eN : LamX.ExtN H H') (T1 : LamX.Tabs G.tb H') :
    ∃ W1 : Wd, StR G W1 (C.bump 1) H' ∧ Step W C H W1 (C.bump 1) H' ∧ W1.cm C.nx = some f ∧ ∀ p ∈ G.tb, ∀ a, H' a = some (LamX.CodeO a p.2) → W1.F a = some (LamX.CodeO a p.2) := by
  have notExt : ∀ {a : Addr} {o : HO}, H a = some o → Pla o → ¬ ∃ p ∈ G.tb, H' a = some (LamX.CodeO a p.2) := fun {a o} h po ⟨p, _, e⟩ => by
    rw [eN a o h po.1] at e
    exact po.2.1 _ (Option.some.inj e)
  have le : W.le ⟨fun a => if ∃ p ∈ G.tb, H' a = some (LamX.CodeO a p.2) then H' a else W.F a, fun n => if n = C.nx then some f else W.cm n⟩ := ⟨fun a o h => by
    show (if _ then H' a else W.F a) = some o
    split
    · exact eN a o (st.F a o h) fun ps z => st.tb.1 a ps (by rw [h, z])
    · exact h, fun n a h => by
    show (if n = C.nx then some f else W.cm n) = some a
    have : n ≠ C.nx := fun e => by rw [e, st.nx _ (Nat.le_refl _)] at h; cases h
    rw [if_neg this]; exact h⟩
  have old : ∀ n o, C.get n = some o → n ≠ C.nx := fun n o h => Nat.ne_of_lt (Cells.lt h)
  have cmo : ∀ {n : Nat} {o : O} {a : Addr}, C.get n = some o → (if n = C.nx then some f else W.cm n) = some a → W.cm n = some a := fun {n o a} h e => by
    rw [if_neg (old n o h)] at e; exact e
  refine ⟨_, ⟨st.lnk.trans le, ⟨fun a ps z => ?_, fun p hp => ?_⟩, fun a o h => ?_, fun n o h => ?_, fun n m a o1 o2 h1 h2 h3 h4 => st.inj n m a o1 o2 h1 h2 (cmo h1 h3) (cmo h2 h4), fun n hn => ?_⟩, ⟨le, Nat.le_succ _, fun a o h po n => ⟨eN a o h po.1, fun z => n ?_⟩⟩, if_pos rfl, fun p hp a e => ?_⟩
  · have z' : (if ∃ p ∈ G.tb, H' a = some (LamX.CodeO a p.2) then H' a else W.F a) = some (.tbl ps) := z
    split at z'
    · rename_i h
      obtain ⟨p, _, e⟩ := h
      rw [e] at z'; cases z'
    · exact st.tb.1 a ps z'
  · obtain ⟨ps, h1, h2, h3⟩ := T1 p hp
    refine ⟨ps, h1, h2, fun pos cv hc => ?_⟩
    obtain ⟨c, e1, e2⟩ := h3 pos cv hc
    exact ⟨c, e1, (if_pos ⟨p, hp, e2⟩).trans e2⟩
  · have h' : (if ∃ p ∈ G.tb, H' a = some (LamX.CodeO a p.2) then H' a else W.F a) = some o := h
    split at h'
    · exact h'
    · exact eN a o (st.F a o h') fun ps z => st.tb.1 a ps (by rw [h', z])
  · obtain ⟨a, ho, h1, h2, h3, h4⟩ := st.cells n o h
    exact ⟨a, ho, (if_neg (old n o h)).trans h1, (if_neg (notExt h3 h4.pla)).trans h2, eN a ho h3 h4.pla.1, h4.up le⟩
  · have hn' : C.nx + 1 ≤ n := hn
    show (if n = C.nx then some f else W.cm n) = none
    rw [if_neg (by omega)]; exact st.nx n (by omega)
  · rcases z with ⟨u, z⟩ | ⟨m, o2, z1, z2⟩
    · have z' : (if ∃ p ∈ G.tb, H' a = some (LamX.CodeO a p.2) then H' a else W.F a) = some u := z
      rw [if_neg (notExt h po)] at z'
      exact .inl ⟨u, z'⟩
    · exact .inr ⟨m, o2, z1, cmo z1 z2⟩
  · exact (if_pos ⟨p, hp, e⟩).trans e
end
/-- what a def's parameter i is worth when it is called -/
def eAct (act : D → Cells → Res D) (i : Nat) : EF := fun s C => match s[i]? with
  | some (some d) => act d C
  | _ => .no
/-- g(lambda: ..): n slots of g, its body's worth, the lambda's worth -/
def eLam (n : Nat) (gg : (D → Cells → Res D) → SF) (fb : EF) : EF := fun s C => callF n 1 (gg fun d C' => match d with | .cel m => if m = C.nx then fb s C' else .no | _ => .no) [.cel C.nx] (C.bump 1)
theorem Post.wx {α β : Type} {G : Glo} {Wz : WX} {σ σ' : L2.St} {R : Wd → α → β → Prop} {W : Wd} {C : Cells} {H : Hp} {r : Res α} {Q : β → Hp → Prop} (h : Post G Wz σ R W C H r Q) : Post G (fun c d _ H => Wz c d σ H) σ' R W C H r Q := by
  cases r with
  | ok a C' => exact h
  | err c C' => exact h
  | no => exact h
/-- a def that is handed a lambda, as its caller knows it -/
structure FunP (K : PySem.W.Frag) (x : Str) (st : Stmt) (g : Addr) (cdv : Value) : Prop where
  ex : ∃ (oc : Value) (od : Option Addr) (kV doc pm : Value) (an : Option Addr) (ct : Value) (osl : Array (Option Value)),
    K.lookup g = some ⟨oc, od, .func (PySem.W.fnOf x x (defArgs st) (defBody st) (defScope st) .none kV doc pm an cdv ct), osl⟩ ∧ PySem.W.codeIn K cdv x = true
  kp : PySem.W.keepIn K (.ref g) = true
section
variable {X : Cx} {pins : List (Addr × Obj)} {σ : L2.St} {H : Hp} {s : Shared}
open LamX
/-- x(), in the def that got the lambda: what is raised is wished for at its slots -/
theorem pe_actS {CXg : CXT} {Eg : XK} {Ng : List Str} {qg : Str} {sg : Scope} {g f c' : Addr} {cdg pm ctv : Value} {params : Arguments} {body : Expr} {scope : Scope} {k i : Nat} {a : Str} {pn : List (Addr × Obj)} {xe : Value → Shared → Prop} {W : WX} {tb : XK → TE} {p1 p2 : Pos}
    (I : Inv X pins σ H s) (L : LamS X.env.scope scope) (hf : s.heap.get? f = some (PySem.W.kla_obj "<lambda>" (X.env.qual ++ "<lambda>") params body scope (cloFrom X.env.cells scope.names []) pm c' ctv)) (hfn : H f = none) (hfr : f ∉ frs X.stack)
    (hbind : bindArgs (PySem.W.kla_fn "<lambda>" (X.env.qual ++ "<lambda>") params body scope (cloFrom X.env.cells scope.names []) pm (.ref c') ctv) ⟨[], []⟩ = pure [])
    (tk : Takes ((cxOf CXg X.prog X.w X.K X.mg X.base Ng qg sg g cdg X.A X.stack s H Eg).tr pn xe) W) (hr : Room (k + 1) (X.A.deeper (envOfC qg sg s.heap.objs.size g cdg)))
    (hbody : ∀ (A : Around) (outer : List Env) (s : Shared) (H : Hp) (E : XK), Room k (A.deeper (lamEnv X scope s.heap.objs.size f c')) → PE (lamCx X A outer s H E scope f c') body (tb E))
    (hN : Ng[i]? = some a) (hv : Vis sg a) (hd : (a == ("__debug__" : Str)) = false := by decide) (hcd : (a == ("__classdict__" : Str)) = false := by decide) :
    PE ((cxOf CXg X.prog X.w X.K X.mg X.base Ng qg sg g cdg X.A X.stack s H Eg).tr pn xe) (.Call (.Name a p1) [] [] p2)
      (fun σZ HZ Q => σZ[i]? = some (some (.ref f)) ∧ HZ c' = some (CodeO c' (X.env.qual ++ "<lambda>")) ∧ tb (fun c d H => W c d σZ H) σ HZ Q) := by
  refine ⟨fun pinsZ sZ σZ HZ Q IZ h => ?_⟩
  obtain ⟨hs, hc, ht⟩ := h
  refine wpAny_Call_Name_kw (thn ((pe_var (pos := p1) (i := i) hN hv hd hcd).run pinsZ sZ σZ HZ (fun v H1 => v = .ref f ∧ H1 = HZ) IZ ⟨.ref f, hs, rfl, rfl⟩) fun u s1 ⟨v, H1, I1, r1, q1⟩ => ?_)
  obtain ⟨ev, eH⟩ := q1
  subst ev
  rw [eH] at I1
  obtain rfl : u = Value.ref f := r1
  have of1 : s1.heap.get? f = some (PySem.W.kla_obj "<lambda>" (X.env.qual ++ "<lambda>") params body scope (cloFrom X.env.cells scope.names []) pm c' ctv) := I1.base.keep f _ hf hfn hfr (fun z => nomatch (show f ∈ ([] : List Addr) from z))
  refine PySem.W.callWith_F0 ⟨_, _, _, _, of1⟩ ?_
  have un : Un (frs X.stack) [] H HZ s.heap s1.heap := I1.base
  obtain ⟨⟨oc, vs, t, hoc, hdc, hvc⟩, _, _⟩ := I1.hok c' _ hc
  have rc : codeAny (model X.prog X.w) (X.A.deeper (envOfC qg sg s.heap.objs.size g cdg)) (.call (.ref f) ⟨[], []⟩) (CR (L2.CX X.prog X.w) (envOfC qg sg s.heap.objs.size g cdg :: X.stack) X.prog X.w HZ s1 Q (fun c d H => W c d σZ H)) s1 := by
    refine PySem.W.kla_callFunE hr.depth of1 rfl L.co L.gen rfl ⟨c', oc, vs, t, rfl, hoc, hdc, hvc⟩ ?_
    rw [hbind]
    refine wpAny_pure (wpAny_newFunctionEnv (fun y hy => (L.own y hy).2) (fun y hy => absurd hy (by simp)) (fun h₁ hns hsb => ⟨I1.nolimit.fresh _ hsb, ?_⟩) L.kind)
    show codeAny _ _ (.expr body (lamEnv X scope s1.heap.objs.size f c')) _ _
    have kp : ∀ b o, s1.heap.get? b = some o → h₁.get? b = some o := fun b o e => hsb.extBut b o (Nat.ne_of_lt (Heap.lt_size e)) (Heap.get?_push_of_some _ e)
    have J : Inv (lamCx X (X.A.deeper (envOfC qg sg s.heap.objs.size g cdg)) (envOfC qg sg s.heap.objs.size g cdg :: X.stack) s1 HZ (fun c d H => W c d σZ H) scope f c') [] σ HZ { s1 with heap := h₁, toks := s1.toks + ([] : List (Str × Value)).length } :=
      lam_start2 I L I1.env0 hr.hd un hns kp
    refine PySem.W.kla_codeExpr (wpAny_mono ((hbody _ _ s1 HZ _ (hr.deeper _)).run [] _ _ HZ Q J ht) (fun v s' hq => ?_) fun e s' hq => hq)
    obtain ⟨w', H', J', rv, q⟩ := hq
    exact ⟨w', H', J'.os, J'.bare, J'.base, J'.hok, rv, q⟩
  have hx : PassesAt (L2.CX X.prog X.w) ((cxOf CXg X.prog X.w X.K X.mg X.base Ng qg sg g cdg X.A X.stack s H Eg).tr pn xe) σZ (fun c d H => W c d σZ H) := passAt tk σZ
  refine wpAny_call (codeAny_mono rc fun r s' hq => ?_)
  cases r with
  | error e => exact hx pinsZ HZ s1 e s' I1 hq
  | ok fl =>
    cases fl with
    | ret u => exact I1.after hq
    | next => exact False.elim hq
    | brk => exact False.elim hq
    | cont => exact False.elim hq
variable {G : Glo} {Wx : WX}
/-- g(lambda: body) -/
theorem de_lamcall {x a : Str} {g c P : Addr} {k n : Nat} {stg : Stmt} {cdv : Value} {Ng : List Str} {gg : (D → Cells → Res D) → SF} {fb : EF}
    {params : Arguments} {body : Expr} {scope : Scope} {p lpos pos : Pos} (hk : X.K = G.K) (hg : Gl X x) (hm : X.mg x = some (.ref g)) (FP : FunP X.K x stg g cdv) (hB : ∀ fd, Fun X.K x x stg g fd → L2.Binds X.K fd [a] []) (Sg : FnScope Ng [a] (defScope stg)) (hn : Ng.length = n) (hNg : Ng[0]? = some a) (hva : Vis (defScope stg) a)
    (TB : TabB X.base X.mg c P) (hcode : X.env.code = .ref c) {qq : Str} {tb : List (Addr × Str)} (hqq : X.env.qual = qq) (htb : G.tb = tb) (hmT : (P, qq ++ "<lambda>") ∈ tb) (hu : ∀ p ∈ tb, p.1 = P → p.2 = qq ++ "<lambda>") (hr : Room (k + 2) X.A) (tk : Takes X Wx) {sc : Scope} (hsc : X.env.scope = sc) (hL : lamSB sc scope = true) (hdef : defaultsOf params X.env = ([], []))
    (hbind : ∀ (q : Str) (cl : List (Str × Addr)) (pm cv ctv : Value), bindArgs (PySem.W.kla_fn "<lambda>" q params body scope cl pm cv ctv) ⟨[], []⟩ = pure [])
    (hbody : ∀ (w1 : Wd) (A : Around) (outer : List Env) (s : Shared) (H : Hp) (E : XK) (f c' : Addr), Room k (A.deeper (lamEnv X scope s.heap.objs.size f c')) →
      (A.deeper (lamEnv X scope s.heap.objs.size f c')).units + 64 < cLine → Takes (lamCx X A outer s H E scope f c') (fun c d _ H => E c d H) → DE (lamCx X A outer s H E scope f c') (G.at_ w1) (fun c d _ H => E c d H) body fb)
    (hG : ∀ (w1 : Wd) (act : D → Cells → Res D) (s : Shared) (H : Hp) (E : XK), Room (k + 1) (X.A.deeper (envOfC x (defScope stg) s.heap.objs.size g cdv)) →
      (∀ (W : WX) (pn : List (Addr × Obj)) (xe : Value → Shared → Prop) (p1 p2 : Pos), Takes ((cxOf (L2.CX X.prog X.w) X.prog X.w X.K X.mg X.base Ng x (defScope stg) g cdv X.A X.stack s H E).tr pn xe) W →
        DE ((cxOf (L2.CX X.prog X.w) X.prog X.w X.K X.mg X.base Ng x (defScope stg) g cdv X.A X.stack s H E).tr pn xe) (G.at_ w1) W (.Call (.Name a p1) [] [] p2) (eAct act 0)) →
      DSs (cxOf (L2.CX X.prog X.w) X.prog X.w X.K X.mg X.base Ng x (defScope stg) g cdv X.A X.stack s H E) (G.at_ w1) (fun c d _ H => E c d H) (defBody stg) (gg act))
    (hdb : (x == ("__debug__" : Str)) = false := by decide) (hd : (a == ("__debug__" : Str)) = false := by decide) (hcd : (a == ("__classdict__" : Str)) = false := by decide) :
    DE X G Wx (.Call (.Name x p) [.Lambda params body scope lpos] [] pos) (eLam n gg fb) := by
  refine ⟨⟨fun pins s σ H Q I h => ?_⟩⟩
  subst hqq htb hsc
  have L := lamS_by hL
  obtain ⟨⟨oc, od, kV, doc, pm, an, ct, osl, lk, hcg⟩, hkp⟩ := FP
  have hb := hB _ ⟨⟨oc, od, kV, doc, pm, an, cdv, ct, osl, rfl, lk, hcg⟩, hkp⟩
  obtain ⟨W, sl, C, rs, st, q⟩ := h
  have hT : Tabs G.tb H := fun p hp => by
    obtain ⟨ps, h1, h2, h3⟩ := st.tb.2 p hp
    refine ⟨ps, h1, h2, fun pos cv e => ?_⟩
    obtain ⟨c, e1, e2⟩ := h3 pos cv e
    exact ⟨c, e1, st.F _ _ e2⟩
  refine wpAny_Call_Name_kw (ld_glob I hg hm ?_ hdb)
  refine PySem.W.callWith_K (h₀ := X.base) I.ok.mod.kin hkp ?_ (by rfl) (by rfl)
  show wpAny _ _ (spliced ((false, eval (.Lambda params body scope lpos) X.env) :: backTo pos (starEach [] X.env))) _ _ s
  refine Calls.spliced_cons (lam_make2 I TB hcode hmT hu hT hdef (L.has I.ok) fun f c' pm' ctv H1 s' I1 eN T1 hf hfn hfr hco => ?_)
  refine Calls.spliced_nil ⟨I1.kIn, ?_⟩
  obtain ⟨W1, st1, t1, cm1, kn1⟩ := fr_lam (f := f) st eN T1
  have kc := kn1 _ hmT c' hco
  have rc : codeAny (model X.prog X.w) X.A (.call (.ref g) ⟨[.ref f], []⟩) (CR (L2.CX X.prog X.w) X.stack X.prog X.w H1 s' Q (fun c d H => Wx c d σ H)) s' := by
    refine run_ofS (N := Ng) (ps := [a]) (us := [.ref f]) (vs := [.ref f]) lk hcg Sg hr I1.env0 (hb s' [.ref f] I1.kIn rfl) (.cons rfl .nil) rfl fun hr' => ?_
    refine ⟨_, (hG W1 (fun d C' => match d with | .cel m => if m = C.nx then fb sl C' else .no | _ => .no) s' H1 (fun c d H => Wx c d σ H) hr' fun Wz pn xe p1 p2 tkz => ?_).ps, ?_⟩
    · refine ⟨PE.weak (pe_actS (i := 0) (tb := fun E => tD (G.at_ W1) (fun c d _ H => E c d H) fb) I1 L hf hfn hfr (hbind _ _ _ _ _) tkz hr' (fun A outer s H E hr2 => (hbody W1 A outer s H E f c' hr2 hr2.units (takes_of rfl rfl rfl rfl)).pe) hNg hva hd hcd) fun σZ HZ Q' hz => ?_⟩
      obtain ⟨W', sz, Cz, rsz, stz, qz⟩ := hz
      unfold eAct at qz
      split at qz
      · rename_i d ed
        obtain ⟨v, h1, h2⟩ := rsz.at_ 0 d ed
        cases d with
        | cel m =>
          simp only at qz
          split at qz
          · rename_i em
            subst em
            obtain ⟨a', rfl, h3⟩ := h2.cel_
            have h4 := stz.lnk.cm _ _ cm1
            rw [h3] at h4
            cases h4
            refine ⟨h1, stz.F _ _ (stz.lnk.F _ _ kc), W', sl, Cz, (rs.up (t1.le.trans stz.lnk)).to, stz, qz.wx⟩
          · exact qz.elim
        | _ => exact qz.elim
      · exact qz.elim
    · refine ⟨W1, _, C.bump 1, RepS.start (N := Ng) (.cons (.cel cm1) .nil : RepVs (G.at_ W1) W1 [.cel C.nx] [.ref f]), st1.to .refl, ?_⟩
      unfold eLam callF at q
      rw [if_pos (show ([D.cel C.nx] : List D).length = 1 from rfl), ← hn] at q
      cases e : gg (fun d C' => match d with | .cel m => if m = C.nx then fb sl C' else .no | _ => .no) (([D.cel C.nx] : List D).map some ++ List.replicate (Ng.length - ([D.cel C.nx] : List D).length) none) (C.bump 1) with
      | nxt s' C' => rw [e] at q; exact fun W' σ' H' t st' _ => q W' .non H' (t1.trans t) (st'.of st1.lnk) .non
      | ret d C' => rw [e] at q; exact fun W' v H' t st' r => q W' v H' (t1.trans t) (st'.of st1.lnk) (repV_at.1 r)
      | err c s' C' => rw [e] at q; exact fun W' σ' H' t st' _ => q W' H' (t1.trans t) (st'.of st1.lnk)
      | brk s' C' => rw [e] at q; exact q.elim
      | cnt s' C' => rw [e] at q; exact q.elim
      | no => rw [e] at q; exact q.elim
  refine wpAny_call (codeAny_mono rc fun r s2 hq => ?_)
  cases r with
  | error e => exact passAt tk σ pins H1 s' e s2 I1 hq
  | ok fl =>
    cases fl with
    | ret u => exact I1.after hq
    | next => exact False.elim hq
    | brk => exact False.elim hq
    | cont => exact False.elim hq
end
/-- a def whose code object is known -/
structure FunC (K : PySem.W.Frag) (x qual : Str) (st : Stmt) (c f : Addr) (fd : FuncData) : Prop where
  ex : ∃ (oc : Value) (od : Option Addr) (kV doc pm : Value) (an : Option Addr) (ct : Value) (osl : Array (Option Value)),
    fd = PySem.W.fnOf x qual (defArgs st) (defBody st) (defScope st) .none kV doc pm an (.ref c) ct ∧ K.lookup f = some ⟨oc, od, .func fd, osl⟩ ∧ PySem.W.codeIn K (.ref c) qual = true
  kp : PySem.W.keepIn K (.ref f) = true
section
variable {G : Glo} {P : Program} {w : World} {K : PySem.W.Frag} {mg : Str → Option Value} {base : Heap}
theorem FunC.fun {x qual : Str} {st : Stmt} {c f : Addr} {fd : FuncData} (F : FunC K x qual st c f fd) : Fun K x qual st f fd := by
  obtain ⟨oc, od, kV, doc, pm, an, ct, osl, h1, h2, h3⟩ := F.ex
  exact ⟨⟨oc, od, kV, doc, pm, an, .ref c, ct, osl, h1, h2, h3⟩, F.kp⟩
theorem fun_okC {x qual : Str} {st : Stmt} {c f : Addr} {fd : FuncData} {N ps : List Str} {k n np : Nat} {g : SF} (F : FunC G.K x qual st c f fd) (S : FnScope N ps (defScope st)) (hn : N.length = n) (hp : ps.length = np)
    (hbody : ∀ (A : Around) (outer : List Env) (s : Shared) (H : Hp) (E : XK), Room k (A.deeper (envOfC qual (defScope st) s.heap.objs.size f (.ref c))) →
      DSs (cxOf (L2.CX P w) P w G.K mg base N qual (defScope st) f (.ref c) A outer s H E) G (fun c d _ H => E c d H) (defBody st) g) :
    FnOk P w G.K mg base (L2.CX P w) (k + 1) f fd ps (spD G np (callF n np g)) := by
  obtain ⟨oc, od, kV, doc, pm, an, ct, osl, rfl, lk, hcd⟩ := F.ex
  refine fn_of lk hcd S (fun vs H Q E h => h.1.trans hp.symm) fun A outer s H vs Q E hr h => ⟨_, (hbody A outer s H E hr).ps, ?_⟩
  obtain ⟨hl, W, ds, C, rv, st, q⟩ := h
  refine ⟨W, _, C, RepS.start (N := N) rv, st, ?_⟩
  unfold callF at q
  rw [if_pos (rv.length.trans hl), ← hn] at q
  cases e : g (ds.map some ++ List.replicate (N.length - ds.length) none) C with
  | nxt s' C' => rw [e] at q; exact fun W' σ' H' t st' _ => q W' .non H' t st' .non
  | ret d C' => rw [e] at q; exact fun W' v H' t st' r => q W' v H' t st' r
  | err c s' C' => rw [e] at q; exact fun W' σ' H' t st' _ => q W' H' t st'
  | brk s' C' => rw [e] at q; exact q.elim
  | cnt s' C' => rw [e] at q; exact q.elim
  | no => rw [e] at q; exact q.elim
theorem func_mk {x qual : Str} {st : Stmt} {f c : Addr} {oc : Value} {od an : Option Addr} {osl : Array (Option Value)} {kV doc pm ct : Value} (l : K.lookup f = some ⟨oc, od, .func (PySem.W.fnOf x qual (defArgs st) (defBody st) (defScope st) .none kV doc pm an (.ref c) ct), osl⟩)
    (h : PySem.W.codeIn K (.ref c) qual = true) (k : PySem.W.keepIn K (.ref f) = true) : FunC K x qual st c f (PySem.W.fnOf x qual (defArgs st) (defBody st) (defScope st) .none kV doc pm an (.ref c) ct) := ⟨⟨oc, od, kV, doc, pm, an, ct, osl, rfl, l, h⟩, k⟩
end
/-- the law's end, with tables -/
theorem law_walkT {l : PySem.W.OpenLaw} {q : Program} {loose : List Str} {XP : (Str → Option Value) → Heap → Prop} {YP : World → Heap → Prop} {d : DefRec} {K : Params → PySem.W.Frag} {k : Nat} {x : Str} (hn : l.most = some 63) (hdf : d.params.defaults = []) (hr : Room k callerA)
    (hY : ∀ (w : World) (h : Heap), YP w h → (K w.params).In h)
    (F : ∀ (w : World) (mg : Str → Option Value) (fa : Addr) (h : Heap), YP w h → (K w.params).In h → h.Ns mainGlobals mg → mg d.name = some (.ref fa) →
      ∃ (fd : FuncData) (cs : List (Addr × Addr × Str)), (∀ p ∈ cs, h.get? p.2.1 = some (PySem.W.tabObj #[])) ∧ (∀ p ∈ cs, (K w.params).lookup p.2.1 = none) ∧ (∀ p ∈ cs, PySem.W.codeHdIn (K w.params) p.1 p.2.1 = true) ∧ (∀ (s : Shared) (u : Value), BindsTo s fd ⟨[u], []⟩ [(x, u)]) ∧
        ∀ base : Heap, (K w.params).In base → base.Ns mainGlobals mg → (∀ p ∈ cs, LamX.TabB base mg p.1 p.2.1) → FnOk l.prog w (K w.params) mg base (L2.CX l.prog w) k fa fd [x] (spLaw (K w.params) (cs.map (·.2)))) :
    PySem.W.WalkO q loose XP YP l.row.toRowW d [] (fun f vs => PySem.call f vs) := by
  refine LamX.walk_ofTs (n := 63) (k := k) (x := x) (CX := fun w => L2.CX l.prog w) hn (by decide) hdf hr hY (fun w mg fa h Y KX G hm => ?_) fun _ _ _ _ _ z => cx_none z
  obtain ⟨fd, cs, h1, h2, h3, h4, h5⟩ := F w mg fa h Y KX G hm
  refine ⟨fd, cs.map fun p => (p.1, p.2.1), spLaw (K w.params) (cs.map (·.2)), ?_, ?_, ?_, h4, ?_, ?_⟩
  · intro p hp
    obtain ⟨q, hq, rfl⟩ := List.mem_map.mp hp
    exact h1 q hq
  · intro p hp
    obtain ⟨q, hq, rfl⟩ := List.mem_map.mp hp
    exact h2 q hq
  · intro p hp
    obtain ⟨q, hq, rfl⟩ := List.mem_map.mp hp
    exact PySem.W.codeHd_of_K KX (h3 q hq)
  · intro H a ns hl _ ht hS
    refine ⟨a, ns, rfl, hS, hl, fun p hp => ?_, fun _ => rfl⟩
    obtain ⟨q, hq, rfl⟩ := List.mem_map.mp hp
    exact ht (q.1, q.2.1) (List.mem_map.mpr ⟨q, hq, rfl⟩)
  · intro base hb hns hT
    exact h5 base hb hns fun p hp => hT (p.1, p.2.1) (List.mem_map.mpr ⟨p, hp, rfl⟩)
end DL

set_option Elab.async false
set_option linter.all false
set_option maxRecDepth 100000
set_option autoImplicit false
namespace DL
open PySem PySem.Spec PyProof.Rows L2
section
variable {G : Glo} {X : Cx}
/-- tuple(list) -/
def bTuple (xs : List D) (C : Cells) : Res D := match xs with
  | [d] => (match lstOf C d with | some l => .ok (.tup l) C | none => .no)
  | _ => .no
theorem oa_tuple : OpA G (fun xs H Q => ∃ p ys, xs = [.ref p] ∧ ((SqL G.K H p ys ∧ ∀ l, H l = none → Q (.ref l) (upd H l (.tup ys))) ∨ (SqT G.K H p ys ∧ Q (.ref p) H))) bTuple := fun Wx σ W C H xs vs Q st rx q => by
  unfold bTuple at q
  split at q
  · obtain ⟨v, rfl, r⟩ := rx.one
    split at q
    · rename_i l e
      obtain ⟨a, us, rfl, h1, h2⟩ := lstOf_ok st r e
      exact ⟨a, us, rfl, .inl ⟨h1, new_tup st h2 q⟩⟩
    · exact q.elim
  · exact q.elim
end
/-! ### isinstance(x, (A, B, ..)) of an exception, of None -/
def rIsXT (K : PySem.W.Frag) : List V → Hp → VK → Prop := fun xs H Q => ∃ (a D tp : Addr) (cs : List V) (us : List Value) (b : Bool), xs = [.ref a, .ref tp] ∧ H a = some (ExcV a (.ref D) none) ∧ H tp = some (.tup cs) ∧ Paired ClsV cs us ∧ ExcC K D ∧ PySem.W.kitAny K (.ref D) us = some b ∧ Q (.bl b) H
theorem call_isXT {X : Cx} : CallR X (.builtin "isinstance") (rIsXT X.K) := by
  intro pins s σ H xs us Q I r h
  obtain ⟨a, D, tp, cs, ws, b, rfl, ha, hT, k, C, e, q⟩ := h
  obtain ⟨u1, u2, rfl, r1, r2⟩ := vals2 r
  cases r1
  cases (show u2 = Value.ref tp from r2)
  obtain ⟨⟨oe, hget, h1, h2, vs, hv⟩, _, _⟩ := (show ObjOk X.prog X.w H s.heap a (ExcV a (.ref D) none) from I.hok a _ ha)
  have J : PySem.W.InstAt s.heap a oe D none := by
    obtain ⟨oc, od, oda, osl⟩ := oe
    dsimp only at h1 h2 hv
    subst h1 h2 hv
    exact ⟨hget, rfl, rfl, trivial⟩
  obtain ⟨_, its, rv, o, g1, g2, n, g3⟩ := (show ObjOk X.prog X.w H s.heap tp (.tup cs) from I.hok tp _ hT)
  have e3 := ClsV.all k rv
  subst e3
  obtain ⟨oc, od, dt, sl⟩ := o
  simp only at g2 g3
  subst g2 g3
  exact PySem.W.kia_tup (PySem.W.handS_kitx_exc C.hg C.hk C.hs C.hd C.ha C.hn C.ht C.hm) I.kIn J g1 e (fun z => nomatch z) fun tk => ⟨.bl b, H, I.tok tk, rfl, q⟩
/-- names of classes -/
inductive ClsE (X : Cx) : List Expr → List V → Prop where
  | nil : ClsE X [] []
  | cons {e : Expr} {es : List Expr} {v : V} {vs : List V} (h : PE X e (tC v)) (hs : starEach (e :: es) X.env = (false, eval e X.env) :: starEach es X.env) (t : ClsE X es vs) : ClsE X (e :: es) (v :: vs)
theorem ClsE.pa {X : Cx} : ∀ {es : List Expr} {vs : List V}, ClsE X es vs → PA X es (fun σ H Q => Q vs H)
  | _, _, .nil => pa_nil
  | _, _, .cons h hs t => by
    have p := pa_cons h t.pa hs
    exact PA.weak p fun σ H Q q => q
def anyT (tb : ITab) (v : Nat) : List Nat → Option Bool
  | [] => some false
  | t :: r => match isT tb t v, anyT tb v r with
    | some b, some c => some (b || c)
    | _, _ => none
theorem anyT_ok {G : Glo} {tb : ITab} (kf : KitF G tb) {v : Nat} : ∀ {ts : List Nat} {b : Bool}, anyT tb v ts = some b → PySem.W.kitAny G.K (kvOf G v) (ts.map (kvOf G)) = some b
  | [], _, h => by cases h; rfl
  | t :: r, b, h => by
    unfold anyT at h
    split at h
    · rename_i b1 c1 e1 e2
      cases h
      refine kitAny_cons (isT_ok kf e1) (fun hb => ?_) (fun hb => by rw [hb]; rfl)
      rw [hb, Bool.false_or]; exact anyT_ok kf e2
    · cases h
def eIsiXT (T : Tab) (tb : ITab) (cs : List Nat) (ts : List Nat) (f : EF) : EF := fun s C => (f s C).bind fun x C => match x with
  | .opq c _ => if c ∈ cs then (match anyT tb (10 + c) ts with | some b => .ok (.bl b) C | none => .no) else .no
  | x => (match knd C x with
    | some v => if v < 10 + T.ncl then (match anyT tb v ts with | some b => .ok (.bl b) C | none => .no) else .no
    | none => .no)
theorem de_isiXT {X : Cx} {G : Glo} {Wx : WX} {a : Expr} {fa : EF} {p pos tpos : Pos} {k : Nat} {tb : ITab} {es : List Expr} {vs : List V} {ts cs : List Nat} (hk : X.K = G.K) (cf : CF G) (kf : KitF G tb) (ef : ExF G cs) (hT : Paired ClsV vs (ts.map (kvOf G))) (hc : ClsE X es vs) (hz : vs.length ≤ mxl) (ha : DE X G Wx a fa) (hg : Gl X "isinstance") (hm : X.mg "isinstance" = none)
    (hpl : (backTo pos (starEach [.Tuple es k tpos] X.env)).any (·.1) = false := by rfl) (he : starEach [a, .Tuple es k tpos] X.env = (false, eval a X.env) :: starEach [.Tuple es k tpos] X.env := by rfl) (he2 : starEach [.Tuple es k tpos] X.env = (false, eval (.Tuple es k tpos) X.env) :: starEach [] X.env := by rfl) :
    DE X G Wx (.Call (.Name "isinstance" p) [a, .Tuple es k tpos] [] pos) (eIsiXT G.T tb cs ts fa) :=
  ⟨PE.weak (pe_callB (CallR.or call_isiT call_isXT) hg hm (by decide +kernel) (pa_cons ha.pe (pa_cons (pe_tup hc.pa) pa_nil he2) he) (by decide) (by decide) he hpl) fun σ H Q ⟨W, sl, C, rs, st, q⟩ => ⟨W, sl, C, rs, st, q.bind fun y C1 W1 v H1 _ t1 st1 rx q1 => ⟨by rw [← mxl_eq]; exact hz, fun tp hp => by
    obtain ⟨st2, t2, _⟩ := fr_out (o := .tup vs) st1 hp
    split at q1
    · rename_i c _ _
      split at q1
      · rename_i hc
        split at q1
        · rename_i bb eb
          obtain ⟨a', us, rfl, h1, _⟩ := rx.opq_
          rw [ef.oq c hc] at h1
          refine .inr ⟨a', G.cls c, tp, vs, _, bb, rfl, st2.F _ _ h1, upd_same, hT, by rw [hk]; exact ef.ex c hc, ?_, q1 W1 _ _ t2 st2 .bl⟩
          have := anyT_ok kf eb
          rw [show kvOf G (10 + c) = .ref (G.cls c) from by unfold kvOf; rw [if_neg (show ¬ 10 + c < 10 by omega), show 10 + c - 10 = c by omega]] at this
          rw [hk]; exact this
        · exact q1.elim
      · exact q1.elim
    · split at q1
      · rename_i n en
        split at q1
        · rename_i hn
          split at q1
          · rename_i bb eb
            exact .inl ⟨v, tp, vs, _, _, bb, rfl, upd_same, hT, by rw [hk]; exact knd_ok cf st2 rx en hn, by rw [hk]; exact anyT_ok kf eb, q1 W1 _ _ t2 st2 .bl⟩
          · exact q1.elim
        · exact q1.elim
      · exact q1.elim⟩⟩⟩
end DL

set_option Elab.async false
set_option linter.all false
set_option maxRecDepth 100000
set_option autoImplicit false
set_option maxHeartbeats 2000000
/-! walks over the values and the pairs of a dict with tuple keys -/
namespace L2
open PySem PySem.Spec PyProof.Rows
section
variable {X : Cx} {pins : List (Addr × Obj)} {σ : St} {H : Hp} {s : Shared} {d : Addr} {o : Obj}
theorem Inv.frzT2 {kvs : List (List Key × V)} (I : Inv X pins σ H s) (h : H d = some (.frz o (.dT kvs))) :
    (d == sysModules) = false ∧ s.heap.get? d = some o ∧ o.ExactDict ∧ ∃ (es : Array DictEntry) (ep : Nat), o.data = .dict es ep ∧ es.size = kvs.length ∧
      ∀ (i : Nat) (k : List Key) (v : V), kvs[i]? = some (k, v) → ∃ (en : DictEntry) (q : Addr), es[i]? = some en ∧ en.key = .ref q ∧ H q = some (.tup (k.map kV)) ∧ RelV v en.val := by
  obtain ⟨hd, z, hs, xs, pr, o', es, ep, ho, hx, hdt, he, _⟩ := I.hok d _ h
  rw [hd] at ho
  cases ho
  refine ⟨hs, hd, hx, es, ep, hdt, ?_, fun i k v e => ?_⟩
  · have l1 : es.size = xs.length := size_of_entries he
    have l2 : kvs.length = xs.length := Paired.length pr
    omega
  · obtain ⟨b, hb, e1, e2, e3⟩ := paired_get pr e
    have q := entry_at he i
    rw [hb] at q
    exact ⟨_, b.2.1, q, rfl, e2, e3⟩
end
/-- the values of the locked dict at d -/
def ItdT (d : Addr) (o : Obj) (kvs : List (List Key × V)) : It :=
  ⟨fun i H => H d = some (.frz o (.dT kvs)) ∧ i < kvs.length, fun i H x H' => H' = H ∧ ∃ k, kvs[i]? = some (k, x), fun i H => H d = some (.frz o (.dT kvs)) ∧ kvs.length ≤ i⟩
/-- its pairs, each a new tuple of the key's own tuple and the value -/
def ItiT (d : Addr) (o : Obj) (kvs : List (List Key × V)) : It :=
  ⟨fun i H => H d = some (.frz o (.dT kvs)) ∧ i < kvs.length, fun i H x H' => ∃ T k v q, kvs[i]? = some (k, v) ∧ x = .ref T ∧ H T = none ∧ H q = some (.tup (k.map kV)) ∧ H' = upd H T (.tup [.ref q, v]), fun i H => H d = some (.frz o (.dT kvs)) ∧ kvs.length ≤ i⟩
section
variable {P : Program} {w : World} {K : PySem.W.Frag} {tg : Expr} {d : Addr} {o : Obj} {es : Array DictEntry} {ep : Nat}
theorem turn_valsT {kvs : List (List Key × V)} (it : Addr) (hod : o.data = .dict es ep) : Turn P w K tg (ItdT d o kvs) [it] it (fun i h => h.get? it = some (DVw.valOb d i kvs.length ep) ∧ it ≠ d) where
  mem := by simp
  obj := fun i h st b hb => by
    have e : b = it := by simpa using hb
    subst e
    exact ⟨_, st.1, fun v z => nomatch z⟩
  keep := fun i h h' st k => ⟨k it (by simp) _ st.1, st.2⟩
  item := by
    intro X hP hw hK hc i pins s σ H E I hf st hg
    subst hP hw hK
    obtain ⟨hd, hi⟩ := hg
    obtain ⟨f0, f1, f2, f3, f4, f5⟩ := hf it (by simp)
    obtain ⟨hs, hgd, hx, es', ep', hdt, hsz, ent⟩ := I.frzT2 hd
    obtain ⟨rfl, rfl⟩ := dict_ep hod hdt
    obtain ⟨⟨k, v⟩, hkv⟩ : ∃ p, kvs[i]? = some p := ⟨kvs[i], List.getElem?_eq_getElem hi⟩
    obtain ⟨en, q, hen, hkey, hq, rv⟩ := ent i k v hkv
    refine DVw.val_item st.1 hgd hdt hsz hen fun h' st' sb => ?_
    have I1 : Inv X pins σ H { s with heap := h' } := I.turned (t' := s.toks) (fun b ob hb e => (sb.2 b hb).trans e) f0 f1 f3 f4 f5
    exact ⟨en.val, rfl, go_of (s := { s with heap := h' }) st' rfl rfl (by decide) ⟨v, H, I1, rv, ⟨rfl, k, hkv⟩, ⟨st', st.2⟩, fun b hb => (hf b hb).1⟩⟩
  done := by
    intro X hP hw hK hc i pins s σ H E I hf st hg
    subst hP hw hK
    obtain ⟨hd, hi⟩ := hg
    obtain ⟨f0, f1, f2, f3, f4, f5⟩ := hf it (by simp)
    obtain ⟨hs, hgd, hx, es', ep', hdt, hsz, ent⟩ := I.frzT2 hd
    obtain ⟨rfl, rfl⟩ := dict_ep hod hdt
    exact DVw.val_end (I.ok.hd hc) st.1 hgd hdt hsz (Array.getElem?_eq_none (by omega)) fun h' eb => ⟨rfl, I.turned (t' := s.toks) (fun b ob hb e => eb b ob hb e) f0 f1 f3 f4 f5⟩
  self := fun A i s Q E st h => wpAny_pyIter_valiter (i := i) (n := kvs.length) (ep := ep) (d := d) ⟨_, st.1, rfl, rfl⟩ h
theorem turn_itemsT {kvs : List (List Key × V)} {elts : List Expr} {kk : Nat} {tpos : Pos} (it : Addr) (hod : o.data = .dict es ep) :
    Turn P w K (.Tuple elts kk tpos) (ItiT d o kvs) [it] it (fun i h => ∃ ok ov, h.get? it = some (DVw.itmOb d .none i kvs.length ep ok ov)) where
  mem := by simp
  obj := fun i h st b hb => by
    have e : b = it := by simpa using hb
    subst e
    obtain ⟨ok, ov, e⟩ := st
    exact ⟨_, e, fun v z => nomatch z⟩
  keep := fun i h h' st k => let ⟨ok, ov, e⟩ := st; ⟨ok, ov, k it (by simp) _ e⟩
  item := by
    intro X hP hw hK hc i pins s σ H E I hf st hg
    subst hP hw hK
    obtain ⟨hd, hi⟩ := hg
    obtain ⟨hs, hgd, hx, es', ep', hdt, hsz, ent⟩ := I.frzT2 hd
    obtain ⟨rfl, rfl⟩ := dict_ep hod hdt
    obtain ⟨⟨k, v⟩, hkv⟩ : ∃ p, kvs[i]? = some p := ⟨kvs[i], List.getElem?_eq_getElem hi⟩
    obtain ⟨en, q, hen, hkey, hq, rv⟩ := ent i k v hkv
    obtain ⟨ok, ov, he⟩ := st
    have hlt : it < s.heap.objs.size := Heap.lt_size he
    refine DVw.itm_item he hgd hdt hsz hen fun h' ho hT hz hk => ?_
    refine ⟨_, rfl, wpAny_letOwnedTupleGo_items (s := { s with heap := h' }) ho fun h'' he' sb => ?_⟩
    have hT2 : h''.get? s.heap.objs.size = some { cls := .type "tuple", data := .seq #[en.key, en.val] } := (sb.2 _ (Nat.ne_of_gt hlt)).trans hT
    rw [hkey] at hT2
    have new : ObjOk X.prog X.w (upd H s.heap.objs.size (.tup [.ref q, v])) h'' s.heap.objs.size (.tup [.ref q, v]) :=
      ⟨by show 2 ≤ sizeLine; decide, [.ref q, en.val], .cons rfl (.cons rv .nil), ⟨_, hT2, rfl, _, rfl⟩⟩
    have I1 : Inv X pins σ (upd H s.heap.objs.size (.tup [.ref q, v])) { s with heap := h'' } :=
      I.turnedNew (t' := s.toks) (ch := [it]) (fun b ob hb e => (sb.2 b (by simpa using hb)).trans (hk b ob (by simpa using hb) e)) hf (Nat.le_refl _) new
    refine ⟨.ref s.heap.objs.size, _, I1, rfl, ⟨_, k, v, q, hkv, rfl, I.hok.fresh (Nat.le_refl _), hq, rfl⟩, ⟨en.key, en.val, he'⟩, fun b hb => ?_⟩
    have e : b = it := by simpa using hb
    rw [e, upd_ne (Nat.ne_of_lt hlt)]
    exact (hf it (by simp)).1
  done := by
    intro X hP hw hK hc i pins s σ H E I hf st hg
    subst hP hw hK
    obtain ⟨hd, hi⟩ := hg
    obtain ⟨f0, f1, f2, f3, f4, f5⟩ := hf it (by simp)
    obtain ⟨hs, hgd, hx, es', ep', hdt, hsz, ent⟩ := I.frzT2 hd
    obtain ⟨rfl, rfl⟩ := dict_ep hod hdt
    obtain ⟨ok, ov, he⟩ := st
    exact DVw.itm_end (I.ok.hd hc) he hgd hdt hsz (Array.getElem?_eq_none (by omega)) fun h' eb => ⟨rfl, I.turned (t' := s.toks) (fun b ob hb e => eb b ob hb e) f0 f1 f3 f4 f5⟩
  self := fun A i s Q E st h => let ⟨_, _, e⟩ := st; PySem.W.kcp_self e h
end
section
variable {prog : Program} {w : World}
theorem meets_valsR (d : Addr) (hd : (d == sysModules) = false) : MeetsIn prog w (Builtin.«dict.values» ⟨[.ref d], []⟩) (fun _ R s => s.TypeIs (.ref d) "dict" ∧
      R (.ok (.ret (.ref s.heap.objs.size))) { s with heap := s.heap.push { cls := .type "dict_values", data := .fields #[.ref d] } }) :=
  .of_wp fun A R s ⟨hT, h⟩ => by
    refine wpAny_bind ?_
    unfold Builtin.Dict.noArgs
    refine wpAny_bind (wpAny_notOrdered_dict hT ?_)
    show wpAny _ _ (pure d) _ _ s
    refine wpAny_pure ?_
    show wpAny _ _ (Builtin.Dict.showsAll d >>= _) _ _ s
    unfold Builtin.Dict.showsAll
    rw [if_neg (by rw [hd]; exact Bool.false_ne_true)]
    refine wpAny_bind (wpAny_pure ?_)
    exact wpAny_bind (wpAny_newObj_type (wpAny_pure ⟨_, rfl, h⟩))
theorem meets_itmsR (d : Addr) (hd : (d == sysModules) = false) : MeetsIn prog w (Builtin.«dict.items» ⟨[.ref d], []⟩) (fun _ R s => s.TypeIs (.ref d) "dict" ∧
      R (.ok (.ret (.ref s.heap.objs.size))) { s with heap := s.heap.push { cls := .type "dict_items", data := .fields #[.ref d] } }) :=
  .of_wp fun A R s ⟨hT, h⟩ => by
    unfold Builtin.«dict.items»
    refine wpAny_bind ?_
    unfold Builtin.Dict.noArgs
    refine wpAny_bind (wpAny_notOrdered_dict hT ?_)
    show wpAny _ _ (pure d) _ _ s
    refine wpAny_pure ?_
    show wpAny _ _ (Builtin.Dict.showsAll d >>= _) _ _ s
    unfold Builtin.Dict.showsAll
    rw [if_neg (by rw [hd]; exact Bool.false_ne_true)]
    refine wpAny_bind (wpAny_pure ?_)
    exact wpAny_bind (wpAny_newObj_type (wpAny_pure ⟨_, rfl, h⟩))
end
/-- the dict is locked -/
def iValsT (td : TE) : TI := fun σ H R => td σ H fun x H1 => ∃ d o kvs, x = .ref d ∧ H1 d = some (.frz o (.dT kvs)) ∧ R (ItdT d o kvs) H1
def iItemsT (td : TE) : TI := fun σ H R => td σ H fun x H1 => ∃ d o kvs, x = .ref d ∧ H1 d = some (.frz o (.dT kvs)) ∧ R (ItiT d o kvs) H1
section
variable {X : Cx} {tg e : Expr} {td : TE} {apos cpos : Pos}
theorem pi_valuesT (he : PE X e td) (hbase : attributeBase e "values" X.env (eval e X.env) = eval e X.env := by rfl) (hline : (apos.endLine == cpos.line) = true := by rfl) : PI X tg (.Call (.Attribute e "values" apos) [] [] cpos) (iValsT td) := by
  refine ⟨fun pins s σ H R I h => ?_⟩
  refine wpAny_Call_method (T := "dict") (id := "dict.values") hbase rfl hline F.plainAttrs_dict F.slot_dict_values F.type_dict_values (thn (he.run pins s σ H _ I h) fun u s1 ⟨x, H1, I1, rx, d, o, kvs, ex, hd, q⟩ => ?_)
  subst ex
  obtain rfl : u = Value.ref d := rx
  obtain ⟨hs, hgd, hx, es, ep, hdt, hsz, ent⟩ := I1.frzT2 hd
  have hT : s1.TypeIs (.ref d) "dict" := ⟨o, hgd, hx.1⟩
  refine ⟨hT, fun a e => by cases e; exact ⟨o, hgd, hx.2.1⟩, ?_⟩
  have I2 : Inv X pins σ H1 { s1 with heap := s1.heap.push { cls := .type "dict_values", data := .fields #[.ref d] } } := I1.kept (t' := s1.toks) fun b ob q => Heap.get?_push_of_some _ q
  have hlt : d < s1.heap.objs.size := Heap.lt_size hgd
  have fin : wpAny (model X.prog X.w) X.A (pyIter (.ref s1.heap.objs.size)) (PIE X pins σ tg R) X.xe { s1 with heap := s1.heap.push { cls := .type "dict_values", data := .fields #[.ref d] } } := by
    refine DSub.iter_vals (a := d) (Heap.get?_push_size _ rfl) (Heap.get?_push_of_some _ hgd) hdt (pi_one (tk := s1.toks) I2 _ (turn_valsT _ hdt) ⟨?_, ?_⟩ q)
    · rw [← hsz]; exact Heap.get?_push_size _ rfl
    · refine Nat.ne_of_gt ?_
      rw [Heap.size_push]; exact Nat.lt_succ_of_lt hlt
  show wpAny _ _ (callWith cpos (.builtin "dict.values") [.ref d] [] []) _ X.xe s1
  exact method_meetsIn F.slot_dict_values F.entry_dict_values rfl (PySem.evalArgs_none ⟨rfl, hT, F.args_dict_values_1 _, _, meets_valsR d hs, hT, fin⟩)
theorem pi_itemsT {elts : List Expr} {kk : Nat} {tpos : Pos} (he : PE X e td) (hbase : attributeBase e "items" X.env (eval e X.env) = eval e X.env := by rfl) (hline : (apos.endLine == cpos.line) = true := by rfl) :
    PI X (.Tuple elts kk tpos) (.Call (.Attribute e "items" apos) [] [] cpos) (iItemsT td) := by
  refine ⟨fun pins s σ H R I h => ?_⟩
  refine wpAny_Call_method (T := "dict") (id := "dict.items") hbase rfl hline F.plainAttrs_dict F.slot_dict_items F.type_dict_items (thn (he.run pins s σ H _ I h) fun u s1 ⟨x, H1, I1, rx, d, o, kvs, ex, hd, q⟩ => ?_)
  subst ex
  obtain rfl : u = Value.ref d := rx
  obtain ⟨hs, hgd, hx, es, ep, hdt, hsz, ent⟩ := I1.frzT2 hd
  have hT : s1.TypeIs (.ref d) "dict" := ⟨o, hgd, hx.1⟩
  refine ⟨hT, fun a e => by cases e; exact ⟨o, hgd, hx.2.1⟩, ?_⟩
  have I2 : Inv X pins σ H1 { s1 with heap := s1.heap.push { cls := .type "dict_items", data := .fields #[.ref d] } } := I1.kept (t' := s1.toks) fun b ob q => Heap.get?_push_of_some _ q
  have fin : wpAny (model X.prog X.w) X.A (pyIter (.ref s1.heap.objs.size)) (PIE X pins σ (.Tuple elts kk tpos) R) X.xe { s1 with heap := s1.heap.push { cls := .type "dict_items", data := .fields #[.ref d] } } := by
    refine DSub.iter_itms (a := d) (Heap.get?_push_size _ rfl) (Heap.get?_push_of_some _ hgd) hdt (pi_one (tk := s1.toks) I2 _ (turn_itemsT _ hdt) ⟨.none, .none, ?_⟩ q)
    rw [← hsz]; exact Heap.get?_push_size _ rfl
  show wpAny _ _ (callWith cpos (.builtin "dict.items") [.ref d] [] []) _ X.xe s1
  exact method_meetsIn F.slot_dict_items F.entry_dict_items rfl (PySem.evalArgs_none ⟨rfl, hT, F.args_dict_items_1 _, _, meets_itmsR d hs, hT, fin⟩)
end
end L2

set_option Elab.async false
set_option linter.all false
set_option maxRecDepth 100000
set_option autoImplicit false
namespace DL
open PySem PySem.Spec PyProof.Rows L2
open Classical
/-! ### walks over a dict with tuple keys, the dict locked meanwhile -/
/-- a cell is laid back -/
def Cells.put (C : Cells) (n : Nat) (o : O) : Cells := ⟨C.nx, fun m => if m = n ∧ n < C.nx then some o else C.get m, fun m hm => by
  by_cases e : m = n ∧ n < C.nx
  · omega
  · rw [if_neg e]; exact C.wf m hm⟩
section
variable {C : Cells} {n m : Nat} {o : O}
@[simp] theorem nx_put : (C.put n o).nx = C.nx := rfl
theorem get_put (h : n < C.nx) : (C.put n o).get n = some o := if_pos ⟨rfl, h⟩
theorem get_put_ne (h : m ≠ n) : (C.put n o).get m = C.get m := if_neg fun z => h z.1
theorem del_put {o : O} (h : C.get n = some o) : (C.del n).put n o = C := Cells.ext' rfl fun m => by
  by_cases e : m = n
  · subst e; rw [get_put (C := C.del m) (show m < C.nx from Cells.lt h), h]
  · rw [get_put_ne e, get_del_ne e]
end
section
variable {G : Glo} {W W2 : Wd} {C C2 : Cells} {H H2 : Hp} {n : Nat} {a : Addr} {o : O} {u : HO} {od : Obj}
theorem lk_in (st : StR G W C H) (hn : C.get n = some o) (ha : W.cm n = some a) (hh : H a = some u) : StR G W (C.del n) (upd H a (.frz od u)) ∧ ¬ Own W (C.del n) a := by
  obtain ⟨b, hb, h1, h2, h3, h4⟩ := st.cells n o hn
  rw [ha] at h1; cases h1
  rw [hh] at h3; cases h3
  have nF : ∀ x v, W.F x = some v → x ≠ a := fun x v h e => by rw [e, h2] at h; cases h
  have got : ∀ m o2, (C.del n).get m = some o2 → m ≠ n ∧ C.get m = some o2 := fun m o2 h => by
    by_cases e : m = n
    · subst e; rw [get_del] at h; cases h
    · rw [get_del_ne e] at h; exact ⟨e, h⟩
  refine ⟨⟨st.lnk, st.tb.put hh h4.pla, fun x v h => by rw [upd_ne (nF x v h)]; exact st.F x v h, fun m o2 h => ?_, fun m k x o1 o2 k1 k2 k3 k4 => st.inj m k x _ _ (got m o1 k1).2 (got k o2 k2).2 k3 k4, st.nx⟩, fun z => ?_⟩
  · obtain ⟨e, h⟩ := got m o2 h
    obtain ⟨x, hx, k1, k2, k3, k4⟩ := st.cells m o2 h
    have : x ≠ a := fun e2 => e (st.inj m n a o2 o h hn (e2 ▸ k1) ha)
    exact ⟨x, hx, k1, k2, by rw [upd_ne this]; exact k3, k4⟩
  · rcases z with ⟨v, z⟩ | ⟨m, o2, z1, z2⟩
    · exact nF a v z rfl
    · obtain ⟨e, z1⟩ := got m o2 z1
      exact e (st.inj m n a o2 o z1 hn z2 ha)
theorem lk_out (st : StR G W C H) (hn : C.get n = some o) (ha : W.cm n = some a) (hh : H a = some u) (t : Step W (C.del n) (upd H a (.frz od u)) W2 C2 H2) (st2 : StR G W2 C2 H2) :
    H2 a = some (.frz od u) ∧ StR G W2 (C2.put n o) (upd H2 a u) ∧ Step W C H W2 (C2.put n o) (upd H2 a u) := by
  obtain ⟨st1, nO⟩ := lk_in (od := od) st hn ha hh
  obtain ⟨b, hb, h1, h2, h3, h4⟩ := st.cells n o hn
  rw [ha] at h1; cases h1
  rw [hh] at h3; cases h3
  have pf : Pla (HO.frz od u) := ⟨fun _ z => (nomatch z), fun _ z => (nomatch z), fun _ z => (nomatch z)⟩
  obtain ⟨hf, n2⟩ := t.fr a _ upd_same pf nO
  have ha2 : W2.cm n = some a := t.le.cm n a ha
  have hlt : n < C2.nx := Nat.lt_of_lt_of_le (Cells.lt hn) t.nx
  have nF : ∀ x v, W2.F x = some v → x ≠ a := fun x v h e => n2 (e ▸ .inl ⟨v, h⟩)
  have F0 : W2.F a = none := by
    cases q : W2.F a with
    | none => rfl
    | some v => exact absurd rfl (nF a v q)
  have nc : ∀ m o2, C2.get m = some o2 → W2.cm m ≠ some a := fun m o2 h e => n2 (.inr ⟨m, o2, h, e⟩)
  have got : ∀ m o2, (C2.put n o).get m = some o2 → (m = n ∧ o2 = o) ∨ (m ≠ n ∧ C2.get m = some o2) := fun m o2 h => by
    by_cases e : m = n
    · subst e; rw [get_put hlt] at h; cases h; exact .inl ⟨rfl, rfl⟩
    · rw [get_put_ne e] at h; exact .inr ⟨e, h⟩
  refine ⟨hf, ⟨st2.lnk, st2.tb.put hf pf, fun x v h => by rw [upd_ne (nF x v h)]; exact st2.F x v h, fun m o2 h => ?_, fun m k x o1 o2 k1 k2 k3 k4 => ?_, st2.nx⟩, t.le, t.nx, fun x v h px nx => ?_⟩
  · rcases got m o2 h with ⟨rfl, rfl⟩ | ⟨e, h⟩
    · exact ⟨a, u, ha2, F0, upd_same, h4.up t.le⟩
    · obtain ⟨x, hx, k1, k2, k3, k4⟩ := st2.cells m o2 h
      have : x ≠ a := fun e2 => nc m o2 h (e2 ▸ k1)
      exact ⟨x, hx, k1, k2, by rw [upd_ne this]; exact k3, k4⟩
  · rcases got m o1 k1 with ⟨e, _⟩ | ⟨e, z1⟩
    · rcases got k o2 k2 with ⟨e2, _⟩ | ⟨e2, z2⟩
      · rw [e, e2]
      · rw [e, ha2] at k3; cases k3
        exact absurd k4 (nc k o2 z2)
    · rcases got k o2 k2 with ⟨e2, _⟩ | ⟨e2, z2⟩
      · rw [e2, ha2] at k4; cases k4
        exact absurd k3 (nc m o1 z1)
      · exact st2.inj m k x _ _ z1 z2 k3 k4
  · have ne : x ≠ a := fun e => nx (e ▸ .inr ⟨n, o, hn, ha⟩)
    have h' : upd H a (.frz od u) x = some v := by rw [upd_ne ne]; exact h
    have nO' : ¬ Own W (C.del n) x := fun z => nx (by
      rcases z with z | ⟨m, o2, z1, z2⟩
      · exact .inl z
      · by_cases e : m = n
        · subst e; rw [get_del] at z1; cases z1
        · rw [get_del_ne e] at z1; exact .inr ⟨m, o2, z1, z2⟩)
    obtain ⟨q1, q2⟩ := t.fr x v h' px nO'
    refine ⟨by rw [upd_ne ne]; exact q1, fun z => ?_⟩
    rcases z with z | ⟨m, o2, z1, z2⟩
    · exact q2 (.inl z)
    · rcases got m o2 z1 with ⟨rfl, _⟩ | ⟨e, z1⟩
      · rw [ha2] at z2; cases z2; exact ne rfl
      · exact q2 (.inr ⟨m, o2, z1, z2⟩)
/-- a tuple that stands in the heap becomes known -/
theorem fr_tup {q : Addr} {vs : List V} (st : StR G W C H) (hq : H q = some (.tup vs)) : ∃ W2, StR G W2 C H ∧ Step W C H W2 C H ∧ W2.F q = some (.tup vs) := by
  have le : W.le ⟨upd W.F q (.tup vs), W.cm⟩ := ⟨fun x v h => by
    show upd W.F q _ x = _
    by_cases e : x = q
    · subst e
      have := st.F x v h
      rw [hq] at this; cases this
      exact upd_same
    · rw [upd_ne e]; exact h, fun _ _ h => h⟩
  have tn : ∀ ps, HO.tup vs ≠ .tbl ps := fun _ z => (nomatch z)
  refine ⟨⟨upd W.F q (.tup vs), W.cm⟩, ⟨st.lnk.trans le, st.tb.kn hq tn le, fun x v h => ?_, fun m o2 h => ?_, st.inj, st.nx⟩, ⟨le, Nat.le_refl _, fun x v h px nx => ⟨h, fun z => ?_⟩⟩, upd_same⟩
  · have h' : upd W.F q (.tup vs) x = some v := h
    by_cases e : x = q
    · subst e; rw [upd_same] at h'; cases h'; exact hq
    · rw [upd_ne e] at h'; exact st.F x v h'
  · obtain ⟨x, hx, k1, k2, k3, k4⟩ := st.cells m o2 h
    have : x ≠ q := fun e => by
      rw [e, hq] at k3; cases k3
      exact k4.pla.2.2 _ rfl
    exact ⟨x, hx, k1, by show upd W.F q _ x = none; rw [upd_ne this]; exact k2, k3, k4.up le⟩
  · rcases z with ⟨v2, z⟩ | z
    · have z' : upd W.F q (.tup vs) x = some v2 := z
      by_cases e : x = q
      · subst e; rw [hq] at h; cases h; exact px.2.2 _ rfl
      · rw [upd_ne e] at z'; exact nx (.inl ⟨v2, z'⟩)
    · exact nx (.inr z)
end
def keyT (k : List Key) : D := .tup (k.map keyD)
theorem keyT_ok {G : Glo} {W : Wd} : ∀ k : List Key, RepVs G W (k.map keyD) (k.map kV)
  | [] => .nil
  | _ :: k => .cons (keyD_ok _) (keyT_ok k)
/-- what a walk yields -/
inductive Wk where | keys | vals | items
def Wk.ds : Wk → List (List Key × D) → List D
  | .keys, l => l.map fun p => keyT p.1
  | .vals, l => l.map fun p => p.2
  | .items, l => l.map fun p => .tup [keyT p.1, p.2]
theorem Wk.len (k : Wk) (l : List (List Key × D)) : (k.ds l).length = l.length := by cases k <;> simp [Wk.ds]
def Wk.it : Wk → Addr → Obj → List (List Key × V) → It
  | .keys => Itkt | .vals => ItdT | .items => ItiT
section
variable {G : Glo} {W : Wd} {C : Cells} {H : Hp} {a : Addr} {od : Obj} {l : List (List Key × D)} {m : List (List Key × V)}
theorem kvt_get : ∀ {l : List (List Key × D)} {m : List (List Key × V)} {i : Nat} {p : List Key × V}, RepKV G W l m → m[i]? = some p → ∃ d, l[i]? = some (p.1, d) ∧ RepV G W d p.2
  | _, _, _, _, .nil, h => by simp at h
  | _, _, 0, _, .cons (a := q) h t, e => by
    simp only [List.getElem?_cons_zero, Option.some.injEq] at e
    subst e
    exact ⟨q.2, by rw [← h.1]; rfl, h.2⟩
  | _, _, i + 1, _, .cons h t, e => by
    simp only [List.getElem?_cons_succ] at e ⊢
    exact kvt_get t e
theorem wlk_dT (k : Wk) (hd : H a = some (.frz od (.dT m))) (nO : ¬ Own W C a) (r : RepKV G W l m) : Wlk G (k.it a od m) W C H (k.ds l) := by
  have pf : Pla (HO.frz od (.dT m)) := ⟨fun _ z => (nomatch z), fun _ z => (nomatch z), fun _ z => (nomatch z)⟩
  have hl : l.length = m.length := Paired.length r
  refine ⟨fun i d e W' C' H' t st => ?_, fun W' C' H' t st => ?_⟩
  · have hi : i < m.length := by
      rw [← hl, ← k.len l]
      exact (List.getElem?_eq_some_iff.mp e).1
    have hd' := (t.fr a _ hd pf nO).1
    cases k with
    | keys =>
      refine ⟨⟨hd', hi⟩, fun x H2 y => ?_⟩
      obtain ⟨rfl, k, v, q, hk, rfl, hq⟩ := y
      obtain ⟨d', e', rd⟩ := kvt_get r hk
      have e : (l.map fun p => keyT p.1)[i]? = some d := e
      rw [List.getElem?_map, e'] at e
      cases e
      obtain ⟨W2, s2, t2, f2⟩ := fr_tup st hq
      exact ⟨W2, t2, s2, .tup f2 (keyT_ok _)⟩
    | vals =>
      refine ⟨⟨hd', hi⟩, fun x H2 y => ?_⟩
      obtain ⟨rfl, k, hk⟩ := y
      obtain ⟨d', e', rd⟩ := kvt_get r hk
      have e : (l.map fun p => p.2)[i]? = some d := e
      rw [List.getElem?_map, e'] at e
      cases e
      exact ⟨W', .refl, st, rd.up t.le⟩
    | items =>
      refine ⟨⟨hd', hi⟩, fun x H2 y => ?_⟩
      obtain ⟨T, k, v, q, hk, rfl, hT, hq, rfl⟩ := y
      obtain ⟨d', e', rd⟩ := kvt_get r hk
      have e : (l.map fun p => .tup [keyT p.1, p.2])[i]? = some d := e
      rw [List.getElem?_map, e'] at e
      cases e
      obtain ⟨W2, s2, t2, f2⟩ := fr_tup st hq
      obtain ⟨s3, t3⟩ := fr_fz (o := .tup [.ref q, v]) s2 hT
      refine ⟨_, t2.trans t3, s3, .tup (by show upd W2.F T _ T = _; exact upd_same) (.cons (.tup (t3.le.F _ _ f2) (keyT_ok _)) (.cons (((rd.up t.le).up t2.le).up t3.le) .nil))⟩
  · have hd' := (t.fr a _ hd pf nO).1
    cases k <;> exact ⟨hd', by rw [Wk.len, hl]; exact Nat.le_refl _⟩
end
section
variable {X : Cx} {G : Glo} {Wx : WX} {e c : Expr} {f : EF} {pos : Pos}
/-- the walk of a comprehension, its iterator at hand -/
theorem lc_body {t : TG} {gf : GF} {tch vs : List Nat} {tt : TF} {fe : EF} {fin : List D → Cells → Res D} (go : GOk G t gf tch) (ht : ∀ i ∈ tch, i ∈ vs)
    (hfin : ∀ (σ : L2.St) (W : Wd) (C : Cells) (H : Hp) (l : List D) (us : List V) (Dp : Addr) (Q : VK), StR G W C H → ¬ Own W C Dp → H Dp = some (.lst us) → RepVs G W l us →
      (∀ W1 C1 H1, StepX Dp W C H W1 C1 H1 → H1 = H → ∀ d v, StR G W1 C1 H1 → RepV G W1 d v → fin l C = .ok d C1 → Q v H1) → Q (.ref Dp) H)
    {σ : L2.St} {Q : VK} {sl : Sl} {J : It} {W1 : Wd} {C1 : Cells} {H1 : Hp} {ds ys : List D} {Ce : Cells} (rs : RepS G W1 sl σ) (st1 : StR G W1 C1 H1) (wk : Wlk G J W1 C1 H1 ds) (e2 : lcF gf tt fe vs ds sl C1 = .ok ys Ce) (hz : ds.length ≤ mxl)
    (q : Post G Wx σ (RepV G) W1 C1 H1 (fin ys Ce) Q) : tLc (fun _ _ R => R J H1) t (tTs G W0 tt) (tD G W0 fe) vs σ H1 Q := by
  intro Dp hD
  have t1 : Step W1 C1 H1 W1 C1 H1 := .refl
  obtain ⟨st2, t2, n2⟩ := fr_out (o := .lst []) st1 hD
  refine ⟨fun i m H => i ≤ ds.length ∧ m = ds.length - i ∧ ∃ W C acc us rest, StepX Dp W1 C1 (upd H1 Dp (.lst [])) W C H ∧ StR G W C H ∧ ¬ Own W C Dp ∧ H Dp = some (.lst us) ∧ RepVs G W acc us ∧ acc.length ≤ i ∧ lcF gf tt fe vs (ds.drop i) sl C = .ok rest Ce ∧ ys = acc ++ rest,
    ⟨ds.length, Nat.zero_le _, rfl, W1, C1, [], [], ys, ⟨.refl, Nat.le_refl _, fun a o _ h _ n => ⟨h, n⟩⟩, st2, n2, upd_same, .nil, Nat.zero_le _, by rw [List.drop_zero]; exact e2, rfl⟩, ?_⟩
  rintro i m H2 ⟨hi, rfl, W2, C2, acc, us, rest, t3, st3, n3, hD3, racc, hacc, erest, eys⟩
  have wk2 : ∀ {W' C' H'}, StepX Dp W1 C1 (upd H1 Dp (.lst [])) W' C' H' → Step W1 C1 H1 W' C' H' := fun s => (t2.x.trans s).st hD
  by_cases hlt : i < ds.length
  · have hd : ds[i]? = some ds[i] := List.getElem?_eq_getElem hlt
    have hdr : ds.drop i = ds[i] :: ds.drop (i + 1) := List.drop_eq_getElem_cons hlt
    obtain ⟨go_, y_⟩ := wk.item i _ hd W2 C2 H2 (wk2 t3) st3
    refine .inr ⟨go_, fun H => ∃ W C acc us rest', StepX Dp W1 C1 (upd H1 Dp (.lst [])) W C H ∧ StR G W C H ∧ ¬ Own W C Dp ∧ H Dp = some (.lst us) ∧ RepVs G W acc us ∧ acc.length ≤ i + 1 ∧ lcF gf tt fe vs (ds.drop (i + 1)) sl C = .ok rest' Ce ∧ ys = acc ++ rest', fun H' n => ⟨_, ?_, hlt, rfl, n⟩, fun x H4 y => ?_⟩
    · omega
    obtain ⟨W4, t4, st4, r4⟩ := y_ x H4 y
    rw [hdr] at erest
    unfold lcF at erest
    cases eg : gf ds[i] (wipeD sl vs) C2 with
    | none => rw [eg] at erest; cases erest
    | some s' =>
      rw [eg] at erest
      have hD4 := (t4.fr Dp _ hD3 pla_lst n3).1
      have n4 := (t4.fr Dp _ hD3 pla_lst n3).2
      refine go _ x (wipeD sl vs) s' (L2.wipe σ vs) W4 C2 H4 _ st4 r4 ((rs.up (t1.le.trans (t3.le.trans t4.le))).wipe vs) eg fun σ' rs' hw => ⟨?_, W4, s', C2, rs', st4, ?_⟩
      · rw [hw vs ht]
        have ww : ∀ us : List Nat, L2.wipe (L2.wipe σ vs) us = L2.wipe (L2.wipe σ vs) us := fun _ => rfl
        have : ∀ (ks : List Nat), (∀ k ∈ ks, k ∈ vs) → L2.wipe (L2.wipe σ vs) ks = L2.wipe σ vs := fun ks => by
          induction ks with
          | nil => intro _; rfl
          | cons k ks ih =>
            intro hk
            show (L2.wipe (L2.wipe σ vs) ks).set k none = _
            rw [ih fun z hz => hk z (List.mem_cons_of_mem _ hz)]
            have gone : ∀ (ms : List Nat), k ∈ ms → (L2.wipe σ ms).set k none = L2.wipe σ ms := fun ms => by
              induction ms with
              | nil => intro h; cases h
              | cons m ms ih2 =>
                intro h
                unfold L2.wipe
                by_cases e : m = k
                · subst e; rw [List.set_set]
                · rcases List.mem_cons.mp h with z | z
                  · exact absurd z.symm e
                  · rw [List.set_comm _ _ e, ih2 z]
            exact gone vs (hk k List.mem_cons_self)
        exact this vs fun _ h => h
      · cases et : tt s' C2 with
        | no => simp only [et] at erest; cases erest
        | err c C5 => simp only [et] at erest; cases erest
        | ok b C5 =>
          simp only [et] at erest
          intro W5 b' H5 t5 st5 eb
          subst eb
          have hD5 := (t5.fr Dp _ hD4 pla_lst n4).1
          have n5 := (t5.fr Dp _ hD4 pla_lst n4).2
          have tt5 := t3.trans (t4.trans t5).x
          cases b with
          | false =>
            rw [if_neg Bool.false_ne_true]
            exact ⟨W5, C5, acc, us, rest, tt5, st5, n5, hD5, racc.up (t4.trans t5).le, Nat.le_succ_of_le hacc, erest, eys⟩
          | true =>
            rw [if_pos rfl]
            refine ⟨W5, s', C5, rs'.up t5.le, st5, ?_⟩
            cases ef : fe s' C5 with
            | no => simp only [ef] at erest; cases erest
            | err c C6 => simp only [ef] at erest; cases erest
            | ok y C6 =>
              simp only [ef] at erest
              cases el : lcF gf tt fe vs (ds.drop (i + 1)) sl C6 with
              | no => rw [el] at erest; cases erest
              | err c C7 => rw [el] at erest; cases erest
              | ok ys' C7 =>
                rw [el] at erest
                cases erest
                intro W6 v6 H6 t6 st6 r6
                have hD6 := (t6.fr Dp _ hD5 pla_lst n5).1
                have n6 := (t6.fr Dp _ hD5 pla_lst n5).2
                refine ⟨us, hD6, ?_, W6, C6, acc ++ [y], us ++ [v6], ys', (tt5.trans t6.x).trans (stepX_set n6), fr_outset st6 n6 hD6 pla_lst, n6, upd_same, (racc.up ((t4.trans t5).trans t6).le).append (.cons r6 .nil), ?_, el, by rw [eys]; simp⟩
                · rw [← racc.length, ← mxl_eq]; omega
                · rw [List.length_append, List.length_singleton]; omega
  · have ei : i = ds.length := by omega
    subst ei
    rw [List.drop_length] at erest
    cases erest
    rw [List.append_nil] at eys
    subst eys
    refine .inl ⟨wk.stop W2 _ H2 (wk2 t3) st3, hfin σ W2 _ H2 _ us Dp Q st3 n3 hD3 racc fun W5 C5 H5 t5 e5 d v st5 r5 ef => ?_⟩
    rw [ef] at q
    exact q W5 v H5 (t1.trans ((t2.x.trans (t3.trans t5)).st hD)) st5 r5
/-- a comprehension over a dict with tuple keys: the dict is out of sight meanwhile -/
noncomputable def lcTG (k : Wk) (fo : EF) (tg : GF) (t : TF) (f : EF) (vs : List Nat) (fin : List D → Cells → Res D) : EF := fun s C => match fo s C with
  | .ok (.cel n) _ => (match C.get n with
    | some (.dt l) => (match fo s (C.del n) with
      | .ok (.cel m) C1 => if m = n then (match lcF tg t f vs (k.ds l) s C1 with
        | .ok ys C2 => (match fin ys C2 with
          | .ok d C3 => if l.length ≤ mxl then .ok d (C3.put n (.dt l)) else .no
          | _ => .no)
        | _ => .no) else .no
      | _ => .no)
    | _ => .no)
  | _ => .no
noncomputable def eLcT (k : Wk) (fo : EF) (tg : GF) (t : TF) (f : EF) (vs : List Nat) : EF := lcTG k fo tg t f vs fun ys C => .ok (.lst ys) C
def Wk.wi : Wk → TE → TI
  | .keys, td => fun σ H R => td σ H fun x H1 => ∃ d o kvs, x = .ref d ∧ H1 d = some (.frz o (.dT kvs)) ∧ R (Itkt d o kvs) H1
  | .vals, td => iValsT td
  | .items, td => iItemsT td
theorem lcT_use (k : Wk) {t : TG} {gf : GF} {tch vs : List Nat} {tt : TF} {fo fe : EF} {fin : List D → Cells → Res D} (go : GOk G t gf tch) (ht : ∀ i ∈ tch, i ∈ vs)
    (hfin : ∀ (σ : L2.St) (W : Wd) (C : Cells) (H : Hp) (l : List D) (us : List V) (Dp : Addr) (Q : VK), StR G W C H → ¬ Own W C Dp → H Dp = some (.lst us) → RepVs G W l us →
      (∀ W1 C1 H1, StepX Dp W C H W1 C1 H1 → H1 = H → ∀ d v, StR G W1 C1 H1 → RepV G W1 d v → fin l C = .ok d C1 → Q v H1) → Q (.ref Dp) H)
    {σ : L2.St} {H : Hp} {Q : VK} {W : Wd} {sl : Sl} {C : Cells} (rs : RepS G W sl σ) (st : StR G W C H)
    (q : Post G Wx σ (RepV G) W C H (lcTG k fo gf tt fe vs fin sl C) Q) : tLockE (tLc (k.wi (tD G Wx fo)) t (tTs G W0 tt) (tD G W0 fe) vs) σ H Q := by
  unfold lcTG at q
  split at q
  rotate_left
  · exact q.elim
  rename_i n C0 e0
  split at q
  rotate_left
  · exact q.elim
  rename_i l hn
  split at q
  rotate_left
  · exact q.elim
  rename_i m C1 e1
  split at q
  rotate_left
  · exact q.elim
  rename_i hm
  subst hm
  split at q
  rotate_left
  · exact q.elim
  rename_i ys C2 e2
  split at q
  rotate_left
  · exact q.elim
  rename_i d C3 e3
  split at q
  rotate_left
  · exact q.elim
  rename_i hz
  obtain ⟨a, ho, h1, h2, h3, kvs, rfl, h4⟩ := st.cells m _ hn
  refine ⟨a, _, h3, trivial, fun od => ?_⟩
  obtain ⟨st1, nO⟩ := lk_in (od := od) st hn h1 h3
  have core : ∀ (W1 : Wd) (v : V) (H1 : Hp), Step W (C.del m) (upd H a (.frz od (.dT kvs))) W1 C1 H1 → StR G W1 C1 H1 → RepV G W1 (.cel m) v → ∃ b o kvs', v = .ref b ∧ H1 b = some (.frz o (.dT kvs')) ∧ tLc (fun _ _ R => R (k.it b o kvs') H1) t (tTs G W0 tt) (tD G W0 fe) vs σ H1 fun v H' => H' a = some (.frz od (.dT kvs)) ∧ Q v (upd H' a (.dT kvs)) := by
    intro W1 v H1 t1 st1' rr
    obtain ⟨b, rfl, hb⟩ := rr.cel_
    rw [t1.le.cm m a h1] at hb; cases hb
    have pf : Pla (HO.frz od (.dT kvs)) := ⟨fun _ z => (nomatch z), fun _ z => (nomatch z), fun _ z => (nomatch z)⟩
    obtain ⟨hf, nO1⟩ := t1.fr a _ upd_same pf nO
    refine ⟨a, od, kvs, rfl, hf, lc_body (Wx := Wx) go ht hfin (rs.up t1.le) st1' (wlk_dT k hf nO1 (RepKV.up t1.le h4)) e2 (by rw [k.len]; exact hz) ?_⟩
    rw [e3]
    intro W3 v3 H3 t3 st3 r3
    obtain ⟨z1, z2, z3⟩ := lk_out st hn h1 h3 (t1.trans t3) st3
    exact ⟨z1, q W3 v3 _ z3 z2 r3⟩
  have q0 : tD G Wx fo σ (upd H a (.frz od (.dT kvs))) fun v H1 => ∃ b o kvs', v = .ref b ∧ H1 b = some (.frz o (.dT kvs')) ∧ tLc (fun _ _ R => R (k.it b o kvs') H1) t (tTs G W0 tt) (tD G W0 fe) vs σ H1 fun v H' => H' a = some (.frz od (.dT kvs)) ∧ Q v (upd H' a (.dT kvs)) :=
    ⟨W, sl, C.del m, rs, st1, by rw [e1]; exact core⟩
  cases k <;> exact q0
section
variable {elt tg o : Expr} {ifs : List Expr} {scope : Scope} {own : List (Str × Nat)} {t : TG} {gf : GF} {tch : List Nat} {tt : TF} {fo : EF} {apos cpos : Pos}
theorem Post.mono {α β : Type} {R : Wd → α → β → Prop} {σ : L2.St} {W : Wd} {C : Cells} {H : Hp} {r : Res α} {Q Q1 : β → Hp → Prop} (h : Post G Wx σ R W C H r Q) (w : ∀ b H, Q b H → Q1 b H) : Post G Wx σ R W C H r Q1 := by
  cases r with
  | ok a C1 => exact fun W' b H' t st rr => w b H' (h W' b H' t st rr)
  | err c C1 => exact h
  | no => exact h
theorem pi_keysT (he : DE X G Wx o fo) : PI X tg o (Wk.keys.wi (tD G Wx fo)) := ⟨fun pins s σ H R I h => (pi_keys he.pe).run pins s σ H R I (let ⟨W, sl, C, rs, st, q⟩ := h; ⟨W, sl, C, rs, st, Post.mono q fun v H1 ⟨d, od, kvs, e1, e2, e3⟩ => ⟨d, od, e1, .inr ⟨kvs, e2, e3⟩⟩⟩)⟩
theorem de_lcT (k : Wk) {iter : Expr} (hi : PI X tg iter (k.wi (tD G Wx fo))) (hc : X.calm = true) (hN : X.N.Nodup) (ok : BlkOk X.N X.env.scope scope own) (go : GOk G t gf tch) (htc : ∀ i ∈ tch, i ∈ own.map (·.2))
    (hg : ∀ (s : Shared) (H : Hp) (C : Addr) (cl : List (Str × Addr)) (fp : List Addr), PG (X.blk s H scope (compEnvC scope cl C X.env) fp) tg t) (ht : ∀ (s : Shared) (H : Hp) (C : Addr) (cl : List (Str × Addr)) (fp : List Addr), DTs (X.blk s H scope (compEnvC scope cl C X.env) fp) G W0 ifs tt)
    (he : ∀ (s : Shared) (H : Hp) (C : Addr) (cl : List (Str × Addr)) (fp : List Addr), DE (X.blk s H scope (compEnvC scope cl C X.env) fp) G W0 elt f) (hs : ∀ x, foldedSetIterable iter X.env x = pure x := by intro _; rfl) :
    DE X G Wx (.ListComp elt [⟨tg, iter, ifs, 0⟩] scope pos) (eLcT k fo gf tt f (own.map (·.2))) :=
  ⟨PE.weak (pe_lock (pe_lc hc hN hi ok hg (fun s H C cl fp => (ht s H C cl fp).pts) (fun s H C cl fp => (he s H C cl fp).pe) hs)) fun σ H Q ⟨W, sl, C, rs, st, q⟩ => lcT_use k go htc fin_lst rs st q⟩
/-- name = [..] on one line -/
theorem ds_setLcT (k : Wk) {iter : Expr} {fin : List D → Cells → Res D} (hfin : ∀ (σ : L2.St) (W : Wd) (C : Cells) (H : Hp) (l : List D) (us : List V) (Dp : Addr) (Q : VK), StR G W C H → ¬ Own W C Dp → H Dp = some (.lst us) → RepVs G W l us →
      (∀ W1 C1 H1, StepX Dp W C H W1 C1 H1 → H1 = H → ∀ d v, StR G W1 C1 H1 → RepV G W1 d v → fin l C = .ok d C1 → Q v H1) → Q (.ref Dp) H)
    {i : Nat} {y : Str} {py spos : Pos} (hi : PI X tg iter (k.wi (tD G Wx fo))) (hc : X.calm = true) (hN : X.N.Nodup) (hy : X.N[i]? = some y) (hyl : X.env.scope.names.lookup y = some .local)
    (hsw : swapsWith (.ListComp elt [⟨tg, iter, ifs, 0⟩] scope pos) (some (.Name y py)) spos.line X.env = pure true) (ok : BlkOk X.N X.env.scope scope own) (go : GOk G t gf tch) (htc : ∀ i ∈ tch, i ∈ own.map (·.2))
    (hg : ∀ (s : Shared) (H : Hp) (C : Addr) (cl : List (Str × Addr)) (fp : List Addr), PG (X.blk s H scope (compEnvC scope cl C X.env) fp) tg t) (ht : ∀ (s : Shared) (H : Hp) (C : Addr) (cl : List (Str × Addr)) (fp : List Addr), DTs (X.blk s H scope (compEnvC scope cl C X.env) fp) G W0 ifs tt)
    (he : ∀ (s : Shared) (H : Hp) (C : Addr) (cl : List (Str × Addr)) (fp : List Addr), DE (X.blk s H scope (compEnvC scope cl C X.env) fp) G W0 elt f) (hs : ∀ x, foldedSetIterable iter X.env x = pure x := by intro _; rfl) :
    DS X G Wx (.Assign [.Name y py] (.ListComp elt [⟨tg, iter, ifs, 0⟩] scope pos) spos) (sSet i (lcTG k fo gf tt f (own.map (·.2)) fin)) :=
  ⟨PS.weak (ps_lock (ps_setLc hc hN hy hyl hsw hi ok hg (fun s H C cl fp => (ht s H C cl fp).pts) (fun s H C cl fp => (he s H C cl fp).pe) hs)) fun D σ H ⟨W, sl, C, rs, st, q⟩ =>
    lcT_use (Q := fun x H1 => gName i x σ H1 D.nx) k go htc hfin rs st (SPost.toS (Q := fun x H1 => gName i x σ H1 D.nx) rs q fun d C1 W1 v H1 t1 st1 rr q1 => q1 W1 _ H1 .refl st1 ((rs.up t1.le).set i rr))⟩
end
end
end DL

set_option Elab.async false
set_option linter.all false
set_option maxRecDepth 100000
set_option autoImplicit false
/-! sorted and min of data of any shape -/
namespace L2
open PySem PySem.Spec PyProof.Rows PySem.W
theorem each_vals : ∀ {bs : List (V × PyData)} {its : List Value}, Vals (bs.map (·.1)) its → EachIs (fun u (b : V × PyData) => RelV b.1 u) its bs
  | [], _, r => by cases r; exact .nil
  | b :: bs, _, r => by
    cases r with
    | cons h t => exact .cons h (each_vals t)
theorem vals_each : ∀ {bs : List (V × PyData)} {its : List Value}, EachIs (fun u (b : V × PyData) => RelV b.1 u) its bs → Vals (bs.map (·.1)) its
  | _, _, .nil => .nil
  | _, _, .cons h t => .cons h (vals_each t)
theorem vals_back2 : ∀ {xs : List V} {us : List Value} {i : Nat} {u : Value}, Vals xs us → us[i]? = some u → ∃ x, xs[i]? = some x ∧ RelV x u
  | _, _, _, _, .nil, h => by simp at h
  | _, _, 0, _, .cons (a := x) h t, e => by
    simp only [List.getElem?_cons_zero, Option.some.injEq] at e
    subst e
    exact ⟨x, rfl, h⟩
  | _, _, i + 1, _, .cons h t, e => by
    simp only [List.getElem?_cons_succ] at e ⊢
    exact vals_back2 t e
section
variable {X : Cx} {pins : List (Addr × Obj)} {σ : St} {H : Hp} {s : Shared}
theorem each_reads (I : Inv X pins σ H s) : ∀ {bs : List (V × PyData)} {its : List Value}, (∀ b ∈ bs, Dp X.K H b.1 b.2) → Vals (bs.map (·.1)) its → EachIs (fun u (b : V × PyData) => ∃ as, Reads s.heap u b.2 as) its bs
  | [], _, _, r => by cases r; exact .nil
  | b :: bs, _, hb, r => by
    cases r with
    | cons h t => exact .cons (Dp.reads I b.2 b.1 _ (hb b (by simp)) h) (each_reads I (fun c m => hb c (by simp [m])) t)
theorem dpAll_of {K : PySem.W.Frag} : ∀ {bs : List (V × PyData)}, (∀ b ∈ bs, Dp K H b.1 b.2) → DpAll K H (bs.map (·.1)) (bs.map (·.2))
  | [], _ => .nil
  | b :: bs, hb => .cons (hb b (by simp)) (dpAll_of fun c m => hb c (by simp [m]))
end
/-- sorted(xs), data that may be sorted -/
def rSortedD (K : PySem.W.Frag) : List V → Hp → VK → Prop := fun vs H Q => ∃ (a : Addr) (bs : List (V × PyData)), vs = [V.ref a] ∧ SqL K H a (bs.map (·.1)) ∧ (∀ b ∈ bs, Dp K H b.1 b.2) ∧ AllAlike (bs.map (·.2)) ∧ Sortable (bs.map (·.2)) ∧ (∀ b ∈ bs, b.2.depth ≤ 30) ∧
  ∀ p, H p = none → Q (.ref p) (upd H p (.lst ((bs.mergeSort (dataLe false (·.2))).map (·.1))))
/-- min(xs), data that are alike -/
def rMinDat (K : PySem.W.Frag) : List V → Hp → VK → Prop := fun vs H Q => ∃ (a : Addr) (b : V × PyData) (bs : List (V × PyData)), vs = [V.ref a] ∧ SqL K H a ((b :: bs).map (·.1)) ∧ (∀ c ∈ b :: bs, Dp K H c.1 c.2) ∧ AlikeAll ((b :: bs).map (·.2)) ∧ PyData.depthAll ((b :: bs).map (·.2)) ≤ 30 ∧
  ∀ c ∈ b :: bs, c.2 = minD b.2 (bs.map (·.2)) → Q c.1 H
section
variable {X : Cx}
theorem cr_sortedD (hu : X.A.units + 64 < cLine) : CallR X (.builtin "sorted") (rSortedD X.K) := by
  intro pins s σ H vs us Q I r h
  obtain ⟨a, bs, rfl, hs, hd, hal, hso, hdp, q⟩ := h
  obtain ⟨its, rv, hl, hz⟩ := I.list hs
  rw [Vals.ref1 r]
  have hz' : bs.length ≤ sizeLine := by simpa using hz
  refine PySem.W.sorted_data (R := fun u (b : V × PyData) => RelV b.1 u) (enc := fun b => b.2) hl.isList (each_vals rv) (each_reads I hd rv) hal hso hz' (fun b m => by have := hdp b m; show X.A.units + 2 + b.2.depth < cLine; omega) fun out hlen eo => ?_
  obtain ⟨ep, he'⟩ := PyProof.Rows.sortedAll_at s.heap its out.toArray
  exact ⟨.ref _, upd H (s.heap.objs.size + 1) (.lst ((bs.mergeSort (dataLe false fun b => b.2)).map (·.1))), I.laid (t' := s.toks) (fun _ _ => PyProof.Rows.sortedAll_old) (Nat.le_succ _) ⟨by rw [List.length_map, List.length_mergeSort]; exact hz', out, ep, vals_each eo, he'⟩, rfl, q _ (I.hok.fresh (Nat.le_succ _))⟩
theorem cr_minD (hu : X.A.units + 64 < cLine) (hc : X.calm = true) : CallR X (.builtin "min") (rMinDat X.K) := by
  intro pins s σ H vs us Q I r h
  obtain ⟨a, b, bs, rfl, hs, hd, hal, hdp, q⟩ := h
  obtain ⟨its, rv, hl, hz⟩ := I.list hs
  rw [Vals.ref1 r]
  obtain ⟨as, ra⟩ := Dp.readsAll I _ _ _ (dpAll_of hd) rv
  refine min_list_data (I.ok.hd hc) hl.isList (x := b.2) (xs := bs.map (·.2)) (by simpa using ra) (show AlikeAll (b.2 :: bs.map (·.2)) from hal) (by show X.A.units + 1 + _ < cLine; have : PyData.depthAll (b.2 :: bs.map (·.2)) ≤ 30 := hdp; omega) fun i v h' tk bs' hi rd hk => ?_
  have hi' : its[i]? = some v := by simpa using hi
  obtain ⟨c, hc2, e1⟩ : ∃ c, (b :: bs)[i]? = some c ∧ RelV c.1 v := by
    obtain ⟨x, hx, rx⟩ := vals_back2 rv hi'
    rw [List.getElem?_map] at hx
    cases e : (b :: bs)[i]? with
    | none => rw [e] at hx; cases hx
    | some c => rw [e] at hx; cases hx; exact ⟨c, rfl, rx⟩
  have hm : c ∈ b :: bs := List.mem_of_getElem? hc2
  obtain ⟨as2, r2⟩ := Dp.reads I c.2 c.1 v (hd c hm) e1
  have r3 : Reads h' v c.2 as2 := PyProof.Rows.Reads.keeps hk r2
  have e2 := (Reads.unique r3 _ _ rd).1
  exact ⟨c.1, H, I.kept (t' := tk) hk, e1, q c hm e2⟩
end
end L2

namespace DL
open PySem PySem.Spec PyProof.Rows L2 PySem.W
open Classical
mutual
theorem toP_inj : ∀ (n : Nat) (x y : D), plain n x = true → plain n y = true → toP x = toP y → x = y
  | 0, x, y, h, _, _ => by unfold plain at h; cases h
  | n + 1, x, y, hx, hy, e => by
    cases x <;> first | (unfold plain at hx; cases hx; done) | skip
    all_goals (cases y <;> first | (unfold plain at hy; cases hy; done) | skip)
    all_goals (unfold toP at e)
    all_goals first | rfl | (cases e; rfl) | skip
    all_goals first | (cases e; done) | skip
    · rename_i l m
      have e : toPs l = toPs m := by injection e
      rw [toPs_inj n l m (by simpa [plain] using hx) (by simpa [plain] using hy) e]
    · rename_i l m
      have e : toPs l = toPs m := by injection e
      rw [toPs_inj n l m (by simpa [plain] using hx) (by simpa [plain] using hy) e]
theorem toPs_inj : ∀ (n : Nat) (l m : List D), (∀ x ∈ l, plain n x = true) → (∀ x ∈ m, plain n x = true) → toPs l = toPs m → l = m
  | n, [], [], _, _, _ => rfl
  | n, [], _ :: _, _, _, e => by simp [toPs] at e
  | n, _ :: _, [], _, _, e => by simp [toPs] at e
  | n, x :: l, y :: m, hx, hy, e => by
    simp only [toPs, List.cons.injEq] at e
    rw [toP_inj n x y (hx x (by simp)) (hy y (by simp)) e.1, toPs_inj n l m (fun z q => hx z (by simp [q])) (fun z q => hy z (by simp [q])) e.2]
end
/-- data that may be sorted -/
structure SortOk (l : List D) : Prop where
  pl : ∀ x ∈ l, plain 30 x = true
  al : AllAlike (l.map toP)
  so : Sortable (l.map toP)
  dp : ∀ x ∈ l, (toP x).depth ≤ 30
noncomputable def sortT (l : List D) : List D := l.mergeSort (dataLe false toP)
noncomputable def bSortT (xs : List D) (C : Cells) : Res D := match xs with
  | [d] => (match lstOf C d with | some l => if SortOk l then .ok (.lst (sortT l)) C else .no | none => .no)
  | _ => .no
/-- the first of the least -/
def minT (x : D) (l : List D) : D := l.foldl (fun a y => if dataLt (toP y) (toP a) = true then y else a) x
structure MinOk (l : List D) : Prop where
  pl : ∀ x ∈ l, plain 30 x = true
  al : AlikeAll (l.map toP)
  dp : PyData.depthAll (l.map toP) ≤ 30
noncomputable def bMinT (xs : List D) (C : Cells) : Res D := match xs with
  | [d] => (match lstOf C d with | some (x :: l) => if MinOk (x :: l) then .ok (minT x l) C else .no | _ => .no)
  | _ => .no
theorem minT_mem : ∀ (l : List D) (x : D), minT x l ∈ x :: l
  | [], x => by simp [minT]
  | y :: l, x => by
    have ih := minT_mem l (if dataLt (toP y) (toP x) = true then y else x)
    show minT (if dataLt (toP y) (toP x) = true then y else x) l ∈ _
    rcases List.mem_cons.1 ih with e | m
    · rw [e]; split <;> simp
    · simp [m]
theorem minT_toP : ∀ (l : List D) (x : D), toP (minT x l) = minD (toP x) (l.map toP)
  | [], x => rfl
  | y :: l, x => by
    show toP (minT (if dataLt (toP y) (toP x) = true then y else x) l) = minD (if dataLt (toP y) (toP x) = true then toP y else toP x) (l.map toP)
    rw [minT_toP l]
    split <;> rfl
section
variable {G : Glo} {W : Wd} {C : Cells} {H : Hp}
theorem zip_dp (st : StR G W C H) {l : List D} {vs : List V} (r : RepVs G W l vs) (hp : ∀ x ∈ l, plain 30 x = true) : (vs.zip l).map (·.1) = vs ∧ (vs.zip l).map (·.2) = l ∧ ∀ p ∈ vs.zip l, RepV G W p.2 p.1 ∧ plain 30 p.2 = true := by
  have hl := r.length
  refine ⟨List.map_fst_zip (by omega), List.map_snd_zip (by omega), fun p m => ?_⟩
  obtain ⟨i, hi⟩ := List.getElem?_of_mem m
  rw [List.getElem?_zip_eq_some] at hi
  obtain ⟨u, h1, h2⟩ := r.get hi.2
  rw [hi.1] at h1; cases h1
  exact ⟨h2, hp _ (List.mem_of_getElem? hi.2)⟩
theorem reps_pairs : ∀ {ps : List (V × D)}, (∀ p ∈ ps, RepV G W p.2 p.1) → RepVs G W (ps.map (·.2)) (ps.map (·.1))
  | [], _ => .nil
  | p :: ps, h => .cons (h p (by simp)) (reps_pairs fun q m => h q (by simp [m]))
end
section
variable {G : Glo}
theorem oa_sortT : OpA G (rSortedD G.K) bSortT := fun Wx σ W C H xs vs Q st rx q => by
  unfold bSortT at q
  split at q
  · obtain ⟨v, rfl, r⟩ := rx.one
    split at q
    · rename_i l e
      split at q
      · rename_i ok
        obtain ⟨a, us, rfl, h1, h2⟩ := lstOf_ok st r e
        obtain ⟨z1, z2, z3⟩ := zip_dp st h2 ok.pl
        refine ⟨a, (us.zip l).map fun p => (p.1, toP p.2), rfl, ?_, fun b m => ?_, ?_, ?_, fun b m => ?_, fun p hp => ?_⟩
        · rw [List.map_map]; show SqL G.K H a ((us.zip l).map (·.1)); rw [z1]; exact h1
        · obtain ⟨p, mp, rfl⟩ := List.mem_map.1 m
          exact dp_of st.F 30 _ _ (z3 p mp).2 (z3 p mp).1
        · rw [List.map_map]; show AllAlike ((us.zip l).map (toP ∘ (·.2))); rw [← List.map_map, z2]; exact ok.al
        · rw [List.map_map]; show Sortable ((us.zip l).map (toP ∘ (·.2))); rw [← List.map_map, z2]; exact ok.so
        · obtain ⟨p, mp, rfl⟩ := List.mem_map.1 m
          refine ok.dp p.2 ?_
          rw [← z2]; exact List.mem_map.2 ⟨p, mp, rfl⟩
        · have e1 : (((us.zip l).map fun p => (p.1, toP p.2)).mergeSort (dataLe false fun b => b.2)).map (·.1) = ((us.zip l).mergeSort (dataLe false fun p => toP p.2)).map (·.1) := by
            rw [← List.map_mergeSort (r := dataLe false fun p : V × D => toP p.2) (f := fun p : V × D => (p.1, toP p.2)) (fun _ _ _ _ => rfl), List.map_map]
            rfl
          have e2 : sortT l = ((us.zip l).mergeSort (dataLe false fun p => toP p.2)).map (·.2) := by
            rw [List.map_mergeSort (r := dataLe false fun p : V × D => toP p.2) (s := dataLe false toP) (f := fun p : V × D => p.2) (fun _ _ _ _ => rfl), z2]
            rfl
          rw [e1]
          refine new_lst st ?_ q p hp
          rw [e2]
          exact reps_pairs fun p m => (z3 p (List.mem_mergeSort.1 m)).1
      · exact q.elim
    · exact q.elim
  · exact q.elim
theorem oa_minT : OpA G (rMinDat G.K) bMinT := fun Wx σ W C H xs vs Q st rx q => by
  unfold bMinT at q
  split at q
  · obtain ⟨v, rfl, r⟩ := rx.one
    split at q
    · rename_i x l e
      split at q
      · rename_i ok
        obtain ⟨a, us, rfl, h1, h2⟩ := lstOf_ok st r e
        obtain ⟨u, ur, rfl, ru, rr⟩ := h2.cons_inv
        obtain ⟨z1, z2, z3⟩ := zip_dp st rr fun y m => ok.pl y (by simp [m])
        have m1 : ((ur.zip l).map fun p => (p.1, toP p.2)).map (·.1) = ur := by
          rw [List.map_map]; exact z1
        have m2 : ((ur.zip l).map fun p => (p.1, toP p.2)).map (·.2) = l.map toP := by
          rw [List.map_map]; show (ur.zip l).map (toP ∘ (·.2)) = _; rw [← List.map_map, z2]
        refine ⟨a, (u, toP x), (ur.zip l).map fun p => (p.1, toP p.2), rfl, ?_, fun c m => ?_, ?_, ?_, fun c m hc => ?_⟩
        · rw [List.map_cons, m1]; exact h1
        · rcases List.mem_cons.1 m with rfl | m
          · exact dp_of st.F 30 _ _ (ok.pl x (by simp)) ru
          · obtain ⟨p, mp, rfl⟩ := List.mem_map.1 m
            exact dp_of st.F 30 _ _ (z3 p mp).2 (z3 p mp).1
        · rw [List.map_cons, m2]; exact ok.al
        · rw [List.map_cons, m2]; exact ok.dp
        · rw [m2, ← minT_toP l x] at hc
          have pm := ok.pl _ (minT_mem l x)
          rcases List.mem_cons.1 m with rfl | m
          · have : x = minT x l := toP_inj 30 _ _ (ok.pl x (by simp)) pm hc
            rw [← this] at q
            exact q W u H .refl st ru
          · obtain ⟨p, mp, rfl⟩ := List.mem_map.1 m
            have : p.2 = minT x l := toP_inj 30 _ _ (z3 p mp).2 pm hc
            rw [← this] at q
            exact q W p.1 H .refl st (z3 p mp).1
      · exact q.elim
    · exact q.elim
  · exact q.elim
/-! list(d), d a dict with tuple keys; d.pop(key, x) -/
def bListT (xs : List D) (C : Cells) : Res D := match xs with
  | [.cel n] => (match C.get n with | some (.dt l) => .ok (.lst (l.map fun p => keyT p.1)) C | _ => .no)
  | _ => .no
theorem fr_tups {W : Wd} {C : Cells} {H : Hp} : ∀ {l : List (List Key × D)} {m : List (List Key × V)} {bs : List Addr}, StR G W C H → RepKV G W l m → IsKeys H m bs → ∃ W2, StR G W2 C H ∧ Step W C H W2 C H ∧ RepVs G W2 (l.map fun p => keyT p.1) (bs.map V.ref)
  | _, _, _, st, .nil, .nil => ⟨W, st, .refl, .nil⟩
  | _, _, _, st, .cons (a := p) (b := q) h t, .cons (b := b) k ks => by
    obtain ⟨W2, s2, t2, f2⟩ := fr_tup st k
    obtain ⟨W3, s3, t3, r3⟩ := fr_tups s2 (RepKV.up t2.le t) ks
    refine ⟨W3, s3, t2.trans t3, .cons ?_ r3⟩
    show RepV G W3 (keyT p.1) (.ref b)
    rw [h.1]
    exact .tup (t3.le.F _ _ f2) (keyT_ok _)
theorem oa_listT : OpA G (fun xs H Q => ∃ d kvs, xs = [V.ref d] ∧ Rd H d (.dT kvs) ∧ ∀ p bs, H p = none → IsKeys H kvs bs → Q (.ref p) (upd H p (.lst (bs.map V.ref)))) bListT := fun Wx σ W C H xs vs Q st rx q => by
  unfold bListT at q
  split at q
  · obtain ⟨v, rfl, r⟩ := rx.one
    split at q
    · rename_i n l e
      obtain ⟨a, rfl, ha⟩ := r.cel_
      obtain ⟨b, ho, h1, h2, h3, m, rfl, h4⟩ := st.cells _ _ e
      rw [ha] at h1; cases h1
      refine ⟨a, m, rfl, .inl h3, fun p bs hp hk => ?_⟩
      obtain ⟨W2, s2, t2, r2⟩ := fr_tups st h4 hk
      exact new_lst s2 r2 (Post.step t2 q) p hp
    · exact q.elim
  · exact q.elim
def tyT (C : Cells) (d : D) : Bool := match d with | .cel n => (match C.get n with | some (.dt _) => true | _ => false) | _ => false
theorem tm_dictT : TyM G "dict" tyT := fun W C H x v st r h => by
  cases x with
  | cel n =>
    obtain ⟨a, rfl, ha⟩ := r.cel_
    unfold tyT at h
    dsimp only at h
    split at h
    · rename_i l e
      obtain ⟨b, ho, h1, h2, h3, m, rfl, h4⟩ := st.cells _ _ e
      rw [ha] at h1; cases h1
      exact .inr (.inr (.inl ⟨rfl, .inr ⟨m, h3⟩⟩))
    · cases h
  | _ => cases h
def mPopT (x : D) (xs : List D) (C : Cells) : Res D := match x, xs with
  | .cel n, [.tup ks, d] => (match C.get n, keysOf ks with
    | some (.dt l), some k => (match lookD l k with
      | some y => .ok y (C.set n (.dt (dropD l k)))
      | none => .ok d C)
    | _, _ => .no)
  | _, _ => .no
theorem om_popT : OpM G L2.DX.rPopT mPopT := fun Wx σ W C H x v xs vs Q st rx rxs q => by
  unfold mPopT at q
  split at q
  · rename_i n ks d
    split at q
    · rename_i l k e ek
      obtain ⟨a, rfl, ha⟩ := rx.cel_
      obtain ⟨b, ho, h1, h2, h3, m, rfl, h4⟩ := st.cells _ _ e
      rw [ha] at h1; cases h1
      obtain ⟨u, w, rfl, ru, rw_⟩ := rxs.two
      obtain ⟨c, us, rfl, s, qk⟩ := ru.tup_
      rw [keysOf_ok qk ek] at s
      refine ⟨a, m, k, c, w, rfl, rfl, h3, st.F _ _ s, fun y hy => ?_, fun hn => ?_⟩
      · split at q
        · rename_i y' ey
          obtain ⟨v', e1, r1⟩ := look_some h4 ey
          rw [hy] at e1; cases e1
          obtain ⟨s1, s2⟩ := fr_set (o := .dt (dropD l k)) (ho := .dT (dropK m k)) st e ha ⟨_, rfl, drop_ok k h4⟩
          exact q W y _ s2 s1 r1
        · rename_i en
          rw [look_none h4 en] at hy; cases hy
      · split at q
        · rename_i y' ey
          obtain ⟨v', e1, _⟩ := look_some h4 ey
          rw [hn] at e1; cases e1
        · exact q W w H .refl st rw_
    · exact q.elim
  · exact q.elim
end
end DL

set_option Elab.async false
set_option linter.all false
set_option maxRecDepth 100000
set_option autoImplicit false
set_option maxHeartbeats 2000000
/-! sorted(d.keys()), d with tuple keys -/
namespace L2
open PySem PySem.Spec PyProof.Rows PySem.W PySem.Calls
def keysO (p d : Addr) : HO := .ext fun h => KdlKeysView h p d
theorem keysO_ok {P : Program} {w : World} {H : Hp} {h : Heap} {p d : Addr} (e : h.get? p = some { cls := .type "dict_keys", data := .fields #[.ref d] }) : ObjOk P w H h p (keysO p d) :=
  ⟨⟨_, e, rfl, rfl⟩, ⟨_, e⟩, fun h1 h2 v k => let ⟨o, ho, x⟩ := v; ⟨o, k o ho, x⟩⟩
def rKeysT : V → List V → Hp → VK → Prop := fun x xs H Q => ∃ (a : Addr) (kvs : List (List Key × V)), x = .ref a ∧ xs = [] ∧ H a = some (.dT kvs) ∧ ∀ p, H p = none → Q (.ref p) (upd H p (keysO p a))
section
variable {X : Cx}
theorem mt_keysT : MtR X "dict.keys" rKeysT := by
  intro pins s σ H x xs v us Q I rx rxs h
  obtain ⟨a, kvs, rfl, rfl, ha, q⟩ := h
  cases rx
  cases rxs
  obtain ⟨z, hd, xs', rel, o, es, ep, ho, hx, hdat, _⟩ := dt_of I.hok ha
  refine call_meetsIn PySem.F.slot_dict_keys ⟨o, ho, hx.1⟩ PySem.F.entry_dict_keys (PySem.F.args_dict_keys_1 _) (PySem.meets_dict_keys_raw a hd) ⟨⟨es, ep, o, ho, hx, hdat⟩, ?_⟩
  have hf : H s.heap.objs.size = none := I.hok.fresh (Nat.le_refl _)
  exact ⟨.ref s.heap.objs.size, upd H s.heap.objs.size (keysO s.heap.objs.size a), I.laid (t' := s.toks) (fun b u e => Heap.get?_push_of_some _ e) (Nat.le_refl _) (keysO_ok (Heap.get?_push_size _ rfl)), rfl, q _ hf⟩
end
section
variable {prog : Program} {w : World} {o : Obj} {es : Array DictEntry} {ep : Nat}
theorem kdl_rawV {v d : Addr} (hx : o.ExactDict) (hd : o.data = .dict es ep) :
    KdlSrc prog w "dict_keys" v d es.size (fun i u => ∃ en : DictEntry, es[i]? = some en ∧ u = en.key) (fun h => KdlKeysView h v d ∧ h.get? d = some o) where
  type := fun _ hm => hm.1.typeIs
  there := fun _ hm => ⟨let ⟨_, ho, _⟩ := hm.1; Heap.lt_size ho, Heap.lt_size hm.2⟩
  keep := fun _ _ hm hk => ⟨let ⟨o, ho, x⟩ := hm.1; ⟨o, hk v (.inl rfl) o ho, x⟩, hk d (.inr rfl) _ hm.2⟩
  notList := by decide
  notTuple := by decide
  hint := fun _ _ _ _ hm hq => kdl_hint_keys hm.1.typeIs hq
  iter := fun _ s hh hm => ⟨_, _, (fun _ _ hq => wpAny_pyIter_keys_raw hm.1 ⟨o, hm.2, hx, hd⟩ hq), walks_raw hh _ d (Nat.ne_of_lt (Heap.lt_size hm.2)) hd, ⟨⟨_, Heap.get?_push_size _ rfl, rfl, rfl⟩, Heap.get?_push_of_some _ hm.2⟩⟩
end
section
variable {prog : Program} {w : World} {A : Around} {E : Value → Shared → Prop} {s : Shared} {T : String} {r d : Addr} {n : Nat} {P : Nat → Value → Prop} {OK : Heap → Prop}
/-- as the library's, and the heap has grown -/
theorem collect_grown {R : List Value → Shared → Prop} (K : KdlSrc prog w T r d n P OK) (hh : A.handled = none) (hok : OK s.heap) (hn : n ≤ sizeLine)
    (h : ∀ (h' : Heap) (tk : Nat) (acc : Array Value), (∀ b o, s.heap.get? b = some o → h'.get? b = some o) → s.heap.objs.size < h'.objs.size → ItemsOf P acc n → R acc.toList { s with heap := h', toks := tk }) : wpAny (model prog w) A (collect (.ref r)) R E s := by
  have lt0 := K.there _ hok
  unfold collect; refine wpAny_bind (wpAny_runValue (codeAny_builtin entry_proto_collect' ?_)); rw [Around.under_plainId PySem.F.plain_proto_collect _]
  show wpAny _ A.in1 (newList [] >>= fun l => again (.builtin "list.__iadd__" ⟨[l, .ref r], []⟩)) _ _ s; refine wpAny_bind (wpAny_newObj_type ?_)
  refine wpAny_pure ⟨plainId_quiet PySem.F.plain_list_iadd _, codeAny_builtin entry_list_iadd' ?_⟩; rw [Around.under_plainId PySem.F.plain_list_iadd _]
  have g0 : (s.heap.push { cls := .type "list", data := .seq ([] : List Value).toArray }).get? s.heap.objs.size = some { cls := .type "list", data := .seq #[] } := Heap.get?_push_size _ rfl
  show wpAny _ A.in1 (Builtin.List.listExtendWith (.ref s.heap.objs.size) (.ref r) (.ref s.heap.objs.size)) _ _ _; have key := kdl_extend (A := A) (s := { s with heap := s.heap.push { cls := .type "list", data := .seq ([] : List Value).toArray } })
    (R := fun (q : Result) (s' : Shared) => ∃ (h' : Heap) (tk : Nat) (a2 : Array Value) (c' : Nat), q = .ok (.ret (.ref s.heap.objs.size)) ∧ s' = { s with heap := h', toks := tk } ∧ (∀ b o, s.heap.get? b = some o → h'.get? b = some o) ∧ h'.get? s.heap.objs.size = some { cls := .type "list", dict := none, data := .seq a2 c', slots := #[] } ∧ ItemsOf P a2 n)
    K hh (K.keep _ _ hok fun b _ o e => Heap.get?_push_of_some _ e) s.heap.objs.size (Nat.ne_of_gt lt0.1) (Nat.ne_of_gt lt0.2) (.ref s.heap.objs.size) 0 g0
    (fun h' tk a2 c' hk hS' ha => ⟨h', tk, a2, c', rfl, rfl, fun b o e => hk b o (Nat.ne_of_lt (Heap.lt_size e)) (Heap.get?_push_of_some _ e), hS', ha⟩) hn
  refine wpAny_mono key (fun fin s' x => ?_) fun e s' x => let ⟨_, _, _, _, e', _⟩ := x; nomatch e'
  cases fin with
  | done f =>
    obtain ⟨h', tk, a2, c', e, rfl, hk, hS', ha⟩ := x; cases e
    show wpAny _ A (load s.heap.objs.size >>= _) _ _ _; exact wpAny_bind (wpAny_load hS' (wpAny_pure (h h' tk a2 hk (Heap.lt_size hS') ha)))
  | again c₁ =>
    refine ⟨x.1, codeAny_mono x.2 fun q s₂ y => ?_⟩; obtain ⟨h', tk, a2, c', rfl, rfl, hk, hS', ha⟩ := y
    show wpAny _ A (load s.heap.objs.size >>= _) _ _ _; exact wpAny_bind (wpAny_load hS' (wpAny_pure (h h' tk a2 hk (Heap.lt_size hS') ha)))
end
def keyP (k : List Key) : PyData := .tuple (k.map fun | .inl i => .int i | .inr s => .str s)
def rSortKT (K : PySem.W.Frag) : List V → Hp → VK → Prop := fun vs H Q => ∃ (v d : Addr) (kvs : List (List Key × V)), vs = [V.ref v] ∧ H v = some (keysO v d) ∧ H d = some (.dT kvs) ∧ AllAlike (kvs.map fun q => keyP q.1) ∧ Sortable (kvs.map fun q => keyP q.1) ∧ (∀ q ∈ kvs, (keyP q.1).depth ≤ 30) ∧
  ∀ p bs, H p = none → IsKeys H kvs bs → Q (.ref p) (upd H p (.lst ((((bs.map V.ref).zip (kvs.map fun q => keyP q.1)).mergeSort (dataLe false (·.2))).map (·.1))))
theorem dp_keys {K : PySem.W.Frag} {H : Hp} : ∀ k : List Key, DpAll K H (k.map kV) (k.map fun | .inl i => .int i | .inr s => .str s)
  | [] => .nil
  | .inl i :: k => .cons (.int i) (dp_keys k)
  | .inr s :: k => .cons (.str s) (dp_keys k)
theorem dp_isKeys {K : PySem.W.Frag} {H : Hp} : ∀ {kvs : List (List Key × V)} {bs : List Addr}, IsKeys H kvs bs → ∀ p ∈ (bs.map V.ref).zip (kvs.map fun q => keyP q.1), Dp K H p.1 p.2
  | _, _, .nil, _, m => by cases m
  | _, _, .cons (a := q) (b := b) h t, p, m => by
    rcases List.mem_cons.1 m with rfl | m
    · exact .tup (.of h) (dp_keys q.1)
    · exact dp_isKeys t p m
theorem isKeys_len {H : Hp} {kvs : List (List Key × V)} {bs : List Addr} (h : IsKeys H kvs bs) : kvs.length = bs.length := Paired.length h
section
variable {X : Cx}
theorem cr_sortKT (hc : X.calm = true) (hu : X.A.units + 64 < cLine) : CallR X (.builtin "sorted") (rSortKT X.K) := by
  intro pins s σ H xs us Q I r h
  obtain ⟨v, d, kvs, rfl, hv, ha, hal, hso, hdp, q⟩ := h
  obtain rfl := Vals.ref1 r
  have view : KdlKeysView s.heap v d := (show ObjOk X.prog X.w H s.heap v (keysO v d) from I.hok v _ hv).1
  obtain ⟨z, hd, ks, rel, o, es, ep, ho, hx, hdt, hes, hn⟩ := dt_of I.hok ha
  have l1 : kvs.length = ks.length := Paired.length rel
  have l2 : es.size = ks.length := size_of_entries hes
  have hh : X.A.handled = none := I.ok.hd hc
  have isk := isKeys_of rel
  obtain ⟨bs, hbs⟩ : ∃ bs, bs = ks.map fun x => x.2.1 := ⟨_, rfl⟩
  rw [← hbs] at isk
  have lb := isKeys_len isk
  refine call_function_entry kind_sorted plain_sorted entry_sorted (args_sorted1 _) ?_; unfold Builtin.«sorted»
  refine wpAny_bind (m := checkCount "sorted" 1 1 _) (wpAny_pure (wpAny_bind (collect_grown (A := X.A.in1) (kdl_rawV hx hdt) hh ⟨view, ho⟩ (by omega) fun h' tk acc hk hlt it => ?_)))
  have ea : acc.toList = bs.map Value.ref := by
    rw [hbs, List.map_map]
    have hl : acc.toList.length = ks.length := by rw [Array.length_toList, it.1]; exact l2
    apply List.ext_getElem?
    intro j
    rw [List.getElem?_map]
    cases hj : acc.toList[j]? with
    | none =>
      have h1 := List.getElem?_eq_none_iff.mp hj
      rw [List.getElem?_eq_none (by omega)]
      all_goals rfl
    | some u =>
      obtain ⟨en, hen, hu'⟩ := it.2 j u (by rw [← Array.getElem?_toList]; exact hj)
      have qe := entry_at hes j
      rw [hen] at qe
      cases hb : ks[j]? with
      | none => rw [hb] at qe; exact nomatch (show some en = none from qe)
      | some b =>
        rw [hb] at qe
        have e2 : en = entryOfKey (tupleKind (mixKind X.prog X.w)) b := Option.some.inj qe
        rw [hu', e2]
        all_goals rfl
  have hl : acc.toList.length ≤ sizeLine := by rw [ea, List.length_map]; omega
  refine wpAny_bind (wpAny_newList ?_ hl)
  rw [ea]
  obtain ⟨D, hD⟩ : ∃ D, D = h'.objs.size := ⟨_, rfl⟩
  obtain ⟨h2, hh2⟩ : ∃ h2, h2 = h'.push { cls := .type "list", data := .seq (bs.map Value.ref).toArray } := ⟨_, rfl⟩
  have hob : h2.get? D = some (seqObj "list" (bs.map Value.ref).toArray 0) := by rw [hh2, hD]; exact Heap.get?_push_size _ rfl
  have kb : ∀ b o, s.heap.get? b = some o → h2.get? b = some o := fun b o e => by rw [hh2]; exact Heap.get?_push_of_some _ (hk b o e)
  rw [← hh2, ← hD]
  obtain ⟨ps, hps⟩ : ∃ ps, ps = (bs.map V.ref).zip (kvs.map fun q => keyP q.1) := ⟨_, rfl⟩
  have p1 : ps.map (·.1) = bs.map V.ref := by rw [hps]; exact List.map_fst_zip (by simp; omega)
  have p2 : ps.map (·.2) = kvs.map fun q => keyP q.1 := by rw [hps]; exact List.map_snd_zip (by simp; omega)
  have pl : ps.length = bs.length := by rw [← List.length_map (f := (·.1)), p1, List.length_map]
  have rv : Vals (ps.map (·.1)) (bs.map Value.ref) := by rw [p1]; exact vals_refs _
  have er0 := each_reads I (fun b m => dp_isKeys (K := X.K) isk b (by rw [← hps]; exact m)) rv
  have er : EachIs (fun u (b : V × PyData) => ∃ as, Reads h2 u b.2 as ∧ D ∉ as) (bs.map Value.ref) ps := er0.mono fun u b ⟨as, r⟩ => ⟨as, PyProof.Rows.Reads.keeps kb r, fun m => by
    obtain ⟨o2, ho2⟩ := PyProof.On.reads_mem_get r D m
    have hD2 : s.heap.objs.size < D := by omega
    exact absurd (Heap.lt_size ho2) (Nat.lt_asymm hD2)⟩
  refine wpAny_bind (wpAny_holding (list_sort_data (s := { s with heap := h2, toks := tk }) (R := fun u (b : V × PyData) => RelV b.1 u) (enc := fun b => b.2) hob (each_vals rv) er (by rw [p2]; exact hal) (by rw [p2]; exact hso) (by omega) (fun b m => ?_) fun out hlen eo => ?_))
  · have : b.2 ∈ ps.map (·.2) := List.mem_map.2 ⟨b, m, rfl⟩
    rw [p2] at this
    obtain ⟨q', mq, e⟩ := List.mem_map.1 this
    have dp := hdp q' mq
    rw [e] at dp
    show X.A.units + 1 + 1 + b.2.depth < cLine
    omega
  · refine wpAny_pure ⟨_, rfl, ?_⟩
    obtain ⟨eF, heF⟩ := PyProof.Rows.sortedHeap_at (vs := bs.map Value.ref) (out := out.toArray) hob
    have hDs : D < h2.objs.size := Heap.lt_size hob
    refine ⟨.ref D, upd H D (.lst ((ps.mergeSort (dataLe false fun b => b.2)).map (·.1))), I.laid (t' := tk) (fun b o e => ?_) (by omega) ⟨?_, out, eF, vals_each eo, ?_⟩, rfl, ?_⟩
    · have hD2 : s.heap.objs.size < D := by omega
      exact (PyProof.Rows.sortedHeap_old (Nat.ne_of_lt (Nat.lt_trans (Heap.lt_size e) hD2)) (Heap.lt_size (kb b o e))).trans (kb b o e)
    · rw [List.length_map, List.length_mergeSort]; omega
    · exact heF
    · rw [hps]
      exact q D bs (I.hok.fresh (by omega)) isk
end
end L2

namespace DL
open PySem PySem.Spec PyProof.Rows L2 PySem.W
open Classical
/-- sorted(d.keys()) -/
noncomputable def bSortKT (d : D) (C : Cells) : Res D := match d with
  | .cel n => (match C.get n with | some (.dt l) => if SortOk (l.map fun p => keyT p.1) then .ok (.lst (sortT (l.map fun p => keyT p.1))) C else .no | _ => .no)
  | _ => .no
noncomputable def eSortKT (f : EF) : EF := fun s C => (f s C).bind bSortKT
theorem toP_keyT (k : List Key) : toP (keyT k) = keyP k := by
  unfold keyT keyP toP
  congr 1
  induction k with
  | nil => rfl
  | cons a k ih => cases a <;> simp [toPs, keyD, ih, toP]
section
variable {X : Cx} {G : Glo} {Wx : WX} {e : Expr} {f : EF} {p apos cpos pos : Pos}
theorem de_sortKT (hk : X.K = G.K) (hc : X.calm = true) (hu : X.A.units + 64 < cLine) (hg : Gl X "sorted") (hm : X.mg "sorted" = none) (he : DE X G Wx e f)
    (hbase : attributeBase e "keys" X.env (eval e X.env) = eval e X.env := by rfl) (hline : (apos.endLine == cpos.line) = true := by rfl)
    (hst : starEach [.Call (.Attribute e "keys" apos) [] [] cpos] X.env = (false, eval (.Call (.Attribute e "keys" apos) [] [] cpos) X.env) :: starEach [] X.env := by rfl) (hpl : (backTo pos (starEach [] X.env)).any (·.1) = false := by rfl) :
    DE X G Wx (.Call (.Name "sorted" p) [.Call (.Attribute e "keys" apos) [] [] cpos] [] pos) (eSortKT f) :=
  ⟨PE.weak (pe_callB (cr_sortKT hc hu) hg hm (by decide +kernel) (pa_cons (pe_bm0 PySem.F.plainAttrs_dict PySem.F.slot_dict_keys PySem.F.type_dict_keys mt_keysT he.pe hbase hline) pa_nil hst) (by decide) (by decide) hst hpl) fun σ H Q ⟨W, sl, C, rs, st, q⟩ => ⟨W, sl, C, rs, st, q.bind fun y C1 W1 v H1 _ t st1 rx q1 => by
    unfold bSortKT at q1
    split at q1
    rotate_left
    · exact q1.elim
    rename_i n
    split at q1
    · rename_i l hn
      split at q1
      · rename_i ok
        obtain ⟨a, rfl, ha⟩ := rx.cel_
        obtain ⟨b, ho, h1, h2, h3, m, rfl, h4⟩ := st1.cells _ _ hn
        rw [ha] at h1; cases h1
        refine ⟨.inr (.inr (.inl ⟨rfl, .inr ⟨m, h3⟩⟩)), a, m, rfl, rfl, h3, fun v hv => ?_⟩
        obtain ⟨st2, t2, n2⟩ := fr_out (o := keysO v a) st1 hv
        have hne : a ≠ v := fun e => by rw [e, hv] at h3; cases h3
        have e1 : (l.map fun p => keyT p.1).map toP = m.map fun q => keyP q.1 := by
          rw [List.map_map]
          clear q1 ok h3 hn
          induction h4 with
          | nil => rfl
          | cons h t ih => rw [List.map_cons, List.map_cons, ih]; simp only [Function.comp]; rw [toP_keyT, h.1]
        refine ⟨v, a, m, rfl, upd_same, (upd_ne hne).trans h3, by rw [← e1]; exact ok.al, by rw [← e1]; exact ok.so, fun q' mq => ?_, fun p bs hp hk' => ?_⟩
        · have : keyP q'.1 ∈ m.map fun q => keyP q.1 := List.mem_map.2 ⟨q', mq, rfl⟩
          rw [← e1] at this
          obtain ⟨d, md, ed⟩ := List.mem_map.1 this
          rw [← ed]; exact ok.dp d md
        · obtain ⟨W2, s2, t3, r2⟩ := fr_tups st2 h4 hk'
          obtain ⟨z1, z2, z3⟩ := zip_dp s2 r2 ok.pl
          have e2 : (bs.map V.ref).zip (m.map fun q => keyP q.1) = ((bs.map V.ref).zip (l.map fun p => keyT p.1)).map fun p => (p.1, toP p.2) := by
            rw [← e1, List.zip_map_right]; rfl
          have e3 : ((((bs.map V.ref).zip (l.map fun p => keyT p.1)).map fun p => (p.1, toP p.2)).mergeSort (dataLe false fun b => b.2)).map (·.1) = (((bs.map V.ref).zip (l.map fun p => keyT p.1)).mergeSort (dataLe false fun p => toP p.2)).map (·.1) := by
            rw [← List.map_mergeSort (r := dataLe false fun p : V × D => toP p.2) (f := fun p : V × D => (p.1, toP p.2)) (fun _ _ _ _ => rfl), List.map_map]
            rfl
          have e4 : sortT (l.map fun p => keyT p.1) = (((bs.map V.ref).zip (l.map fun p => keyT p.1)).mergeSort (dataLe false fun p => toP p.2)).map (·.2) := by
            rw [List.map_mergeSort (r := dataLe false fun p : V × D => toP p.2) (s := dataLe false toP) (f := fun p : V × D => p.2) (fun _ _ _ _ => rfl), z2]
            rfl
          rw [e2, e3]
          refine new_lst s2 ?_ (Post.step (t2.trans t3) q1) p hp
          rw [e4]
          exact reps_pairs fun p m => (z3 p (List.mem_mergeSort.1 m)).1
      · exact q1.elim
    · exact q1.elim⟩⟩
end
end DL

set_option Elab.async false
set_option linter.all false
set_option maxRecDepth 100000
set_option autoImplicit false
set_option maxHeartbeats 2000000
/-! x in c, x any data; a tuple that is unlike all by its first part -/
namespace PySem.SeqAt
open AutoSeq1 (wpAny_loadPart')
open MeetsSeq MeetsSeq2 MeetsSeq3 SeqRoads2
theorem tuple_headAt (l b : Addr) (items items2 : Array Value) (n n2 : Nat) (dd dd2 : Option Addr) (sl sl2 : Array (Option Value)) (h01 : 0 < items.size) (h02 : 0 < items2.size) : Meets (Builtin.«tuple.__eq__» ⟨[.ref l, .ref b], []⟩)
      (fun A R s => s.heap.get? l = some { cls := .type "tuple", dict := dd, data := .seq items n, slots := sl } ∧ s.heap.get? b = some { cls := .type "tuple", dict := dd2, data := .seq items2 n2, slots := sl2 } ∧ EqAt A.in1 s items[0] items2[0] false ∧ R (.ok (.ret (.bool false))) s) :=
  .of_wp fun prog w A R s h => by
    obtain ⟨hp, g, d, tk, os⟩ := s; obtain ⟨hl, hb, he, h⟩ := h
    have f2 := AutoSeq1.sub_tuple_tuple
    have hZ : (items.toList.zip items2.toList).length = min items.size items2.size := by simp
    wp_walk using wpAny_loadPart' hl, wpAny_loadPart' hb, wpAny_forIn_list _ (fun rest b s' => b.1 = none ∧ s' = ⟨hp, g, d, tk, os⟩ ∧ rest = (items.toList.zip items2.toList)) _
    case turn =>
      rintro ⟨y, x⟩ rest b s' ⟨hb', rfl, hz⟩
      have hlt : 0 < (items.toList.zip items2.toList).length := by omega
      have e0 : (items.toList.zip items2.toList)[0]? = some (y, x) := by rw [← hz]; rfl
      rw [List.getElem?_zip_eq_some] at e0
      have hy : y = items[0] := by have := e0.1; simp [h01] at this; exact this.symm
      have hx : x = items2[0] := by have := e0.2; simp [h02] at this; exact this.symm
      subst hy hx
      refine wpAny_bind (he prog w _ _ ?_)
      wp_walk
      exact ⟨_, rfl, h⟩
    case fin =>
      rintro ⟨b1, b2⟩ s' ⟨hb', rfl, hz⟩
      have h0 : 0 < (items.toList.zip items2.toList).length := by omega
      rw [← hz] at h0
      exact absurd h0 (Nat.lt_irrefl _)
    case h => exact ⟨rfl, rfl, rfl⟩
theorem RcAt.tuple_head {A : Around} {s : Shared} {l b : Addr} {items items2 : Array Value} (hl : s.heap.IsTuple l items) (hb : s.heap.IsTuple b items2) (hu : A.units < cLine) (h01 : 0 < items.size) (h02 : 0 < items2.size) (he : EqAt A.in1 s items[0] items2[0] false) : RcAt A s (.ref l) (.ref b) false := fun prog w E Q h => by
  obtain ⟨⟨c1, d1, a1, s1⟩, ho, hc, n, hd⟩ := id hl; obtain ⟨⟨c2, d2, a2, s2⟩, ho2, hc2, n2, hd2⟩ := id hb
  simp only at hc hd hc2 hd2; subst hc hd hc2 hd2
  exact richCompare_meets_room (op := .Eq) ⟨_, ho, rfl⟩ ⟨_, ho2, rfl⟩ F.slot_tuple_eq F.entry_tuple_eq (F.args_tuple_eq_2 _ _) (tuple_headAt l b items items2 n n2 d1 d2 s1 s2 h01 h02) ⟨ho, ho2, he, show Value.bool false ≠ Value.notImplemented ∧ Q (.bool false) s from ⟨(fun x => nomatch x), h⟩⟩ hu
end PySem.SeqAt
namespace L2
open PySem PySem.Spec PyProof.Rows
def rInV (K : PySem.W.Frag) (neg : Bool) : R2 := fun x y H Q =>
  (∃ d ds, Dp K H x d ∧ (Dp K H y (.list ds) ∨ Dp K H y (.tuple ds)) ∧ PyData.canLay0 d = true ∧ PyData.canLayAll0 ds = true ∧ d.depth ≤ 60 ∧ Q (.bl (if neg then !ds.any fun z => PyData.eqv z d else ds.any fun z => PyData.eqv z d)) H) ∨
  (∃ a v vs b xs, x = .ref a ∧ SqT K H a (v :: vs) ∧ flatV v = true ∧ y = .ref b ∧ SqL K H b xs ∧ (∀ z ∈ xs, ∃ p u us, z = .ref p ∧ SqT K H p (u :: us) ∧ flatV u = true ∧ eqV u v = false) ∧ Q (.bl neg) H)
theorem eqV_refl {v : V} (h : flatV v = true) : eqV v v = true := by
  cases v with
  | non => rfl
  | bl b => exact beq_self_eq_true b
  | int i => exact beq_self_eq_true i
  | str z => exact beq_self_eq_true z
  | _ => exact absurd (show false = true from h) Bool.false_ne_true
theorem flat_inj {u v : V} {b : Value} (fu : flatV u = true) (fv : flatV v = true) (h1 : RelV u b) (h2 : RelV v b) : u = v := by
  cases u with
  | non => cases h1; cases v with
    | non => rfl
    | bl _ => cases h2
    | int _ => obtain ⟨_, e⟩ := h2; cases e
    | str _ => obtain ⟨_, e⟩ := h2; cases e
    | _ => exact absurd (show false = true from fv) Bool.false_ne_true
  | bl x => cases h1; cases v with
    | non => cases h2
    | bl _ => cases h2; rfl
    | int _ => obtain ⟨_, e⟩ := h2; cases e
    | str _ => obtain ⟨_, e⟩ := h2; cases e
    | _ => exact absurd (show false = true from fv) Bool.false_ne_true
  | int x => obtain ⟨t, rfl⟩ := h1; cases v with
    | non => cases h2
    | bl _ => cases h2
    | int _ => obtain ⟨_, e⟩ := h2; cases e; rfl
    | str _ => obtain ⟨_, e⟩ := h2; cases e
    | _ => exact absurd (show false = true from fv) Bool.false_ne_true
  | str x => obtain ⟨t, rfl⟩ := h1; cases v with
    | non => cases h2
    | bl _ => cases h2
    | int _ => obtain ⟨_, e⟩ := h2; cases e
    | str _ => obtain ⟨_, e⟩ := h2; cases e; rfl
    | _ => exact absurd (show false = true from fv) Bool.false_ne_true
  | _ => exact absurd (show false = true from fu) Bool.false_ne_true
section
variable {X : Cx}
theorem heads_eqAt {A : Around} {pins : List (Addr × Obj)} {σ : St} {H : Hp} {s : Shared} (I : Inv X pins σ H s) (hu : A.units < cLine) {a : Addr} {v : V} {vs : List V} (ha : SqT X.K H a (v :: vs)) (hv : flatV v = true) : ∀ {xs : List V} {its : List Value}, Vals xs its → (∀ z ∈ xs, ∃ p u us, z = .ref p ∧ SqT X.K H p (u :: us) ∧ flatV u = true ∧ eqV u v = false) →
    ∀ u ∈ its, SeqAt.EqAt A s u (.ref a) false
  | _, _, .nil, _ => fun u hu' => by cases hu'
  | z :: xs, _ :: its, .cons r t, h => fun u' hu' => by
    rcases List.mem_cons.mp hu' with e | hu'
    · subst e
      obtain ⟨p, u, us, rfl, hp, fu, ne⟩ := h z (List.mem_cons_self ..)
      cases r
      obtain ⟨i1, r1, t1, _⟩ := I.tuple hp
      obtain ⟨i2, r2, t2, _⟩ := I.tuple ha
      cases r1 with
      | cons q1 w1 =>
        cases r2 with
        | cons q2 w2 =>
          have hne : p ≠ a := fun e => by
            subst e
            obtain ⟨o1, g1, _, n1, d1⟩ := t1
            obtain ⟨o2, g2, _, n2, d2⟩ := t2
            rw [g1] at g2; cases g2
            rw [d1] at d2
            injection d2 with d2 _
            have := congrArg Array.toList d2
            simp only [List.toArray_cons, List.cons.injEq, Array.toList_append] at this
            have e0 := flat_inj fu hv q1 (by
              have z := congrArg (·[0]?) d2
              simp only [List.getElem?_toArray, List.getElem?_cons_zero, Option.some.injEq] at z
              rw [z]; exact q2)
            rw [e0, eqV_refl hv] at ne
            cases ne
          have q := eqAt_V (A := A.in1) (s := s) q1 q2 fu hv
          rw [ne] at q
          exact .of_refs hne (.tuple_head (show s.heap.IsTuple p _ from t1) (show s.heap.IsTuple a _ from t2) hu (by show 0 < (_ :: _ : List Value).toArray.size; simp) (by show 0 < (_ :: _ : List Value).toArray.size; simp) q)
    · exact heads_eqAt I hu ha hv t (fun z hz => h z (List.mem_cons_of_mem _ hz)) u' hu'
theorem any_false {its : List Value} : (its.toArray.any fun _ => false) = false := by simp
theorem in_room {K : PySem.W.Frag} {A : Around} {xs : List PyData} {d : PyData} (hu : A.units + 64 < cLine) (hd : d.depth ≤ 60) : A.units + 1 + min (PyData.depthAll xs) d.depth < cLine := by
  have := Nat.min_le_right (PyData.depthAll xs) d.depth
  omega
theorem op_inV (hu : X.A.units + 64 < cLine) : OpR X (compareOp .In) (rInV X.K false) := by
  intro pins s σ H x y v u Q I rx ry h
  rcases h with ⟨d, ds, hd, he, sd, se, hz, q⟩ | ⟨a, w, ws, b, xs, rfl, ha, hw, rfl, hb, hn, q⟩
  · obtain ⟨as, r1⟩ := Dp.reads I d x v hd rx
    rcases he with he | he
    · obtain ⟨bs, r2⟩ := Dp.reads I (.list ds) y u he ry
      exact SeqAt.in_list_reads r2 r1 se sd (in_room (K := X.K) hu hz) ⟨.bl _, H, I, rfl, q⟩
    · obtain ⟨bs, r2⟩ := Dp.reads I (.tuple ds) y u he ry
      exact SeqAt.in_tuple_reads r2 r1 se sd (in_room (K := X.K) hu hz) ⟨.bl _, H, I, rfl, q⟩
  · cases rx; cases ry
    obtain ⟨its, rv, hl, _⟩ := I.list hb
    refine SeqAt.in_listAt (fun _ => false) hl.isList (fun z hz => heads_eqAt I (by show X.A.units + 1 < cLine; omega) ha hw rv hn z (by simpa using hz)) ⟨.bl false, H, I, ?_, q⟩
    rw [any_false]; rfl
theorem op_ninV (hu : X.A.units + 64 < cLine) : OpR X (compareOp .NotIn) (rInV X.K true) := by
  intro pins s σ H x y v u Q I rx ry h
  rcases h with ⟨d, ds, hd, he, sd, se, hz, q⟩ | ⟨a, w, ws, b, xs, rfl, ha, hw, rfl, hb, hn, q⟩
  · obtain ⟨as, r1⟩ := Dp.reads I d x v hd rx
    rcases he with he | he
    · obtain ⟨bs, r2⟩ := Dp.reads I (.list ds) y u he ry
      exact SeqAt.notIn_list_reads r2 r1 se sd (in_room (K := X.K) hu hz) ⟨.bl _, H, I, rfl, q⟩
    · obtain ⟨bs, r2⟩ := Dp.reads I (.tuple ds) y u he ry
      exact SeqAt.notIn_tuple_reads r2 r1 se sd (in_room (K := X.K) hu hz) ⟨.bl _, H, I, rfl, q⟩
  · cases rx; cases ry
    obtain ⟨its, rv, hl, _⟩ := I.list hb
    refine SeqAt.notIn_listAt (fun _ => false) hl.isList (fun z hz => heads_eqAt I (by show X.A.units + 1 < cLine; omega) ha hw rv hn z (by simpa using hz)) ⟨.bl true, H, I, ?_, q⟩
    rw [any_false]; rfl
end
end L2
namespace DL
open PySem PySem.Spec PyProof.Rows L2
/-- the first part of a tuple, where it is flat -/
def hdF : D → Option D
  | .tup (a :: _) => if flatD a = true then some a else none
  | _ => none
def unlikeHd (x y : D) : Bool := match hdF x, hdF y with
  | some a, some b => !eqF b a
  | _, _ => false
/-- x in c: all data; or c's parts tuples that are unlike x by their first parts -/
def dInV (neg : Bool) (x y : D) (C : Cells) : Res D := match seqOf C y with
  | some l => if plain 30 (vwn 30 C x) = true ∧ (l.map (vwn 30 C)).all (plain 30) = true then .ok (.bl (if neg then !(l.map (vwn 30 C)).any fun z => eqD z (vwn 30 C x) else (l.map (vwn 30 C)).any fun z => eqD z (vwn 30 C x))) C
    else if (lstOf C y).isSome = true ∧ l.all (unlikeHd x) = true ∧ (hdF x).isSome = true then .ok (.bl neg) C else .no
  | none => .no
section
variable {G : Glo} {W : Wd} {C : Cells} {H : Hp}
theorem hdF_ok (st : StR G W C H) {x a : D} {v : V} (r : RepV G W x v) (h : hdF x = some a) : ∃ p u us, v = .ref p ∧ SqT G.K H p (u :: us) ∧ RepV G W a u ∧ flatD a = true := by
  unfold hdF at h
  split at h
  · split at h
    · rename_i hf
      cases h
      obtain ⟨p, vs, rfl, hp, rr⟩ := r.tup_
      obtain ⟨u, us, rfl, r1, _⟩ := rr.cons_inv
      exact ⟨p, u, us, rfl, .of (st.F _ _ hp), r1, hf⟩
    · cases h
  · cases h
theorem reps_dp (st : StR G W C H) : ∀ {l : List D} {vs : List V}, RepVs G W l vs → (∀ x ∈ l, plain 30 (vwn 30 C x) = true) → DpAll G.K H vs ((l.map (vwn 30 C)).map toP)
  | [], _, r, _ => by rw [r.nil_inv]; exact .nil
  | d :: l, _, r, h => by
    obtain ⟨v, vr, rfl, h1, h2⟩ := r.cons_inv
    exact .cons (dp_vwn st _ _ _ _ h1 (h d (by simp))) (reps_dp st h2 fun x m => h x (by simp [m]))
theorem toPs_map (l : List D) : toPs l = l.map toP := by
  induction l with
  | nil => rfl
  | cons a l ih => rw [toPs, ih]; rfl
theorem o2_inV {neg : Bool} : Op2 G (rInV G.K neg) (dInV neg) := fun Wx σ W C H x y v u Q st rx ry q => by
  unfold dInV at q
  split at q
  · rename_i l e
    split at q
    · rename_i h
      obtain ⟨hx, hl⟩ := h
      rw [List.all_map, List.all_eq_true] at hl
      obtain ⟨a, vs, rfl, h1, h2⟩ := seqOf_ok st ry e
      have da := reps_dp st h2 fun z m => hl z m
      have cl := canLays_toP 30 (l.map (vwn 30 C)) (fun z m => by obtain ⟨w, mw, rfl⟩ := List.mem_map.1 m; exact hl w mw)
      rw [toPs_map] at cl
      have cx := canLay_toP 30 _ hx
      refine .inl ⟨toP (vwn 30 C x), (l.map (vwn 30 C)).map toP, dp_vwn st _ _ _ _ rx hx, ?_, cx.1, cl.1, by omega, ?_⟩
      · rcases h1 with h1 | h1
        · exact .inl (.lst h1 da)
        · exact .inr (.tup h1 da)
      · have ea : (((l.map (vwn 30 C)).map toP).any fun z => PyData.eqv z (toP (vwn 30 C x))) = (l.map (vwn 30 C)).any fun z => eqD z (vwn 30 C x) := by
          rw [List.any_map, Bool.eq_iff_iff, List.any_eq_true, List.any_eq_true]
          constructor
          · rintro ⟨z, m, hz⟩
            obtain ⟨w, mw, rfl⟩ := List.mem_map.1 m
            exact ⟨_, m, by rw [← eqv_toP 30 _ _ (hl w mw) hx]; exact hz⟩
          · rintro ⟨z, m, hz⟩
            obtain ⟨w, mw, rfl⟩ := List.mem_map.1 m
            exact ⟨_, m, by simp only [Function.comp]; rw [eqv_toP 30 _ _ (hl w mw) hx]; exact hz⟩
        rw [ea]
        exact q W _ H .refl st .bl
    · split at q
      · rename_i h
        obtain ⟨hl, hu, hh⟩ := h
        obtain ⟨a, ha⟩ := Option.isSome_iff_exists.1 hh
        obtain ⟨p, w, ws, rfl, hp, rw_, fa⟩ := hdF_ok st rx ha
        obtain ⟨l', el⟩ := Option.isSome_iff_exists.1 hl
        have e2 : l' = l := by
          have : seqOf C y = lstOf C y := by
            cases y <;> first | rfl | (simp [lstOf] at el)
          rw [this, el] at e; exact Option.some.inj e
        subst e2
        obtain ⟨b, vs, rfl, hb, h2⟩ := lstOf_ok st ry el
        refine .inr ⟨p, w, ws, b, vs, rfl, hp, flat_ok rw_ fa, rfl, hb, fun z mz => ?_, q W _ H .refl st .bl⟩
        obtain ⟨i, hi⟩ := List.getElem?_of_mem mz
        obtain ⟨d, hd, rd⟩ := h2.get' hi
        have hd2 := List.all_eq_true.1 hu d (List.mem_of_getElem? hd)
        unfold unlikeHd at hd2
        rw [ha] at hd2
        cases hb2 : hdF d with
        | none => rw [hb2] at hd2; cases hd2
        | some c =>
          rw [hb2] at hd2
          obtain ⟨p2, u2, us2, rfl, hp2, ru2, fc⟩ := hdF_ok st rd hb2
          refine ⟨p2, u2, us2, rfl, hp2, flat_ok ru2 fc, ?_⟩
          rw [eqF_ok ru2 rw_ fc fa]
          simpa using hd2
      · exact q.elim
  · exact q.elim
end
end DL

set_option Elab.async false
set_option linter.all false
set_option maxRecDepth 100000
set_option autoImplicit false
set_option maxHeartbeats 2000000
/-! for .. in d, d.values(), d.items(), d with tuple keys; d.setdefault(key, x), d.pop(key) of such -/
namespace DL
open PySem PySem.Spec PyProof.Rows L2
open Classical
section
variable {X : Cx} {G : Glo} {Wx : WX} {fo : EF} {pos : Pos}
/-- the loop, its iterator at hand -/
theorem for_body {t : TG} {gf : GF} {g : SF} {tch : List Nat} (go : GOk G t gf tch) {σ : L2.St} {sl : Sl} {J : It} {W1 : Wd} {C1 : Cells} {H1 : Hp} {ds : List D} {D : Ends} (rs : RepS G W1 sl σ) (st1 : StR G W1 C1 H1) (wk : Wlk G J W1 C1 H1 ds) (q : SPost G Wx W1 C1 H1 (forF gf g ds sl C1) D) :
    tFor (fun _ _ R => R J H1) t (tSt G Wx g) D σ H1 := by
  refine ⟨fun i m σ H => i ≤ ds.length ∧ m = ds.length - i ∧ ∃ W sl C, Step W1 C1 H1 W C H ∧ RepS G W sl σ ∧ StR G W C H ∧ SPost G Wx W C H (forF gf g (ds.drop i) sl C) D, ⟨ds.length, Nat.zero_le _, rfl, W1, sl, C1, .refl, rs, st1, by rw [List.drop_zero]; exact q⟩, ?_⟩
  rintro i m σ H ⟨hi, rfl, W, sl, C, t, rs, st, q⟩
  by_cases hlt : i < ds.length
  · have hd : ds[i]? = some ds[i] := List.getElem?_eq_getElem hlt
    have hdr : ds.drop i = ds[i] :: ds.drop (i + 1) := List.drop_eq_getElem_cons hlt
    obtain ⟨go_, y_⟩ := wk.item i _ hd W C H t st
    refine .inr ⟨go_, fun σ H => ∃ W sl C, Step W1 C1 H1 W C H ∧ RepS G W sl σ ∧ StR G W C H ∧ SPost G Wx W C H (forF gf g (ds.drop (i + 1)) sl C) D, fun σ' H' n => ⟨_, by omega, hlt, rfl, n⟩, fun x H' y => ?_⟩
    obtain ⟨W2, t2, st2, r2⟩ := y_ x H' y
    rw [hdr] at q
    unfold forF at q
    split at q
    · exact q.elim
    · rename_i s' e'
      refine go _ x sl s' σ W2 C H' _ st2 r2 (rs.up t2.le) e' fun σ' rs' _ => ⟨W2, s', C, rs', st2, ?_⟩
      have q := SPost.step t2 q
      cases eb : g s' C with
      | nxt s3 C3 => rw [eb] at q; exact fun W3 σ3 H3 t3 st3 rs3 => ⟨W3, s3, C3, (t.trans t2).trans t3, rs3, st3, SPost.step t3 q⟩
      | cnt s3 C3 => rw [eb] at q; exact fun W3 σ3 H3 t3 st3 rs3 => ⟨W3, s3, C3, (t.trans t2).trans t3, rs3, st3, SPost.step t3 q⟩
      | brk s3 C3 => rw [eb] at q; exact q
      | ret d C3 => rw [eb] at q; exact q
      | err c s3 C3 => rw [eb] at q; exact q
      | no => rw [eb] at q; exact q
  · have ei : i = ds.length := by omega
    subst ei
    rw [List.drop_length] at q
    exact .inl ⟨wk.stop W C H t st, q W σ H .refl st rs⟩
/-- a loop over a dict with tuple keys, the dict out of sight meanwhile -/
noncomputable def sForT (k : Wk) (fo : EF) (tg : GF) (b : SF) : SF := fun s C => match fo s C with
  | .ok (.cel n) _ => (match C.get n with
    | some (.dt l) => (match fo s (C.del n) with
      | .ok (.cel m) C1 => if m = n then (match forF tg b (k.ds l) s C1 with
        | .nxt s2 C2 => .nxt s2 (C2.put n (.dt l))
        | .ret d C2 => .ret d (C2.put n (.dt l))
        | _ => .no) else .no
      | _ => .no)
    | _ => .no)
  | _ => .no
theorem forT_use (k : Wk) {t : TG} {gf : GF} {g : SF} {tch : List Nat} (go : GOk G t gf tch) {σ : L2.St} {H : Hp} {D : Ends} {W : Wd} {sl : Sl} {C : Cells} (rs : RepS G W sl σ) (st : StR G W C H)
    (q : SPost G Wx W C H (sForT k fo gf g sl C) D) : tLock (tFor (k.wi (tD G Wx fo)) t (tSt G Wx g)) D σ H := by
  unfold sForT at q
  split at q
  rotate_left
  · exact q.elim
  rename_i n C0 e0
  split at q
  rotate_left
  · exact q.elim
  rename_i l hn
  split at q
  rotate_left
  · exact q.elim
  rename_i m C1 e1
  split at q
  rotate_left
  · exact q.elim
  rename_i hm
  subst hm
  obtain ⟨a, ho, h1, h2, h3, kvs, rfl, h4⟩ := st.cells m _ hn
  refine ⟨a, _, h3, trivial, fun od => ?_⟩
  obtain ⟨st1, nO⟩ := lk_in (od := od) st hn h1 h3
  have core : ∀ (W1 : Wd) (v : V) (H1 : Hp), Step W (C.del m) (upd H a (.frz od (.dT kvs))) W1 C1 H1 → StR G W1 C1 H1 → RepV G W1 (.cel m) v → ∃ b o kvs', v = .ref b ∧ H1 b = some (.frz o (.dT kvs')) ∧
      tFor (fun _ _ R => R (k.it b o kvs') H1) t (tSt G Wx g) ⟨fun σ' H' => H' a = some (.frz od (.dT kvs)) ∧ D.nx σ' (upd H' a (.dT kvs)), fun v H' => H' a = some (.frz od (.dT kvs)) ∧ D.rt v (upd H' a (.dT kvs)), fun σ' H' => H' a = some (.frz od (.dT kvs)) ∧ D.bk σ' (upd H' a (.dT kvs)), fun σ' H' => H' a = some (.frz od (.dT kvs)) ∧ D.ct σ' (upd H' a (.dT kvs))⟩ σ H1 := by
    intro W1 v H1 t1 st1' rr
    obtain ⟨b, rfl, hb⟩ := rr.cel_
    rw [t1.le.cm m a h1] at hb; cases hb
    have pf : Pla (HO.frz od (.dT kvs)) := ⟨fun _ z => (nomatch z), fun _ z => (nomatch z), fun _ z => (nomatch z)⟩
    obtain ⟨hf, nO1⟩ := t1.fr a _ upd_same pf nO
    refine ⟨a, od, kvs, rfl, hf, for_body go (rs.up t1.le) st1' (wlk_dT k hf nO1 (RepKV.up t1.le h4)) ?_⟩
    cases er : forF gf g (k.ds l) sl C1 with
    | nxt s2 C2 =>
      rw [er] at q
      intro W3 σ3 H3 t3 st3 rs3
      obtain ⟨z1, z2, z3⟩ := lk_out st hn h1 h3 (t1.trans t3) st3
      exact ⟨z1, q W3 σ3 _ z3 z2 rs3⟩
    | ret d C2 =>
      rw [er] at q
      intro W3 v3 H3 t3 st3 r3
      obtain ⟨z1, z2, z3⟩ := lk_out st hn h1 h3 (t1.trans t3) st3
      exact ⟨z1, q W3 v3 _ z3 z2 r3⟩
    | brk s2 C2 => rw [er] at q; exact q.elim
    | cnt s2 C2 => rw [er] at q; exact q.elim
    | err c s2 C2 => rw [er] at q; exact q.elim
    | no => rw [er] at q; exact q.elim
  have q0 : tD G Wx fo σ (upd H a (.frz od (.dT kvs))) fun v H1 => ∃ b o kvs', v = .ref b ∧ H1 b = some (.frz o (.dT kvs')) ∧ tFor (fun _ _ R => R (k.it b o kvs') H1) t (tSt G Wx g) ⟨fun σ' H' => H' a = some (.frz od (.dT kvs)) ∧ D.nx σ' (upd H' a (.dT kvs)), fun v H' => H' a = some (.frz od (.dT kvs)) ∧ D.rt v (upd H' a (.dT kvs)), fun σ' H' => H' a = some (.frz od (.dT kvs)) ∧ D.bk σ' (upd H' a (.dT kvs)), fun σ' H' => H' a = some (.frz od (.dT kvs)) ∧ D.ct σ' (upd H' a (.dT kvs))⟩ σ H1 :=
    ⟨W, sl, C.del m, rs, st1, by rw [e1]; exact core⟩
  cases k <;> exact q0
theorem ds_forT (k : Wk) {tg iter : Expr} {body : List Stmt} {t : TG} {gf : GF} {g : SF} {tch : List Nat} (hp : PassesOwn (model X.prog X.w) X.A X.env X.xe) (hc : X.calm = true) (hi : PI X tg iter (k.wi (tD G Wx fo))) (hg : PG X tg t) (go : GOk G t gf tch) (hb : DSs X G Wx body g)
    (hs : ∀ x, foldedSetIterable iter X.env x = pure x := by intro _; rfl) : DS X G Wx (.For tg iter body [] pos) (sForT k fo gf g) :=
  ⟨PS.weak (ps_lock (ps_for hp hc hi hg hb.ps hs)) fun D σ H ⟨W, sl, C, rs, st, q⟩ => forT_use k go rs st q⟩
end
end DL
namespace L2
open PySem PySem.Spec PyProof.Rows PySem.W PySem.Calls
open L2.DX
/-- d.setdefault(key, x) -/
def rSetdT : V → List V → Hp → VK → Prop := fun x xs H Q => ∃ (a : Addr) (kvs : List (List Key × V)) (k : List Key) (b : Addr) (d : V), x = .ref a ∧ xs = [.ref b, d] ∧ H a = some (.dT kvs) ∧ H b = some (.tup (k.map kV)) ∧ kvs.length < sizeLine ∧
  (∀ v, valV kvs k = some v → Q v H) ∧ (valV kvs k = none → Q d (upd H a (.dT (putK kvs k d))))
theorem mt_setdT {X : Cx} (hu : X.A.units + 1 < cLine) : MtR X "dict.setdefault" rSetdT := by
  intro pins s σ H x xs v us Q I rx rxs h
  obtain ⟨a, kvs, k, b, d, rfl, rfl, ha, hb, hl, q1, q2⟩ := h
  cases rx
  obtain ⟨u1, u2, rfl, r1, r2⟩ := vals2 rxs
  cases r1
  obtain ⟨z, hd, xs', rel, dd⟩ := dt_of I.hok ha
  have hz : xs'.length ≤ sizeLine := by rw [← Paired.length rel]; exact z
  refine call_setdefault_heap (knd := tupleKind (mixKind X.prog X.w)) (k := k) (tupleKind_room_in1 hu) (key_of I.hok hb) hd dd (fun p hp => ?_) (fun hn h' dd' hs => ?_) hz
  · have r := rel.val k
    rw [hp] at r
    cases ev : valV kvs k with
    | none => rw [ev] at r; exact (show False from r).elim
    | some v0 =>
      rw [ev] at r
      exact ⟨v0, H, I.tok _, r, q1 v0 ev⟩
  · have r := rel.val k
    rw [hn] at r
    have e : valV kvs k = none := by
      cases ev : valV kvs k with
      | none => rfl
      | some v0 => rw [ev] at r; exact (show False from r).elim
    obtain ⟨o, es, ep, hq, h2, h3, h4, _, h5⟩ := dd'
    have hl2 : (putK kvs k d).length ≤ sizeLine := by have := length_putK kvs k d; omega
    exact ⟨d, upd H a (.dT (putK kvs k d)), d_write (ob := .dT (putK kvs k d)) (t' := s.toks + (tupleKind (mixKind X.prog X.w)).draws k) I (by rw [ha]; exact True.intro) hs ⟨o, hq⟩ ⟨hl2, hd, _, (rel.put k hb r2).keeps (fun c ys ec => (by rw [upd_ne (ne_of ec ha (fun z => nomatch z))]; exact ec)), o, es, ep, hq, h2, h3, h4, h5⟩, r2, q2 e⟩
/-- d.pop(key), the key there -/
def rPopT1 : V → List V → Hp → VK → Prop := fun x xs H Q => ∃ (a : Addr) (kvs : List (List Key × V)) (k : List Key) (b : Addr) (v : V), x = .ref a ∧ xs = [.ref b] ∧ H a = some (.dT kvs) ∧ H b = some (.tup (k.map kV)) ∧ valV kvs k = some v ∧ Q v (upd H a (.dT (dropK kvs k)))
theorem mt_popT1 {X : Cx} (hu : X.A.units + 1 < cLine) : MtR X "dict.pop" rPopT1 := by
  intro pins s σ H x xs v us Q I rx rxs h
  obtain ⟨a, kvs, k, b, w, rfl, rfl, ha, hb, ev, q⟩ := h
  cases rx
  obtain ⟨u1, rfl, r1⟩ := rxs.one
  cases r1
  obtain ⟨z, hd, xs', rel, dd⟩ := dt_of I.hok ha
  have hz : xs'.length ≤ sizeLine := by rw [← Paired.length rel]; exact z
  have r := rel.val k
  rw [ev] at r
  obtain ⟨p, hp, rp⟩ : ∃ p, atKey xs' k = some p ∧ RelV w p.2 := by
    cases ek : atKey xs' k with
    | none => rw [ek] at r; exact (show False from r).elim
    | some p => rw [ek] at r; exact ⟨p, rfl, r⟩
  refine call_pop_heap (knd := tupleKind (mixKind X.prog X.w)) (k := k) (more := []) (.inl rfl) (PySem.F.args_dict_pop_2 _ _) (tupleKind_room_in1 hu) (key_of I.hok hb) hd dd hp (fun h' dd' hs => ?_) hz
  obtain ⟨o, es, ep, hq, h2, h3, h4, _, h5⟩ := dd'
  exact ⟨w, upd H a (.dT (dropK kvs k)), d_write (ob := .dT (dropK kvs k)) (t' := s.toks + (tupleKind (mixKind X.prog X.w)).draws k) I (by rw [ha]; exact True.intro) hs ⟨o, hq⟩ ⟨Nat.le_trans (dropK_le kvs k) z, hd, _, (KT_drop k rel).keeps (fun c ys ec => (by rw [upd_ne (ne_of ec ha (fun z => nomatch z))]; exact ec)), o, es, ep, hq, h2, h3, h4, h5⟩, rp, q⟩
end L2
namespace DL
open PySem PySem.Spec PyProof.Rows L2
section
variable {G : Glo}
def mSetdT (x : D) (xs : List D) (C : Cells) : Res D := match x, xs with
  | .cel n, [.tup ks, d] => (match C.get n, keysOf ks with
    | some (.dt l), some k => (match lookD l k with
      | some y => if l.length < mxl then .ok y C else .no
      | none => if l.length < mxl then .ok d (C.set n (.dt (putD l k d))) else .no)
    | _, _ => .no)
  | _, _ => .no
theorem om_setdT : OpM G rSetdT mSetdT := fun Wx σ W C H x v xs vs Q st rx rxs q => by
  unfold mSetdT at q
  split at q
  · rename_i n ks d
    split at q
    · rename_i l k e ek
      obtain ⟨a, rfl, ha⟩ := rx.cel_
      obtain ⟨b, ho, h1, h2, h3, m, rfl, h4⟩ := st.cells _ _ e
      rw [ha] at h1; cases h1
      obtain ⟨u, w, rfl, ru, rw_⟩ := rxs.two
      obtain ⟨c, us, rfl, s, qk⟩ := ru.tup_
      rw [keysOf_ok qk ek] at s
      split at q
      · rename_i y ey
        obtain ⟨v', e1, r1⟩ := look_some h4 ey
        split at q
        · rename_i hl
          have hl : m.length < sizeLine := by rw [← mxl_eq, ← Paired.len' h4]; exact hl
          exact ⟨a, m, k, c, w, rfl, rfl, h3, st.F _ _ s, hl, fun z hz => (by rw [e1] at hz; cases hz; exact q W _ H .refl st r1), fun hn => (by rw [e1] at hn; cases hn)⟩
        · exact q.elim
      · rename_i en
        split at q
        · rename_i hl
          have hl' : m.length < sizeLine := by rw [← mxl_eq, ← Paired.len' h4]; exact hl
          refine ⟨a, m, k, c, w, rfl, rfl, h3, st.F _ _ s, hl', fun z hz => (by rw [look_none h4 en] at hz; cases hz), fun _ => ?_⟩
          obtain ⟨s1, s2⟩ := fr_set (o := .dt (putD l k d)) (ho := .dT (putK m k w)) st e ha ⟨_, rfl, put_ok k h4 rw_⟩
          exact q W w _ s2 s1 rw_
        · exact q.elim
    · exact q.elim
  · exact q.elim
def mPopT1 (x : D) (xs : List D) (C : Cells) : Res D := match x, xs with
  | .cel n, [.tup ks] => (match C.get n, keysOf ks with
    | some (.dt l), some k => (match lookD l k with
      | some y => .ok y (C.set n (.dt (dropD l k)))
      | none => .no)
    | _, _ => .no)
  | _, _ => .no
theorem om_popT1 : OpM G rPopT1 mPopT1 := fun Wx σ W C H x v xs vs Q st rx rxs q => by
  unfold mPopT1 at q
  split at q
  · rename_i n ks
    split at q
    · rename_i l k e ek
      obtain ⟨a, rfl, ha⟩ := rx.cel_
      obtain ⟨b, ho, h1, h2, h3, m, rfl, h4⟩ := st.cells _ _ e
      rw [ha] at h1; cases h1
      obtain ⟨u, rfl, ru⟩ := rxs.one
      obtain ⟨c, us, rfl, s, qk⟩ := ru.tup_
      rw [keysOf_ok qk ek] at s
      split at q
      · rename_i y ey
        obtain ⟨v', e1, r1⟩ := look_some h4 ey
        obtain ⟨s1, s2⟩ := fr_set (o := .dt (dropD l k)) (ho := .dT (dropK m k)) st e ha ⟨_, rfl, drop_ok k h4⟩
        exact ⟨a, m, k, c, v', rfl, rfl, h3, st.F _ _ s, e1, q W v' _ s2 s1 (r1.up s2.le)⟩
      · exact q.elim
    · exact q.elim
  · exact q.elim
end
end DL

set_option Elab.async false
set_option linter.all false
set_option maxRecDepth 100000
set_option autoImplicit false
set_option maxHeartbeats 2000000
/-! a walk over a dict with tuple keys that the body reads: the dict is locked, but known -/
namespace DL
open PySem PySem.Spec PyProof.Rows L2
open Classical
/-- one thing is known no more -/
def Wd.rm (W : Wd) (a : Addr) : Wd := ⟨fun x => if x = a then none else W.F x, W.cm⟩
section
variable {G : Glo} {W : Wd} {a : Addr} {od : Obj} {m : List (List Key × V)}
theorem rm_ne {o : HO} {x : Addr} (ha : W.F a = some (.frz od (.dT m))) (h : W.F x = some o) (ho : o ≠ .frz od (.dT m)) : (W.rm a).F x = some o := by
  have : x ≠ a := fun e => by rw [e, ha] at h; exact ho (Option.some.inj h).symm
  show (if x = a then none else W.F x) = some o
  rw [if_neg this]; exact h
theorem rd_rm {u : HO} {x : Addr} (ha : W.F a = some (.frz od (.dT m))) (h : Rd W.F x u) (h1 : u ≠ .frz od (.dT m)) (h2 : u ≠ .dT m) : Rd (W.rm a).F x u := by
  rcases h with h | ⟨o, h⟩
  · exact .inl (rm_ne ha h h1)
  · exact .inr ⟨o, rm_ne ha h fun z => h2 (by cases z; rfl)⟩
mutual
theorem repV_rm (ha : W.F a = some (.frz od (.dT m))) (hq : ∀ k vs, G.oq k vs a ≠ .frz od (.dT m)) : ∀ {d : D} {v : V}, RepV G W d v → RepV G (W.rm a) d v
  | .non, _, h => by unfold RepV at h ⊢; exact h
  | .bl _, _, h => by unfold RepV at h ⊢; exact h
  | .int _, _, h => by unfold RepV at h ⊢; exact h
  | .str _, _, h => by unfold RepV at h ⊢; exact h
  | .lst ds, _, h => by
    unfold RepV at h ⊢
    obtain ⟨b, vs, e, s, r⟩ := h
    exact ⟨b, vs, e, rm_ne ha s (fun z => nomatch z), repVs_rm ha hq r⟩
  | .scr ds, _, h => by
    unfold RepV at h ⊢
    obtain ⟨b, vs, e, s, r⟩ := h
    refine ⟨b, vs, e, ?_, repVs_rm ha hq r⟩
    rcases s with s | s
    · exact .inl (rd_rm ha s (fun z => nomatch z) (fun z => nomatch z))
    · exact .inr s
  | .tup ds, _, h => by
    unfold RepV at h ⊢
    obtain ⟨b, vs, e, s, r⟩ := h
    exact ⟨b, vs, e, rm_ne ha s (fun z => nomatch z), repVs_rm ha hq r⟩
  | .ktp ds, _, h => by
    unfold RepV at h ⊢
    obtain ⟨b, vs, e, s, r⟩ := h
    refine ⟨b, vs, e, ?_, repVs_rm ha hq r⟩
    rcases s with s | s
    · exact .inl (rd_rm ha s (fun z => nomatch z) (fun z => nomatch z))
    · exact .inr s
  | .obj c ds, _, h => by
    unfold RepV at h ⊢
    obtain ⟨b, dx, vs, e, s, r, l⟩ := h
    exact ⟨b, dx, vs, e, rm_ne ha s (fun z => nomatch z), repVs_rm ha hq r, l⟩
  | .cel n, _, h => by
    unfold RepV at h ⊢
    exact h
  | .opq c ds, _, h => by
    unfold RepV at h ⊢
    obtain ⟨b, vs, e, s, r⟩ := h
    refine ⟨b, vs, e, ?_, repVs_rm ha hq r⟩
    have : b ≠ a := fun e => by rw [e, ha] at s; exact hq c vs (Option.some.inj s).symm
    show (if b = a then none else W.F b) = _
    rw [if_neg this]; exact s
theorem repVs_rm (ha : W.F a = some (.frz od (.dT m))) (hq : ∀ k vs, G.oq k vs a ≠ .frz od (.dT m)) : ∀ {ds : List D} {vs : List V}, RepVs G W ds vs → RepVs G (W.rm a) ds vs
  | [], _, h => by unfold RepVs at h ⊢; exact h
  | d :: r, _, h => by
    unfold RepVs at h ⊢
    obtain ⟨v, vr, e, s, t⟩ := h
    exact ⟨v, vr, e, repV_rm ha hq s, repVs_rm ha hq t⟩
end
theorem repKV_rm {κ : Type} {l : List (κ × D)} {q : List (κ × V)} (ha : W.F a = some (.frz od (.dT m))) (hq : ∀ k vs, G.oq k vs a ≠ .frz od (.dT m)) (h : RepKV G W l q) : RepKV G (W.rm a) l q :=
  Paired.mapP h fun _ _ z => ⟨z.1, repV_rm ha hq z.2⟩
theorem repO_rm (ha : W.F a = some (.frz od (.dT m))) (hq : ∀ k vs, G.oq k vs a ≠ .frz od (.dT m)) : ∀ {o : O} {h : HO}, RepO G W o h → RepO G (W.rm a) o h
  | .lst _, _, ⟨vs, e, r⟩ => ⟨vs, e, repVs_rm ha hq r⟩
  | .dk _, _, ⟨vs, e, r⟩ => ⟨vs, e, repKV_rm ha hq r⟩
  | .dt _, _, ⟨vs, e, r⟩ => ⟨vs, e, repKV_rm ha hq r⟩
  | .obj _ _, _, ⟨dx, vs, e, r, l⟩ => ⟨dx, vs, e, repVs_rm ha hq r, l⟩
end
/-- what is locked is no opaque object -/
def NoFrz (G : Glo) : Prop := ∀ k vs a o u, G.oq k vs a ≠ .frz o u
section
variable {G : Glo} {W W2 : Wd} {C C2 : Cells} {H H2 : Hp} {n : Nat} {a : Addr} {od : Obj} {l : List (List Key × D)} {m : List (List Key × V)}
/-- the lock is known -/
abbrev Wd.lk (W : Wd) (a : Addr) (od : Obj) (m : List (List Key × V)) : Wd := ⟨upd W.F a (.frz od (.dT m)), W.cm⟩
theorem lkr_in (st : StR G W C H) (hn : C.get n = some (.dt l)) (ha : W.cm n = some a) (hh : H a = some (.dT m)) :
    StR G (W.lk a od m) (C.del n) (upd H a (.frz od (.dT m))) ∧ W.le (W.lk a od m) := by
  obtain ⟨st1, nO⟩ := lk_in (od := od) st hn ha hh
  have F0 : W.F a = none := by
    cases q : W.F a with
    | none => rfl
    | some v => exact absurd (.inl ⟨v, q⟩) nO
  have le : W.le (W.lk a od m) := ⟨fun x v h => by
    have : x ≠ a := fun e => by rw [e, F0] at h; cases h
    show upd W.F a _ x = _
    rw [upd_ne this]; exact h, fun _ _ h => h⟩
  refine ⟨⟨st1.lnk.trans le, st1.tb.kn upd_same (fun _ z => nomatch z) le, fun x v h => ?_, fun k o2 h => ?_, st1.inj, st1.nx⟩, le⟩
  · have h : upd W.F a (.frz od (.dT m)) x = some v := h
    by_cases e : x = a
    · subst e; rw [upd_same] at h; cases h; exact upd_same
    · rw [upd_ne e] at h; exact st1.F x v h
  · obtain ⟨x, hx, k1, k2, k3, k4⟩ := st1.cells k o2 h
    have : x ≠ a := fun e => nO (.inr ⟨k, o2, h, e ▸ k1⟩)
    exact ⟨x, hx, k1, by show upd W.F a _ x = none; rw [upd_ne this]; exact k2, k3, k4.up le⟩
theorem lkr_out (hq : NoFrz G) (st : StR G W C H) (hn : C.get n = some (.dt l)) (ha : W.cm n = some a) (hh : H a = some (.dT m)) (r : RepKV G W l m)
    (t : Step (W.lk a od m) (C.del n) (upd H a (.frz od (.dT m))) W2 C2 H2) (st2 : StR G W2 C2 H2) :
    H2 a = some (.frz od (.dT m)) ∧ W2.F a = some (.frz od (.dT m)) ∧ StR G (W2.rm a) (C2.put n (.dt l)) (upd H2 a (.dT m)) ∧ Step W C H (W2.rm a) (C2.put n (.dt l)) (upd H2 a (.dT m)) := by
  obtain ⟨st1, nO⟩ := lk_in (od := od) st hn ha hh
  have F0 : W.F a = none := by
    cases q : W.F a with
    | none => rfl
    | some v => exact absurd (.inl ⟨v, q⟩) nO
  have f2 : W2.F a = some (.frz od (.dT m)) := t.le.F a _ upd_same
  have h2 := st2.F a _ f2
  have hqa : ∀ k vs, G.oq k vs a ≠ .frz od (.dT m) := fun k vs => hq k vs a od _
  have ha2 : W2.cm n = some a := t.le.cm n a ha
  have hlt : n < C2.nx := Nat.lt_of_lt_of_le (Cells.lt hn) t.nx
  have leW : W.le (W2.rm a) := ⟨fun x v h => by
    have ne : x ≠ a := fun e => by rw [e, F0] at h; cases h
    have := t.le.F x v (by show upd W.F a _ x = _; rw [upd_ne ne]; exact h)
    show (if x = a then none else W2.F x) = _
    rw [if_neg ne]; exact this, fun k x h => t.le.cm k x h⟩
  have nc : ∀ k o2, C2.get k = some o2 → W2.cm k ≠ some a := fun k o2 h e => by
    obtain ⟨x, hx, k1, k2, k3, k4⟩ := st2.cells k o2 h
    rw [e] at k1; cases k1
    rw [f2] at k2; cases k2
  have got : ∀ k o2, (C2.put n (.dt l)).get k = some o2 → (k = n ∧ o2 = .dt l) ∨ (k ≠ n ∧ C2.get k = some o2) := fun k o2 h => by
    by_cases e : k = n
    · subst e; rw [get_put hlt] at h; cases h; exact .inl ⟨rfl, rfl⟩
    · rw [get_put_ne e] at h; exact .inr ⟨e, h⟩
  have rmF : ∀ x v, (W2.rm a).F x = some v → x ≠ a ∧ W2.F x = some v := fun x v h => by
    have h : (if x = a then none else W2.F x) = some v := h
    by_cases e : x = a
    · rw [if_pos e] at h; cases h
    · rw [if_neg e] at h; exact ⟨e, h⟩
  refine ⟨h2, f2, ⟨st.lnk.trans leW, ⟨fun x ps z => st2.tb.1 x ps (rmF x _ z).2, fun p hp => ?_⟩, fun x v h => ?_, fun k o2 h => ?_, fun i k x o1 o2 k1 k2 k3 k4 => ?_, st2.nx⟩, leW, t.nx, fun x v h px nx => ?_⟩
  · obtain ⟨ps, q1, q2, q3⟩ := st2.tb.2 p hp
    have ne : p.1 ≠ a := fun e => by rw [e, h2] at q1; cases q1
    refine ⟨ps, by rw [upd_ne ne]; exact q1, q2, fun pos cv e => ?_⟩
    obtain ⟨c, e1, e2⟩ := q3 pos cv e
    exact ⟨c, e1, rm_ne f2 e2 (fun z => nomatch z)⟩
  · obtain ⟨ne, h⟩ := rmF x v h
    rw [upd_ne ne]; exact st2.F x v h
  · rcases got k o2 h with ⟨rfl, rfl⟩ | ⟨e, h⟩
    · exact ⟨a, _, ha2, by show (if a = a then none else _) = _; rw [if_pos rfl], upd_same, m, rfl, RepKV.up leW r⟩
    · obtain ⟨x, hx, k1, k2, k3, k4⟩ := st2.cells k o2 h
      have ne : x ≠ a := fun e2 => nc k o2 h (e2 ▸ k1)
      exact ⟨x, hx, k1, by show (if x = a then none else W2.F x) = _; rw [if_neg ne]; exact k2, by rw [upd_ne ne]; exact k3, repO_rm f2 hqa k4⟩
  · rcases got i o1 k1 with ⟨e, _⟩ | ⟨e, z1⟩
    · rcases got k o2 k2 with ⟨e2, _⟩ | ⟨e2, z2⟩
      · rw [e, e2]
      · have k3 : W2.cm i = some x := k3
        rw [e, ha2] at k3; cases k3
        exact absurd k4 (nc k o2 z2)
    · rcases got k o2 k2 with ⟨e2, _⟩ | ⟨e2, z2⟩
      · have k4 : W2.cm k = some x := k4
        rw [e2, ha2] at k4; cases k4
        exact absurd k3 (nc i o1 z1)
      · exact st2.inj i k x _ _ z1 z2 k3 k4
  · have ne : x ≠ a := fun e => nx (e ▸ .inr ⟨n, _, hn, ha⟩)
    have h' : upd H a (.frz od (.dT m)) x = some v := by rw [upd_ne ne]; exact h
    have nO' : ¬ Own (W.lk a od m) (C.del n) x := fun z => nx (by
      rcases z with ⟨u, z⟩ | ⟨k, o2, z1, z2⟩
      · have z : upd W.F a (.frz od (.dT m)) x = some u := z
        rw [upd_ne ne] at z
        exact .inl ⟨u, z⟩
      · by_cases e : k = n
        · subst e; rw [get_del] at z1; cases z1
        · rw [get_del_ne e] at z1; exact .inr ⟨k, o2, z1, z2⟩)
    obtain ⟨q1, q2⟩ := t.fr x v h' px nO'
    refine ⟨by rw [upd_ne ne]; exact q1, fun z => ?_⟩
    rcases z with ⟨u, z⟩ | ⟨k, o2, z1, z2⟩
    · exact q2 (.inl ⟨u, (rmF x u z).2⟩)
    · rcases got k o2 z1 with ⟨rfl, _⟩ | ⟨e, z1⟩
      · have z2 : W2.cm k = some x := z2
        rw [ha2] at z2; cases z2; exact ne rfl
      · exact q2 (.inr ⟨k, o2, z1, z2⟩)
theorem RepS.rm {sl : Sl} {σ : L2.St} (r : RepS G W sl σ) (ha : W.F a = some (.frz od (.dT m))) (hq : ∀ k vs, G.oq k vs a ≠ .frz od (.dT m)) : RepS G (W.rm a) sl σ :=
  ⟨r.len, fun i d e => let ⟨v, h1, h2⟩ := r.at_ i d e; ⟨v, h1, repV_rm ha hq h2⟩⟩
end
/-- the dict at the cell n, locked, holds l -/
def LkF (G : Glo) (n : Nat) (l : List (List Key × D)) : Prop := ∃ a od m, G.W0.cm n = some a ∧ G.W0.F a = some (.frz od (.dT m)) ∧ RepKV G G.W0 l m
/-- d[k], d locked -/
def eGetL (n : Nat) (l : List (List Key × D)) (fo fk : EF) : EF := fun s C => (fo s C).bind fun x C => (fk s C).bind fun y C => match x, y with
  | .cel k, .tup ks => if k = n then (match keysOf ks with
    | some q => (match lookD l q with | some d => .ok d C | none => .no)
    | none => .no) else .no
  | _, _ => .no
section
variable {X : Cx} {G : Glo} {Wx : WX} {o i : Expr} {fo fi : EF} {pos : Pos}
theorem de_getL {n : Nat} {l : List (List Key × D)} (hL : LkF G n l) (hu : X.A.units + 64 < cLine) (ho : DE X G Wx o fo) (hi : DE X G Wx i fi) (hs : NoSl i := by intro _ _; rfl) : DE X G Wx (.Subscript o i pos) (eGetL n l fo fi) :=
  ⟨PE.weak (pe_dget (by omega) ho.pe hi.pe hs) fun σ H Q ⟨W, sl, C, rs, st, q⟩ => ⟨W, sl, C, rs, st, q.bind fun x C1 W1 v H1 _ t st1 rx q1 => ⟨W1, sl, C1, rs.up t.le, st1, q1.bind fun y C2 W2 u H2 _ t2 st2 ry q2 => by
    split at q2
    rotate_left
    · exact q2.elim
    rename_i k ks
    split at q2
    rotate_left
    · exact q2.elim
    rename_i hk
    subst hk
    split at q2
    rotate_left
    · exact q2.elim
    rename_i kk ek
    split at q2
    rotate_left
    · exact q2.elim
    rename_i d ed
    obtain ⟨a, od, m, h1, h2, h3⟩ := hL
    have rx := rx.up t2.le
    obtain ⟨b, rfl, hb⟩ := rx.cel_
    rw [st2.lnk.cm _ _ h1] at hb; cases hb
    obtain ⟨v', e', rd⟩ := look_some h3 ed
    obtain ⟨c, vs, rfl, s, qq⟩ := ry.tup_
    rw [keysOf_ok qq ek] at s
    have g : DGet H2 a (.ref c) (valV m kk) := .inr ⟨m, kk, c, .inr ⟨od, st2.F _ _ (st2.lnk.F _ _ h2)⟩, rfl, st2.F _ _ s, rfl⟩
    rw [e'] at g
    exact ⟨a, v', rfl, g, q2 W2 v' H2 .refl st2 (rd.up st2.lnk)⟩⟩⟩⟩
end
section
variable {X : Cx} {G : Glo} {Wx : WX} {fo : EF} {pos : Pos}
theorem for_bodyR {t : TG} {gf : GF} {g : SF} {tch : List Nat} {tb : TS} (htb : ∀ D σ H, tSt G Wx g D σ H → tb D σ H) (go : GOk G t gf tch) {σ : L2.St} {sl : Sl} {J : It} {W1 : Wd} {C1 : Cells} {H1 : Hp} {ds : List D} {D : Ends} (rs : RepS G W1 sl σ) (st1 : StR G W1 C1 H1) (wk : Wlk G J W1 C1 H1 ds) (q : SPost G Wx W1 C1 H1 (forF gf g ds sl C1) D) :
    tFor (fun _ _ R => R J H1) t tb D σ H1 := by
  refine ⟨fun i m σ H => i ≤ ds.length ∧ m = ds.length - i ∧ ∃ W sl C, Step W1 C1 H1 W C H ∧ RepS G W sl σ ∧ StR G W C H ∧ SPost G Wx W C H (forF gf g (ds.drop i) sl C) D, ⟨ds.length, Nat.zero_le _, rfl, W1, sl, C1, .refl, rs, st1, by rw [List.drop_zero]; exact q⟩, ?_⟩
  rintro i m σ H ⟨hi, rfl, W, sl, C, t, rs, st, q⟩
  by_cases hlt : i < ds.length
  · have hd : ds[i]? = some ds[i] := List.getElem?_eq_getElem hlt
    have hdr : ds.drop i = ds[i] :: ds.drop (i + 1) := List.drop_eq_getElem_cons hlt
    obtain ⟨go_, y_⟩ := wk.item i _ hd W C H t st
    refine .inr ⟨go_, fun σ H => ∃ W sl C, Step W1 C1 H1 W C H ∧ RepS G W sl σ ∧ StR G W C H ∧ SPost G Wx W C H (forF gf g (ds.drop (i + 1)) sl C) D, fun σ' H' n => ⟨_, by omega, hlt, rfl, n⟩, fun x H' y => ?_⟩
    obtain ⟨W2, t2, st2, r2⟩ := y_ x H' y
    rw [hdr] at q
    unfold forF at q
    split at q
    · exact q.elim
    · rename_i s' e'
      refine go _ x sl s' σ W2 C H' _ st2 r2 (rs.up t2.le) e' fun σ' rs' _ => htb _ _ _ ⟨W2, s', C, rs', st2, ?_⟩
      have q := SPost.step t2 q
      cases eb : g s' C with
      | nxt s3 C3 => rw [eb] at q; exact fun W3 σ3 H3 t3 st3 rs3 => ⟨W3, s3, C3, (t.trans t2).trans t3, rs3, st3, SPost.step t3 q⟩
      | cnt s3 C3 => rw [eb] at q; exact fun W3 σ3 H3 t3 st3 rs3 => ⟨W3, s3, C3, (t.trans t2).trans t3, rs3, st3, SPost.step t3 q⟩
      | brk s3 C3 => rw [eb] at q; exact q
      | ret d C3 => rw [eb] at q; exact q
      | err c s3 C3 => rw [eb] at q; exact q
      | no => rw [eb] at q; exact q
  · have ei : i = ds.length := by omega
    subst ei
    rw [List.drop_length] at q
    exact .inl ⟨wk.stop W C H t st, q W σ H .refl st rs⟩
/-- a loop over a dict with tuple keys that its body reads -/
noncomputable def sForTR (k : Wk) (fo : EF) (tg : GF) (b : Nat → List (List Key × D) → SF) : SF := fun s C => match fo s C with
  | .ok (.cel n) _ => (match C.get n with
    | some (.dt l) => (match fo s (C.del n) with
      | .ok (.cel m) C1 => if m = n then (match forF tg (b n l) (k.ds l) s C1 with
        | .nxt s2 C2 => .nxt s2 (C2.put n (.dt l))
        | .ret d C2 => .ret d (C2.put n (.dt l))
        | _ => .no) else .no
      | _ => .no)
    | _ => .no)
  | _ => .no
def tBR (G : Glo) (Wx : WX) (g : Nat → List (List Key × D) → SF) : TS := fun D σ H => ∃ w1 n l, LkF (G.at_ w1) n l ∧ tSt (G.at_ w1) Wx (g n l) D σ H
/-- the walk, at a state where the address is known as locked -/
theorem wlk_lk (k : Wk) {W : Wd} {C : Cells} {H : Hp} {a : Addr} {od : Obj} {l : List (List Key × D)} {m : List (List Key × V)} (hd : W.F a = some (.frz od (.dT m))) (r : RepKV G W l m) : Wlk G (k.it a od m) W C H (k.ds l) := by
  have hl : l.length = m.length := Paired.length r
  refine ⟨fun i d e W' C' H' t st => ?_, fun W' C' H' t st => ?_⟩
  · have hi : i < m.length := by
      rw [← hl, ← k.len l]
      exact (List.getElem?_eq_some_iff.mp e).1
    have hd' := st.F _ _ (t.le.F _ _ hd)
    cases k with
    | keys =>
      refine ⟨⟨hd', hi⟩, fun x H2 y => ?_⟩
      obtain ⟨rfl, k, v, q, hk, rfl, hq⟩ := y
      obtain ⟨d', e', rd⟩ := kvt_get r hk
      have e : (l.map fun p => keyT p.1)[i]? = some d := e
      rw [List.getElem?_map, e'] at e
      cases e
      obtain ⟨W2, s2, t2, f2⟩ := fr_tup st hq
      exact ⟨W2, t2, s2, .tup f2 (keyT_ok _)⟩
    | vals =>
      refine ⟨⟨hd', hi⟩, fun x H2 y => ?_⟩
      obtain ⟨rfl, k, hk⟩ := y
      obtain ⟨d', e', rd⟩ := kvt_get r hk
      have e : (l.map fun p => p.2)[i]? = some d := e
      rw [List.getElem?_map, e'] at e
      cases e
      exact ⟨W', .refl, st, rd.up t.le⟩
    | items =>
      refine ⟨⟨hd', hi⟩, fun x H2 y => ?_⟩
      obtain ⟨T, k, v, q, hk, rfl, hT, hq, rfl⟩ := y
      obtain ⟨d', e', rd⟩ := kvt_get r hk
      have e : (l.map fun p => .tup [keyT p.1, p.2])[i]? = some d := e
      rw [List.getElem?_map, e'] at e
      cases e
      obtain ⟨W2, s2, t2, f2⟩ := fr_tup st hq
      obtain ⟨s3, t3⟩ := fr_fz (o := .tup [.ref q, v]) s2 hT
      refine ⟨_, t2.trans t3, s3, .tup (by show upd W2.F T _ T = _; exact upd_same) (.cons (.tup (t3.le.F _ _ f2) (keyT_ok _)) (.cons (((rd.up t.le).up t2.le).up t3.le) .nil))⟩
  · have hd' := st.F _ _ (t.le.F _ _ hd)
    cases k <;> exact ⟨hd', by rw [Wk.len, hl]; exact Nat.le_refl _⟩
theorem forTR_use (k : Wk) (hq : NoFrz G) {t : TG} {gf : GF} {g : Nat → List (List Key × D) → SF} {tch : List Nat} (go : ∀ w1, GOk (G.at_ w1) t gf tch) {σ : L2.St} {H : Hp} {D : Ends} {W : Wd} {sl : Sl} {C : Cells} (rs : RepS G W sl σ) (st : StR G W C H)
    (q : SPost G Wx W C H (sForTR k fo gf g sl C) D) : tLock (tFor (k.wi (tD G Wx fo)) t (tBR G Wx g)) D σ H := by
  unfold sForTR at q
  split at q
  rotate_left
  · exact q.elim
  rename_i n C0 e0
  split at q
  rotate_left
  · exact q.elim
  rename_i l hn
  split at q
  rotate_left
  · exact q.elim
  rename_i m C1 e1
  split at q
  rotate_left
  · exact q.elim
  rename_i hm
  subst hm
  obtain ⟨a, ho, h1, h2, h3, kvs, rfl, h4⟩ := st.cells m _ hn
  refine ⟨a, _, h3, trivial, fun od => ?_⟩
  obtain ⟨st1, le1⟩ := lkr_in (od := od) st hn h1 h3
  have ka : (W.lk a od kvs).F a = some (.frz od (.dT kvs)) := upd_same
  have hqa : ∀ k vs, G.oq k vs a ≠ .frz od (.dT kvs) := fun k vs => hq k vs a od _
  have core : ∀ (W1 : Wd) (v : V) (H1 : Hp), Step (W.lk a od kvs) (C.del m) (upd H a (.frz od (.dT kvs))) W1 C1 H1 → StR G W1 C1 H1 → RepV G W1 (.cel m) v → ∃ b o kvs', v = .ref b ∧ H1 b = some (.frz o (.dT kvs')) ∧
      tFor (fun _ _ R => R (k.it b o kvs') H1) t (tBR G Wx g) ⟨fun σ' H' => H' a = some (.frz od (.dT kvs)) ∧ D.nx σ' (upd H' a (.dT kvs)), fun v H' => H' a = some (.frz od (.dT kvs)) ∧ D.rt v (upd H' a (.dT kvs)), fun σ' H' => H' a = some (.frz od (.dT kvs)) ∧ D.bk σ' (upd H' a (.dT kvs)), fun σ' H' => H' a = some (.frz od (.dT kvs)) ∧ D.ct σ' (upd H' a (.dT kvs))⟩ σ H1 := by
    intro W1 v H1 t1 st1' rr
    obtain ⟨b, rfl, hb⟩ := rr.cel_
    rw [t1.le.cm m a h1] at hb; cases hb
    have f1 : W1.F a = some (.frz od (.dT kvs)) := t1.le.F _ _ ka
    have rk : RepKV (G.at_ W1) W1 l kvs := repKV_at.2 (RepKV.up (le1.trans t1.le) h4)
    refine ⟨a, od, kvs, rfl, st1'.F _ _ f1, for_bodyR (G := G.at_ W1) (Wx := Wx) (fun D σ H z => ⟨W1, m, l, ⟨a, od, kvs, t1.le.cm m a h1, f1, rk⟩, z⟩) (go W1) ((rs.up (le1.trans t1.le)).to) (st1'.to .refl) (wlk_lk k f1 rk) ?_⟩
    cases er : forF gf (g m l) (k.ds l) sl C1 with
    | nxt s2 C2 =>
      rw [er] at q
      intro W3 σ3 H3 t3 st3 rs3
      obtain ⟨z1, z0, z2, z3⟩ := lkr_out hq st hn h1 h3 h4 (t1.trans t3) (st3.of st1'.lnk)
      exact ⟨z1, q _ σ3 _ z3 z2 (rs3.of.rm z0 hqa)⟩
    | ret d C2 =>
      rw [er] at q
      intro W3 v3 H3 t3 st3 r3
      obtain ⟨z1, z0, z2, z3⟩ := lkr_out hq st hn h1 h3 h4 (t1.trans t3) (st3.of st1'.lnk)
      exact ⟨z1, q _ v3 _ z3 z2 (repV_rm z0 hqa (repV_at.1 r3))⟩
    | brk s2 C2 => rw [er] at q; exact q.elim
    | cnt s2 C2 => rw [er] at q; exact q.elim
    | err c s2 C2 => rw [er] at q; exact q.elim
    | no => rw [er] at q; exact q.elim
  have q0 : tD G Wx fo σ (upd H a (.frz od (.dT kvs))) fun v H1 => ∃ b o kvs', v = .ref b ∧ H1 b = some (.frz o (.dT kvs')) ∧ tFor (fun _ _ R => R (k.it b o kvs') H1) t (tBR G Wx g) ⟨fun σ' H' => H' a = some (.frz od (.dT kvs)) ∧ D.nx σ' (upd H' a (.dT kvs)), fun v H' => H' a = some (.frz od (.dT kvs)) ∧ D.rt v (upd H' a (.dT kvs)), fun σ' H' => H' a = some (.frz od (.dT kvs)) ∧ D.bk σ' (upd H' a (.dT kvs)), fun σ' H' => H' a = some (.frz od (.dT kvs)) ∧ D.ct σ' (upd H' a (.dT kvs))⟩ σ H1 :=
    ⟨W.lk a od kvs, sl, C.del m, rs.up le1, st1, by rw [e1]; exact core⟩
  cases k <;> exact q0
theorem ds_forTR (k : Wk) (hq : NoFrz G) {tg iter : Expr} {body : List Stmt} {t : TG} {gf : GF} {g : Nat → List (List Key × D) → SF} {tch : List Nat} (hp : PassesOwn (model X.prog X.w) X.A X.env X.xe) (hc : X.calm = true) (hi : PI X tg iter (k.wi (tD G Wx fo))) (hg : PG X tg t) (go : ∀ w1, GOk (G.at_ w1) t gf tch)
    (hb : ∀ (w1 : Wd) (n : Nat) (l : List (List Key × D)), LkF (G.at_ w1) n l → DSs X (G.at_ w1) Wx body (g n l))
    (hs : ∀ x, foldedSetIterable iter X.env x = pure x := by intro _; rfl) : DS X G Wx (.For tg iter body [] pos) (sForTR k fo gf g) :=
  ⟨PS.weak (ps_lock (ps_for hp hc hi hg (tb := tBR G Wx g) ⟨fun pins s σ H D I ⟨w1, n, l, hl, z⟩ => (hb w1 n l hl).ps.run pins s σ H D I z⟩ hs)) fun D σ H ⟨W, sl, C, rs, st, q⟩ => forTR_use k hq go rs st q⟩
end
end DL

set_option Elab.async false
set_option linter.all false
set_option maxRecDepth 100000
set_option autoImplicit false
set_option maxHeartbeats 2000000
/-! == and != of two dicts with tuple keys that are alike -/
namespace PySem.W
open PySem PySem.Calls PyProof.Rows PyProof.V PySem.Spec
section
variable {prog : Program} {w : World} {K : Type} [DecidableEq K] {knd : HeapKind prog w K} {A : Around} {E : Value → Shared → Prop} {s : Shared}
theorem samePairsH {nm : String} {a b : Addr} {xa xb : List (K × Addr × Value)} {Q : Bool → Shared → Prop} (ha : (a == sysModules) = false) (hb : (b == sysModules) = false)
    (da : s.heap.DictOfH knd a xa) (db : s.heap.DictOfH knd b xb) (hu : knd.room A) (hl : xa.length = xb.length) (hits : ∀ x ∈ xa, ∃ p, atKey xb x.1 = some p ∧ SeqAt.EqAt A s x.2.2 p.2 true) (h : Q true s) :
    wpAny (model prog w) A (Builtin.Dict.samePairs nm a b) Q E s := by
  obtain ⟨oa, es, ep, hoa, _, hda, hea, hisa, _⟩ := da
  obtain ⟨ob, es', ep', hob, _, hdb, heb, hisb, hnb⟩ := db
  have hla : es.size = xa.length := size_of_entries hea
  have hlb : es'.size = xb.length := size_of_entries heb
  unfold Builtin.Dict.samePairs Builtin.Dict.showsAll
  rw [if_neg (show ¬ (a == sysModules) = true by rw [ha]; exact Bool.false_ne_true), if_neg (show ¬ (b == sysModules) = true by rw [hb]; exact Bool.false_ne_true)]
  refine wpAny_bind (wpAny_pure (wpAny_bind (wpAny_pure ?_)))
  refine wpAny_bind (wpAny_dictEntries hoa hda ?_)
  dsimp only
  refine wpAny_bind (wpAny_dictEntries hob hdb ?_)
  have hsz : es.size = es'.size := by rw [hla, hlb, hl]
  rw [if_neg (by rw [hsz]; simp)]
  refine wpAny_bind (wpAny_dictEpoch hoa hda ?_)
  refine wpAny_bind ?_
  rw [Std.Legacy.Range.forIn_eq_forIn_range']
  simp only [Std.Legacy.Range.size, Nat.sub_zero, Nat.add_sub_cancel, Nat.div_one]
  refine wpAny_forIn_list _
    (fun rest q s' => s' = s ∧ q = (none, ()) ∧ ∃ i, rest = List.range' i (es.size - i) ∧ i ≤ es.size)
    _ ?_ ?_ _ _ ⟨rfl, rfl, 0, by simp, Nat.zero_le _⟩
  · rintro x rest q s' ⟨rfl, rfl, i, hr, hi⟩
    have hlt : i < es.size := by
      rcases Nat.lt_or_ge i es.size with h | h
      · exact h
      · rw [Nat.sub_eq_zero_of_le h] at hr; simp at hr
    obtain ⟨rfl, hrest⟩ : x = i ∧ rest = List.range' (i + 1) (es.size - (i + 1)) := by
      have e : es.size - i = (es.size - (i + 1)) + 1 := by omega
      rw [e, List.range'_succ] at hr
      injection hr with h1 h2
      exact ⟨h1, h2⟩
    refine wpAny_bind (wpAny_dictEntries hoa hda ?_)
    have hlt' : x < xa.length := by rw [← hla]; exact hlt
    rw [entry_at hea x, List.getElem?_eq_getElem hlt']
    have hmem : xa[x] ∈ xa := List.getElem_mem hlt'
    generalize xa[x] = y at hmem
    obtain ⟨k, q, v⟩ := y
    obtain ⟨p, hp, he⟩ := hits _ hmem
    have hkey := hisa _ hmem
    show wpAny _ _ (holding [.ref q, v] _ >>= _) _ _ _
    refine wpAny_bind (wpAny_holding (wpAny_bind (wpAny_dictFind_heap hu hkey hob hdb heb hisb hnb ?_ ?_)))
    · intro hno
      rw [atKey_none_of_get hno] at hp
      cases hp
    · intro j p' hj
      rw [atKey_of_get hnb hj] at hp
      cases hp
      refine wpAny_bind (wpAny_dictEntries hob hdb ?_)
      rw [entry_at heb j, hj]
      refine wpAny_holding (he _ _ _ _ ?_)
      show wpAny _ _ (if (!true) = true then _ else _) _ _ _
      rw [if_neg (by decide)]
      refine wpAny_bind (wpAny_dictEpoch hoa hda ?_)
      rw [if_neg (by simp)]
      exact wpAny_pure ⟨rfl, rfl, x + 1, hrest, hlt⟩
  · rintro q s' ⟨rfl, rfl, i, hr, hi⟩
    exact wpAny_pure h
theorem eq_dictsH {a b : Addr} {xa xb : List (K × Addr × Value)} {Q : Value → Shared → Prop} (ha : (a == sysModules) = false) (hb : (b == sysModules) = false)
    (da : s.heap.DictOfH knd a xa) (db : s.heap.DictOfH knd b xb) (hu : A.units < cLine) (hk : knd.room A.in1) (hl : xa.length = xb.length) (hits : ∀ x ∈ xa, ∃ p, atKey xb x.1 = some p ∧ SeqAt.EqAt A.in1 s x.2.2 p.2 true) (h : Q (.bool true) s) :
    wpAny (model prog w) A (compareOp .Eq (.ref a) (.ref b)) Q E s := by
  refine wpAny_richCompare_same_room (op := .Eq) da.typeIs db.typeIs PySem.F.slot_dict_eq (wpAny_call_entry PySem.F.slot_dict_eq da.typeIs PySem.F.entry_dict_eq ?_ (PySem.F.args_dict_eq_2 _ _)) hu
  show wpAny _ _ (Builtin.Dict.dictSlotArgs "__eq__" ⟨[.ref a, .ref b], []⟩ >>= _) _ _ s
  refine wpAny_bind ?_
  unfold Builtin.Dict.dictSlotArgs
  refine wpAny_bind (wpAny_notOrdered_dict da.typeIs ?_)
  show wpAny _ _ (pure (Value.ref a, Value.ref b)) _ _ s
  refine wpAny_pure ?_
  refine wpAny_bind (wpAny_isInstance (T := "dict") db.typeIs PySem.F.sub_dict_dict ?_)
  simp only [Bool.not_true, Bool.false_eq_true, if_false]
  refine wpAny_bind (wpAny_pure (wpAny_bind (wpAny_pure ?_)))
  refine wpAny_bind (samePairsH ha hb da db hk hl hits ?_)
  refine wpAny_pure ⟨_, rfl, ?_, ?_⟩
  · exact fun x => nomatch x
  · simpa using h
theorem ne_dictsH {a b : Addr} {xa xb : List (K × Addr × Value)} {Q : Value → Shared → Prop} (ha : (a == sysModules) = false) (hb : (b == sysModules) = false)
    (da : s.heap.DictOfH knd a xa) (db : s.heap.DictOfH knd b xb) (hu : A.units < cLine) (hk : knd.room A.in1) (hl : xa.length = xb.length) (hits : ∀ x ∈ xa, ∃ p, atKey xb x.1 = some p ∧ SeqAt.EqAt A.in1 s x.2.2 p.2 true) (h : Q (.bool false) s) :
    wpAny (model prog w) A (compareOp .NotEq (.ref a) (.ref b)) Q E s := by
  refine wpAny_richCompare_same_room (op := .NotEq) da.typeIs db.typeIs PySem.F.slot_dict_ne (wpAny_call_entry PySem.F.slot_dict_ne da.typeIs PySem.F.entry_dict_ne ?_ (PySem.F.args_dict_ne_2 _ _)) hu
  show wpAny _ _ (Builtin.Dict.dictSlotArgs "__ne__" ⟨[.ref a, .ref b], []⟩ >>= _) _ _ s
  refine wpAny_bind ?_
  unfold Builtin.Dict.dictSlotArgs
  refine wpAny_bind (wpAny_notOrdered_dict da.typeIs ?_)
  show wpAny _ _ (pure (Value.ref a, Value.ref b)) _ _ s
  refine wpAny_pure ?_
  refine wpAny_bind (wpAny_isInstance (T := "dict") db.typeIs PySem.F.sub_dict_dict ?_)
  simp only [Bool.not_true, Bool.false_eq_true, if_false]
  refine wpAny_bind (wpAny_pure (wpAny_bind (wpAny_pure ?_)))
  refine wpAny_bind (samePairsH ha hb da db hk hl hits ?_)
  refine wpAny_pure ⟨_, rfl, ?_, ?_⟩
  · exact fun x => nomatch x
  · simpa using h
end
end PySem.W
namespace L2
open PySem PySem.Spec PyProof.Rows PySem.W
theorem units66 {k : Nat} {A : Around} (r : Room k A) : A.units + 66 < cLine := by have := r.un; omega
/-- two dicts with tuple keys, alike -/
def SameDT (K : PySem.W.Frag) (H : Hp) (ks ls : List (List Key × V)) : Prop := ks.length = ls.length ∧ ∀ p ∈ ks, ∃ u d e, valV ls p.1 = some u ∧ Dp K H p.2 d ∧ Dp K H u e ∧ SeqAt.shaped d = true ∧ SeqAt.shaped e = true ∧ PyData.eqv d e = true
def rCmpT (K : PySem.W.Frag) (b : Bool) : R2 := fun x y H Q => ∃ a c ks ls, x = .ref a ∧ y = .ref c ∧ H a = some (.dT ks) ∧ H c = some (.dT ls) ∧ SameDT K H ks ls ∧ Q (.bl b) H
section
variable {X : Cx} {pins : List (Addr × Obj)} {σ : St} {H : Hp} {s : Shared}
theorem hitsT (I : Inv X pins σ H s) (hu : X.A.units + 66 < cLine) {ks ls : List (List Key × V)} {xa xb : List (List Key × Addr × Value)} (ra : KT H ks xa) (rb : KT H ls xb) (S0 : SameDT X.K H ks ls) : ∀ x ∈ xa, ∃ p, atKey xb x.1 = some p ∧ SeqAt.EqAt X.A.in1 s x.2.2 p.2 true := by
  have S := S0.2
  clear S0
  induction ra with
  | nil => intro x m; cases m
  | @cons p q ps qs h t ih =>
    intro x m
    rcases List.mem_cons.1 m with rfl | m
    · obtain ⟨u, d, e, h1, h2, h3, h4, h5, h6⟩ := S p (by simp)
      have r := rb.val p.1
      rw [h1] at r
      obtain ⟨y, hy, ry⟩ := RelO.some_of r
      obtain ⟨p', hp', rfl⟩ := Option.map_eq_some_iff.1 hy
      refine ⟨p', by rw [← h.1]; exact hp', ?_⟩
      obtain ⟨as, r1⟩ := Dp.reads I d p.2 _ h2 h.2.2
      obtain ⟨bs, r2⟩ := Dp.reads I e u _ h3 ry
      have k := PySem.W.keq_at (A := X.A) r1 r2 h4 h5 (by show X.A.units + 1 + 64 < cLine; omega)
      rw [h6] at k
      exact k
    · exact ih (fun z mz => S z (by simp [mz])) x m
end
section
variable {X : Cx}
theorem op_eqT (hu : X.A.units + 66 < cLine) : OpR X (compareOp .Eq) (rCmpT X.K true) := by
  intro pins s σ H x y v u Q I rx ry h
  obtain ⟨a, c, ks, ls, rfl, rfl, ea, ec, S, q⟩ := h
  obtain rfl : v = Value.ref a := rx
  obtain rfl : u = Value.ref c := ry
  obtain ⟨_, ya, xa, ra, da⟩ := dt_of I.hok ea
  obtain ⟨_, yb, xb, rb, db⟩ := dt_of I.hok ec
  have hl : xa.length = xb.length := by rw [← Paired.length ra, ← Paired.length rb]; exact S.1
  exact PySem.W.eq_dictsH ya yb da db (by omega) (tupleKind_room_in1 (by omega)) hl (hitsT I hu ra rb S) ⟨.bl true, H, I, rfl, q⟩
theorem op_neT (hu : X.A.units + 66 < cLine) : OpR X (compareOp .NotEq) (rCmpT X.K false) := by
  intro pins s σ H x y v u Q I rx ry h
  obtain ⟨a, c, ks, ls, rfl, rfl, ea, ec, S, q⟩ := h
  obtain rfl : v = Value.ref a := rx
  obtain rfl : u = Value.ref c := ry
  obtain ⟨_, ya, xa, ra, da⟩ := dt_of I.hok ea
  obtain ⟨_, yb, xb, rb, db⟩ := dt_of I.hok ec
  have hl : xa.length = xb.length := by rw [← Paired.length ra, ← Paired.length rb]; exact S.1
  exact PySem.W.ne_dictsH ya yb da db (by omega) (tupleKind_room_in1 (by omega)) hl (hitsT I hu ra rb S) ⟨.bl false, H, I, rfl, q⟩
end
end L2
namespace DL
open PySem PySem.Spec PyProof.Rows L2
open Classical
def SameD (C : Cells) (l l' : List (List Key × D)) : Prop := l.length = l'.length ∧ ∀ p ∈ l, ∃ d, lookD l' p.1 = some d ∧ plain 30 (vwn 30 C p.2) = true ∧ plain 30 (vwn 30 C d) = true ∧ eqD (vwn 30 C p.2) (vwn 30 C d) = true
noncomputable def dCmpT (b : Bool) (x y : D) (C : Cells) : Res D := match x, y with
  | .cel n, .cel m => (match C.get n, C.get m with
    | some (.dt l), some (.dt l') => if SameD C l l' then .ok (.bl b) C else .no
    | _, _ => .no)
  | _, _ => .no
section
variable {G : Glo} {W : Wd} {C : Cells} {H : Hp}
theorem sameD_ok (st : StR G W C H) {l l' : List (List Key × D)} {m m' : List (List Key × V)} (r : RepKV G W l m) (r' : RepKV G W l' m') (S0 : SameD C l l') : SameDT G.K H m m' := by
  refine ⟨by rw [← Paired.length r, ← Paired.length r']; exact S0.1, ?_⟩
  have S := S0.2
  clear S0
  induction r with
  | nil => intro p mp; cases mp
  | @cons p q ps qs h t ih =>
    intro z mz
    rcases List.mem_cons.1 mz with rfl | mz
    · obtain ⟨d, h1, h2, h3, h4⟩ := S p (by simp)
      obtain ⟨v, h5, h6⟩ := look_some r' h1
      refine ⟨v, toP (vwn 30 C p.2), toP (vwn 30 C d), by rw [← h.1]; exact h5, dp_vwn st _ _ _ _ h.2 h2, dp_vwn st _ _ _ _ h6 h3, shaped_toP (by decide) h2, shaped_toP (by decide) h3, ?_⟩
      rw [eqv_toP 30 _ _ h2 h3]; exact h4
    · exact ih (fun y my => S y (by simp [my])) z mz
theorem o2_cmpT (b : Bool) : Op2 G (rCmpT G.K b) (dCmpT b) := fun Wx σ W C H x y v u Q st rx ry q => by
  unfold dCmpT at q
  split at q
  rotate_left
  · exact q.elim
  rename_i n m
  split at q
  rotate_left
  · exact q.elim
  rename_i l l' hn hm
  split at q
  rotate_left
  · exact q.elim
  rename_i S
  obtain ⟨a, rfl, ha⟩ := rx.cel_
  obtain ⟨c, rfl, hc⟩ := ry.cel_
  obtain ⟨a', ho, h1, h2, h3, kvs, rfl, h4⟩ := st.cells n _ hn
  rw [ha] at h1; cases h1
  obtain ⟨c', ho', k1, k2, k3, kvs', rfl, k4⟩ := st.cells m _ hm
  rw [hc] at k1; cases k1
  exact ⟨a, c, kvs, kvs', rfl, rfl, h3, k3, sameD_ok st h4 k4 S, q W _ H .refl st .bl⟩
end
end DL

set_option Elab.async false
set_option linter.all false
set_option maxRecDepth 100000
set_option autoImplicit false
set_option maxHeartbeats 2000000
/-! sorted(..) as a list that is changed; min(.., default=..) -/
namespace L2
open PySem PySem.Spec PyProof.Rows PySem.W
def rMinDef (K : PySem.W.Frag) : List V → List V → Hp → VK → Prop := fun vs zs H Q => ∃ (a : Addr) (z : V) (bs : List (V × PyData)), vs = [V.ref a] ∧ zs = [z] ∧ SqL K H a (bs.map (·.1)) ∧ (∀ c ∈ bs, Dp K H c.1 c.2) ∧ AlikeAll (bs.map (·.2)) ∧ PyData.depthAll (bs.map (·.2)) ≤ 30 ∧
  (bs = [] → Q z H) ∧ ∀ b r, bs = b :: r → ∀ c ∈ bs, c.2 = minD b.2 (r.map (·.2)) → Q c.1 H
section
variable {X : Cx}
theorem cr_minDef (hu : X.A.units + 64 < cLine) (hc : X.calm = true) : CallRK X (.builtin "min") [Str.ofString "default"] (rMinDef X.K) := by
  intro pins s σ H vs zs us ws Q I r rz h
  obtain ⟨a, z, bs, rfl, rfl, hs, hd, hal, hdp, q0, q⟩ := h
  obtain ⟨its, rv, hl, hz⟩ := I.list hs
  rw [Vals.ref1 r]
  obtain ⟨w1, rfl, e1⟩ := vals1 rz
  obtain ⟨as, ra⟩ := Dp.readsAll I _ _ _ (dpAll_of hd) rv
  show wpAny _ _ (call (.builtin "min") [.ref a] [(Str.ofString "default", w1)]) _ _ _
  refine min_list_default (I.ok.hd hc) hl.isList (xs := bs.map (·.2)) (by simpa using ra) hal (by show X.A.units + 1 + _ < cLine; have : PyData.depthAll (bs.map (·.2)) ≤ 30 := hdp; omega) (fun hn h' tk hk => ?_) (fun y ys i v h' tk bs' hy hi rd hk => ?_)
  · exact ⟨z, H, I.kept (t' := tk) hk, e1, q0 (by simpa using hn)⟩
  · have hi' : its[i]? = some v := by simpa using hi
    obtain ⟨b, r, rfl⟩ : ∃ b r, bs = b :: r := by
      cases bs with
      | nil => cases hy
      | cons b r => exact ⟨b, r, rfl⟩
    rw [List.map_cons] at hy
    obtain ⟨rfl, rfl⟩ := List.cons.inj hy
    obtain ⟨c, hc2, e2⟩ : ∃ c, (b :: r)[i]? = some c ∧ RelV c.1 v := by
      obtain ⟨x, hx, rx⟩ := vals_back2 rv hi'
      rw [List.getElem?_map] at hx
      cases e : (b :: r)[i]? with
      | none => rw [e] at hx; cases hx
      | some c => rw [e] at hx; cases hx; exact ⟨c, rfl, rx⟩
    have hm : c ∈ b :: r := List.mem_of_getElem? hc2
    obtain ⟨as2, r2⟩ := Dp.reads I c.2 c.1 v (hd c hm) e2
    have r3 : Reads h' v c.2 as2 := PyProof.Rows.Reads.keeps hk r2
    have e3 := (Reads.unique r3 _ _ rd).1
    exact ⟨c.1, H, I.kept (t' := tk) hk, e2, q b r rfl c hm e3⟩
end
end L2
namespace DL
open PySem PySem.Spec PyProof.Rows L2 PySem.W
open Classical
noncomputable def bSortTC (xs : List D) (C : Cells) : Res D := match xs with
  | [d] => (match lstOf C d with | some l => if SortOk l then newL (sortT l) C else .no | none => .no)
  | _ => .no
noncomputable def eMinD (fo fd : EF) : EF := fun s C => (fo s C).bind fun x C => (fd s C).bind fun z C => match lstOf C x with
  | some [] => .ok z C
  | some (y :: l) => if MinOk (y :: l) then .ok (minT y l) C else .no
  | none => .no
section
variable {G : Glo} {Wx : WX}
theorem oa_sortTC : OpA G (rSortedD G.K) bSortTC := fun Wx σ W C H xs vs Q st rx q => by
  unfold bSortTC at q
  split at q
  · obtain ⟨v, rfl, r⟩ := rx.one
    split at q
    · rename_i l e
      split at q
      · rename_i ok
        obtain ⟨a, us, rfl, h1, h2⟩ := lstOf_ok st r e
        obtain ⟨z1, z2, z3⟩ := zip_dp st h2 ok.pl
        refine ⟨a, (us.zip l).map fun p => (p.1, toP p.2), rfl, ?_, fun b m => ?_, ?_, ?_, fun b m => ?_, fun p hp => ?_⟩
        · rw [List.map_map]; show SqL G.K H a ((us.zip l).map (·.1)); rw [z1]; exact h1
        · obtain ⟨p, mp, rfl⟩ := List.mem_map.1 m
          exact dp_of st.F 30 _ _ (z3 p mp).2 (z3 p mp).1
        · rw [List.map_map]; show AllAlike ((us.zip l).map (toP ∘ (·.2))); rw [← List.map_map, z2]; exact ok.al
        · rw [List.map_map]; show Sortable ((us.zip l).map (toP ∘ (·.2))); rw [← List.map_map, z2]; exact ok.so
        · obtain ⟨p, mp, rfl⟩ := List.mem_map.1 m
          refine ok.dp p.2 ?_
          rw [← z2]; exact List.mem_map.2 ⟨p, mp, rfl⟩
        · have e1 : (((us.zip l).map fun p => (p.1, toP p.2)).mergeSort (dataLe false fun b => b.2)).map (·.1) = ((us.zip l).mergeSort (dataLe false fun p => toP p.2)).map (·.1) := by
            rw [← List.map_mergeSort (r := dataLe false fun p : V × D => toP p.2) (f := fun p : V × D => (p.1, toP p.2)) (fun _ _ _ _ => rfl), List.map_map]
            rfl
          have e2 : sortT l = ((us.zip l).mergeSort (dataLe false fun p => toP p.2)).map (·.2) := by
            rw [List.map_mergeSort (r := dataLe false fun p : V × D => toP p.2) (s := dataLe false toP) (f := fun p : V × D => p.2) (fun _ _ _ _ => rfl), z2]
            rfl
          rw [e1]
          refine new_cel st ?_ q p hp
          rw [e2]
          exact reps_pairs fun p m => (z3 p (List.mem_mergeSort.1 m)).1
      · exact q.elim
    · exact q.elim
  · exact q.elim
end
section
variable {X : Cx} {G : Glo} {Wx : WX} {e d : Expr} {fo fd : EF} {p pos kpos : Pos}
theorem de_minDef (hk : X.K = G.K) (hu : X.A.units + 64 < cLine) (hc : X.calm = true) (hg : Gl X "min") (hm : X.mg "min" = none) (ho : DE X G Wx e fo) (hd : DE X G Wx d fd)
    (hv : bootBuiltins "min" = some (.builtin "min") := by rfl) (hst : starEach [e] X.env = (false, eval e X.env) :: starEach [] X.env := by rfl)
    (he : backTo pos (starEach [e] X.env) = (false, eval e X.env) :: backTo pos (starEach [] X.env) := by rfl) (hpl : (backTo pos (starEach [e] X.env)).any (·.1) = false := by rfl)
    (hall : (backToKw pos (keywordEach [⟨some "default", d, kpos⟩] X.env)).all (·.1.isSome) = true := by rfl) (hnone : (backToKw pos (keywordEach [⟨some "default", d, kpos⟩] X.env)).any (·.1.isNone) = false := by rfl) (hks : (backToKw pos (keywordEach [⟨some "default", d, kpos⟩] X.env)).filterMap (·.1) = [Str.ofString "default"] := by rfl) :
    DE X G Wx (.Call (.Name "min" p) [e] [⟨some "default", d, kpos⟩] pos) (eMinD fo fd) := by
  refine ⟨PE.weak (pe_callBK (cr_minDef hu hc) hg hm hv (pa_cons ho.pe pa_nil (hs := hst)) (pk_cons hd.pe pk_nil) (by decide) (by decide) he hpl hall hnone hks) fun σ H Q ⟨W, sl, C, rs, st, q⟩ => ?_⟩
  refine ⟨W, sl, C, rs, st, q.bind fun x C1 W1 v H1 _ t st1 rx q1 => ?_⟩
  show tNil σ H1 fun vs H2 => _
  refine ⟨W1, sl, C1, rs.up t.le, st1, q1.bind fun z C2 W2 u H2 _ t2 st2 rz q2 => ?_⟩
  have rx := rx.up t2.le
  show rMinDef X.K [v] [u] H2 Q
  rw [hk]
  split at q2
  · rename_i e0
    obtain ⟨a, us, rfl, h1, h2⟩ := lstOf_ok st2 rx e0
    have : us = [] := h2.nil_inv
    subst this
    exact ⟨a, u, [], rfl, rfl, h1, by simp, (by first | exact True.intro | (intro x m; cases m) | simp [AlikeAll]), by decide, (fun _ => q2 W2 u H2 .refl st2 rz), (fun b r h => by cases h)⟩
  · rename_i y l e0
    split at q2
    · rename_i ok
      obtain ⟨a, us, rfl, h1, h2⟩ := lstOf_ok st2 rx e0
      obtain ⟨u0, ur, rfl, ru, rr⟩ := h2.cons_inv
      obtain ⟨z1, z2, z3⟩ := zip_dp st2 rr fun y m => ok.pl y (by simp [m])
      have m1 : ((ur.zip l).map fun p => (p.1, toP p.2)).map (·.1) = ur := by
        rw [List.map_map]; exact z1
      have m2 : ((ur.zip l).map fun p => (p.1, toP p.2)).map (·.2) = l.map toP := by
        rw [List.map_map]; show (ur.zip l).map (toP ∘ (·.2)) = _; rw [← List.map_map, z2]
      refine ⟨a, u, (u0, toP y) :: (ur.zip l).map fun p => (p.1, toP p.2), rfl, rfl, ?_, fun c m => ?_, ?_, ?_, (fun h => by cases h), fun b r hb c m hc => ?_⟩
      · rw [List.map_cons, m1]; exact h1
      · rcases List.mem_cons.1 m with rfl | m
        · exact dp_of st2.F 30 _ _ (ok.pl y (by simp)) ru
        · obtain ⟨p, mp, rfl⟩ := List.mem_map.1 m
          exact dp_of st2.F 30 _ _ (z3 p mp).2 (z3 p mp).1
      · rw [List.map_cons, m2]; exact ok.al
      · rw [List.map_cons, m2]; exact ok.dp
      · obtain ⟨rfl, rfl⟩ := List.cons.inj hb
        rw [m2, ← minT_toP l y] at hc
        have pm := ok.pl _ (minT_mem l y)
        rcases List.mem_cons.1 m with rfl | m
        · have : y = minT y l := toP_inj 30 _ _ (ok.pl y (by simp)) pm hc
          rw [← this] at q2
          exact q2 W2 u0 H2 .refl st2 ru
        · obtain ⟨p, mp, rfl⟩ := List.mem_map.1 m
          have : p.2 = minT y l := toP_inj 30 _ _ (z3 p mp).2 pm hc
          rw [← this] at q2
          exact q2 W2 p.1 H2 .refl st2 (z3 p mp).1
    · exact q2.elim
  · exact q2.elim
end
/-- xs.index(y), over plain data -/
def mIndexT (x : D) (xs : List D) (C : Cells) : Res D := match x, xs with
  | .lst l, [y] => if plain 30 (.lst l) = true ∧ plain 30 y = true then (match l.findIdx? (fun z => eqD z y) with | some j => .ok (.int (j : Int)) C | none => .no) else .no
  | _, _ => .no
theorem plain_in {n : Nat} {l : List D} (h : plain (n + 1) (.lst l) = true) {z : D} (m : z ∈ l) : plain n z = true := by
  unfold plain at h
  exact List.all_eq_true.1 h z m
theorem plain_up : ∀ (n : Nat) (d : D), plain n d = true → plain (n + 1) d = true
  | 0, d, h => by unfold plain at h; cases h
  | n + 1, d, h => by
    cases d with
    | lst l =>
      unfold plain at h ⊢
      rw [List.all_eq_true] at h ⊢
      exact fun x m => plain_up n x (h x m)
    | tup l =>
      unfold plain at h ⊢
      rw [List.all_eq_true] at h ⊢
      exact fun x m => plain_up n x (h x m)
    | _ => unfold plain at h ⊢; exact h
section
variable {G : Glo} {Wx : WX}
theorem om_indexT : OpM G (rIndexD G.K) mIndexT := fun Wx σ W C H x v xs vs Q st rx rxs q => by
  unfold mIndexT at q
  split at q
  · rename_i l y
    split at q
    · rename_i h
      obtain ⟨hl, hy⟩ := h
      split at q
      · rename_i j hj
        obtain ⟨u, rfl, ru⟩ := rxs.one
        obtain ⟨hlt, h1, h2⟩ := List.findIdx?_eq_some_iff_getElem.1 hj
        have dl := dp_of st.F 30 _ _ hl rx
        have dl : Dp G.K H v (.list (toPs l)) := dl
        rw [toPs_map] at dl
        have dy := dp_of st.F 30 _ _ hy ru
        have sl : SeqAt.shaped (.list (l.map toP)) = true := by
          have := shaped_toP (n := 30) (x := .lst l) (by decide) hl
          have this : SeqAt.shaped (.list (toPs l)) = true := this
          rw [toPs_map] at this
          exact this
        obtain ⟨a, us, rfl, e1, e2⟩ := rx.lst_
        have pin : ∀ z ∈ l, plain 30 z = true := fun z m => plain_up 29 z (plain_in hl m)
        refine ⟨a, u, toP y, l.map toP, j, toP l[j], rfl, rfl, dl, dy, sl, shaped_toP (by decide) hy, by rw [List.getElem?_map, List.getElem?_eq_getElem hlt]; rfl, ?_, fun m z' hm hz' => ?_, q W _ H .refl st .int⟩
        · rw [eqv_toP 30 _ _ (pin _ (List.getElem_mem hlt)) hy]; exact h1
        · rw [List.getElem?_map] at hz'
          have hm2 : m < l.length := Nat.lt_trans hm hlt
          rw [List.getElem?_eq_getElem hm2] at hz'
          cases hz'
          rw [eqv_toP 30 _ _ (pin _ (List.getElem_mem hm2)) hy]
          have := h2 m hm
          simpa using this
      · exact q.elim
    · exact q.elim
  · exact q.elim
end
end DL

set_option Elab.async false
set_option linter.all false
set_option maxRecDepth 100000
set_option autoImplicit false
set_option maxHeartbeats 2000000
/-! a comprehension over a dict with tuple keys that its tests or its part read: the dict is locked, but known -/
namespace DL
open PySem PySem.Spec PyProof.Rows L2
open Classical
section
variable {X : Cx} {G : Glo} {Wx : WX} {e c : Expr} {f : EF} {pos : Pos}
/-- the walk of a comprehension, its iterator at hand -/
theorem lc_bodyR {TTR : TT} {TDR : TE} {t : TG} {gf : GF} {tch vs : List Nat} {tt : TF} {fe : EF} {fin : List D → Cells → Res D} (hTT : ∀ σ H Q, tTs G W0 tt σ H Q → TTR σ H Q) (hTD : ∀ σ H Q, tD G W0 fe σ H Q → TDR σ H Q) (go : GOk G t gf tch) (ht : ∀ i ∈ tch, i ∈ vs)
    (hfin : ∀ (σ : L2.St) (W : Wd) (C : Cells) (H : Hp) (l : List D) (us : List V) (Dp : Addr) (Q : VK), StR G W C H → ¬ Own W C Dp → H Dp = some (.lst us) → RepVs G W l us →
      (∀ W1 C1 H1, StepX Dp W C H W1 C1 H1 → H1 = H → ∀ d v, StR G W1 C1 H1 → RepV G W1 d v → fin l C = .ok d C1 → Q v H1) → Q (.ref Dp) H)
    {σ : L2.St} {Q : VK} {sl : Sl} {J : It} {W1 : Wd} {C1 : Cells} {H1 : Hp} {ds ys : List D} {Ce : Cells} (rs : RepS G W1 sl σ) (st1 : StR G W1 C1 H1) (wk : Wlk G J W1 C1 H1 ds) (e2 : lcF gf tt fe vs ds sl C1 = .ok ys Ce) (hz : ds.length ≤ mxl)
    (q : Post G Wx σ (RepV G) W1 C1 H1 (fin ys Ce) Q) : tLc (fun _ _ R => R J H1) t TTR TDR vs σ H1 Q := by
  intro Dp hD
  have t1 : Step W1 C1 H1 W1 C1 H1 := .refl
  obtain ⟨st2, t2, n2⟩ := fr_out (o := .lst []) st1 hD
  refine ⟨fun i m H => i ≤ ds.length ∧ m = ds.length - i ∧ ∃ W C acc us rest, StepX Dp W1 C1 (upd H1 Dp (.lst [])) W C H ∧ StR G W C H ∧ ¬ Own W C Dp ∧ H Dp = some (.lst us) ∧ RepVs G W acc us ∧ acc.length ≤ i ∧ lcF gf tt fe vs (ds.drop i) sl C = .ok rest Ce ∧ ys = acc ++ rest,
    ⟨ds.length, Nat.zero_le _, rfl, W1, C1, [], [], ys, ⟨.refl, Nat.le_refl _, fun a o _ h _ n => ⟨h, n⟩⟩, st2, n2, upd_same, .nil, Nat.zero_le _, by rw [List.drop_zero]; exact e2, rfl⟩, ?_⟩
  rintro i m H2 ⟨hi, rfl, W2, C2, acc, us, rest, t3, st3, n3, hD3, racc, hacc, erest, eys⟩
  have wk2 : ∀ {W' C' H'}, StepX Dp W1 C1 (upd H1 Dp (.lst [])) W' C' H' → Step W1 C1 H1 W' C' H' := fun s => (t2.x.trans s).st hD
  by_cases hlt : i < ds.length
  · have hd : ds[i]? = some ds[i] := List.getElem?_eq_getElem hlt
    have hdr : ds.drop i = ds[i] :: ds.drop (i + 1) := List.drop_eq_getElem_cons hlt
    obtain ⟨go_, y_⟩ := wk.item i _ hd W2 C2 H2 (wk2 t3) st3
    refine .inr ⟨go_, fun H => ∃ W C acc us rest', StepX Dp W1 C1 (upd H1 Dp (.lst [])) W C H ∧ StR G W C H ∧ ¬ Own W C Dp ∧ H Dp = some (.lst us) ∧ RepVs G W acc us ∧ acc.length ≤ i + 1 ∧ lcF gf tt fe vs (ds.drop (i + 1)) sl C = .ok rest' Ce ∧ ys = acc ++ rest', fun H' n => ⟨_, ?_, hlt, rfl, n⟩, fun x H4 y => ?_⟩
    · omega
    obtain ⟨W4, t4, st4, r4⟩ := y_ x H4 y
    rw [hdr] at erest
    unfold lcF at erest
    cases eg : gf ds[i] (wipeD sl vs) C2 with
    | none => rw [eg] at erest; cases erest
    | some s' =>
      rw [eg] at erest
      have hD4 := (t4.fr Dp _ hD3 pla_lst n3).1
      have n4 := (t4.fr Dp _ hD3 pla_lst n3).2
      refine go _ x (wipeD sl vs) s' (L2.wipe σ vs) W4 C2 H4 _ st4 r4 ((rs.up (t1.le.trans (t3.le.trans t4.le))).wipe vs) eg fun σ' rs' hw => ⟨?_, hTT _ _ _ ⟨W4, s', C2, rs', st4, ?_⟩⟩
      · rw [hw vs ht]
        have ww : ∀ us : List Nat, L2.wipe (L2.wipe σ vs) us = L2.wipe (L2.wipe σ vs) us := fun _ => rfl
        have : ∀ (ks : List Nat), (∀ k ∈ ks, k ∈ vs) → L2.wipe (L2.wipe σ vs) ks = L2.wipe σ vs := fun ks => by
          induction ks with
          | nil => intro _; rfl
          | cons k ks ih =>
            intro hk
            show (L2.wipe (L2.wipe σ vs) ks).set k none = _
            rw [ih fun z hz => hk z (List.mem_cons_of_mem _ hz)]
            have gone : ∀ (ms : List Nat), k ∈ ms → (L2.wipe σ ms).set k none = L2.wipe σ ms := fun ms => by
              induction ms with
              | nil => intro h; cases h
              | cons m ms ih2 =>
                intro h
                unfold L2.wipe
                by_cases e : m = k
                · subst e; rw [List.set_set]
                · rcases List.mem_cons.mp h with z | z
                  · exact absurd z.symm e
                  · rw [List.set_comm _ _ e, ih2 z]
            exact gone vs (hk k List.mem_cons_self)
        exact this vs fun _ h => h
      · cases et : tt s' C2 with
        | no => simp only [et] at erest; cases erest
        | err c C5 => simp only [et] at erest; cases erest
        | ok b C5 =>
          simp only [et] at erest
          intro W5 b' H5 t5 st5 eb
          subst eb
          have hD5 := (t5.fr Dp _ hD4 pla_lst n4).1
          have n5 := (t5.fr Dp _ hD4 pla_lst n4).2
          have tt5 := t3.trans (t4.trans t5).x
          cases b with
          | false =>
            rw [if_neg Bool.false_ne_true]
            exact ⟨W5, C5, acc, us, rest, tt5, st5, n5, hD5, racc.up (t4.trans t5).le, Nat.le_succ_of_le hacc, erest, eys⟩
          | true =>
            rw [if_pos rfl]
            refine hTD _ _ _ ⟨W5, s', C5, rs'.up t5.le, st5, ?_⟩
            cases ef : fe s' C5 with
            | no => simp only [ef] at erest; cases erest
            | err c C6 => simp only [ef] at erest; cases erest
            | ok y C6 =>
              simp only [ef] at erest
              cases el : lcF gf tt fe vs (ds.drop (i + 1)) sl C6 with
              | no => rw [el] at erest; cases erest
              | err c C7 => rw [el] at erest; cases erest
              | ok ys' C7 =>
                rw [el] at erest
                cases erest
                intro W6 v6 H6 t6 st6 r6
                have hD6 := (t6.fr Dp _ hD5 pla_lst n5).1
                have n6 := (t6.fr Dp _ hD5 pla_lst n5).2
                refine ⟨us, hD6, ?_, W6, C6, acc ++ [y], us ++ [v6], ys', (tt5.trans t6.x).trans (stepX_set n6), fr_outset st6 n6 hD6 pla_lst, n6, upd_same, (racc.up ((t4.trans t5).trans t6).le).append (.cons r6 .nil), ?_, el, by rw [eys]; simp⟩
                · rw [← racc.length, ← mxl_eq]; omega
                · rw [List.length_append, List.length_singleton]; omega
  · have ei : i = ds.length := by omega
    subst ei
    rw [List.drop_length] at erest
    cases erest
    rw [List.append_nil] at eys
    subst eys
    refine .inl ⟨wk.stop W2 _ H2 (wk2 t3) st3, hfin σ W2 _ H2 _ us Dp Q st3 n3 hD3 racc fun W5 C5 H5 t5 e5 d v st5 r5 ef => ?_⟩
    rw [ef] at q
    exact q W5 v H5 (t1.trans ((t2.x.trans (t3.trans t5)).st hD)) st5 r5

noncomputable def lcTRG (k : Wk) (fo : EF) (tg : GF) (t : Nat → List (List Key × D) → TF) (f : Nat → List (List Key × D) → EF) (vs : List Nat) (fin : List D → Cells → Res D) : EF := fun s C => match fo s C with
  | .ok (.cel n) _ => (match C.get n with
    | some (.dt l) => (match fo s (C.del n) with
      | .ok (.cel m) C1 => if m = n then (match lcF tg (t n l) (f n l) vs (k.ds l) s C1 with
        | .ok ys C2 => (match fin ys C2 with
          | .ok d C3 => if l.length ≤ mxl then .ok d (C3.put n (.dt l)) else .no
          | _ => .no)
        | _ => .no) else .no
      | _ => .no)
    | _ => .no)
  | _ => .no
noncomputable def eLcTR (k : Wk) (fo : EF) (tg : GF) (t : Nat → List (List Key × D) → TF) (f : Nat → List (List Key × D) → EF) (vs : List Nat) : EF := lcTRG k fo tg t f vs fun ys C => .ok (.lst ys) C
def tTR (G : Glo) (tt : Nat → List (List Key × D) → TF) : TT := fun σ H Q => ∃ w1 n l, LkF (G.at_ w1) n l ∧ tTs (G.at_ w1) DL.W0 (tt n l) σ H Q
def tDR (G : Glo) (fe : Nat → List (List Key × D) → EF) : TE := fun σ H Q => ∃ w1 n l, LkF (G.at_ w1) n l ∧ tD (G.at_ w1) DL.W0 (fe n l) σ H Q
theorem lcTR_use (k : Wk) (hq : NoFrz G) {t : TG} {gf : GF} {tch vs : List Nat} {tt : Nat → List (List Key × D) → TF} {fo : EF} {fe : Nat → List (List Key × D) → EF} (go : ∀ w1, GOk (G.at_ w1) t gf tch) (ht : ∀ i ∈ tch, i ∈ vs)
    {σ : L2.St} {H : Hp} {Q : VK} {W : Wd} {sl : Sl} {C : Cells} (rs : RepS G W sl σ) (st : StR G W C H)
    (q : Post G Wx σ (RepV G) W C H (eLcTR k fo gf tt fe vs sl C) Q) : tLockE (tLc (k.wi (tD G Wx fo)) t (tTR G tt) (tDR G fe) vs) σ H Q := by
  unfold eLcTR lcTRG at q
  split at q
  rotate_left
  · exact q.elim
  rename_i n C0 e0
  split at q
  rotate_left
  · exact q.elim
  rename_i l hn
  split at q
  rotate_left
  · exact q.elim
  rename_i m C1 e1
  split at q
  rotate_left
  · exact q.elim
  rename_i hm
  subst hm
  split at q
  rotate_left
  · exact q.elim
  rename_i ys C2 e2
  by_cases hz : l.length ≤ mxl
  rotate_left
  · simp only [if_neg hz] at q
    exact q.elim
  simp only [if_pos hz] at q
  obtain ⟨a, ho, h1, h2, h3, kvs, rfl, h4⟩ := st.cells m _ hn
  refine ⟨a, _, h3, trivial, fun od => ?_⟩
  obtain ⟨st1, le1⟩ := lkr_in (od := od) st hn h1 h3
  have ka : (W.lk a od kvs).F a = some (.frz od (.dT kvs)) := upd_same
  have hqa : ∀ k vs, G.oq k vs a ≠ .frz od (.dT kvs) := fun k vs => hq k vs a od _
  have core : ∀ (W1 : Wd) (v : V) (H1 : Hp), Step (W.lk a od kvs) (C.del m) (upd H a (.frz od (.dT kvs))) W1 C1 H1 → StR G W1 C1 H1 → RepV G W1 (.cel m) v → ∃ b o kvs', v = .ref b ∧ H1 b = some (.frz o (.dT kvs')) ∧ tLc (fun _ _ R => R (k.it b o kvs') H1) t (tTR G tt) (tDR G fe) vs σ H1 fun v H' => H' a = some (.frz od (.dT kvs)) ∧ Q v (upd H' a (.dT kvs)) := by
    intro W1 v H1 t1 st1' rr
    obtain ⟨b, rfl, hb⟩ := rr.cel_
    rw [t1.le.cm m a h1] at hb; cases hb
    have f1 : W1.F a = some (.frz od (.dT kvs)) := t1.le.F _ _ ka
    have rk : RepKV (G.at_ W1) W1 l kvs := repKV_at.2 (RepKV.up (le1.trans t1.le) h4)
    have hL : LkF (G.at_ W1) m l := ⟨a, od, kvs, t1.le.cm m a h1, f1, rk⟩
    refine ⟨a, od, kvs, rfl, st1'.F _ _ f1, lc_bodyR (G := G.at_ W1) (Wx := Wx) (fun σ H Q z => ⟨W1, m, l, hL, z⟩) (fun σ H Q z => ⟨W1, m, l, hL, z⟩) (go W1) ht fin_lst ((rs.up (le1.trans t1.le)).to) (st1'.to .refl) (wlk_lk k f1 rk) e2 (by rw [k.len]; exact hz) ?_⟩
    intro W3 v3 H3 t3 st3 r3
    obtain ⟨z1, z0, z2, z3⟩ := lkr_out hq st hn h1 h3 h4 (t1.trans t3) (st3.of st1'.lnk)
    exact ⟨z1, q _ v3 _ z3 z2 (repV_rm z0 hqa (repV_at.1 r3))⟩
  have q0 : tD G Wx fo σ (upd H a (.frz od (.dT kvs))) fun v H1 => ∃ b o kvs', v = .ref b ∧ H1 b = some (.frz o (.dT kvs')) ∧ tLc (fun _ _ R => R (k.it b o kvs') H1) t (tTR G tt) (tDR G fe) vs σ H1 fun v H' => H' a = some (.frz od (.dT kvs)) ∧ Q v (upd H' a (.dT kvs)) :=
    ⟨W.lk a od kvs, sl, C.del m, rs.up le1, st1, by rw [e1]; exact core⟩
  cases k <;> exact q0
end
section
variable {X : Cx} {G : Glo} {Wx : WX} {pos : Pos} {elt tg o : Expr} {ifs : List Expr} {scope : Scope} {own : List (Str × Nat)} {t : TG} {gf : GF} {tch : List Nat} {tt : Nat → List (List Key × D) → TF} {fe : Nat → List (List Key × D) → EF} {fo : EF}
theorem de_lcTR (k : Wk) (hq : NoFrz G) {iter : Expr} (hi : PI X tg iter (k.wi (tD G Wx fo))) (hc : X.calm = true) (hN : X.N.Nodup) (ok : BlkOk X.N X.env.scope scope own) (go : ∀ w1, GOk (G.at_ w1) t gf tch) (htc : ∀ i ∈ tch, i ∈ own.map (·.2))
    (hg : ∀ (s : Shared) (H : Hp) (C : Addr) (cl : List (Str × Addr)) (fp : List Addr), PG (X.blk s H scope (compEnvC scope cl C X.env) fp) tg t)
    (ht : ∀ (w1 : Wd) (n : Nat) (l : List (List Key × D)), LkF (G.at_ w1) n l → ∀ (s : Shared) (H : Hp) (C : Addr) (cl : List (Str × Addr)) (fp : List Addr), DTs (X.blk s H scope (compEnvC scope cl C X.env) fp) (G.at_ w1) W0 ifs (tt n l))
    (he : ∀ (w1 : Wd) (n : Nat) (l : List (List Key × D)), LkF (G.at_ w1) n l → ∀ (s : Shared) (H : Hp) (C : Addr) (cl : List (Str × Addr)) (fp : List Addr), DE (X.blk s H scope (compEnvC scope cl C X.env) fp) (G.at_ w1) W0 elt (fe n l)) (hs : ∀ x, foldedSetIterable iter X.env x = pure x := by intro _; rfl) :
    DE X G Wx (.ListComp elt [⟨tg, iter, ifs, 0⟩] scope pos) (eLcTR k fo gf tt fe (own.map (·.2))) :=
  ⟨PE.weak (pe_lock (pe_lc hc hN hi ok hg (tt := tTR G tt) (te := tDR G fe) (fun s H C cl fp => ⟨fun pins s' σ H' Q I ⟨w1, n, l, hl, z⟩ => (ht w1 n l hl s H C cl fp).pts.run pins s' σ H' Q I z⟩) (fun s H C cl fp => ⟨fun pins s' σ H' Q I ⟨w1, n, l, hl, z⟩ => (he w1 n l hl s H C cl fp).pe.run pins s' σ H' Q I z⟩) hs)) fun σ H Q ⟨W, sl, C, rs, st, q⟩ => lcTR_use k hq go htc rs st q⟩
end
end DL

set_option Elab.async false
set_option linter.all false
set_option maxRecDepth 100000
set_option autoImplicit false
/-! is and is not between bools -/
namespace DL
open PySem PySem.Spec PyProof.Rows L2
section
variable {X : Cx} {G : Glo}
def dIsB (x y : D) (C : Cells) : Res D := match x, y with
  | .bl a, .bl b => .ok (.bl (decide (a = b))) C
  | _, _ => .no
def dNotB (x y : D) (C : Cells) : Res D := match x, y with
  | .bl a, .bl b => .ok (.bl (!decide (a = b))) C
  | _, _ => .no
def rIsBl : R2 := fun x y H Q => ∃ a b, x = .bl a ∧ y = .bl b ∧ Q (.bl (decide (a = b))) H
def rNotBl : R2 := fun x y H Q => ∃ a b, x = .bl a ∧ y = .bl b ∧ Q (.bl (!decide (a = b))) H
theorem op_isB : OpR X (compareOp .Is) rIsBl := op_is_bl
theorem op_notB : OpR X (compareOp .IsNot) rNotBl := op_isnot_bl
theorem o2_isB : Op2 G rIsBl dIsB := fun Wx σ W C H x y v u Q st rx ry q => by
  unfold dIsB at q
  split at q
  · exact ⟨_, _, rx.bl_, ry.bl_, q W _ H .refl st .bl⟩
  · exact q.elim
theorem o2_notB : Op2 G rNotBl dNotB := fun Wx σ W C H x y v u Q st rx ry q => by
  unfold dNotB at q
  split at q
  · exact ⟨_, _, rx.bl_, ry.bl_, q W _ H .refl st .bl⟩
  · exact q.elim
end
end DL

set_option Elab.async false
set_option linter.all false
set_option maxRecDepth 100000
set_option autoImplicit false
/-! sorted(set(xs)), xs a list of ints of any length below the scan's bound -/
namespace DL
open PySem PySem.Spec PyProof.Rows L2
/-- an empty set, just made -/
abbrev mtSet (w : World) : Obj :=
  { cls := .type "set", dict := none,
    data := .set #[] 0 (.fresh 0 0 (!w.params.followText "set-order")) }
section
variable {P : Program} {w : World} {A : Around} {E : Value → Shared → Prop} {s : Shared}
theorem int_items {items : Array Value} {ns : List Int} (hit : IntsAre items.toList ns) (e : items.size = ns.length) (i : Nat) (v : Value) (hv : items[i]? = some v) : ∃ k t, ns[i]? = some k ∧ v = .int k t := by
  have hi : i < ns.length := e ▸ (Array.getElem?_eq_some_iff.mp hv).1
  have ⟨t, q⟩ := IntsAre.int_at hit i v ((Array.getElem?_toList ..).trans hv)
  exact ⟨ns[i], t, List.getElem?_eq_getElem hi, by
    rw [q, List.getD_eq_getElem?_getD, List.getElem?_eq_getElem hi] <;> rfl⟩
set_option maxHeartbeats 3200000 in
theorem made_set {l : Addr} {items : Array Value} (ns : List Int) {Q : Value → Shared → Prop}
    (hh : A.handled = none) (hl : s.heap.IsList l items) (hit : IntsAre items.toList ns) (hb : ns.length + 1 < scanBound)
    (h : ∀ (h' : Heap) (tk c : Nat), SetR w h' s.heap.objs.size (fun j => decide (j ∈ ns)) c → c ≤ ns.length →
      (∀ b o, s.heap.get? b = some o → h'.get? b = some o) → Q (.ref s.heap.objs.size) { s with heap := h', toks := tk }) :
    wpAny (model P w) A (call (.type "set") [.ref l]) Q E s := by
  have size : items.size = ns.length := (Array.length_toList (xs := items)).symm.trans (IntsAre.length hit)
  obtain ⟨c, tl, hmro⟩ := F.called_set.mro
  have k1 := F.called_set.made
  have k2 := F.called_set.sub
  refine wpAny_call (codeAny_of_tree ?_)
  show wpAny _ _ (callAny (.type "set") _) _ _ _
  refine wpAny_pure ⟨Code.quiet_builtin _ (by decide +kernel), codeAny_builtin F.entry_type_call ?_⟩
  rw [Around.under_plain (weight_type_call_type "set" [.ref l] []) rfl]
  have k3 := F.called_set.notType
  have k4 := F.called_set.canCreate
  have k5 := F.typeCall_set_1 (.ref l)
  repeat (any_goals (first | assumption | wp_step))
  refine codeAny_mono (code_set_led1 (.ref l) (E := E)
    (Q₁ := fun obj s₁ => obj = .ref s.heap.objs.size ∧ s₁ = { s with heap := s.heap.push (mtSet w) }) ⟨rfl, rfl⟩) fun r s₁ hr => ?_
  cases r with
  | error e => exact hr
  | ok fl =>
    cases fl with
    | ret obj =>
      obtain ⟨rfl, rfl⟩ := hr
      have g0 : (s.heap.push (mtSet w)).get? s.heap.objs.size = some (mtSet w) := Heap.get?_push_size _ rfl
      have ty : Shared.TypeIs { s with heap := s.heap.push (mtSet w) } (.ref s.heap.objs.size) "set" := ⟨_, g0, rfl⟩
      have k6 := F.called_set.init.lookup
      have k7 := F.called_set.init.bind (.ref s.heap.objs.size)
      repeat (any_goals (first | assumption | wp_step))
      refine codeAny_mono (codeAny_call_builtin
        (R := wants (fun r s₂ => r = .none ∧ ∃ h' tk c, s₂ = { s with heap := h', toks := tk } ∧ SetR w h' s.heap.objs.size (fun j => decide (j ∈ ns)) c ∧
          c ≤ ns.length ∧ ∀ b o, s.heap.get? b = some o → h'.get? b = some o) E)
        F.called_set.init.plain F.entry_set_init (check_set_init_1 ty ?_)) fun r₂ s₂ hr₂ => ?_
      · obtain ⟨⟨ocls, od, oda, osl⟩, hol, hcl, nl, hdl⟩ := hl
        simp only at hcl hdl
        subst hcl hdl
        have hol1 := Heap.get?_push_of_some (mtSet w) hol
        have k8 := F.sub_list_set
        have k9 := F.sub_list_frozenset
        have k10 : (Value.type "list" == Value.type "dict") = false := by decide
        have isl : (s.heap.push (mtSet w)).IsList l items := ⟨_, hol1, rfl, nl, rfl⟩
        unfold Builtin.«set.__init__» noKeywords Builtin.Frozenset.updateFrom
        generalize hPI : pyIter = PI
        wp_walk
        subst hPI
        refine wpAny_pyIter_list isl ?_
        refine wpAny_bind (wpAny_runValue ?_)
        have lt : l < s.heap.objs.size := Heap.lt_size hol
        have sz : (s.heap.push (mtSet w)).objs.size = s.heap.objs.size + 1 := Heap.size_push ..
        have ne1 : l ≠ (s.heap.push (mtSet w)).objs.size := by
          rw [sz]
          exact fun z => Nat.lt_irrefl _ (Nat.lt_trans (Nat.lt_succ_self _) (z ▸ lt))
        have nin : s.heap.objs.size ∉ [(s.heap.push (mtSet w)).objs.size, l] := by
          rw [sz]
          intro z
          rcases List.mem_cons.mp z with z | z
          · exact Nat.succ_ne_self _ z.symm
          · exact Nat.lt_irrefl _ ((List.mem_singleton.mp z) ▸ lt)
        refine set_update_ints ((Walks.list (by simp [hh]) _ l ne1 items).toS) s.heap.objs.size nin ns size hb (int_items hit size)
          (items.size - 0) 0 _ (by omega) (Nat.zero_le _) ⟨⟨_, Heap.get?_push_size _ rfl, rfl, rfl⟩, isl.push _⟩ ?first ?last
        case first => exact ⟨0, Nat.le_refl 0, setR_new_at (Heap.get?_push_of_some _ g0)⟩
        case last =>
          rintro ⟨h', g2, d', tk', os'⟩ c' hm hc' hS'
          have eg : g2 = s.gens := hm.gens
          have ed : d' = s.drawn := hm.drawn
          have eo : os' = s.os := hm.os
          subst eg ed eo
          show wpAny _ _ _ _ _ _
          refine wpAny_pure ?_
          show wpAny _ _ (ret Value.none) _ _ _
          refine wpAny_pure ⟨rfl, h', tk', c', rfl, hS', size ▸ hc', fun b o e => ?_⟩
          have hb0 : b < s.heap.objs.size := Heap.lt_size e
          refine hm.heap b o (fun z => ?_) (Heap.get?_push_of_some _ (Heap.get?_push_of_some _ e))
          rcases List.mem_cons.mp z with z | z
          · exact Nat.lt_irrefl _ (z ▸ hb0)
          · have z := (List.mem_singleton.mp z).trans sz
            exact Nat.lt_irrefl _ (Nat.lt_trans (Nat.lt_succ_self _) (z ▸ hb0))
      · cases r₂ with
        | error e => exact hr₂
        | ok fl₂ =>
          cases fl₂ with
          | ret r =>
            obtain ⟨rfl, h', tk, c', rfl, hS', hc', hk'⟩ := hr₂
            repeat (any_goals (first | assumption | wp_step))
            exact h _ _ _ hS' hc' hk'
          | _ => exact hr₂.elim
    | _ => exact hr.elim
set_option maxHeartbeats 4000000 in
/-- sorted of a set of ints, of any size -/
theorem sort_set {a : Addr} {S : Int → Bool} {n : Nat} {Q : Value → Shared → Prop} (R : SetR w s.heap a S n) (hh : A.handled = none)
    (hQ : ∀ s' p (out : Array Value) (c : Nat) (ns : List Int), (∀ b o, s.heap.get? b = some o → s'.heap.get? b = some o) → s'.gens = s.gens → s'.os = s.os →
      s.heap.objs.size ≤ p → s'.heap.get? p = some (seqObj "list" out c) → IntsAre out.toList ns → ns.Pairwise (· < ·) → (∀ k, k ∈ ns ↔ S k = true) → ns.length = n → Q (.ref p) s') :
    wpAny (model P w) A (call (.builtin "sorted") [.ref a]) Q E s := by
  obtain ⟨o, es, ep, t, ho, hex, hd, g, nd, hm, hb, hf, hn, hr, hl⟩ := R
  refine Calls.call_function_entry kind_sorted plain_sorted entry_sorted (args_sorted1 _) ?_
  unfold Builtin.«sorted»
  refine wpAny_bind (m := checkCount "sorted" 1 1 _) (wpAny_pure (wpAny_bind ?_))
  refine collect_set (A := A.in1) hh ⟨o, ho, hex.1, hd⟩ hf hb hr hl fun s1 vs old above g1 o1 pm => ?_
  have perm : (vs.map Builtin.Re.reRawOf).Perm (es.toList.map L2.keyOf) := by
    have q := pm.map Builtin.Re.reRawOf
    rwa [List.map_map] at q
  have len : vs.length = n := by
    rw [pm.length_eq, List.length_map, Array.length_toList]
    exact hn
  have are : IntsAre vs (vs.map Builtin.Re.reRawOf) := ints_of vs fun v hv => by
    have ⟨e, he, q⟩ := List.mem_map.mp (pm.mem_iff.mp hv)
    have ⟨k, tk, h1, _⟩ := g e he
    exact ⟨k, tk, q ▸ h1⟩
  have fit : vs.length ≤ sizeLine := by
    rw [len, ← hn]
    exact fits_of_scanBound hb
  refine wpAny_bind (wpAny_newList ?_ fit)
  have at1 : (s1.heap.push (seqObj "list" vs.toArray 0)).get? s1.heap.objs.size = some (seqObj "list" vs.toArray 0) := Heap.get?_push_size _ rfl
  refine wpAny_bind (wpAny_holding (wpAny_call_entry slot_list_sort ⟨_, at1, rfl⟩ entry_list_sort ?_ (args_list_sort _)))
  refine SrtO.list_sort_ord SrtO.swo_int at1 fit (fun h2 => SrtO.ints_sortable are h2) fun out h1 h2 => ⟨_, rfl, ?_⟩
  have ⟨i1, i2, i3⟩ := SrtO.ints_out are h1 h2
  have ⟨c, hc⟩ := sortedHeap_at (vs := vs) (out := out.toArray) at1
  have p2 : (out.map SrtO.iv).Perm (es.toList.map L2.keyOf) := i2.trans perm
  refine wpAny_pure ⟨_, rfl, hQ _ s1.heap.objs.size out.toArray c (out.map SrtO.iv) (fun b u e => ?_) g1 o1 above hc i1 (lt_of_le_nodup _ i3 (p2.nodup_iff.mpr nd)) (fun k => p2.mem_iff.trans (hm k).symm) ?_⟩
  · have q := old b u e
    have lt := Heap.lt_size q
    have lt2 : b < (s1.heap.push (seqObj "list" vs.toArray 0)).objs.size := by
      rw [size_push']
      exact Nat.lt_succ_of_lt lt
    have e2 : (sortedHeap (s1.heap.push (seqObj "list" vs.toArray 0)) s1.heap.objs.size vs out.toArray).get? b = (s1.heap.push (seqObj "list" vs.toArray 0)).get? b := sortedHeap_old (Nat.ne_of_lt lt) lt2
    have e3 : (s1.heap.push (seqObj "list" vs.toArray 0)).get? b = some u := Heap.get?_push_of_some _ q
    exact e2.trans e3
  · rw [p2.length_eq, List.length_map, Array.length_toList]
    exact hn
end
end DL

set_option Elab.async false
set_option linter.all false
set_option maxRecDepth 100000
set_option autoImplicit false
/-! sorted(set(xs)) of ints, as data -/
namespace L2
open PySem PySem.Spec PyProof.Rows
def rSetOfL (K : PySem.W.Frag) (w : World) : List V → Hp → VK → Prop := fun vs H Q => ∃ (l : Addr) (ns : List Int), vs = [V.ref l] ∧ SqL K H l (ns.map V.int) ∧ ns.length + 1 < scanBound ∧
  ∀ (p : Addr) (c : Nat), H p = none → Q (.ref p) (upd H p (SetO w p (fun j => decide (j ∈ ns)) c))
def rSortedSetW (w : World) : List V → Hp → VK → Prop := fun vs H Q => ∃ (a : Addr) (S : Int → Bool) (n : Nat), vs = [V.ref a] ∧ H a = some (SetO w a S n) ∧
  ∀ (ns : List Int) (p : Addr), ns.Pairwise (· < ·) → (∀ k : Int, k ∈ ns ↔ S k = true) → H p = none → Q (.ref p) (upd H p (.lst (ns.map V.int)))
section
variable {X : Cx}
theorem cr_setL (hc : X.calm = true) : CallR X (.type "set") (rSetOfL X.K X.w) := by
  intro pins s σ H vs us Q I r h
  obtain ⟨l, ns, rfl, hs, hb, q⟩ := h
  obtain ⟨its, rv, hl, hz⟩ := I.list hs
  rw [Vals.ref1 r]
  refine DL.made_set ns (I.ok.hd hc) hl.isList (by simpa using rv.ints) hb fun h' tk c R hle k => ?_
  exact ⟨.ref _, upd H s.heap.objs.size (SetO X.w s.heap.objs.size (fun j => decide (j ∈ ns)) c), I.laid (t' := tk) k (Nat.le_refl _) (setO_new R), rfl, q _ c (I.hok.fresh (Nat.le_refl _))⟩
theorem cr_sortSet (hc : X.calm = true) : CallR X (.builtin "sorted") (rSortedSetW X.w) := by
  intro pins s σ H vs us Q I r h
  obtain ⟨a, S, n, rfl, ha, q⟩ := h
  have R := setO_get I ha
  rw [Vals.ref1 r]
  have nb : n ≤ sizeLine := by
    obtain ⟨o, es, ep, t, ho, hex, hd, g, nd, hm, hb, hf, hn, hr, hl⟩ := R
    rw [← hn]; exact fits_of_scanBound hb
  refine DL.sort_set R (I.ok.hd hc) fun s' p out c ns k g o hp hg hi hs hm hl => ?_
  have len : (ns.map V.int).length ≤ sizeLine := by rw [List.length_map, hl]; exact nb
  have hn : H p = none := I.hok.fresh hp
  have new : ObjOk X.prog X.w (upd H p (.lst (ns.map V.int))) s'.heap p (.lst (ns.map V.int)) := ⟨len, out.toList, c, vals_of_ints hi, hg⟩
  have J : Inv X pins σ (upd H p (.lst (ns.map V.int))) s' := I.call' (ch := []) o (Un.laid k hp hn) (I.hok.laid k hp new) (by rw [g]; exact I.bare) (fun _ z => nomatch z)
  exact ⟨.ref p, _, J, rfl, q ns p hs hm hn⟩
end
end L2
namespace DL
open PySem PySem.Spec PyProof.Rows L2
def insU (x : Int) : List Int → List Int
  | [] => [x]
  | a :: l => if x < a then x :: a :: l else if x = a then a :: l else a :: insU x l
/-- the numbers of a list, each once, in order -/
def sortU (l : List Int) : List Int := l.foldr insU []
theorem insU_ok {x : Int} : ∀ {l : List Int}, l.Pairwise (· < ·) → (insU x l).Pairwise (· < ·) ∧ ∀ y, y ∈ insU x l ↔ y = x ∨ y ∈ l
  | [], _ => ⟨List.pairwise_singleton _ _, by simp [insU]⟩
  | a :: l, h => by
    obtain ⟨h1, h2⟩ := List.pairwise_cons.1 h
    unfold insU
    split
    · rename_i q
      refine ⟨List.pairwise_cons.2 ⟨fun y m => ?_, h⟩, by simp⟩
      rcases List.mem_cons.1 m with rfl | m
      · exact q
      · exact Int.lt_trans q (h1 y m)
    · split
      · rename_i q
        subst q
        exact ⟨h, by simp⟩
      · obtain ⟨i1, i2⟩ := insU_ok (x := x) h2
        refine ⟨List.pairwise_cons.2 ⟨fun y m => ?_, i1⟩, fun y => ?_⟩
        · rcases (i2 y).1 m with rfl | m
          · omega
          · exact h1 y m
        · rw [List.mem_cons, i2, List.mem_cons]
          constructor
          · rintro (h | h | h) <;> simp [h]
          · rintro (h | h | h) <;> simp [h]
theorem sortU_ok : ∀ l : List Int, (sortU l).Pairwise (· < ·) ∧ ∀ y, y ∈ sortU l ↔ y ∈ l
  | [] => ⟨List.Pairwise.nil, fun _ => Iff.rfl⟩
  | a :: l => by
    obtain ⟨h1, h2⟩ := sortU_ok l
    obtain ⟨i1, i2⟩ := insU_ok (x := a) h1
    refine ⟨i1, fun y => ?_⟩
    show y ∈ insU a (sortU l) ↔ _
    rw [i2, h2, List.mem_cons]
theorem lt_uniq : ∀ {l m : List Int}, l.Pairwise (· < ·) → m.Pairwise (· < ·) → (∀ x, x ∈ l ↔ x ∈ m) → l = m
  | [], [], _, _, _ => rfl
  | [], b :: m, _, _, h => by have := (h b).2 (by simp); cases this
  | a :: l, [], _, _, h => by have := (h a).1 (by simp); cases this
  | a :: l, b :: m, hl, hm, h => by
    obtain ⟨a1, a2⟩ := List.pairwise_cons.1 hl
    obtain ⟨b1, b2⟩ := List.pairwise_cons.1 hm
    have e : a = b := by
      rcases List.mem_cons.1 ((h a).1 (by simp)) with e | m1
      · exact e
      · rcases List.mem_cons.1 ((h b).2 (by simp)) with e | m2
        · exact e.symm
        · have := a1 b m2
          have := b1 a m1
          omega
    subst e
    congr 1
    refine lt_uniq a2 b2 fun x => ?_
    have hx := h x
    rw [List.mem_cons, List.mem_cons] at hx
    constructor
    · intro m1
      rcases hx.1 (.inr m1) with e | m2
      · have := a1 x m1; omega
      · exact m2
    · intro m1
      rcases hx.2 (.inr m1) with e | m2
      · have := b1 x m1; omega
      · exact m2
/-- sorted(set(x)) -/
def bSortSet (d : D) (C : Cells) : Res D := match (lstOf C d).bind asInts with
  | some ns => if ns.length < 4095 then .ok (.lst ((sortU ns).map D.int)) C else .no
  | none => .no
def eSortSet (f : EF) : EF := fun s C => (f s C).bind bSortSet
@[simp] theorem eSortSet_ap {f : EF} {s : Sl} {C : Cells} : eSortSet f s C = (f s C).bind bSortSet := (rfl)
section
variable {X : Cx} {G : Glo} {Wx : WX} {e : Expr} {f : EF} {p p2 cpos pos : Pos}
theorem de_sortSet (hk : X.K = G.K) (hc : X.calm = true) (hg : Gl X "sorted") (hm : X.mg "sorted" = none) (hg2 : Gl X "set") (hm2 : X.mg "set" = none) (he : DE X G Wx e f)
    (hst : starEach [.Call (.Name "set" p2) [e] [] cpos] X.env = (false, eval (.Call (.Name "set" p2) [e] [] cpos) X.env) :: starEach [] X.env := by rfl) (hpl : (backTo pos (starEach [] X.env)).any (·.1) = false := by rfl)
    (hst2 : starEach [e] X.env = (false, eval e X.env) :: starEach [] X.env := by rfl) (hpl2 : (backTo cpos (starEach [] X.env)).any (·.1) = false := by rfl) :
    DE X G Wx (.Call (.Name "sorted" p) [.Call (.Name "set" p2) [e] [] cpos] [] pos) (eSortSet f) :=
  ⟨PE.weak (pe_callB (cr_sortSet hc) hg hm (by decide +kernel) (pa_cons (pe_callTy (cr_setL hc) hg2 hm2 (by decide +kernel) (pa_cons he.pe pa_nil hst2) (by decide) (by decide) hst2 hpl2) pa_nil hst) (by decide) (by decide) hst hpl) fun σ H Q ⟨W, sl, C, rs, st, q⟩ => ⟨W, sl, C, rs, st, q.bind fun y C1 W1 v H1 _ t st1 rx q1 => by
    unfold bSortSet at q1
    split at q1
    rotate_left
    · exact q1.elim
    rename_i ns en
    split at q1
    rotate_left
    · exact q1.elim
    rename_i hb
    obtain ⟨a, us, l, rfl, h1, h2, h3⟩ := lst_bind st1 rx en
    refine ⟨a, ns, rfl, by rw [← asInts_ok h2 h3, hk]; exact h1, by unfold scanBound; omega, fun q c hq => ?_⟩
    obtain ⟨st2, t2, n2⟩ := fr_out (o := SetO X.w q (fun j => decide (j ∈ ns)) c) st1 hq
    refine ⟨q, _, c, rfl, upd_same, fun ms p hs hms hp => ?_⟩
    obtain rfl : ms = sortU ns := lt_uniq hs (sortU_ok ns).1 fun x => by rw [hms, (sortU_ok ns).2]; simp
    exact new_lst st2 (ints_rep _) (Post.step t2 q1) p hp⟩⟩
end
end DL

set_option Elab.async false
set_option linter.all false
set_option maxRecDepth 100000
set_option autoImplicit false
set_option maxHeartbeats 2000000
/-! sorted(d.keys()), d a dict whose keys are ints or texts -/
namespace L2
open PySem PySem.Spec PyProof.Rows PySem.W PySem.Calls
def rKeysK : V → List V → Hp → VK → Prop := fun x xs H Q => ∃ (a : Addr) (kvs : List (Key × V)), x = .ref a ∧ xs = [] ∧ H a = some (.dK kvs) ∧ ∀ p, H p = none → Q (.ref p) (upd H p (keysO p a))
def keyD1 : Key → PyData | .inl i => .int i | .inr s => .str s
def keyB (kvs : List (Key × V)) : List (V × PyData) := kvs.map fun q => (kV q.1, keyD1 q.1)
theorem dp_key1 {K : PySem.W.Frag} {H : Hp} : ∀ k : Key, Dp K H (kV k) (keyD1 k)
  | .inl i => .int i
  | .inr s => .str s
section
variable {X : Cx}
theorem mt_keysK : MtR X "dict.keys" rKeysK := by
  intro pins s σ H x xs v us Q I rx rxs h
  obtain ⟨a, kvs, rfl, rfl, ha, q⟩ := h
  cases rx
  cases rxs
  obtain ⟨z, hd, vs, rel, dd⟩ := dk_of I.hok ha
  obtain ⟨ep, o, es, ho, hx, hdat, _⟩ := dd.dictAt
  refine call_meetsIn PySem.F.slot_dict_keys ⟨o, ho, hx.1⟩ PySem.F.entry_dict_keys (PySem.F.args_dict_keys_1 _) (PySem.meets_dict_keys_raw a hd) ⟨⟨es, ep, o, ho, hx, hdat⟩, ?_⟩
  have hf : H s.heap.objs.size = none := I.hok.fresh (Nat.le_refl _)
  exact ⟨.ref s.heap.objs.size, upd H s.heap.objs.size (keysO s.heap.objs.size a), I.laid (t' := s.toks) (fun b u e => Heap.get?_push_of_some _ e) (Nat.le_refl _) (keysO_ok (Heap.get?_push_size _ rfl)), rfl, q _ hf⟩
def rSortK (K : PySem.W.Frag) : List V → Hp → VK → Prop := fun vs H Q => ∃ (v d : Addr) (kvs : List (Key × V)), vs = [V.ref v] ∧ H v = some (keysO v d) ∧ H d = some (.dK kvs) ∧ AllAlike (kvs.map fun q => keyD1 q.1) ∧ Sortable (kvs.map fun q => keyD1 q.1) ∧
  ∀ p, H p = none → Q (.ref p) (upd H p (.lst (((keyB kvs).mergeSort (dataLe false (·.2))).map (·.1))))
theorem keyD1_depth (k : Key) : (keyD1 k).depth ≤ 1 := by cases k <;> simp [keyD1, PyData.depth]
theorem cr_sortK (hc : X.calm = true) (hu : X.A.units + 64 < cLine) : CallR X (.builtin "sorted") (rSortK X.K) := by
  intro pins s σ H xs us Q I r h
  obtain ⟨v, d, kvs, rfl, hv, ha, hal, hso, q⟩ := h
  obtain rfl := Vals.ref1 r
  have view : KdlKeysView s.heap v d := (show ObjOk X.prog X.w H s.heap v (keysO v d) from I.hok v _ hv).1
  obtain ⟨z, hd, vs, rel, dd⟩ := dk_of I.hok ha
  obtain ⟨ep, hat⟩ := dd.dictAt
  have l1 : kvs.length = vs.length := by
    have := congrArg List.length rel.keys
    rwa [List.length_map, List.length_map] at this
  have hh : X.A.handled = none := I.ok.hd hc
  refine call_function_entry kind_sorted plain_sorted entry_sorted (args_sorted1 _) ?_
  unfold Builtin.«sorted»
  refine wpAny_bind (m := checkCount "sorted" 1 1 _) (wpAny_pure (wpAny_bind (collect_grown (A := X.A.in1) (kdl_keys (knd := mixKind X.prog X.w) (kvs := vs) (ep := ep)) hh ⟨view, hat⟩ (by omega) fun h' tk acc hk hlt it => ?_)))
  obtain ⟨ps, hps⟩ : ∃ ps, ps = keyB kvs := ⟨_, rfl⟩
  have pl : ps.length = kvs.length := by rw [hps]; unfold keyB; rw [List.length_map]
  have al : acc.toList.length = kvs.length := by rw [Array.length_toList, it.1, l1]
  have rv : Vals (ps.map (·.1)) acc.toList := by
    have key : ∀ (i : Nat) (x : V) (u : Value), (ps.map (·.1))[i]? = some x → acc.toList[i]? = some u → RelV x u := fun i x u hx hu' => by
      obtain ⟨k, y, e1, e2⟩ := it.2 i u (by rw [← Array.getElem?_toList]; exact hu')
      have e3 : (vs.map (·.1))[i]? = some k := by rw [List.getElem?_map, e1]; rfl
      rw [← rel.keys, List.getElem?_map] at e3
      rw [hps] at hx
      unfold keyB at hx
      rw [List.map_map, List.getElem?_map] at hx
      cases e4 : kvs[i]? with
      | none => rw [e4] at e3; cases e3
      | some w =>
        rw [e4] at e3 hx
        have e5 : w.1 = k := Option.some.inj e3
        have e6 : kV w.1 = x := Option.some.inj hx
        rw [← e6, e5]
        exact relV_key e2
    have gen : ∀ (xs : List V) (us : List Value), xs.length = us.length → (∀ (i : Nat) (x : V) (u : Value), xs[i]? = some x → us[i]? = some u → RelV x u) → Vals xs us := by
      intro xs
      induction xs with
      | nil =>
        intro us hl _
        cases us with
        | nil => exact .nil
        | cons => cases hl
      | cons x xs ih =>
        intro us hl h
        cases us with
        | nil => cases hl
        | cons u us => exact .cons (h 0 x u rfl rfl) (ih us (by simpa using hl) fun i y w h1 h2 => h (i + 1) y w (by simpa using h1) (by simpa using h2))
    exact gen _ _ (by rw [List.length_map, pl, al]) key
  have hl : acc.toList.length ≤ sizeLine := by rw [al]; exact z
  refine wpAny_bind (wpAny_newList ?_ hl)
  obtain ⟨D, hD⟩ : ∃ D, D = h'.objs.size := ⟨_, rfl⟩
  obtain ⟨h2, hh2⟩ : ∃ h2, h2 = h'.push { cls := .type "list", data := .seq acc.toList.toArray } := ⟨_, rfl⟩
  have hob : h2.get? D = some (seqObj "list" acc.toList.toArray 0) := by rw [hh2, hD]; exact Heap.get?_push_size _ rfl
  have kb : ∀ b o, s.heap.get? b = some o → h2.get? b = some o := fun b o e => by rw [hh2]; exact Heap.get?_push_of_some _ (hk b o e)
  rw [← hh2, ← hD]
  have p2 : ps.map (·.2) = kvs.map fun q => keyD1 q.1 := by rw [hps]; unfold keyB; rw [List.map_map]; rfl
  have dps : ∀ b ∈ ps, Dp X.K H b.1 b.2 := fun b m => by
    rw [hps] at m
    obtain ⟨w, _, rfl⟩ := List.mem_map.1 m
    exact dp_key1 w.1
  have er0 := each_reads I dps rv
  have er : EachIs (fun u (b : V × PyData) => ∃ as, Reads h2 u b.2 as ∧ D ∉ as) acc.toList ps := er0.mono fun u b ⟨as, r⟩ => ⟨as, PyProof.Rows.Reads.keeps kb r, fun m => by
    obtain ⟨o2, ho2⟩ := PyProof.On.reads_mem_get r D m
    have hD2 : s.heap.objs.size < D := by omega
    exact absurd (Heap.lt_size ho2) (Nat.lt_asymm hD2)⟩
  refine wpAny_bind (wpAny_holding (list_sort_data (s := { s with heap := h2, toks := tk }) (R := fun u (b : V × PyData) => RelV b.1 u) (enc := fun b => b.2) hob (each_vals rv) er (by rw [p2]; exact hal) (by rw [p2]; exact hso) (by rw [pl]; exact z) (fun b m => ?_) fun out hlen eo => ?_))
  · have dp : b.2.depth ≤ 1 := by
      rw [hps] at m
      obtain ⟨w, _, rfl⟩ := List.mem_map.1 m
      exact keyD1_depth w.1
    show X.A.units + 1 + 1 + b.2.depth < cLine
    omega
  · refine wpAny_pure ⟨_, rfl, ?_⟩
    obtain ⟨eF, heF⟩ := PyProof.Rows.sortedHeap_at (vs := acc.toList) (out := out.toArray) hob
    have hDs : D < h2.objs.size := Heap.lt_size hob
    refine ⟨.ref D, upd H D (.lst ((ps.mergeSort (dataLe false fun b => b.2)).map (·.1))), I.laid (t' := tk) (fun b o e => ?_) (by omega) ⟨?_, out, eF, vals_each eo, ?_⟩, rfl, ?_⟩
    · have hD2 : s.heap.objs.size < D := by omega
      exact (PyProof.Rows.sortedHeap_old (Nat.ne_of_lt (Nat.lt_trans (Heap.lt_size e) hD2)) (Heap.lt_size (kb b o e))).trans (kb b o e)
    · rw [List.length_map, List.length_mergeSort, pl]; exact z
    · exact heF
    · rw [hps]
      exact q D (I.hok.fresh (by omega))
end
end L2
namespace DL
open PySem PySem.Spec PyProof.Rows L2 PySem.W
open Classical
/-- sorted(d.keys()) -/
noncomputable def bSortKK (d : D) (C : Cells) : Res D := match d with
  | .cel n => (match C.get n with | some (.dk l) => if SortOk (l.map fun p => keyD p.1) then .ok (.lst (sortT (l.map fun p => keyD p.1))) C else .no | _ => .no)
  | _ => .no
noncomputable def eSortKK (f : EF) : EF := fun s C => (f s C).bind bSortKK
@[simp] theorem eSortKK_ap {f : EF} {s : Sl} {C : Cells} : eSortKK f s C = (f s C).bind bSortKK := (rfl)
theorem toP_key1 (k : Key) : toP (keyD k) = keyD1 k := by cases k <;> simp [keyD, keyD1, toP]
section
variable {X : Cx} {G : Glo} {Wx : WX} {e : Expr} {f : EF} {p apos cpos pos : Pos}
theorem de_sortKK (hk : X.K = G.K) (hc : X.calm = true) (hu : X.A.units + 64 < cLine) (hg : Gl X "sorted") (hm : X.mg "sorted" = none) (he : DE X G Wx e f)
    (hbase : attributeBase e "keys" X.env (eval e X.env) = eval e X.env := by rfl) (hline : (apos.endLine == cpos.line) = true := by rfl)
    (hst : starEach [.Call (.Attribute e "keys" apos) [] [] cpos] X.env = (false, eval (.Call (.Attribute e "keys" apos) [] [] cpos) X.env) :: starEach [] X.env := by rfl) (hpl : (backTo pos (starEach [] X.env)).any (·.1) = false := by rfl) :
    DE X G Wx (.Call (.Name "sorted" p) [.Call (.Attribute e "keys" apos) [] [] cpos] [] pos) (eSortKK f) :=
  ⟨PE.weak (pe_callB (cr_sortK hc hu) hg hm (by decide +kernel) (pa_cons (pe_bm0 PySem.F.plainAttrs_dict PySem.F.slot_dict_keys PySem.F.type_dict_keys mt_keysK he.pe hbase hline) pa_nil hst) (by decide) (by decide) hst hpl) fun σ H Q ⟨W, sl, C, rs, st, q⟩ => ⟨W, sl, C, rs, st, q.bind fun y C1 W1 v H1 _ t st1 rx q1 => by
    unfold bSortKK at q1
    split at q1
    rotate_left
    · exact q1.elim
    rename_i n
    split at q1
    · rename_i l hn
      split at q1
      · rename_i ok
        obtain ⟨a, rfl, ha⟩ := rx.cel_
        obtain ⟨b, ho, h1, h2, h3, m, rfl, h4⟩ := st1.cells _ _ hn
        rw [ha] at h1; cases h1
        refine ⟨.inr (.inr (.inl ⟨rfl, .inl ⟨m, h3⟩⟩)), a, m, rfl, rfl, h3, fun v hv => ?_⟩
        obtain ⟨st2, t2, n2⟩ := fr_out (o := keysO v a) st1 hv
        have hne : a ≠ v := fun e => by rw [e, hv] at h3; cases h3
        have e1 : (l.map fun p => keyD p.1).map toP = m.map fun q => keyD1 q.1 := by
          rw [List.map_map]
          clear q1 ok h3 hn
          induction h4 with
          | nil => rfl
          | cons h t ih => rw [List.map_cons, List.map_cons, ih]; simp only [Function.comp]; rw [toP_key1, h.1]
        refine ⟨v, a, m, rfl, upd_same, (upd_ne hne).trans h3, by rw [← e1]; exact ok.al, by rw [← e1]; exact ok.so, fun p hp => ?_⟩
        have e2 : keyB m = l.map fun p => (kV p.1, keyD1 p.1) := by
          unfold keyB
          clear q1 ok h3 hn e1
          induction h4 with
          | nil => rfl
          | cons h t ih => rw [List.map_cons, List.map_cons, ih, h.1]
        have ef : (fun p : Key × D => toP (keyD p.1)) = fun p => keyD1 p.1 := funext fun p => toP_key1 p.1
        have e3 : ((keyB m).mergeSort (dataLe false (·.2))).map (·.1) = (l.mergeSort (dataLe false fun p => toP (keyD p.1))).map fun p => kV p.1 := by
          rw [ef, e2, ← List.map_mergeSort (r := dataLe false fun p : Key × D => keyD1 p.1) (f := fun p : Key × D => (kV p.1, keyD1 p.1)) (fun _ _ _ _ => rfl), List.map_map]
          rfl
        have e4 : sortT (l.map fun p => keyD p.1) = (l.mergeSort (dataLe false fun p => toP (keyD p.1))).map fun p => keyD p.1 := by
          rw [List.map_mergeSort (r := dataLe false fun p : Key × D => toP (keyD p.1)) (s := dataLe false toP) (f := fun p : Key × D => keyD p.1) (fun _ _ _ _ => rfl)]
          rfl
        rw [e3]
        refine new_lst st2 ?_ (Post.step t2 q1) p hp
        rw [e4]
        have kr : ∀ (k : Key) (W : Wd), RepV G W (keyD k) (kV k) := fun k W => by
          cases k with
          | inl i => exact .int
          | inr s => exact .str
        have lr : ∀ (l : List (Key × D)) (W : Wd), RepVs G W (l.map fun p => keyD p.1) (l.map fun p => kV p.1) := fun l W => by
          induction l with
          | nil => exact .nil
          | cons p l ih => exact .cons (kr p.1 W) ih
        exact lr _ _
      · exact q1.elim
    · exact q1.elim⟩⟩
end
end DL

set_option Elab.async false
set_option linter.all false
set_option maxRecDepth 100000
set_option autoImplicit false
set_option maxHeartbeats 2000000
/-! texts: str(int), int(text), join, split, index; a dict of the module with text keys and truths -/
namespace DL
open PySem PySem.Spec PyProof.Rows L2
section
variable {G : Glo}
def asStrs : List D → Option (List Str)
  | [] => some []
  | .str s :: r => (asStrs r).map (s :: ·)
  | _ => none
theorem asStrs_map : ∀ l : List Str, asStrs (l.map D.str) = some l
  | [] => rfl
  | s :: l => by
    show (asStrs (l.map D.str)).map (s :: ·) = _
    rw [asStrs_map l]; rfl
theorem asStrs_ok {W : Wd} : ∀ {l : List D} {vs : List V} {ns : List Str}, RepVs G W l vs → asStrs l = some ns → vs = ns.map V.str
  | [], _, _, r, e => by cases e; rw [r.nil_inv]; rfl
  | d :: l, _, _, r, e => by
    obtain ⟨v, vr, rfl, h1, h2⟩ := r.cons_inv
    cases d <;> simp only [asStrs] at e
    case str s =>
      cases q : asStrs l with
      | none => rw [q] at e; cases e
      | some ms =>
        rw [q] at e
        cases e
        rw [asStrs_ok h2 q, h1.str_]
        rfl
    all_goals cases e
theorem strs_rep {W : Wd} : ∀ l : List Str, RepVs G W (l.map D.str) (l.map V.str)
  | [] => .nil
  | s :: l => .cons .str (strs_rep l)
/-- str(n) -/
def bStrI (xs : List D) (C : Cells) : Res D := match xs with
  | [.int i] => if i.natAbs.log2 < 1920 then .ok (.str (toString i)) C else .no
  | _ => .no
theorem oa_strI : OpA G (fun xs H Q => ∃ i, xs = [.int i] ∧ i.natAbs.log2 < 1920 ∧ Q (.str (toString i)) H) bStrI := fun Wx σ W C H xs vs Q st rx q => by
  unfold bStrI at q
  split at q
  · split at q
    · rename_i h
      obtain ⟨v, rfl, r⟩ := rx.one
      exact ⟨_, by rw [r.int_], h, q W _ H .refl st .str⟩
    · exact q.elim
  · exact q.elim
/-- int(text) -/
def bIntS (xs : List D) (C : Cells) : Res D := match xs with
  | [.str a] => (match PySem.intText? a with | some n => if a.length ≤ 640 then .ok (.int n) C else .no | none => .no)
  | _ => .no
theorem oa_intS : OpA G (fun xs H Q => ∃ a n, xs = [.str a] ∧ PySem.intText? a = some n ∧ a.length ≤ 640 ∧ Q (.int n) H) bIntS := fun Wx σ W C H xs vs Q st rx q => by
  unfold bIntS at q
  split at q
  · split at q
    · rename_i n e
      split at q
      · rename_i h
        obtain ⟨v, rfl, r⟩ := rx.one
        exact ⟨_, n, by rw [r.str_], e, h, q W _ H .refl st .int⟩
      · exact q.elim
    · exact q.elim
  · exact q.elim
/-! the methods of texts -/
def tyS (C : Cells) (d : D) : Bool := match d with | .str _ => true | _ => false
theorem tm_str : TyM G "str" tyS := fun W C H x v st r h => by
  unfold tyS at h
  split at h
  · rw [r.str_]; rfl
  · cases h
def mJoin (x : D) (xs : List D) (C : Cells) : Res D := match x, xs with
  | .str a, [d] => (match lstOf C d with
    | some l => (match asStrs l with
      | some ys => if (ys.map (·.length)).sum + ys.length * a.length ≤ 16777216 then .ok (.str (Txt.join a ys)) C else .no
      | none => .no)
    | none => .no)
  | _, _ => .no
theorem om_join : OpM G (fun x xs H Q => ∃ a p, ∃ ys : List Str, x = .str a ∧ xs = [.ref p] ∧ (SqL G.K H p (ys.map V.str) ∨ SqT G.K H p (ys.map V.str)) ∧
    (ys.map (·.length)).sum + ys.length * a.length ≤ 16777216 ∧ Q (.str (Txt.join a ys)) H) mJoin := fun Wx σ W C H x v xs vs Q st rx rxs q => by
  unfold mJoin at q
  split at q
  · split at q
    · rename_i l e
      split at q
      · rename_i ys e2
        split at q
        · rename_i h
          obtain ⟨u, rfl, hu⟩ := rxs.one
          obtain ⟨p, us, rfl, h1, h2⟩ := lstOf_ok st hu e
          exact ⟨_, p, ys, by rw [rx.str_], rfl, .inl (by rw [← asStrs_ok h2 e2]; exact h1), h, q W _ H .refl st .str⟩
        · exact q.elim
      · exact q.elim
    · exact q.elim
  · exact q.elim
def mSplit (x : D) (xs : List D) (C : Cells) : Res D := match x, xs with
  | .str a, [.str b] => if (b.length == 0) = false ∧ a.length + 2 ≤ 16777216 then .ok (.lst ((Txt.split a b).map D.str)) C else .no
  | _, _ => .no
def mIndexS (x : D) (xs : List D) (C : Cells) : Res D := match x, xs with
  | .str a, [.str b] => (match Builtin.Str.occurrences a b 0 a.length 1 with | i :: _ => .ok (.int (i : Nat)) C | [] => .no)
  | _, _ => .no
theorem om_indexS : OpM G (fun x xs H Q => ∃ a b i rest, x = .str a ∧ xs = [.str b] ∧ Builtin.Str.occurrences a b 0 a.length 1 = i :: rest ∧ Q (.int (i : Nat)) H) mIndexS := fun Wx σ W C H x v xs vs Q st rx rxs q => by
  unfold mIndexS at q
  split at q
  · split at q
    · rename_i i rest e
      obtain ⟨u, rfl, hu⟩ := rxs.one
      exact ⟨_, _, i, rest, by rw [rx.str_], by rw [hu.str_], e, q W _ H .refl st .int⟩
    · exact q.elim
  · exact q.elim
theorem om_split : OpM G (fun x xs H Q => ∃ a b, x = .str a ∧ xs = [.str b] ∧ (b.length == 0) = false ∧ a.length + 2 ≤ sizeLine ∧ rNewStrs (Txt.split a b) H Q) mSplit := fun Wx σ W C H x v xs vs Q st rx rxs q => by
  unfold mSplit at q
  split at q
  · split at q
    · rename_i h
      obtain ⟨u, rfl, hu⟩ := rxs.one
      refine ⟨_, _, by rw [rx.str_], by rw [hu.str_], h.1, h.2, fun p hp => ?_⟩
      exact new_lst st (strs_rep _) q p hp
    · exact q.elim
  · exact q.elim
end
/-! a dict of the module: text keys, truths -/
def eKIn (neg : Bool) (kvs : List (Str × Bool)) (f : EF) : EF := fun s C => (f s C).bind fun d C => match d with
  | .str z => .ok (.bl (if neg then !(kvs.lookup z).isSome else (kvs.lookup z).isSome)) C
  | _ => .no
def eKGet (kvs : List (Str × Bool)) (f : EF) : EF := fun s C => (f s C).bind fun d C => match d with
  | .str z => (match kvs.lookup z with | some b => .ok (.bl b) C | none => .no)
  | _ => .no
@[simp] theorem eKIn_ap {neg : Bool} {kvs : List (Str × Bool)} {f : EF} {s : Sl} {C : Cells} : eKIn neg kvs f s C = (f s C).bind fun d C => match d with
  | .str z => .ok (.bl (if neg then !(kvs.lookup z).isSome else (kvs.lookup z).isSome)) C
  | _ => .no := rfl
@[simp] theorem eKGet_ap {kvs : List (Str × Bool)} {f : EF} {s : Sl} {C : Cells} : eKGet kvs f s C = (f s C).bind fun d C => match d with
  | .str z => (match kvs.lookup z with | some b => .ok (.bl b) C | none => .no)
  | _ => .no := rfl
/-- what is known of such a dict -/
structure KTab (K : PySem.W.Frag) (w : World) (d : Addr) (kvs : List (Str × Bool)) : Prop where
  at_ : ∃ es n, KDict K w d es n
  get : ∀ z, PySem.W.nsIn K d z = some ((kvs.lookup z).map Value.bool)
theorem ktab2 {K : PySem.W.Frag} {w : World} {d : Addr} {n : Nat} {k1 k2 : Str} {t1 t2 : Tok} {h1 h2 : Int} {b1 b2 : Bool} (l : K.lookup d = some ⟨.type "dict", none, .dict #[⟨h1, .str k1 t1, .bool b1⟩, ⟨h2, .str k2 t2, .bool b2⟩] n, #[]⟩)
    (kl : PySem.W.KeysLit w.params [⟨h1, .str k1 t1, .bool b1⟩, ⟨h2, .str k2 t2, .bool b2⟩]) (lo : (d == sysModules) = false) : KTab K w d [(k1, b1), (k2, b2)] := by
  refine ⟨⟨_, n, l, kl, lo⟩, fun z => ?_⟩
  have e1 : ∀ (k : Str) (t : Tok), Value.isStr (.str k t) z = (k == z) := fun _ _ => rfl
  have s : ∀ k : Str, (k == z) = (z == k) := fun k => by
    cases a : k == z with
    | true => rw [beq_iff_eq.1 a]; simp
    | false =>
      cases b : z == k with
      | false => rfl
      | true => rw [beq_iff_eq.1 b] at a; simp at a
  unfold PySem.W.nsIn
  rw [l]
  simp only [List.find?_cons, e1, List.lookup_cons, s]
  cases z == k1 with
  | true => rfl
  | false =>
    cases z == k2 with
    | true => rfl
    | false => rfl
section
variable {X : Cx} {G : Glo} {Wx : WX} {e : Expr} {fe : EF} {p pos : Pos} {x : Str} {d : Addr} {kvs : List (Str × Bool)}
theorem de_kin (T : KTab X.K X.w d kvs) (hg : Gl X x) (hm : X.mg x = some (.ref d)) (he : DE X G Wx e fe) (hb : behindInMarks .In (.Name x p) = false) (hd : (x == ("__debug__" : Str)) = false := by decide) : DE X G Wx (.Compare e [.In] [.Name x p] pos) (eKIn false kvs fe) := by
  obtain ⟨es, n, D⟩ := T.at_
  refine de_weak (pe_cmpR (op_in_kd D) he.pe (pe_glob hg hm (v := .ref d) rfl hd) hb) fun σ H Q ⟨W, sl, C, rs, st, q⟩ => ⟨W, sl, C, rs, st, q.bind fun y C1 W1 v H1 _ t st1 rx q1 => ?_⟩
  split at q1
  · rename_i z _
    have := q1 W1 _ H1 .refl st1 .bl
    refine ⟨z, _, rx.str_, rfl, T.get z, ?_⟩
    simpa using this
  · exact q1.elim
theorem de_kget (T : KTab X.K X.w d kvs) (hg : Gl X x) (hm : X.mg x = some (.ref d)) (he : DE X G Wx e fe) (hs : NoSl e := by intro _ _; rfl) (hd : (x == ("__debug__" : Str)) = false := by decide) : DE X G Wx (.Subscript (.Name x p) e pos) (eKGet kvs fe) := by
  obtain ⟨es, n, D⟩ := T.at_
  have pe : PE X (.Subscript (.Name x p) e pos) (tOp (fun x y H Q => ∃ (z : Str) (u0 : Value) (v0 : V), x = .ref d ∧ y = .str z ∧ PySem.W.nsIn X.K d z = some (some u0) ∧ RelV v0 u0 ∧ Q v0 H) (tC (.ref d)) (tD G Wx fe)) := by
    refine ⟨fun pins s σ H Q I h => ?_⟩
    refine subD_of PySem.F.slot_dict_getitem.lookup hs (thn ((pe_glob hg hm (v := .ref d) rfl hd).run pins s σ H _ I h) fun u s1 ⟨y, H1, I1, rx, q1⟩ => thn (he.pe.run pins s1 σ H1 _ I1 q1) fun iv s2 ⟨y2, H2, I2, ry, q2⟩ => ?_)
    have ex : y = .ref d := by obtain ⟨z, u0, v0, ex, _⟩ := q2; exact ex
    subst ex
    obtain rfl : u = Value.ref d := rx
    exact ⟨kd_type D I2, (op_item_kd D) pins s2 σ H2 (.ref d) y2 _ _ Q I2 rfl ry q2⟩
  refine de_weak pe fun σ H Q ⟨W, sl, C, rs, st, q⟩ => ⟨W, sl, C, rs, st, q.bind fun y C1 W1 v H1 _ t st1 rx q1 => ?_⟩
  split at q1
  · rename_i z _
    split at q1
    · rename_i b e
      have g := T.get z
      rw [e] at g
      exact ⟨z, .bool b, .bl b, rfl, rx.str_, g, rfl, q1 W1 _ H1 .refl st1 .bl⟩
    · exact q1.elim
  · exact q1.elim
theorem de_kin2 (h : ∃ a, X.mg x = some (.ref a) ∧ KTab X.K X.w a kvs) (hg : Gl X x) (he : DE X G Wx e fe) (hb : behindInMarks .In (.Name x p) = false := by rfl) (hd : (x == ("__debug__" : Str)) = false := by decide) : DE X G Wx (.Compare e [.In] [.Name x p] pos) (eKIn false kvs fe) :=
  let ⟨_, hm, T⟩ := h
  de_kin T hg hm he hb hd
theorem de_kget2 (h : ∃ a, X.mg x = some (.ref a) ∧ KTab X.K X.w a kvs) (hg : Gl X x) (he : DE X G Wx e fe) (hs : NoSl e := by intro _ _; rfl) (hd : (x == ("__debug__" : Str)) = false := by decide) : DE X G Wx (.Subscript (.Name x p) e pos) (eKGet kvs fe) :=
  let ⟨_, hm, T⟩ := h
  de_kget T hg hm he hs hd
end
end DL

set_option Elab.async false
set_option linter.all false
set_option maxRecDepth 100000
set_option autoImplicit false
set_option maxHeartbeats 2000000
/-! upper(); a[i], b[j] = x, y; [f, g][i](x, ..); a clause whose suite uses the exception -/
namespace DL
open PySem PySem.Spec PyProof.Rows L2
section
variable {G : Glo}
def mUpper (x : D) (xs : List D) (C : Cells) : Res D := match x, xs with
  | .str a, [] => if a.length ≤ 5592405 then .ok (.str (Txt.upper a)) C else .no
  | _, _ => .no
theorem om_upper : OpM G (fun x xs H Q => ∃ a, x = .str a ∧ xs = [] ∧ a.length ≤ 5592405 ∧ Q (.str (Txt.upper a)) H) mUpper := fun Wx σ W C H x v xs vs Q st rx rxs q => by
  unfold mUpper at q
  split at q
  · split at q
    · rename_i h
      exact ⟨_, by rw [rx.str_], rxs.nil_inv, h, q W _ H .refl st .str⟩
    · exact q.elim
  · exact q.elim
theorem op_mulS {X : Cx} : OpR X (binaryOp .Mult) (fun x y H Q => ∃ (a : Str) (i : Int), x = .str a ∧ y = .int i ∧ a.length ≤ 16 ∧ -(2 ^ 63 : Int) ≤ i ∧ i ≤ 1048576 ∧ Q (.str (Txt.mul a i)) H) := by
  intro pins s σ H x y v u Q I rx ry h
  obtain ⟨a, i, rfl, rfl, hz, h0, h1, q⟩ := h
  obtain ⟨t, rfl⟩ := rx
  obtain ⟨t', rfl⟩ := ry
  exact PySem.W.KXi.mul rfl hz h0 h1 fun t' k _ _ => ⟨.str (Txt.mul a i), H, I.tok _, ⟨_, rfl⟩, q⟩
def dMulS (x y : D) (C : Cells) : Res D := match x, y with
  | .str a, .int i => if a.length ≤ 16 ∧ -(2 ^ 63 : Int) ≤ i ∧ i ≤ 1048576 then .ok (.str (Txt.mul a i)) C else .no
  | _, _ => .no
theorem o2_mulS : Op2 G (fun x y H Q => ∃ (a : Str) (i : Int), x = .str a ∧ y = .int i ∧ a.length ≤ 16 ∧ -(2 ^ 63 : Int) ≤ i ∧ i ≤ 1048576 ∧ Q (.str (Txt.mul a i)) H) dMulS := fun Wx σ W C H x y v u Q st rx ry q => by
  unfold dMulS at q
  split at q
  · split at q
    · rename_i h
      exact ⟨_, _, rx.str_, ry.int_, h.1, h.2.1, h.2.2, q W _ H .refl st .str⟩
    · exact q.elim
  · exact q.elim
def mSplitC (x : D) (xs : List D) (C : Cells) : Res D := match x, xs with
  | .str a, [.str b] => if (b.length == 0) = false ∧ a.length + 2 ≤ 16777216 then newL ((Txt.split a b).map D.str) C else .no
  | _, _ => .no
theorem om_splitC : OpM G (fun x xs H Q => ∃ a b, x = .str a ∧ xs = [.str b] ∧ (b.length == 0) = false ∧ a.length + 2 ≤ sizeLine ∧ rNewStrs (Txt.split a b) H Q) mSplitC := fun Wx σ W C H x v xs vs Q st rx rxs q => by
  unfold mSplitC at q
  split at q
  · split at q
    · rename_i h
      obtain ⟨u, rfl, hu⟩ := rxs.one
      refine ⟨_, _, by rw [rx.str_], by rw [hu.str_], h.1, h.2, fun p hp => ?_⟩
      exact new_cel st (strs_rep _) q p hp
    · exact q.elim
  · exact q.elim
def mInsert (x : D) (xs : List D) (C : Cells) : Res D := match x, xs with
  | .cel n, [.int i, d] => (match C.get n with
    | some (.lst l) => if l.length < mxl ∧ 0 ≤ i ∧ i < 2 ^ 63 then .ok .non (C.set n (.lst (l.take i.toNat ++ [d] ++ l.drop i.toNat))) else .no
    | _ => .no)
  | _, _ => .no
theorem om_insert : OpM G (fun x vs H Q => ∃ (l : Addr) (xs : List V) (i : Int) (y : V), x = .ref l ∧ vs = [.int i, y] ∧ H l = some (.lst xs) ∧ xs.length < sizeLine ∧ 0 ≤ i ∧ i < 2 ^ 63 ∧
    Q .non (upd H l (.lst (xs.take i.toNat ++ [y] ++ xs.drop i.toNat)))) mInsert := fun Wx σ W C H x v xs vs Q st rx rxs q => by
  unfold mInsert at q
  split at q
  · split at q
    · rename_i l eg
      split at q
      · rename_i h
        obtain ⟨a, rfl, hn⟩ := rx.cel_
        obtain ⟨b, us, k1, k2, k3, k4⟩ := st.cel_lst eg
        rw [hn] at k1; cases k1
        obtain ⟨v1, v2, rfl, r1, r2⟩ := rxs.two
        refine ⟨a, us, _, v2, rfl, by rw [r1.int_], k3, by rw [← k4.length]; exact h.1, h.2.1, h.2.2, ?_⟩
        obtain ⟨s1, s2⟩ := fr_set st eg hn (o := .lst (l.take _ ++ [_] ++ l.drop _)) ⟨_, rfl, ((k4.take _).append (.cons r2 .nil)).append (k4.drop _)⟩
        exact q W _ _ s2 s1 .non
      · exact q.elim
    · exact q.elim
  · exact q.elim
end
/-! ### two items set at once -/
def sSwap (fo fi go gi fv : EF) : SF := fun s C => (fv s C).toS s fun d C => match d with
  | .tup [d1, d2] => (fo s C).toS s fun x C => (fi s C).toS s fun i C => (match setIx x i d1 C with
    | some C => (go s C).toS s fun x C => (gi s C).toS s fun i C => (match setIx x i d2 C with
      | some C => .nxt s C
      | none => .no)
    | none => .no)
  | _ => .no
section
variable {X : Cx} {G : Glo} {Wx : WX}
theorem setIx_use {W1 W2 W3 : Wd} {C1 C2 C3 C4 : Cells} {H1 H2 H3 : Hp} {y i d : D} {u w v : V} {Q : Hp → Prop} (t2 : Step W1 C1 H1 W2 C2 H2) (t3 : Step W2 C2 H2 W3 C3 H3) (st3 : StR G W3 C3 H3) (ry : RepV G W2 y u) (ri : RepV G W3 i w) (rd : RepV G W1 d v)
    (ec : setIx y i d C3 = some C4) (q : ∀ W4 H4, Step W3 C3 H3 W4 C4 H4 → StR G W4 C4 H4 → Q H4) : rSetL u w v H3 Q := by
  unfold setIx at ec
  split at ec
  · rename_i n k
    obtain ⟨a, rfl, hn⟩ := (ry.up t3.le).cel_
    split at ec
    · rename_i l eg
      split at ec
      · rename_i j ej
        cases ec
        obtain ⟨b, vs, k1, k2, k3, k4⟩ := st3.cel_lst eg
        rw [hn] at k1; cases k1
        refine ⟨a, vs, k, j, rfl, ri.int_, k3, by rw [← k4.length]; exact ej, ?_⟩
        obtain ⟨s1, s2⟩ := fr_set (o := .lst (l.set j d)) (ho := .lst (vs.set j v)) st3 eg hn ⟨_, rfl, k4.set j (rd.up (t2.trans t3).le)⟩
        exact q W3 _ s2 s1
      · cases ec
    · cases ec
  · cases ec
variable {o ei o' ei' value : Expr} {fo fi go gi fv : EF} {pos ipos jpos tpos : Pos} {kt : Nat}
theorem ds_swap (hc : X.calm = true) (hk : X.K = G.K) (ho : DE X G Wx o fo) (hi : DE X G Wx ei fi) (ho' : DE X G Wx o' go) (hi' : DE X G Wx ei' gi) (hv : DE X G Wx value fv)
    (ha : ∀ v, assign (.Subscript o ei ipos) X.env v = (do
      let ov ← holding [v] (eval o X.env)
      let iv ← holding [v, ov] (eval ei X.env)
      standAt ipos
      holding [v, ov, iv] (setItem ov iv v)
      release [v, ov, iv] []) := by intro _; rfl)
    (ha' : ∀ v, assign (.Subscript o' ei' jpos) X.env v = (do
      let ov ← holding [v] (eval o' X.env)
      let iv ← holding [v, ov] (eval ei' X.env)
      standAt jpos
      holding [v, ov, iv] (setItem ov iv v)
      release [v, ov, iv] []) := by intro _; rfl)
    (hs : swapsWithSole [.Tuple [.Subscript o ei ipos, .Subscript o' ei' jpos] kt tpos] value pos.line X.env = pure false := by rfl) (hw : swappedStores [.Tuple [.Subscript o ei ipos, .Subscript o' ei' jpos] kt tpos] value X.env = pure none := by rfl)
    (h1 : (assignEach [.Tuple [.Subscript o ei ipos, .Subscript o' ei' jpos] kt tpos] X.env).map (·.2) = [assign (.Tuple [.Subscript o ei ipos, .Subscript o' ei' jpos] kt tpos) X.env] := by rfl)
    (e1 : (assignEach [.Subscript o ei ipos, .Subscript o' ei' jpos] X.env).map (·.2) = assign (.Subscript o ei ipos) X.env :: (assignEach [.Subscript o' ei' jpos] X.env).map (·.2) := by rfl)
    (e2 : (assignEach [.Subscript o' ei' jpos] X.env).map (·.2) = assign (.Subscript o' ei' jpos) X.env :: (assignEach [] X.env).map (·.2) := by rfl)
    (e3 : (assignEach [.Subscript o ei ipos, .Subscript o' ei' jpos] X.env).length = 2 := by rfl) (e4 : (assignEach [.Subscript o ei ipos, .Subscript o' ei' jpos] X.env).findIdx? (·.1) = none := by rfl) :
    DS X G Wx (.Assign [.Tuple [.Subscript o ei ipos, .Subscript o' ei' jpos] kt tpos] value pos) (sSwap fo fi go gi fv) :=
  ⟨PS.weak (ps_asg hv.pe (pg_tup hc (pgs_cons (pg_sub ho.pe hi.pe set_list ha) (pgs_cons (pg_sub ho'.pe hi'.pe set_list ha') pgs_nil e2) e1) e3 e4) hs hw h1) fun Dn σ H ⟨W, sl, C, rs, st, q⟩ => ⟨W, sl, C, rs, st, SPost.toS rs q fun d C1 W1 v H1 t1 st1 rd q1 => by
    split at q1
    · rename_i d1 d2
      obtain ⟨a, vs, rfl, ht, rv⟩ := rd.tup_
      obtain ⟨v1, v2, rfl, r1, r2⟩ := rv.two
      refine ⟨a, [v1, v2], rfl, .inl (.inl (st1.F _ _ ht)), rfl, v1, [v2], rfl, ?_⟩
      refine ⟨W1, sl, C1, rs.up t1.le, st1, SPost.toS (rs.up t1.le) q1 fun y C2 W2 u H2 t2 st2 ry q2 => ⟨W2, sl, C2, rs.up (t1.trans t2).le, st2, SPost.toS (rs.up (t1.trans t2).le) q2 fun i C3 W3 w H3 t3 st3 ri q3 => ?_⟩⟩
      split at q3
      · rename_i C4 ec
        refine setIx_use t2 t3 st3 ry ri r1 ec fun W4 H4 t4 st4 => ?_
        refine ⟨v2, [], rfl, ?_⟩
        have q4 := SPost.step t4 q3
        have rs4 := rs.up (((t1.trans t2).trans t3).trans t4).le
        refine ⟨W4, sl, C4, rs4, st4, SPost.toS rs4 q4 fun y C5 W5 u H5 t5 st5 ry q5 => ⟨W5, sl, C5, rs4.up t5.le, st5, SPost.toS (rs4.up t5.le) q5 fun i C6 W6 w H6 t6 st6 ri q6 => ?_⟩⟩
        split at q6
        · rename_i C7 ec
          refine setIx_use t5 t6 st6 ry ri (r2.up ((t2.trans t3).trans t4).le) ec fun W7 H7 t7 st7 => ⟨rfl, ?_⟩
          exact q6 W7 σ H7 t7 st7 (rs4.up ((t5.trans t6).trans t7).le)
        · exact q6.elim
      · exact q3.elim
    · exact q1.elim⟩⟩
end
/-! ### [f, g][i](x, ..) -/
def eCallIx (Fs : List (Fn × List D)) (fi : EF) (af : AF) : EF := fun s C => (fi s C).bind fun d C => match d with
  | .int i => (match L2.atI Fs i with
    | some p => (af s C).bind fun xs C => p.1 (xs ++ p.2) C
    | none => .no)
  | _ => .no
section
variable {X : Cx} {G : Glo} {Wx : WX} {x y : Str} {e i fe : Expr} {es : List Expr} {fi : EF} {af : AF} {p pp pl pos pos' : Pos} {k np nq : Nat} {dd de : List D} {F F' : Fn}
theorem pe_callE {tf : TE} {t : TA} {E : L2.St → XK} (hf : PE X fe tf) (hr : Room k X.A) (hx : ∀ σ, PassesAt (L2.CX X.prog X.w) X σ (E σ)) (ha : PA X (e :: es) t)
    (hev : eval (.Call fe (e :: es) [] pos) X.env = (do callWith pos (← eval fe X.env) [] (backTo pos (starEach (e :: es) X.env)) (backToKw pos (keywordEach [] X.env))) := by rfl)
    (he : starEach (e :: es) X.env = (false, eval e X.env) :: starEach es X.env := by rfl) (hpl : (backTo pos (starEach es X.env)).any (·.1) = false := by rfl) :
    PE X (.Call fe (e :: es) [] pos) (fun σ H Q => tf σ H fun u H1 => ∃ f fd ps sp dvs ds, u = .ref f ∧ FnOk X.prog X.w X.K X.mg X.base (L2.CX X.prog X.w) k f fd ps sp ∧ PySem.W.keepIn X.K (.ref f) = true ∧ Binds X.K fd ps ds ∧ Vals dvs ds ∧
      t σ H1 fun vs H2 => sp (vs ++ dvs) H2 Q (E σ)) := by
  refine ⟨fun pins s σ H Q I h => ?_⟩
  rw [hev]
  refine wpAny_bind (thn (hf.run pins s σ H _ I h) fun u s1 ⟨v, H1, I1, r1, q1⟩ => ?_)
  obtain ⟨f, fd, ps, sp, dvs, ds, rfl, ok, kp, hb, hd, q⟩ := q1
  obtain rfl : u = Value.ref f := r1
  refine PySem.W.callWith_K (h₀ := X.base) I1.ok.mod.kin kp (thn (ha.run pos pins s1 σ H1 _ I1 q) fun us s2 ⟨vs, H2, I2, r, q2⟩ => ⟨I2.kIn, ?_⟩) he hpl
  exact run_fnSD ok hr hb hd (hx σ) I2 r q2
theorem de_callIx (hk : X.K = G.K) (cl : Callee X.prog X.w G X.mg X.base k x np dd F) (cl' : Callee X.prog X.w G X.mg X.base k y nq de F') (hr : Room k X.A) (hg : Gl X x) (hg' : Gl X y) (tk : Takes X Wx) (hi : DE X G Wx i fi) (ha : DA X G Wx (e :: es) af) (hs : PlainIx i := by intro _ _; rfl)
    (hdb : (x == ("__debug__" : Str)) = false := by decide) (hdb' : (y == ("__debug__" : Str)) = false := by decide)
    (hev : eval (.Call (.Subscript (.List [.Name x p, .Name y pp] pl) i pos') (e :: es) [] pos) X.env = (do callWith pos (← eval (.Subscript (.List [.Name x p, .Name y pp] pl) i pos') X.env) [] (backTo pos (starEach (e :: es) X.env)) (backToKw pos (keywordEach [] X.env))) := by rfl)
    (he : starEach (e :: es) X.env = (false, eval e X.env) :: starEach es X.env := by rfl) (hpl : (backTo pos (starEach es X.env)).any (·.1) = false := by rfl)
    (hl1 : starEach [.Name x p, .Name y pp] X.env = (false, eval (.Name x p) X.env) :: starEach [.Name y pp] X.env := by rfl) (hl2 : starEach [.Name y pp] X.env = (false, eval (.Name y pp) X.env) :: starEach [] X.env := by rfl) :
    DE X G Wx (.Call (.Subscript (.List [.Name x p, .Name y pp] pl) i pos') (e :: es) [] pos) (eCallIx [(F, dd), (F', de)] fi af) := by
  obtain ⟨ar, f, fd, ps, ds, dvs, hp, ok, hm, kp, hb, hd, rd⟩ := cl
  obtain ⟨ar', f', fd', ps', ds', dvs', hp', ok', hm', kp', hb', hd', rd'⟩ := cl'
  refine ⟨PE.weak (pe_callE (E := fun σ c d H => Wx c d σ H) (k := k) (pe_ix ix_seq (pe_lst (pa_cons (pe_glob hg hm (v := .ref f) rfl hdb) (pa_cons (pe_glob hg' hm' (v := .ref f') rfl hdb') pa_nil hl2) hl1)) hi.pe hs) hr (fun σ => passAt tk σ) ha.pa hev he hpl) fun σ H Q ⟨W, sl, C, rs, st, q⟩ => ?_⟩
  refine ⟨show 2 ≤ sizeLine from by decide, fun l hl => ?_⟩
  obtain ⟨st0, t0, _⟩ := fr_out (o := .lst [.ref f, .ref f']) st hl
  refine ⟨W, sl, C, rs, st0, ?_⟩
  have q := Post.step t0 q
  refine q.bind fun d C1 W1 v H1 hr0 t st1 rx q1 => ?_
  clear hr0
  split at q1
  · rename_i j
    split at q1
    · rename_i pr ej
      have hH : H1 l = some (.lst [.ref f, .ref f']) := (t.fr l _ upd_same ⟨fun _ z => (nomatch z), fun _ z => (nomatch z), fun _ z => (nomatch z)⟩ (fr_out (o := .lst [.ref f, .ref f']) st hl).2.2).1
      have rest : ∀ {F0 : Fn} {nn : Nat} {d0 : List D} {f0 : Addr} {fd0 : FuncData} {ps0 : List Str} {ds0 : List Value} {dvs0 : List V}, pr = (F0, d0) → Arity F0 nn → ps0.length = nn → FnOk X.prog X.w G.K X.mg X.base (L2.CX X.prog X.w) k f0 fd0 ps0 (spD G nn F0) → PySem.W.keepIn G.K (.ref f0) = true →
          Binds G.K fd0 ps0 ds0 → Vals dvs0 ds0 → (∀ W, RepVs G W d0 dvs0) → ∃ f fd ps sp dvs ds, (V.ref f0 : V) = .ref f ∧ FnOk X.prog X.w X.K X.mg X.base (L2.CX X.prog X.w) k f fd ps sp ∧ PySem.W.keepIn X.K (.ref f) = true ∧ Binds X.K fd ps ds ∧ Vals dvs ds ∧
            tAr G Wx af σ H1 fun vs H2 => sp (vs ++ dvs) H2 Q (fun c d H => Wx c d σ H) := by
        intro F0 nn d0 f0 fd0 ps0 ds0 dvs0 ep ar0 hp0 ok0 kp0 hb0 hd0 rd0
        subst ep
        refine ⟨f0, fd0, ps0, _, dvs0, ds0, rfl, by rw [hk]; exact ok0, by rw [hk]; exact kp0, by rw [hk]; exact hb0, hd0, ?_⟩
        exact ⟨W1, sl, C1, rs.up t.le, st1, q1.bind fun xs C2 W2 vs H2 _ t2 st2 rxs q2 => spD_of ar0 (rxs.append (rd0 W2)) st2 q2⟩
      unfold L2.atI at ej
      simp only [List.length_cons, List.length_nil] at ej
      cases ex : ixN (0 + 1 + 1) j with
      | none => rw [ex] at ej; cases ej
      | some m =>
        rw [ex] at ej
        have hm2 : m = 0 ∨ m = 1 := by
          have : m < 2 := by
            by_cases q : m < 2
            · exact q
            · have e2 : ([(F, dd), (F', de)] : List (Fn × List D))[m]? = none := List.getElem?_eq_none (by simpa using q)
              have ej' : ([(F, dd), (F', de)] : List (Fn × List D))[m]? = some pr := ej
              rw [e2] at ej'; cases ej'
          omega
        have at_ : ∀ v, ([.ref f, .ref f'] : List V)[m]? = some v → atI ([.ref f, .ref f'] : List V) j = some v := fun v h => by
          unfold L2.atI
          simp only [List.length_cons, List.length_nil, ex]
          exact h
        rcases hm2 with rfl | rfl
        · exact .inl ⟨l, [.ref f, .ref f'], j, .ref f, rfl, rx.int_, .inl (.inl hH), at_ _ rfl, rest (Option.some.inj ej).symm ar hp ok kp hb hd rd⟩
        · exact .inl ⟨l, [.ref f, .ref f'], j, .ref f', rfl, rx.int_, .inl (.inl hH), at_ _ rfl, rest (Option.some.inj ej).symm ar' hp' ok' kp' hb' hd' rd'⟩
    · exact q1.elim
  · exact q1.elim
end
/-! ### except X as e: a suite -/
theorem suite0 {X : Cx} {pins : List (Addr × Obj)} {σ : L2.St} {H : Hp} {s : Shared} {a : Addr} (I : Inv X pins σ H s) : Inv (X.suite a (X.pn ++ pins)) [] σ H s :=
  ⟨I.ok.suite _ _, I.os, I.bare, I.base, I.loc, I.cell, I.free, I.freeC, fun p hp => by
    have hp' : p ∈ X.pn ++ pins := by rw [List.append_nil] at hp; exact hp
    exact I.pin p hp', I.hok, I.len⟩
theorem unsuite0 {X : Cx} {pins pn' : List (Addr × Obj)} {σ : L2.St} {H : Hp} {s : Shared} {a : Addr} (I : Inv (X.suite a (X.pn ++ pins)) pn' σ H s) (ok : X.Ok) : Inv X pins σ H s :=
  ⟨ok, I.os, I.bare, I.base, I.loc, I.cell, I.free, I.freeC, fun p hp => I.pin p (List.mem_append_left _ hp), I.hok, I.len⟩
section
variable {X : Cx} {pins : List (Addr × Obj)} {σ : L2.St} {H : Hp} {s : Shared}
/-- what the clause wishes: in the suite, too, the exception is known -/
def wAsY (K : PySem.W.Frag) (c : Value) (i : Nat) (ts : Addr → Value → Option Addr → TS) (Wout : WX) (D : Ends) : WX := fun cls d σ H =>
  ∃ b, PySem.W.exmOne K cls c = some b ∧ (b = true → ∀ a, H a = none → ts a cls d { nx := fun σ' H' => D.nx (σ'.set i none) H', rt := D.rt, bk := fun σ' H' => D.bk (σ'.set i none) H', ct := fun σ' H' => D.ct (σ'.set i none) H' } (σ.set i (some (.ref a))) (upd H a (ExcV a cls d))) ∧
    (b = false → Wout cls d σ H)
variable {x n : Str} {c : Value} {i : Nat} {body suite : List Stmt} {b₀ : Stmt} {np pos pos' : Pos} {tb : WX → TS} {ts : Addr → Value → Option Addr → TS} {Wout : WX}
theorem ps_try_asY (hs : X.stack = X.env :: X.outer) (hf : X.env.frame = some X.env.locals) (hex : X.ex = []) (hpn : X.pn = []) (hN : X.N.Nodup) (hi : X.N[i]? = some n) (hln : X.env.kindOf n = some .local) (hc : Names X x c) (tk : Takes X Wout)
    (hb : ∀ (W : WX) (pn : List (Addr × Obj)) (xe : Value → Shared → Prop), Takes (X.tr pn xe) W → PassesOwn (model X.prog X.w) X.A X.env xe → PSs (X.tr pn xe) body (tb W))
    (hsu : ∀ (a : Addr) (cls : Value) (d : Option Addr) (pn : List (Addr × Obj)), PSs (X.suite a pn) (b₀ :: suite) (ts a cls d)) :
    PS X (.Try body [.ExceptHandler (some (.Name x np)) (some n) (b₀ :: suite) pos'] [] [] pos) (fun D σ H => tb (wAsY X.K c i ts Wout D) D σ H) := by
  refine ⟨fun pins s σ H D I h => ?_⟩
  have ok := I.ok
  have hfr : X.A.frames = some (X.env :: X.outer) := by rw [ok.frames, hs]
  have hloc : Loc X.env.scope n := .inl hln
  refine wpAny_Try_except ?_
  refine wpAny_mono ((hb (wAsY X.K c i ts Wout D) (X.pn ++ pins) (fun e s₁ => wpAny (model X.prog X.w) X.A (noteFrame e X.env) (fun _ s₂ => wpAny (model X.prog X.w) X.A (setFlight e none) (fun _ s₃ =>
    wpAny (model X.prog X.w) X.A (handleBy e X.env [.ExceptHandler (some (.Name x np)) (some n) (b₀ :: suite) pos']) (SP X pins D) X.xe s₃) X.xe s₂) X.xe s₁) (fun u s' xx => ?_) PassesOwn.looking).run [] s σ H D (I.toTry _) h) (fun f s1 hsp => ?_) (fun e s1 he => he)
  · -- the catch
    obtain ⟨a, B, sI, pins', σ', H', cls, d, rfl, J', nb, up, sky, na, os, ag, b, hb1, hyes, hno⟩ := xx
    have J : Inv X pins σ' H' sI := J'.ofTry ok
    have sky' : Sky B (X.env :: X.outer) a (Zc cls d) X.env.locals s'.heap := by rw [← hs]; exact sky
    show wpAny (model X.prog X.w) X.A (noteFrame (.ref a) X.env) _ _ _
    refine Sky.land Zc.steady hfr hf sky' fun h3 fl3 up3 => ?_
    have J3 : Inv X pins σ' H' { s' with heap := h3 } := J.landed nb fl3.1 (up.trans up3) os ag
    obtain ⟨oe3, vs3, he3, hz3, hd3⟩ := fl3.there
    have notFr : ∀ {h : Heap} {o : Obj} {vs : Array Value}, h.FunFrames B (X.env :: X.outer) → h.get? a = some o → o.data = .fields vs → a ∉ frs (X.env :: X.outer) := fun {h o vs} ff e dd hm => by
      obtain ⟨_, o', e', hnf⟩ := ff.mem hm
      rw [e] at e'; cases e'
      exact hnf _ dd
    have nfr := notFr fl3.2.2.1 he3 hd3
    have nL : a ≠ X.env.locals := fun z => nfr (List.mem_filterMap.mpr ⟨X.env, List.mem_cons_self, by rw [hf, z]⟩)
    have nF : a ∉ X.fs := fun hm => by
      obtain ⟨e, he, q⟩ := List.mem_filterMap.mp hm
      exact nfr (List.mem_filterMap.mpr ⟨e, List.mem_cons_of_mem _ he, q⟩)
    have n0 : X.s_0.heap.get? a = none := by
      cases q : X.s_0.heap.get? a with
      | none => rfl
      | some o =>
        obtain ⟨o', e1⟩ := J.base.there a o q (by rw [hex]; simp)
        have e2 := nb a o' e1 (by rw [hs]; exact nfr)
        rw [fl3.2.1] at e2; cases e2
    have S3 := J3.suite he3 hd3 na nL nF
    have npins : ∀ p ∈ X.pn ++ pins, p.1 ≠ a := fun p hp z => by
      have e1 := (J.pin p hp).1
      have e2 := nb p.1 p.2 e1 (by
        rw [hs, z]; exact nfr)
      rw [z, fl3.2.1] at e2; cases e2
    refine wpAny_handleBy_cons (codeAny_handlers_test ?_) (by intro q; cases q)
    have LT : PySem.W.Looks (model X.prog X.w) h3 (typeOf (.ref a)) cls := fun A Q E s k q => wpAny_typeOf_ref (k _ _ he3) (by rw [hz3.1]; exact q)
    have LM := PySem.W.exm_one (M := model X.prog X.w) (J3.kIn) LT hb1
    have test : ∀ {Q : Value → Shared → Prop} {E : Value → Shared → Prop}, Q c { s' with heap := h3 } → wpAny (model X.prog X.w) (X.A.mark (some (.ref a))) (eval (.Name x np) X.env) Q E { s' with heap := h3 } := fun {Q E} q => by
      obtain ⟨hg, hdbg, hm | ⟨hm, hv, hnn⟩⟩ := hc
      · exact ld_glob (X := X.suite a ((a, oe3) :: (X.pn ++ pins))) S3 hg hm q hdbg
      · exact ld_blt (X := X.suite a ((a, oe3) :: (X.pn ++ pins))) S3 hg hm hv q hnn hdbg
    refine test (LM.here ?_)
    cases b with
    | true =>
      refine codeAny_handlers_suite_as ?_
      refine HandSPX.lands_againZ fl3 fun h4 fl4 up4 => ?_
      have J4 : Inv X pins σ' H' { s' with heap := h4 } := J.landed nb fl4.1 ((up.trans up3).trans up4) os ag
      obtain ⟨oe4, vs4, he4, hz4, hd4⟩ := fl4.there
      have R4 : Inv X pins σ' (upd H' a (ExcV a cls d)) { s' with heap := h4 } := inv_reg J4 he4 hz4 ⟨_, hd4⟩ na n0 nL npins
      have S4 := suite0 (a := a) R4
      refine store_ok (X := X.suite a (X.pn ++ pins)) (v := .ref a) S4 hN hi hloc rfl (fun s5 S5 => ?_) (.inr hln)
      refine wpAny_mono ((hsu a cls d (X.pn ++ pins)).run [] s5 _ _ _ S5 (hyes rfl a na)) (fun f s6 hsp => ?_) (fun _ _ z => False.elim z)
      have end_ : ∀ {σ6 : L2.St} {H6 : Hp} {Q : Shared → Prop}, Inv (X.suite a (X.pn ++ pins)) [] σ6 H6 s6 → (∀ s7, Inv X pins (σ6.set i none) H6 s7 → Q s7) →
          wpAny (model X.prog X.w) X.A (do bindName X.env n .none; unbindBehindTheSuite X.env n pos') (fun _ s7 => Q s7) X.xe s6 := fun {σ6 H6 Q} S6 hq => gone_ok (unsuite0 S6 ok) hN hi hln hq
      cases f with
      | next =>
        obtain ⟨σ6, H6, S6, q6⟩ := hsp
        exact end_ S6 fun s7 J7 => ⟨_, _, J7, q6⟩
      | brk =>
        obtain ⟨σ6, H6, S6, q6⟩ := hsp
        exact end_ S6 fun s7 J7 => ⟨_, _, J7, q6⟩
      | cont =>
        obtain ⟨σ6, H6, S6, q6⟩ := hsp
        exact end_ S6 fun s7 J7 => ⟨_, _, J7, q6⟩
      | ret u =>
        obtain ⟨v6, σ6, H6, S6, r6, q6⟩ := hsp
        exact end_ S6 fun s7 J7 => ⟨_, _, _, J7, r6, q6⟩
    | false =>
      show wpAny _ X.A (handleBy (.ref a) X.env []) _ _ _
      refine wpAny_handleBy_nil ?_
      obtain ⟨k1, k2, k3, oe, vs, T, oT, ts', he, hz, hd, h1, hr⟩ := id fl3
      unfold PySem.passOn
      refine wpAny_bind (wpAny_field he hd h1 ?_)
      rw [if_neg (show ¬ ((Value.ref T == Value.none) = true) from by simp)]
      have fin : wpAny (model X.prog X.w) X.A (setFlight (.ref a) X.env.frame) (fun _ s4 => wpAny (model X.prog X.w) X.A (throw (.ref a) : Sem Flow) (SP X pins D) X.xe s4) X.xe { s' with heap := h3 } := by
        rw [hf]
        refine HandSPX.setFlight_upZ fl3 fun h4 hh4 up4 => wpAny_throw (tk _ _ ?_)
        exact ⟨a, B, sI, pins, σ', H', cls, d, rfl, J, nb, (up.trans up3).trans up4, .inr (.inr (by rw [hs]; exact hh4)), na, os, ag, hno rfl⟩
      first
        | exact wpAny_bind (wpAny_pure (wpAny_bind fin))
        | exact wpAny_bind fin
  · cases f with
    | next =>
      obtain ⟨σ', H', J', q⟩ := hsp
      exact wpAny_execs_nil ⟨σ', H', J'.ofTry ok, q⟩
    | brk =>
      obtain ⟨σ', H', J', q⟩ := hsp
      exact ⟨σ', H', J'.ofTry ok, q⟩
    | cont =>
      obtain ⟨σ', H', J', q⟩ := hsp
      exact ⟨σ', H', J'.ofTry ok, q⟩
    | ret u =>
      obtain ⟨v, σ', H', J', r, q⟩ := hsp
      exact ⟨v, σ', H', J'.ofTry ok, r, q⟩
end

def sTryAsG (tb : ITab) (cs : List Nat) (t i : Nat) (gb gs : SF) : SF := fun s C => match gb s C with
  | .err c s' C' => if c ∈ cs then (match tb.lookup (10 + t, 10 + c) with
    | some true => (match gs (s'.set i (some (.opq c []))) C' with
      | .nxt s C => .nxt (s.set i none) C
      | .brk s C => .brk (s.set i none) C
      | .cnt s C => .cnt (s.set i none) C
      | .ret d C => .ret d C
      | _ => .no)
    | some false => .err c s' C'
    | none => .no) else .no
  | r => r
section
variable {X : Cx} {G : Glo} {Wx : WX} {x n : Str} {i t : Nat} {tb : ITab} {cs : List Nat} {body suite : List Stmt} {b₀ : Stmt} {gb gs : SF} {np pos pos' : Pos}
theorem ds_tryAsG (hk : X.K = G.K) (hs : X.stack = X.env :: X.outer) (hf : X.env.frame = some X.env.locals) (hex : X.ex = []) (hpn : X.pn = []) (hN : X.N.Nodup) (hi : X.N[i]? = some n) (hln : X.env.kindOf n = some .local)
    (ef : ExF G cs) (sf : SubF G tb) (cl : ClF G.K (G.cls t)) (hg : Gl X x) (hm : X.mg x = some (.ref (G.cls t))) (tk : Takes X Wx)
    (hb : ∀ (W : WX) (pn : List (Addr × Obj)) (xe : Value → Shared → Prop), Takes (X.tr pn xe) W → PassesOwn (model X.prog X.w) X.A X.env xe → DSs (X.tr pn xe) G W body gb)
    (hsu : ∀ (a : Addr) (pn : List (Addr × Obj)), DSs (X.suite a pn) G W0 (b₀ :: suite) gs) (hdb : (x == ("__debug__" : Str)) = false := by decide) :
    DS X G Wx (.Try body [.ExceptHandler (some (.Name x np)) (some n) (b₀ :: suite) pos'] [] [] pos) (sTryAsG tb cs t i gb gs) :=
  ⟨PS.weak (ps_try_asY (tb := fun W => tSt G W gb) (c := .ref (G.cls t)) (i := i) (ts := fun _ _ _ => tSt G W0 gs) (Wout := Wx) hs hf hex hpn hN hi hln ⟨hg, hdb, .inl hm⟩ tk (fun W pn xe tk hp => (hb W pn xe tk hp).ps)
      (fun a cls d pn => (hsu a pn).ps)) fun D σ H ⟨W, sl, C, rs, st, q⟩ => ⟨W, sl, C, rs, st, by
    unfold sTryAsG at q
    cases e : gb sl C with
    | nxt s' C' => rw [e] at q; exact q
    | ret d C' => rw [e] at q; exact q
    | brk s' C' => rw [e] at q; exact q
    | cnt s' C' => rw [e] at q; exact q
    | no => rw [e] at q; exact q
    | err c s' C' =>
      rw [e] at q
      simp only at q
      split at q
      · rename_i hc
        intro W' σ' H' t' st' rs'
        cases el : tb.lookup (10 + t, 10 + c) with
        | none => rw [el] at q; exact q.elim
        | some b =>
          rw [el] at q
          refine ⟨b, by rw [hk]; exact exm_get sf cl el, fun hb a na => ?_, fun hb => ?_⟩
          · subst hb
            obtain ⟨st2, t2⟩ := fr_fz (o := ExcV a (.ref (G.cls c)) none) st' na (fun _ z => (nomatch z))
            have rx : RepV G ⟨upd W'.F a (ExcV a (.ref (G.cls c)) none), W'.cm⟩ (.opq c []) (.ref a) := .opq (vs := []) (by
              rw [ef.oq c hc]
              show upd W'.F a _ a = _
              exact upd_same) .nil
            refine ⟨_, s'.set i (some (.opq c [])), C', (rs'.up t2.le).set i rx, st2, ?_⟩
            simp only at q
            have q := SPost.step (t'.trans t2) q
            cases e2 : gs (s'.set i (some (.opq c []))) C' with
            | nxt s2 C2 => rw [e2] at q; exact fun W3 σ3 H3 t3 st3 rs3 => q W3 _ H3 t3 st3 (rs3.setN i)
            | ret d C2 => rw [e2] at q; exact q
            | brk s2 C2 => rw [e2] at q; exact fun W3 σ3 H3 t3 st3 rs3 => q W3 _ H3 t3 st3 (rs3.setN i)
            | cnt s2 C2 => rw [e2] at q; exact fun W3 σ3 H3 t3 st3 rs3 => q W3 _ H3 t3 st3 (rs3.setN i)
            | no => rw [e2] at q; exact q
            | err c2 s2 C2 => rw [e2] at q; exact q.elim
          · subst hb
            exact q W' σ' H' t' st' rs'
      · exact q.elim⟩⟩
end
end DL

set_option Elab.async false
set_option linter.all false
set_option maxRecDepth 100000
set_option autoImplicit false
set_option maxHeartbeats 2000000
/-! own defs that are called within an except suite -/
namespace DL
open PySem PySem.Spec PyProof.Rows L2
structure RoomQ (k : Nat) (A : Around) : Prop where
  dp : A.depth + 3 * k + 5 < recursionLimit
  un : A.units + 16 * k + 200 < cLine
theorem RoomQ.mono {j k : Nat} {A : Around} (r : RoomQ k A) (h : j ≤ k) : RoomQ j A := ⟨by have := r.dp; omega, by have := r.un; omega⟩
theorem RoomQ.deeper {k : Nat} {A : Around} (r : RoomQ (k + 1) A) (env : Env) : RoomQ k (A.deeper env) :=
  ⟨by have := r.dp; show A.depth + 1 + 3 * k + 5 < _; omega, by have := r.un; show A.units + 3 + 16 * k + 200 < _; omega⟩
theorem RoomQ.units {k : Nat} {A : Around} (r : RoomQ k A) : A.units + 64 < cLine := by have := r.un; omega
theorem RoomQ.of {j k : Nat} {X : Cx} {a : Addr} {pn : List (Addr × Obj)} (r : Room k X.A) (h : j ≤ k) : RoomQ j (X.suite a pn).A :=
  ⟨by have := r.dp; show X.A.depth + 3 * j + 5 < _; omega, by have := r.un; show X.A.units + 16 * j + 200 < _; omega⟩
abbrev cxQ (CX : CXT) (P : Program) (w : World) (K : PySem.W.Frag) (mg : Str → Option Value) (base : Heap) (N : List Str) (qual : Str) (scope : Scope) (f : Addr) (cd : Value) (A : Around) (outer : List Env) (s : Shared) (H : Hp) (E : XK) : Cx :=
  { cxOf CX P w K mg base N qual scope f cd A outer s H E with calm := false }
theorem inv_startQ {CX : CXT} {P : Program} {w : World} {K : PySem.W.Frag} {mg : Str → Option Value} {base : Heap} {N ps : List Str} {qual : Str} {scope : Scope} {f : Addr} {cd : Value} {A : Around} {outer : List Env} {s s1 : Shared} {H : Hp} {E : XK} {us : List Value} {vs : List V}
    (S : FnScope N ps scope) (e0 : Env0 P w K mg base A outer s H) (hl : vs.length = ps.length) (r : Vals vs us)
    (x : InCallC s s.heap.objs.size (bindL (envOfC qual scope s.heap.objs.size f cd).kindOf (ps.zip us) fun _ => none) (cellsFrom (s.heap.objs.size + 1) scope.names []) (bindC (envOfC qual scope s.heap.objs.size f cd).kindOf (ps.zip us) fun _ => none) s1) :
    Inv (cxQ CX P w K mg base N qual scope f cd A outer s H E) [] (L2.start N vs) H s1 := by
  have I : Inv (cxOf CX P w K mg base N qual scope f cd { A with handled := none } outer s H E) [] (L2.start N vs) H s1 := inv_start S rfl ⟨e0.frames, e0.mod, e0.bs, e0.bsz, e0.funs, e0.frf, e0.hok, e0.bare⟩ hl r x
  exact ⟨⟨I.ok.mod, I.ok.kind, I.ok.glob, I.ok.blt, I.ok.above, I.ok.inj, I.ok.has, I.ok.cab, fun h => (nomatch h), Around.frames_deeper e0.frames, I.ok.stk, I.ok.exf, I.ok.bs, I.ok.bsz, I.ok.noex, I.ok.exfs, I.ok.funs, I.ok.frf⟩,
    I.os, I.bare, I.base, I.loc, I.cell, I.free, I.freeC, I.pin, I.hok, I.len⟩
structure FnOkQ (P : Program) (w : World) (K : PySem.W.Frag) (mg : Str → Option Value) (base : Heap) (k : Nat) (f : Addr) (fd : FuncData) (ps : List Str) (sp : Sp) : Prop where
  len : ∀ vs H Q E, sp vs H Q E → vs.length = ps.length
  run : ∀ (A : Around) (outer : List Env) (s : Shared) (H : Hp) (args : Args) (us : List Value) (vs : List V) (Q : VK) (E : XK), RoomQ k A → Env0 P w K mg base A outer s H → BindsTo s fd args (ps.zip us) → Vals vs us → sp vs H Q E →
    codeAny (model P w) A (.call (.ref f) args) (CR (L2.CX P w) outer P w H s Q E) s
theorem fn_ofQ {P : Program} {w : World} {K : PySem.W.Frag} {mg : Str → Option Value} {base : Heap} {k : Nat} {f : Addr} {name qual : Str} {params : Arguments} {body : List Stmt} {scope : Scope} {dV kV doc pm cdv ct oc : Value} {an od : Option Addr}
    {osl : Array (Option Value)} {N ps : List Str} {sp : Sp} (lk : K.lookup f = some ⟨oc, od, .func (PySem.W.fnOf name qual params body scope dV kV doc pm an cdv ct), osl⟩) (hcd : PySem.W.codeIn K cdv qual = true) (S : FnScope N ps scope)
    (len : ∀ vs H Q E, sp vs H Q E → vs.length = ps.length)
    (hbody : ∀ (A : Around) (outer : List Env) (s : Shared) (H : Hp) (vs : List V) (Q : VK) (E : XK), RoomQ k (A.deeper (envOfC qual scope s.heap.objs.size f cdv)) → sp vs H Q E →
      ∃ t, PSs (cxQ (L2.CX P w) P w K mg base N qual scope f cdv A outer s H E) body t ∧ t { nx := fun _ H' => Q .non H', rt := Q } (L2.start N vs) H) :
    FnOkQ P w K mg base (k + 1) f (PySem.W.fnOf name qual params body scope dV kV doc pm an cdv ct) ps sp := by
  refine ⟨len, fun A outer s H args us vs Q E hr e0 hb r hsp => ?_⟩
  have hl := len _ _ _ _ hsp
  have KX : K.In s.heap := e0.mod.kin.keeps fun b o e => (e0.bs b o e).1
  have lim : s.heap.NoLimit := e0.mod.nolimit.keeps fun b o e => (e0.bs b o e).1
  have hkind : ∀ y ∈ ps.zip us, scope.names.lookup y.1 = some .local ∨ (scope.names.lookup y.1 = some .cell ∧ ((cellsFrom (s.heap.objs.size + 1) scope.names []).lookup y.1).isSome = true) := fun ⟨n, v⟩ hy => by
    rcases S.par n (List.of_mem_zip hy).1 with q | q
    · exact .inl q
    · exact .inr ⟨q, PySem.W.cellsFrom_some _ _ _ (.inl q)⟩
  refine codeAny_call_function (show A.depth < recursionLimit by have := hr.dp; omega) (KX _ _ lk) rfl S.co S.gen rfl (PySem.W.codeRec_of KX hcd) (hb _ _ _ _ ?_)
  refine wpAny_newFunctionEnv_cells S.kind hkind fun env he s1 x => ?_
  subst he
  refine ⟨lim.keeps x.toInCall.keep, codeAny_func ?_⟩
  obtain ⟨t, ht, hq⟩ := hbody A outer s H vs Q E (hr.deeper _) hsp
  have I : Inv (cxQ (L2.CX P w) P w K mg base N qual scope f cdv A outer s H E) [] (L2.start N vs) H s1 := inv_startQ S e0 hl r x
  refine wpAny_mono (ht.run [] s1 (L2.start N vs) H _ I hq) (fun fl s' hs => ?_) fun e s' hs => hs
  have fin : ∀ {σ' : L2.St} {H' : Hp} {v : V} {u : Value}, Inv (cxQ (L2.CX P w) P w K mg base N qual scope f cdv A outer s H E) [] σ' H' s' → L2.RelV v u → Q v H' → CE outer P w H s Q u s' :=
    fun {σ' H' v u} J rv q => ⟨v, H', J.os, J.bare, J.base, J.hok, rv, q⟩
  cases fl with
  | ret u =>
    obtain ⟨v, σ', H', J, rv, q⟩ := hs
    exact fin J rv q
  | next =>
    obtain ⟨σ', H', J, q⟩ := hs
    exact fin (v := V.non) (u := Value.none) J rfl q
  | brk =>
    obtain ⟨_, _, _, q⟩ := hs
    exact False.elim q
  | cont =>
    obtain ⟨_, _, _, q⟩ := hs
    exact False.elim q
section
variable {G : Glo} {P : Program} {w : World} {K : PySem.W.Frag} {mg : Str → Option Value} {base : Heap}
theorem fun_okQ {x qual : Str} {st : Stmt} {f : Addr} {fd : FuncData} {N ps : List Str} {k n np : Nat} {g : SF} (F : Fun G.K x qual st f fd) (S : FnScope N ps (defScope st)) (hn : N.length = n) (hp : ps.length = np)
    (hbody : ∀ (cdv : Value) (A : Around) (outer : List Env) (s : Shared) (H : Hp) (E : XK), RoomQ k (A.deeper (envOfC qual (defScope st) s.heap.objs.size f cdv)) →
      DSs (cxQ (L2.CX P w) P w G.K mg base N qual (defScope st) f cdv A outer s H E) G (fun c d _ H => E c d H) (defBody st) g) :
    FnOkQ P w G.K mg base (k + 1) f fd ps (spD G np (callF n np g)) := by
  obtain ⟨oc, od, kV, doc, pm, an, cdv, ct, osl, rfl, lk, hcd⟩ := F.ex
  refine fn_ofQ lk hcd S (fun vs H Q E h => h.1.trans hp.symm) fun A outer s H vs Q E hr h => ⟨_, (hbody cdv A outer s H E hr).ps, ?_⟩
  obtain ⟨hl, W, ds, C, rv, st, q⟩ := h
  refine ⟨W, _, C, RepS.start (N := N) rv, st, ?_⟩
  unfold callF at q
  rw [if_pos (rv.length.trans hl), ← hn] at q
  cases e : g (ds.map some ++ List.replicate (N.length - ds.length) none) C with
  | nxt s' C' => rw [e] at q; exact fun W' σ' H' t st' _ => q W' .non H' t st' .non
  | ret d C' => rw [e] at q; exact fun W' v H' t st' r => q W' v H' t st' r
  | err c s' C' => rw [e] at q; exact fun W' σ' H' t st' _ => q W' H' t st'
  | brk s' C' => rw [e] at q; exact q.elim
  | cnt s' C' => rw [e] at q; exact q.elim
  | no => rw [e] at q; exact q.elim
structure CalleeQ (P : Program) (w : World) (G : Glo) (mg : Str → Option Value) (base : Heap) (k : Nat) (x : Str) (np : Nat) (dd : List D) (F : Fn) : Prop where
  ar : Arity F np
  ex : ∃ f fd ps ds dvs, ps.length = np ∧ FnOkQ P w G.K mg base k f fd ps (spD G np F) ∧ mg x = some (.ref f) ∧ PySem.W.keepIn G.K (.ref f) = true ∧ Binds G.K fd ps ds ∧ Vals dvs ds ∧ ∀ W, RepVs G W dd dvs
end
section
variable {X : Cx} {G : Glo} {Wx : WX} {e : Expr} {es : List Expr} {af : AF} {x : Str} {p pos : Pos} {k np : Nat} {dd : List D} {F : Fn}
theorem run_fnQ {pins : List (Addr × Obj)} {σ : L2.St} {H : Hp} {s : Shared} {Q : VK} {us ds : List Value} {vs dvs : List V} {E : L2.St → XK} {f : Addr} {fd : FuncData} {ps : List Str} {sp : Sp} (F : FnOkQ X.prog X.w X.K X.mg X.base k f fd ps sp) (hr : RoomQ k X.A) (hb : Binds X.K fd ps ds) (hd : Vals dvs ds) (hx : PassesAt (L2.CX X.prog X.w) X σ (E σ))
    (I : Inv X pins σ H s) (r : Vals vs us) (h : sp (vs ++ dvs) H Q (E σ)) : wpAny (model X.prog X.w) X.A (call (.ref f) us) (EP X pins σ Q) X.xe s := by
  have r2 : Vals (vs ++ dvs) (us ++ ds) := r.append hd
  have hl : (us ++ ds).length = ps.length := by rw [← r2.length]; exact F.len _ _ _ _ h
  refine wpAny_call (codeAny_mono (F.run X.A X.stack s H ⟨us, []⟩ (us ++ ds) (vs ++ dvs) Q (E σ) hr I.env0 (hb s us I.kIn hl) r2 h) fun r s' hq => ?_)
  cases r with
  | error e => exact hx pins H s e s' I hq
  | ok fl =>
    cases fl with
    | ret u => exact I.after hq
    | next => exact False.elim hq
    | brk => exact False.elim hq
    | cont => exact False.elim hq
theorem de_callQ (hk : X.K = G.K) (cl : CalleeQ X.prog X.w G X.mg X.base k x np dd F) (hr : RoomQ k X.A) (hg : Gl X x) (tk : Takes X Wx) (ha : DA X G Wx (e :: es) af) (hdb : (x == ("__debug__" : Str)) = false := by decide)
    (he : starEach (e :: es) X.env = (false, eval e X.env) :: starEach es X.env := by rfl) (hpl : (backTo pos (starEach es X.env)).any (·.1) = false := by rfl) : DE X G Wx (.Call (.Name x p) (e :: es) [] pos) (eCall F dd af) := by
  obtain ⟨ar, f, fd, ps, ds, dvs, hp, ok, hm, kp, hb, hd, rd⟩ := cl
  refine ⟨⟨fun pins s σ H Q I h => ?_⟩⟩
  obtain ⟨W, sl, C, rs, st, q⟩ := h
  refine wpAny_Call_Name_kw (ld_glob I hg hm ?_ hdb)
  refine PySem.W.callWith_K (h₀ := X.base) I.ok.mod.kin (by rw [hk]; exact kp) (thn (ha.pa.run pos pins s σ H (fun vs H1 => spD G np F (vs ++ dvs) H1 Q (fun c d H => Wx c d σ H)) I ⟨W, sl, C, rs, st, q.bind fun xs C1 W1 vs H1 _ t st1 rx q1 => spD_of ar (rx.append (rd W1)) st1 q1⟩) fun us s1 ⟨vs, H1, I1, r, q⟩ => ⟨I1.kIn, ?_⟩) he hpl
  exact run_fnQ (E := fun σ c d H => Wx c d σ H) (by rw [hk]; exact ok) hr (by rw [hk]; exact hb) hd (passAt tk σ) I1 r q
end
end DL

set_option Elab.async false
set_option linter.all false
set_option maxRecDepth 100000
set_option autoImplicit false
set_option maxHeartbeats 2000000
/-! f-strings, startswith, str of texts; dicts of the module with text keys and values of any kind -/
namespace DL
open PySem PySem.Spec PyProof.Rows L2
section
variable {G : Glo}
/-- str(x), x a number or a text -/
def bStrA (xs : List D) (C : Cells) : Res D := match xs with
  | [.int i] => if i.natAbs.log2 < 1920 then .ok (.str (toString i)) C else .no
  | [.str s] => .ok (.str s) C
  | _ => .no
theorem c_strA {X : Cx} : CallR X (.type "str") (fun xs H Q => (∃ i, xs = [V.int i] ∧ i.natAbs.log2 < 1920 ∧ Q (.str (toString i)) H) ∨ (∃ a, xs = [V.str a] ∧ Q (.str a) H)) := CallR.or call_str_int SkE.call_str_str
theorem oa_strA : OpA G (fun xs H Q => (∃ i, xs = [V.int i] ∧ i.natAbs.log2 < 1920 ∧ Q (.str (toString i)) H) ∨ (∃ a, xs = [V.str a] ∧ Q (.str a) H)) bStrA := fun Wx σ W C H xs vs Q st rx q => by
  unfold bStrA at q
  split at q
  · split at q
    · rename_i h
      obtain ⟨v, rfl, r⟩ := rx.one
      exact .inl ⟨_, by rw [r.int_], h, q W _ H .refl st .str⟩
    · exact q.elim
  · obtain ⟨v, rfl, r⟩ := rx.one
    exact .inr ⟨_, by rw [r.str_], q W _ H .refl st .str⟩
  · exact q.elim
def mStarts (x : D) (xs : List D) (C : Cells) : Res D := match x, xs with
  | .str a, [.str b] => .ok (.bl (Txt.startswith a b)) C
  | _, _ => .no
theorem om_starts : OpM G (fun x xs H Q => ∃ a b, x = .str a ∧ xs = [.str b] ∧ Q (.bl (Txt.startswith a b)) H) mStarts := fun Wx σ W C H x v xs vs Q st rx rxs q => by
  unfold mStarts at q
  split at q
  · obtain ⟨u, rfl, hu⟩ := rxs.one
    exact ⟨_, _, by rw [rx.str_], by rw [hu.str_], q W _ H .refl st .bl⟩
  · exact q.elim
end
/-! ### f-strings -/
def eFmt (f : EF) : EF := fun s C => (f s C).bind fun d C => match d with
  | .str y => if y.length ≤ mxl then .ok (.str y) C else .no
  | .int i => if i.natAbs.log2 < 1920 then .ok (.str (toString i)) C else .no
  | _ => .no
def jsF : List EF → Str → Sl → Cells → Res D
  | [], acc, _, C => .ok (.str acc) C
  | f :: fs, acc, s, C => (f s C).bind fun d C => match d with
    | .str y => if (acc ++ y).length ≤ mxl then jsF fs (acc ++ y) s C else .no
    | _ => .no
def eJs (fs : List EF) : EF := fun s C => jsF fs Str.empty s C
section
variable {X : Cx} {G : Glo} {Wx : WX} {e : Expr} {es : List Expr} {f : EF} {fs : List EF} {pos : Pos}
theorem de_fmt (he : DE X G Wx e f) : DE X G Wx (.FormattedValue e (-1) none pos) (eFmt f) :=
  ⟨PE.weak (pe_fmt he.pe) fun σ H Q ⟨W, sl, C, rs, st, q⟩ => ⟨W, sl, C, rs, st, q.bind fun d C1 W1 v H1 _ t st1 rx q1 => by
    split at q1
    · split at q1
      · rename_i h
        exact .inl ⟨_, rx.str_, by rw [← mxl_eq]; exact h, q1 W1 _ H1 .refl st1 .str⟩
      · exact q1.elim
    · split at q1
      · rename_i h
        exact .inr ⟨_, rx.int_, h, q1 W1 _ H1 .refl st1 .str⟩
      · exact q1.elim
    · exact q1.elim⟩⟩
/-- the parts -/
inductive DJs (X : Cx) (G : Glo) (Wx : WX) : List Expr → List EF → Prop where
  | nil : DJs X G Wx [] []
  | cons {e : Expr} {f : EF} {es : List Expr} {fs : List EF} (h : DE X G Wx e f) (r : DJs X G Wx es fs) : DJs X G Wx (e :: es) (f :: fs)
theorem DJs.pj (h : DJs X G Wx es fs) : PJ X es (fs.map (tD G Wx)) := by
  induction h with
  | nil => exact .nil
  | cons h _ ih => exact .cons h.pe ih
theorem js_use {σ : L2.St} {Q : VK} : ∀ (fs : List EF) (acc : Str) {W : Wd} {sl : Sl} {C : Cells} {H : Hp}, RepS G W sl σ → StR G W C H → Post G Wx σ (RepV G) W C H (jsF fs acc sl C) Q → tJs (fs.map (tD G Wx)) acc σ H fun out H1 => Q (.str out) H1
  | [], acc, W, sl, C, H, _, st, q => q W _ H .refl st .str
  | f :: fs, acc, W, sl, C, H, rs, st, q => ⟨W, sl, C, rs, st, Post.bind q fun d C1 W1 v H1 _ t st1 rx q1 => by
    split at q1
    · split at q1
      · rename_i h
        exact ⟨_, rx.str_, by rw [← mxl_eq]; exact h, js_use fs _ (rs.up t.le) st1 q1⟩
      · exact q1.elim
    · exact q1.elim⟩
theorem de_js {e2 : Expr} (h : DJs X G Wx (e :: e2 :: es) fs) : DE X G Wx (.JoinedStr (e :: e2 :: es) pos) (eJs fs) :=
  ⟨PE.weak (pe_joined h.pj) fun σ H Q ⟨W, sl, C, rs, st, q⟩ => js_use fs _ rs st q⟩
end
/-! ### a dict of the module: text keys -/
structure KTabV (K : PySem.W.Frag) (w : World) (d : Addr) (kvs : List (Str × D)) : Prop where
  at_ : ∃ es n, KDict K w d es n
  get : ∀ z, match kvs.lookup z with
    | none => PySem.W.nsIn K d z = some none
    | some dv => ∃ u0 v0, PySem.W.nsIn K d z = some (some u0) ∧ RelV v0 u0 ∧ ∀ (G : Glo), G.K = K → ∀ W, RepV G W dv v0
def eKInV (neg : Bool) (kvs : List (Str × D)) (f : EF) : EF := fun s C => (f s C).bind fun d C => match d with
  | .str z => .ok (.bl (if neg then !(kvs.lookup z).isSome else (kvs.lookup z).isSome)) C
  | _ => .no
def eKGetV (kvs : List (Str × D)) (f : EF) : EF := fun s C => (f s C).bind fun d C => match d with
  | .str z => (match kvs.lookup z with | some b => .ok b C | none => .no)
  | _ => .no
def eKGet2V (kvs : List (Str × D)) (f g : EF) : EF := fun s C => (f s C).bind fun d C => match d with
  | .str z => (g s C).bind fun y C => .ok ((kvs.lookup z).getD y) C
  | _ => .no
section
variable {X : Cx} {G : Glo} {Wx : WX} {e ed : Expr} {fe fd : EF} {p pos apos cpos : Pos} {x : Str} {kvs : List (Str × D)} {K : PySem.W.Frag}
theorem KTabV.isk {w : World} {d : Addr} (T : KTabV K w d kvs) (z : Str) : PySem.W.nsIn K d z = some none ∧ kvs.lookup z = none ∨ ∃ dv u0 v0, kvs.lookup z = some dv ∧ PySem.W.nsIn K d z = some (some u0) ∧ RelV v0 u0 ∧ ∀ (G : Glo), G.K = K → ∀ W, RepV G W dv v0 := by
  have h := T.get z
  cases e : kvs.lookup z with
  | none => rw [e] at h; exact .inl ⟨h, rfl⟩
  | some dv =>
    rw [e] at h
    obtain ⟨u0, v0, h1, h2, h3⟩ := h
    exact .inr ⟨dv, u0, v0, rfl, h1, h2, h3⟩
theorem KTabV.isSome {w : World} {d : Addr} (T : KTabV K w d kvs) (z : Str) : ∃ r, PySem.W.nsIn K d z = some r ∧ r.isSome = (kvs.lookup z).isSome := by
  rcases T.isk z with ⟨h1, h2⟩ | ⟨dv, u0, v0, h1, h2, _, _⟩
  · exact ⟨none, h1, by rw [h2]; rfl⟩
  · exact ⟨_, h2, by rw [h1]; rfl⟩
theorem de_kinV (hk : X.K = G.K) (h : ∃ a, X.mg x = some (.ref a) ∧ KTabV X.K X.w a kvs) (hg : Gl X x) (he : DE X G Wx e fe) (hb : behindInMarks .In (.Name x p) = false := by rfl) (hd : (x == ("__debug__" : Str)) = false := by decide) : DE X G Wx (.Compare e [.In] [.Name x p] pos) (eKInV false kvs fe) := by
  obtain ⟨d, hm, T⟩ := h
  obtain ⟨es, n, D⟩ := T.at_
  refine de_weak (pe_cmpR (op_in_kd D) he.pe (pe_glob hg hm (v := .ref d) rfl hd) hb) fun σ H Q ⟨W, sl, C, rs, st, q⟩ => ⟨W, sl, C, rs, st, q.bind fun y C1 W1 v H1 _ t st1 rx q1 => ?_⟩
  split at q1
  · rename_i z _
    obtain ⟨r, h1, h2⟩ := T.isSome z
    have := q1 W1 _ H1 .refl st1 .bl
    refine ⟨z, r, rx.str_, rfl, h1, ?_⟩
    rw [h2]
    simpa using this
  · exact q1.elim
theorem dt_kinV (hk : X.K = G.K) (h : ∃ a, X.mg x = some (.ref a) ∧ KTabV X.K X.w a kvs) (hg : Gl X x) (he : DE X G Wx e fe) (hb : behindInMarks .In (.Name x p) = false := by rfl) (hd : (x == ("__debug__" : Str)) = false := by decide) : DT X G Wx (.Compare e [.In] [.Name x p] pos) (asB (eKInV false kvs fe)) := by
  obtain ⟨d, hm, T⟩ := h
  obtain ⟨es, n, D⟩ := T.at_
  refine ⟨PT.weak (pt_cmpR (op_in_kd D) he.pe (pe_glob hg hm (v := .ref d) rfl hd) hb) fun σ H Q ⟨W, sl, C, rs, st, q⟩ => ?_⟩
  have q := asB_use q
  refine ⟨W, sl, C, rs, st, q.bind fun y C1 W1 v H1 _ t st1 rx q1 => ?_⟩
  split at q1
  · rename_i z _
    obtain ⟨r, h1, h2⟩ := T.isSome z
    have := q1 W1 _ H1 .refl st1 .bl
    refine ⟨z, r, rx.str_, rfl, h1, ?_⟩
    rw [h2]
    obtain ⟨k, e1, e2⟩ := this
    cases e1
    simpa using e2
  · exact q1.elim
theorem de_kgetV (hk : X.K = G.K) (h : ∃ a, X.mg x = some (.ref a) ∧ KTabV X.K X.w a kvs) (hg : Gl X x) (he : DE X G Wx e fe) (hs : NoSl e := by intro _ _; rfl) (hd : (x == ("__debug__" : Str)) = false := by decide) : DE X G Wx (.Subscript (.Name x p) e pos) (eKGetV kvs fe) := by
  obtain ⟨d, hm, T⟩ := h
  obtain ⟨es, n, D⟩ := T.at_
  have pe : PE X (.Subscript (.Name x p) e pos) (tOp (fun x y H Q => ∃ (z : Str) (u0 : Value) (v0 : V), x = .ref d ∧ y = .str z ∧ PySem.W.nsIn X.K d z = some (some u0) ∧ RelV v0 u0 ∧ Q v0 H) (tC (.ref d)) (tD G Wx fe)) := by
    refine ⟨fun pins s σ H Q I h => ?_⟩
    refine subD_of PySem.F.slot_dict_getitem.lookup hs (thn ((pe_glob hg hm (v := .ref d) rfl hd).run pins s σ H _ I h) fun u s1 ⟨y, H1, I1, rx, q1⟩ => thn (he.pe.run pins s1 σ H1 _ I1 q1) fun iv s2 ⟨y2, H2, I2, ry, q2⟩ => ?_)
    have ex : y = .ref d := by obtain ⟨z, u0, v0, ex, _⟩ := q2; exact ex
    subst ex
    obtain rfl : u = Value.ref d := rx
    exact ⟨kd_type D I2, (op_item_kd D) pins s2 σ H2 (.ref d) y2 _ _ Q I2 rfl ry q2⟩
  refine de_weak pe fun σ H Q ⟨W, sl, C, rs, st, q⟩ => ⟨W, sl, C, rs, st, q.bind fun y C1 W1 v H1 _ t st1 rx q1 => ?_⟩
  split at q1
  · rename_i z _
    split at q1
    · rename_i b e
      rcases T.isk z with ⟨h1, h2⟩ | ⟨dv, u0, v0, h1, h2, h3, h4⟩
      · rw [h2] at e; cases e
      · rw [h1] at e; cases e
        exact ⟨z, u0, v0, rfl, rx.str_, h2, h3, q1 W1 _ H1 .refl st1 (h4 G hk.symm W1)⟩
    · exact q1.elim
  · exact q1.elim
/-- d.get(key, x) -/
theorem de_kget2V (hk : X.K = G.K) (h : ∃ a, X.mg x = some (.ref a) ∧ KTabV X.K X.w a kvs) (hg : Gl X x) (he : DE X G Wx e fe) (hf : DE X G Wx ed fd) (m : M2 X (.Name x p) "get" apos e ed cpos) (hd : (x == ("__debug__" : Str)) = false := by decide) :
    DE X G Wx (.Call (.Attribute (.Name x p) "get" apos) [e, ed] [] cpos) (eKGet2V kvs fe fd) := by
  obtain ⟨d, hm, T⟩ := h
  obtain ⟨es, n, D⟩ := T.at_
  refine ⟨⟨fun pins s σ H Q I h => ?_⟩⟩
  obtain ⟨W, sl, C, rs, st, q⟩ := h
  refine wpAny_Call_method m.base m.few m.line PySem.F.plainAttrs_dict PySem.F.slot_dict_get PySem.F.type_dict_get (ld_glob I hg hm ?_ hd)
  have mp : ∀ {s' : Shared} {H' : Hp} {p' : List (Addr × Obj)}, Inv X p' σ H' s' → s'.heap.MapOf (strKind X.prog X.w) d (fun k => findBy Value.isStrOf es k) := fun I' => PySem.W.mapOf_K (prog := X.prog) I'.kIn D.at_ D.lit
  refine ⟨kd_type D I, (mp I).noDict, ?_⟩
  rw [m.trees]
  refine Calls.callWith_builtin rfl (Calls.evalArgs_plain (Calls.spliced_cons (thn (he.pe.run pins s σ H (fun y H1 => ∃ W1 C1, StR G W1 C1 H1 ∧ Step W C H W1 C1 H1 ∧ ∃ z, y = V.str z ∧ Post G Wx σ (RepV G) W1 C1 H1 ((fd sl C1).bind fun y C => .ok ((kvs.lookup z).getD y) C) Q) I
    ⟨W, sl, C, rs, st, q.bind fun y C1 W1 v H1 _ t st1 rx q1 => ?_⟩) fun iv s2 ⟨y, H2, I2, ry, W1, C1, st1, t1, z, ez, q2⟩ =>
    Calls.spliced_cons (thn (hf.pe.run pins s2 σ H2 (fun y H1 => ∃ W2 C2, StR G W2 C2 H1 ∧ ∃ dd, RepV G W2 dd y ∧ Post G Wx σ (RepV G) W2 C2 H1 (.ok ((kvs.lookup z).getD dd) C2) Q) I2 ⟨W1, sl, C1, rs.up t1.le, st1, q2.bind fun y C2 W2 v H1 _ t st2 rx q3 => ⟨W2, C2, st2, y, rx, q3⟩⟩) fun fv s3 ⟨y3, H3, I3, rz, W2, C2, st2, dd, rd, q3⟩ => Calls.spliced_nil ?_))))
  · split at q1
    · rename_i z _
      exact ⟨W1, C1, st1, t, z, rx.str_, q1⟩
    · exact q1.elim
  · subst ez
    obtain ⟨tk, rfl⟩ := ry
    refine call_meetsIn PySem.F.slot_dict_get (kd_type D I3) PySem.F.entry_dict_get (PySem.F.args_dict_get_3 _ _ _) (meets_dict_get_default (strKind X.prog X.w) d (strKind_is X.prog X.w z tk) D.low fv) ⟨_, mp I3, ?_⟩
    rcases T.isk z with ⟨h1, h2⟩ | ⟨dv, u0, v0, h1, h2, h3, h4⟩
    · rw [PySem.W.find_K D.at_ (h1)]
      rw [h2] at q3
      exact ⟨y3, H3, I3.tok _, rz, q3 W2 y3 H3 .refl st2 rd⟩
    · rw [PySem.W.find_K D.at_ (h2)]
      rw [h1] at q3
      exact ⟨v0, H3, I3.tok _, h3, q3 W2 v0 H3 .refl st2 (h4 G hk.symm W2)⟩
end
/-! the tables as they are written -/
structure KEnt where
  h : Int
  k : Str
  t : Tok
  u : Value
  dv : D
  v : V
def KEnt.e (x : KEnt) : DictEntry := ⟨x.h, .str x.k x.t, x.u⟩
def KAll (P : KEnt → Prop) : List KEnt → Prop
  | [] => True
  | e :: r => P e ∧ KAll P r
theorem find_ent (z : Str) : ∀ es : List KEnt, ((es.map KEnt.e).find? fun d => d.key.isStr z).map (·.val) = (es.map fun x => (x.k, x.u)).lookup z
  | [] => rfl
  | x :: r => by
    have s : (x.k == z) = (z == x.k) := by
      cases a : x.k == z with
      | true => rw [beq_iff_eq.1 a]; simp
      | false =>
        cases b : z == x.k with
        | false => rfl
        | true => rw [beq_iff_eq.1 b] at a; simp at a
    rw [List.map_cons, List.map_cons, List.find?_cons, List.lookup_cons]
    show Option.map _ (match x.k == z with | true => some x.e | false => _) = _
    rw [s]
    cases z == x.k with
    | true => rfl
    | false => exact find_ent z r
theorem no_ref : ∀ es : List KEnt, (es.map KEnt.e).any (·.refKey) = false
  | [] => rfl
  | x :: r => by
    rw [List.map_cons, List.any_cons, no_ref r]; rfl
theorem ktabV {K : PySem.W.Frag} {w : World} {d : Addr} {n : Nat} (es : List KEnt) (l : K.lookup d = some ⟨.type "dict", none, .dict (es.map KEnt.e).toArray n, #[]⟩) (kl : PySem.W.KeysLit w.params (es.map KEnt.e)) (lo : (d == sysModules) = false)
    (rel : KAll (fun x => RelV x.v x.u ∧ ∀ (G : Glo), G.K = K → ∀ W, RepV G W x.dv x.v) es) : KTabV K w d (es.map fun x => (x.k, x.dv)) := by
  refine ⟨⟨_, n, l, kl, lo⟩, fun z => ?_⟩
  have e0 : PySem.W.nsIn K d z = some ((es.map fun x => (x.k, x.u)).lookup z) := by
    have f := find_ent z es
    unfold PySem.W.nsIn
    rw [l]
    simp only [List.toList_toArray]
    cases q : (es.map KEnt.e).find? fun d => d.key.isStr z with
    | some e' => rw [q] at f; rw [← f]; rfl
    | none => rw [q] at f; rw [← f, no_ref]; rfl
  rw [e0]
  clear e0 l kl
  induction es with
  | nil => rfl
  | cons x r ih =>
    simp only [List.map_cons, List.lookup_cons]
    cases z == x.k with
    | true => exact ⟨x.u, x.v, rfl, rel.1.1, rel.1.2⟩
    | false => exact ih rel.2
theorem rep_ktp {K : PySem.W.Frag} {a : Addr} {ds : List D} {vs : List V} (s : ∀ H : Hp, SqT K H a vs) (r : ∀ (G : Glo) W, RepVs G W ds vs) : ∀ (G : Glo), G.K = K → ∀ W, RepV G W (.ktp ds) (.ref a) := fun G hk W => by
  unfold RepV
  exact ⟨a, vs, rfl, by rw [hk]; exact s W.F, r G W⟩
/-! ### t[lo:hi] of a known tuple -/
def dSlT (x : D) (lo hi : Option Int) (C : Cells) : Res D := match x with
  | .tup l => .ok (.tup (cutD l lo hi)) C
  | _ => .no
section
variable {X : Cx} {G : Glo} {Wx : WX} {e : Expr} {f : EF} {lo hi : Option Expr} {fl fh : OF} {p2 pos : Pos}
theorem cut_whole {α : Type} {xs : List α} {a b : Nat} (h : a = 0 ∧ b = xs.length) : (xs.drop a).take (b - a) = xs := by
  obtain ⟨rfl, rfl⟩ := h
  rw [List.drop_zero, Nat.sub_zero, List.take_length]
theorem de_slT (hk : X.K = G.K) (he : DE X G Wx e f) (hl : DO X G Wx lo fl) (hh : DO X G Wx hi fh) : DE X G Wx (.Subscript e (.Slice lo hi none p2) pos) (eSlG dSlT f fl fh) :=
  ⟨PE.weak (pe_slice sl_tupA he.pe hl.po hh.po) fun σ H Q ⟨W, sl, C, rs, st, q⟩ => ⟨W, sl, C, rs, st, q.bind fun x C1 W1 v H1 hx0 t st1 rx q1 => ⟨W1, sl, C1, rs.up t.le, st1, q1.bind fun l C2 W2 l' H2 _ t2 st2 rl q2 => ⟨W2, sl, C2, rs.up (t.trans t2).le, st2, q2.bind fun h C3 W3 h' H3 _ t3 st3 rh q3 => by
    subst rl; subst rh
    clear hx0
    unfold dSlT at q3
    split at q3
    · rename_i xs
      obtain ⟨a, vs, rfl, hv, rv⟩ := (rx.up (t2.trans t3).le).tup_
      refine ⟨a, vs, rfl, .inl (.inl (st3.F _ _ hv)), fun hw => ?_, fun _ => new_tup st3 (rv.cut l h) q3⟩
      rw [← rv.length] at hw
      have e0 : cutD xs l h = xs := cut_whole hw
      rw [e0] at q3
      exact q3 W3 _ H3 .refl st3 (.tup hv rv)
    · exact q3.elim⟩⟩⟩⟩
end
/-! ### a comprehension within another one's block, that names nothing of the frame -/
def blkC0 (N : List Str) (scope : Scope) (own : List (Str × Nat)) : Bool := blkC N { kind := .function, names := [], isGenerator := false, isCoroutine := false } scope own
theorem blkOk_nf {N : List Str} {sc scope : Scope} {own : List (Str × Nat)} (h : blkC0 N scope own = true) : BlkOk N sc scope own := by
  obtain ⟨h1, h2, h3, h4, h5⟩ := blkOk_by h
  refine ⟨h1, h2, h3, fun y m e => ?_, h5⟩
  rcases h4 y m e with q | q <;> cases q
end DL

set_option Elab.async false
set_option linter.all false
set_option maxRecDepth 100000
set_option autoImplicit false
set_option maxHeartbeats 2000000
/-! a list unpacked into names; a dict against an empty one -/
namespace PySem.W
open PySem PySem.Calls PyProof.Rows PyProof.V PySem.Spec
section
variable {prog : Program} {w : World} {K : Type} [DecidableEq K] {knd : KeyKind prog w K} {A : Around} {E : Value → Shared → Prop} {s : Shared}
theorem rcN_dicts {a b : Addr} {ka kb : List (K × Value)} {r : Bool} (ha : (a == sysModules) = false) (hb : (b == sysModules) = false)
    (da : s.heap.DictOf knd a ka) (db : s.heap.DictOf knd b kb) (hu : A.units < cLine) (hits : ka.length = kb.length → KeqHitsP prog w A.in1 s kb ka r) (Q : Value → Shared → Prop) (h : Q (.bool (!(ka.length == kb.length && r))) s) : wpAny (model prog w) A (compareOp .NotEq (.ref a) (.ref b)) Q E s := by
  refine wpAny_richCompare_same_room (op := .NotEq) da.typeIs db.typeIs PySem.F.slot_dict_ne (wpAny_call_entry PySem.F.slot_dict_ne da.typeIs PySem.F.entry_dict_ne ?_ (PySem.F.args_dict_ne_2 _ _)) hu
  show wpAny _ _ (Builtin.Dict.dictSlotArgs "__ne__" ⟨[.ref a, .ref b], []⟩ >>= _) _ _ s
  refine wpAny_bind ?_
  unfold Builtin.Dict.dictSlotArgs
  refine wpAny_bind (wpAny_notOrdered_dict da.typeIs ?_)
  show wpAny _ _ (pure (Value.ref a, Value.ref b)) _ _ s
  refine wpAny_pure ?_
  refine wpAny_bind (wpAny_isInstance (T := "dict") db.typeIs PySem.F.sub_dict_dict ?_)
  simp only [Bool.not_true, Bool.false_eq_true, if_false]
  refine wpAny_bind (wpAny_pure (wpAny_bind (wpAny_pure ?_)))
  refine wpAny_bind (samePairsP ha hb da db hits ?_)
  refine wpAny_pure ⟨_, rfl, ?_, ?_⟩
  · exact fun x => nomatch x
  · simpa using h
end
end PySem.W
namespace L2
open PySem PySem.Spec PyProof.Rows PySem.W
def rCmpE (b : Bool) : R2 := fun x y H Q => ∃ a c ks, x = .ref a ∧ y = .ref c ∧ H a = some (.dK ks) ∧ H c = some (.dK []) ∧ Q (.bl (if b then ks.isEmpty else !ks.isEmpty)) H
section
variable {X : Cx}
theorem hitsE {P : Program} {w : World} {A : Around} {s : Shared} {ka : List (Key × Value)} : ka.length = ([] : List (Key × Value)).length → KeqHitsP P w A s [] ka true := fun e => by
  cases ka with
  | nil => exact .nil
  | cons _ _ => cases e
theorem len_e {ks : List (Key × V)} {ka : List (Key × Value)} (r : KV ks ka) : (ka.length == 0) = ks.isEmpty := by
  have := Paired.length r
  cases ks with
  | nil =>
    have : ka.length = 0 := this.symm
    rw [this]; rfl
  | cons _ _ => rw [← this]; rfl
theorem op_neE (hu : X.A.units + 66 < cLine) : OpR X (compareOp .NotEq) (rCmpE false) := by
  intro pins s σ H x y v u Q I rx ry h
  obtain ⟨a, c, ks, rfl, rfl, ea, ec, q⟩ := h
  obtain rfl : v = Value.ref a := rx
  obtain rfl : u = Value.ref c := ry
  obtain ⟨_, ya, xa, ra, da⟩ := dk_of I.hok ea
  obtain ⟨_, yb, xb, rb, db⟩ := dk_of I.hok ec
  cases rb
  refine PySem.W.rcN_dicts ya yb da db (by omega) hitsE _ ⟨.bl (!ks.isEmpty), H, I, ?_, q⟩
  have := len_e ra
  simp only [List.length_nil, this, Bool.and_true]
  rfl
theorem op_eqE (hu : X.A.units + 66 < cLine) : OpR X (compareOp .Eq) (rCmpE true) := by
  intro pins s σ H x y v u Q I rx ry h
  obtain ⟨a, c, ks, rfl, rfl, ea, ec, q⟩ := h
  obtain rfl : v = Value.ref a := rx
  obtain rfl : u = Value.ref c := ry
  obtain ⟨_, ya, xa, ra, da⟩ := dk_of I.hok ea
  obtain ⟨_, yb, xb, rb, db⟩ := dk_of I.hok ec
  cases rb
  refine PySem.W.rcP_dicts ya yb da db (by omega) hitsE _ _ ⟨.bl ks.isEmpty, H, I, ?_, q⟩
  have := len_e ra
  simp only [List.length_nil, this, Bool.and_true]
  rfl
end
end L2
namespace DL
open PySem PySem.Spec PyProof.Rows L2
def dCmpE (b : Bool) (x y : D) (C : Cells) : Res D := match x, y with
  | .cel n, .cel m => (match C.get n, C.get m with
    | some (.dk l), some (.dk []) => .ok (.bl (if b then l.isEmpty else !l.isEmpty)) C
    | _, _ => .no)
  | _, _ => .no
section
variable {G : Glo}
theorem o2_cmpE (b : Bool) : Op2 G (rCmpE b) (dCmpE b) := fun Wx σ W C H x y v u Q st rx ry q => by
  unfold dCmpE at q
  split at q
  rotate_left
  · exact q.elim
  rename_i n m
  split at q
  rotate_left
  · exact q.elim
  rename_i l hn hm
  obtain ⟨a, rfl, ha⟩ := rx.cel_
  obtain ⟨c, rfl, hc⟩ := ry.cel_
  obtain ⟨a', ho, h1, h2, h3, kvs, rfl, h4⟩ := st.cells n _ hn
  rw [ha] at h1; cases h1
  obtain ⟨c', ho', k1, k2, k3, kvs', rfl, k4⟩ := st.cells m _ hm
  rw [hc] at k1; cases k1
  cases k4
  have e : l.isEmpty = kvs.isEmpty := by cases h4 <;> rfl
  exact ⟨a, c, kvs, rfl, rfl, h3, k3, by rw [← e]; exact q W _ H .refl st .bl⟩
/-- names = a list -/
def gfLst (n : Nat) (g : GFs) : GF := fun d s C => match d with
  | .lst l => if l.length = n then g l s C else none
  | _ => none
theorem g_lst {u : TGs} {g : GFs} {n : Nat} {b : List Nat} (h : GOks G u g b) : GOk G (gUnl G.K n u) (gfLst n g) b := fun d v sl sl' σ W C H Q st rv rs e q => by
  cases d with
  | lst l =>
    have e' : (if l.length = n then g l sl C else none) = some sl' := e
    split at e'
    · rename_i hl
      obtain ⟨a, vs, rfl, h1, h2⟩ := rv.lst_
      exact ⟨a, vs, rfl, .of (st.F _ _ h1), by rw [← h2.length]; exact hl, h l vs sl sl' σ W C H Q st h2 rs e' q⟩
    · cases e'
  | _ => cases e
end
end DL

set_option Elab.async false
set_option linter.all false
set_option maxRecDepth 100000
set_option autoImplicit false
/-! dict(d): a copy; name = [.. a dict that its own part reads ..] -/
namespace DL
open PySem PySem.Spec PyProof.Rows L2
def bDictC (xs : List D) (C : Cells) : Res D := match xs with
  | [.cel n] => (match C.get n with | some (.dk l) => .ok (.cel C.nx) (C.new (.dk l)) | _ => .no)
  | _ => .no
section
variable {X : Cx} {G : Glo} {Wx : WX}
theorem oa_dictC : OpA G (fun xs H Q => ∃ (a : Addr) (kvs : List (L2.Key × V)), xs = [.ref a] ∧ Rd H a (.dK kvs) ∧ ∀ p, H p = none → Q (.ref p) (upd H p (.dK kvs))) bDictC := fun Wx σ W C H xs vs Q st rx q => by
  unfold bDictC at q
  split at q
  · rename_i n
    obtain ⟨v, rfl, r⟩ := rx.one
    split at q
    · rename_i l e
      obtain ⟨a, rfl, ha⟩ := r.cel_
      obtain ⟨b, ho, h1, h2, h3, m, rfl, h4⟩ := st.cells n _ e
      rw [ha] at h1; cases h1
      refine ⟨a, m, rfl, .of h3, fun p hp => ?_⟩
      obtain ⟨s1, s2⟩ := fr_new (o := .dk l) (ho := .dK m) st hp ⟨m, rfl, h4⟩
      exact q _ _ _ s2 s1 (.cel (if_pos rfl))
    · exact q.elim
  · exact q.elim
end
section
variable {X : Cx} {G : Glo} {Wx : WX} {pos : Pos} {elt tg o : Expr} {ifs : List Expr} {scope : Scope} {own : List (Str × Nat)} {t : TG} {gf : GF} {tch : List Nat} {tt : Nat → List (List L2.Key × D) → TF} {fe : Nat → List (List L2.Key × D) → EF} {fo : EF}
theorem ds_setLcTR (k : Wk) (hq : NoFrz G) {iter : Expr} {i : Nat} {y : Str} {py spos : Pos} (hi : PI X tg iter (k.wi (tD G Wx fo))) (hc : X.calm = true) (hN : X.N.Nodup) (hy : X.N[i]? = some y) (hyl : X.env.scope.names.lookup y = some .local)
    (hsw : swapsWith (.ListComp elt [⟨tg, iter, ifs, 0⟩] scope pos) (some (.Name y py)) spos.line X.env = pure true) (ok : BlkOk X.N X.env.scope scope own) (go : ∀ w1, GOk (G.at_ w1) t gf tch) (htc : ∀ i ∈ tch, i ∈ own.map (·.2))
    (hg : ∀ (s : Shared) (H : Hp) (C : Addr) (cl : List (Str × Addr)) (fp : List Addr), PG (X.blk s H scope (compEnvC scope cl C X.env) fp) tg t)
    (ht : ∀ (w1 : Wd) (n : Nat) (l : List (List L2.Key × D)), LkF (G.at_ w1) n l → ∀ (s : Shared) (H : Hp) (C : Addr) (cl : List (Str × Addr)) (fp : List Addr), DTs (X.blk s H scope (compEnvC scope cl C X.env) fp) (G.at_ w1) W0 ifs (tt n l))
    (he : ∀ (w1 : Wd) (n : Nat) (l : List (List L2.Key × D)), LkF (G.at_ w1) n l → ∀ (s : Shared) (H : Hp) (C : Addr) (cl : List (Str × Addr)) (fp : List Addr), DE (X.blk s H scope (compEnvC scope cl C X.env) fp) (G.at_ w1) W0 elt (fe n l)) (hs : ∀ x, foldedSetIterable iter X.env x = pure x := by intro _; rfl) :
    DS X G Wx (.Assign [.Name y py] (.ListComp elt [⟨tg, iter, ifs, 0⟩] scope pos) spos) (sSet i (eLcTR k fo gf tt fe (own.map (·.2)))) :=
  ⟨PS.weak (ps_lock (ps_setLc hc hN hy hyl hsw hi ok hg (tt := tTR G tt) (te := tDR G fe) (fun s H C cl fp => ⟨fun pins s' σ H' Q I ⟨w1, n, l, hl, z⟩ => (ht w1 n l hl s H C cl fp).pts.run pins s' σ H' Q I z⟩) (fun s H C cl fp => ⟨fun pins s' σ H' Q I ⟨w1, n, l, hl, z⟩ => (he w1 n l hl s H C cl fp).pe.run pins s' σ H' Q I z⟩) hs)) fun D σ H ⟨W, sl, C, rs, st, q⟩ =>
    lcTR_use (Q := fun x H1 => gName i x σ H1 D.nx) k hq go htc rs st (SPost.toS (Q := fun x H1 => gName i x σ H1 D.nx) rs q fun d C1 W1 v H1 t1 st1 rr q1 => q1 W1 _ H1 .refl st1 ((rs.up t1.le).set i rr))⟩
end
/-! a new object by a call whose last argument is told by its name -/
structure KMakeOk (P : Program) (w : World) (G : Glo) (mg : Str → Option Value) (base : Heap) (k : Nat) (x : Str) (c n : Nat) (kn : Str) (np : Nat) (F : Fn) : Prop where
  ar : Arity F np
  ex : ∃ (f : Addr) (fd : FuncData) (ps : List Str) (g : List Value → List Value → List Value) (gV : List V → List V → List V), ps.length = np ∧ FnOk P w G.K mg base (L2.CX P w) k f fd ps (spD G np F) ∧ mg x = some (.ref (G.cls c)) ∧ Mk G.K (G.cls c) f ∧ KBn G.K fd ps (n + 1) [kn] g gV ∧ ∀ vs zs, gV vs zs = vs ++ zs
def eMakeK (mk : List D → Cells → Res D) (n : Nat) (af : AF) (f : EF) : EF := fun s C => (af s C).bind fun xs C => (f s C).bind fun d C => if xs.length = n then mk (xs ++ [d]) C else .no
section
variable {X : Cx} {G : Glo} {Wx : WX} {e e2 : Expr} {es : List Expr} {f : EF} {af : AF} {x kn : Str} {p pos kpos : Pos} {k n np : Nat} {F : Fn}
theorem de_makeK {c : Nat} {mk : List D → Cells → Res D} {E : XK} (hWx : Wx = fun c d _ H => E c d H) (hk : X.K = G.K) (mo : KMakeOk X.prog X.w G X.mg X.base k x c n kn np F) (hmk : mk = mkC c F ∨ mk = mkF G.T c F) (hr : Room (k + 1) X.A) (hg : Gl X x) (tk : Takes X Wx) (ha : DA X G Wx (e :: es) af) (hf : DE X G Wx e2 f)
    (hall : (backToKw pos (keywordEach [⟨some kn, e2, kpos⟩] X.env)).all (·.1.isSome) = true := by rfl) (hks : (backToKw pos (keywordEach [⟨some kn, e2, kpos⟩] X.env)).filterMap (·.1) = [kn] := by rfl)
    (hdb : (x == ("__debug__" : Str)) = false := by decide) (he : starEach (e :: es) X.env = (false, eval e X.env) :: starEach es X.env := by rfl)
    (hpl : ((backTo pos (starEach (e :: es) X.env)).any (·.1) || (backToKw pos (keywordEach [⟨some kn, e2, kpos⟩] X.env)).any (·.1.isNone)) = false := by rfl) :
    DE X G Wx (.Call (.Name x p) (e :: es) [⟨some kn, e2, kpos⟩] pos) (eMakeK mk n af f) := by
  subst hWx
  have hp : Passes (L2.CX X.prog X.w) X E := passes_call tk (fun _ _ _ _ h => h)
  obtain ⟨ar, fa, fd, ps, g, gV, hps, ok, hm, M, hb, hgv⟩ := mo
  refine ⟨PE.weak (pe_makeN (E := E) (by rw [hk]; exact M) (by rw [hk]; exact ok) hr hg hm (by rw [hk]; exact hb) hp ha.pa (pk_cons hf.pe pk_nil) hall hks hdb he hpl) fun σ H Q ⟨W, sl, C, rs, st, q⟩ => ⟨W, sl, C, rs, st, q.bind fun xs C1 W1 vs H1 _ t st1 rx q1 => ⟨W1, sl, C1, rs.up t.le, st1, q1.bind fun d C2 W2 v H2 _ t2 st2 rd q2 => ?_⟩⟩⟩
  split at q2
  · rename_i hl
    refine ⟨by rw [← rx.length]; exact hl, rfl, fun y dx hy hd' ne => ?_⟩
    rw [hgv]
    exact make_use ar st2 ((rx.up t2.le).append (.cons rd .nil)) hy hd' ne q2 hmk
  · exact q2.elim
end
end DL

set_option Elab.async false
set_option linter.all false
set_option maxRecDepth 100000
set_option maxHeartbeats 1000000
set_option autoImplicit false
/-! lambdas kept in lists of the def that makes them, handed to a def that calls them -/
namespace DL
open PySem PySem.Spec PyProof.Rows L2 LamX
section
variable {G : Glo} {W : Wd} {C : Cells} {H : Hp}
/-- what is known by a sentence becomes known to the world -/
theorem fr_ext {q : Addr} {φ : Heap → Prop} (st : StR G W C H) (hq : H q = some (.ext φ)) : ∃ W2, StR G W2 C H ∧ Step W C H W2 C H ∧ W2.F q = some (.ext φ) := by
  have le : W.le ⟨upd W.F q (.ext φ), W.cm⟩ := ⟨fun x v h => by
    show upd W.F q _ x = _
    by_cases e : x = q
    · subst e
      have := st.F x v h
      rw [hq] at this; cases this
      exact upd_same
    · rw [upd_ne e]; exact h, fun _ _ h => h⟩
  have tn : ∀ ps, HO.ext φ ≠ .tbl ps := fun _ z => (nomatch z)
  refine ⟨⟨upd W.F q (.ext φ), W.cm⟩, ⟨st.lnk.trans le, st.tb.kn hq tn le, fun x v h => ?_, fun m o2 h => ?_, st.inj, st.nx⟩, ⟨le, Nat.le_refl _, fun x v h px nx => ⟨h, fun z => ?_⟩⟩, upd_same⟩
  · have h' : upd W.F q (.ext φ) x = some v := h
    by_cases e : x = q
    · subst e; rw [upd_same] at h'; cases h'; exact hq
    · rw [upd_ne e] at h'; exact st.F x v h'
  · obtain ⟨x, hx, k1, k2, k3, k4⟩ := st.cells m o2 h
    have : x ≠ q := fun e => by
      rw [e, hq] at k3; cases k3
      exact k4.pla.2.1 _ rfl
    exact ⟨x, hx, k1, by show upd W.F q _ x = none; rw [upd_ne this]; exact k2, k3, k4.up le⟩
  · rcases z with ⟨u, z⟩ | ⟨m, o2, z1, z2⟩
    · have z' : upd W.F q (.ext φ) x = some u := z
      by_cases e : x = q
      · subst e
        rw [hq] at h; cases h
        exact px.2.1 _ rfl
      · rw [upd_ne e] at z'
        exact nx (.inl ⟨u, z'⟩)
    · exact nx (.inr ⟨m, o2, z1, z2⟩)
/-- an address gets a number -/
theorem fr_ghost (L : Addr) (st : StR G W C H) : ∃ W1, StR G W1 (C.bump 1) H ∧ Step W C H W1 (C.bump 1) H ∧ W1.cm C.nx = some L := by
  have old : ∀ n o, C.get n = some o → n ≠ C.nx := fun n o h => Nat.ne_of_lt (Cells.lt h)
  have cmo : ∀ {n : Nat} {o : O} {a : Addr}, C.get n = some o → (if n = C.nx then some L else W.cm n) = some a → W.cm n = some a := fun {n o a} h e => by
    rw [if_neg (old n o h)] at e; exact e
  have le : W.le ⟨W.F, fun n => if n = C.nx then some L else W.cm n⟩ := ⟨fun _ _ h => h, fun n a h => by
    show (if n = C.nx then some L else W.cm n) = some a
    have : n ≠ C.nx := fun e => by rw [e, st.nx _ (Nat.le_refl _)] at h; cases h
    rw [if_neg this]; exact h⟩
  refine ⟨⟨W.F, fun n => if n = C.nx then some L else W.cm n⟩, ⟨st.lnk.trans le, st.tb.cm rfl, st.F, fun n o h => ?_, fun n m a o1 o2 h1 h2 h3 h4 => st.inj n m a o1 o2 h1 h2 (cmo h1 h3) (cmo h2 h4), fun n hn => ?_⟩, ⟨le, Nat.le_succ _, fun a o h po n => ⟨h, fun z => n ?_⟩⟩, if_pos rfl⟩
  · obtain ⟨a, ho, h1, h2, h3, h4⟩ := st.cells n o h
    exact ⟨a, ho, (if_neg (old n o h)).trans h1, h2, h3, h4.up le⟩
  · have hn' : C.nx + 1 ≤ n := hn
    show (if n = C.nx then some L else W.cm n) = none
    rw [if_neg (by omega)]; exact st.nx n (by omega)
  · rcases z with ⟨u, z⟩ | ⟨m, o2, z1, z2⟩
    · exact .inl ⟨u, z⟩
    · exact .inr ⟨m, o2, z1, cmo z1 z2⟩
end
/-- a lambda that the frame at L made: q its name; its captured cells are those of the frame -/
def LamO (q : Str) (params : Arguments) (body : Expr) (sc scope : Scope) (vs : List V) (a : Addr) : HO := .ext fun h => ∃ (L c' : Addr) (pm ctv : Value), vs = [V.ref L, V.ref c'] ∧
  h.get? a = some (PySem.W.kla_obj "<lambda>" q params body scope (cloFrom (cellsFrom (L + 1) sc.names []) scope.names []) pm c' ctv)
section
variable {X : Cx} {pins : List (Addr × Obj)} {σ : L2.St} {H : Hp} {s : Shared}
/-- a function object that is made now is known from now on -/
theorem inv_lam {q : Str} {params : Arguments} {body : Expr} {sc scope : Scope} {L c' : Addr} {pm ctv : Value} {cl : List (Str × Addr)} {tk : Nat} (hcl : cl = cellsFrom (L + 1) sc.names []) (I : Inv X pins σ H s) :
    Inv X pins σ (upd H s.heap.objs.size (LamO q params body sc scope [V.ref L, V.ref c'] s.heap.objs.size)) { s with heap := s.heap.push (PySem.W.kla_obj "<lambda>" q params body scope (cloFrom cl scope.names []) pm c' ctv), toks := tk } := by
  subst hcl
  have g : (s.heap.push (PySem.W.kla_obj "<lambda>" q params body scope (cloFrom (cellsFrom (L + 1) sc.names []) scope.names []) pm c' ctv)).get? s.heap.objs.size = some (PySem.W.kla_obj "<lambda>" q params body scope (cloFrom (cellsFrom (L + 1) sc.names []) scope.names []) pm c' ctv) := Heap.get?_push_size _ rfl
  exact I.laid (fun b u e => Heap.get?_push_of_some _ e) (Nat.le_refl _) ⟨⟨L, c', pm, ctv, rfl, g⟩, ⟨_, g⟩, fun h1 h2 ⟨L1, c1, p1, t1, z1, z2⟩ st => ⟨L1, c1, p1, t1, z1, st _ z2⟩⟩
theorem lam_make3 {T : List (Addr × Str)} {c P L : Addr} {params : Arguments} {body : Expr} {sc scope : Scope} {pos : Pos} {E : Value → Shared → Prop} {Q : Value → Shared → Prop} (I : Inv X pins σ H s) (TB : TabB X.base X.mg c P) (hcode : X.env.code = .ref c)
    (hm : (P, X.env.qual ++ "<lambda>") ∈ T) (hu : ∀ p ∈ T, p.1 = P → p.2 = X.env.qual ++ "<lambda>") (hT : Tabs T H) (hdef : defaultsOf params X.env = ([], [])) (hfree : ∀ y ∈ scope.names, y.2 = .free → ∃ c, X.env.cells.lookup y.1 = some c)
    (hcl : X.env.cells = cellsFrom (L + 1) sc.names [])
    (h : ∀ (f c' : Addr) (H1 : Hp) (s' : Shared), Inv X pins σ H1 s' → ExtN H H1 → Tabs T H1 → H1 f = some (LamO (X.env.qual ++ "<lambda>") params body sc scope [V.ref L, V.ref c'] f) → H1 c' = some (CodeO c' (X.env.qual ++ "<lambda>")) → Q (.ref f) s') :
    wpAny (model X.prog X.w) X.A (eval (.Lambda params body scope pos) X.env) Q E s := by
  obtain ⟨ps, hP, ht, ha⟩ := hT _ hm
  refine PySem.W.kla_eval hdef ?_
  have bP : s.heap.BuiltinsAt X.mg P := TB.bm.keeps I.bk
  have hP' : s.heap.get? P = some { cls := .none, data := .fields ps } := I.hok P _ hP
  have one : ∀ {H1 : Hp} {s1 : Shared} {c' : Addr} {pm ctv : Value} {tk : Nat}, Inv X pins σ H1 s1 → ExtN H H1 → Tabs T H1 → H1 c' = some (CodeO c' (X.env.qual ++ "<lambda>")) →
      Q (.ref s1.heap.objs.size) { s1 with heap := s1.heap.push (PySem.W.kla_obj "<lambda>" (X.env.qual ++ "<lambda>") params body scope (cloFrom X.env.cells scope.names []) pm c' ctv), toks := tk } := fun {H1 s1 c' pm ctv tk} I1 eN T1 hc => by
    have nF := I1.hok.fresh (Nat.le_refl _)
    refine h s1.heap.objs.size c' _ _ (inv_lam (L := L) hcl I1) (fun b o e n => (upd_ne (ne_of_none (eN b o e n) nF)).trans (eN b o e n)) (T1.ext fun b o e => (upd_ne (ne_of_none e nF)).trans e) upd_same ((upd_ne (ne_of_none hc nF)).trans hc)
  cases hc : codeAmong pos ps.toList with
  | none =>
    refine PySem.W.kla_makeFunction (mg := X.mg) (c := c) (P := P) (ps := ps) (closure_ok hfree) I.ok.glob (I.mod.glob.keeps I.bk) hcode (TB.code.keeps I.bk) hP' ht hc TB.gP bP fun c' ctv h' tk hx hge hlt hrec htb => ?_
    obtain ⟨c2, oc, vs, t, e2, hoc, hd, hv⟩ := hrec
    cases e2
    have nC : H c' = none := I.hok.fresh hge
    have I1 := inv_table (t' := tk) (more := #[rawInt pos.line, rawInt pos.col, .ref c']) (h' := h') I hP (fun b o hb e => hx b o hb e) htb hge ⟨oc, vs, t, hoc, hd, hv⟩
    have hE : ExtN H (upd (upd H P (.tbl (ps ++ #[rawInt pos.line, rawInt pos.col, .ref c']))) c' (CodeO c' (X.env.qual ++ "<lambda>"))) := fun b o e n => by
      rw [upd_ne (ne_of_none e nC), upd_ne (fun z => n ps (Option.some.inj (e.symm.trans (by rw [z]; exact hP))))]
      exact e
    have eL : (ps ++ #[rawInt pos.line, rawInt pos.col, .ref c']).toList = ps.toList ++ [rawInt pos.line, rawInt pos.col, .ref c'] := by simp
    refine one I1 hE (fun p hp => ?_) upd_same
    by_cases hb : p.1 = P
    · rw [hu p hp hb, hb]
      refine ⟨_, by rw [upd_ne (ne_of_none hP nC), upd_same], by rw [eL]; exact PySem.TriplesOk_snoc _ _ _ _ ht, fun p' cv hcv => ?_⟩
      rw [eL] at hcv
      rcases among_app _ ht hcv with z | z
      · obtain ⟨c0, e1, e2⟩ := ha p' cv z
        exact ⟨c0, e1, hE _ _ e2 codeO_ne⟩
      · exact ⟨c', z, upd_same⟩
    · obtain ⟨ps', a1, a2, a3⟩ := hT p hp
      refine ⟨ps', by rw [upd_ne (ne_of_none a1 nC), upd_ne hb]; exact a1, a2, fun p' cv hcv => ?_⟩
      obtain ⟨c0, e1, e2⟩ := a3 p' cv hcv
      exact ⟨c0, e1, hE _ _ e2 codeO_ne⟩
  | some cv =>
    obtain ⟨c', e, hco⟩ := ha pos cv hc
    subst e
    refine PySem.W.kla_makeFunctionHit (mg := X.mg) (c := c) (P := P) (ps := ps) (closure_ok hfree) I.ok.glob (I.mod.glob.keeps I.bk) hcode (TB.code.keeps I.bk) hP' ht hc bP fun ctv h' tk hx hsz => ?_
    have I1 : Inv X pins σ H { s with heap := h', toks := tk } := I.kept hx
    exact one I1 (ExtN.refl H) hT hco
end
/-- a lambda as a value: j tells which one, m the frame, kc its code's name -/
def eLamV (j kc m : Nat) : EF := fun _ C => .ok (.opq j [.cel m, .opq kc []]) (C.bump 1)
@[simp] theorem eLamV_ap {j kc m : Nat} {s : Sl} {C : Cells} : eLamV j kc m s C = .ok (.opq j [.cel m, .opq kc []]) (C.bump 1) := (rfl)
/-- what a kept lambda is worth at the frame's slots -/
def actL (bd : Nat → Option EF) (kc m : Nat) (s : Sl) : D → Cells → Res D := fun d C => match d with
  | .opq j [.cel m', .opq k []] => if m' = m ∧ k = kc then (match bd j with | some fb => fb s C | none => .no) else .no
  | _ => .no
/-- g(e), e a kept lambda -/
def eLamU (n : Nat) (gg : (D → Cells → Res D) → SF) (bd : Nat → Option EF) (kc m : Nat) (fe : EF) : EF := fun s C => (fe s C).bind fun d C1 => callF n 1 (gg (actL bd kc m s)) [d] C1
/-- a def that keeps lambdas: its slots' frame gets a number -/
def callL (n np : Nat) (g : Nat → SF) : Fn := fun ds C => callF n np (g C.nx) ds (C.bump 1)
theorem arity_callL {n np : Nat} {g : Nat → SF} : Arity (callL n np g) np := fun ds C h => arity_call (n := n) (g := g C.nx) ds (C.bump 1) h
section
variable {X : Cx} {G : Glo} {Wx : WX}
theorem tabs_of {W : Wd} {C : Cells} {H : Hp} (st : StR G W C H) : Tabs G.tb H := fun p hp => by
  obtain ⟨ps, h1, h2, h3⟩ := st.tb.2 p hp
  refine ⟨ps, h1, h2, fun pos cv e => ?_⟩
  obtain ⟨c, e1, e2⟩ := h3 pos cv e
  exact ⟨c, e1, st.F _ _ e2⟩
theorem de_lamV {c P L : Addr} {j kc m : Nat} {qq : Str} {tb : List (Addr × Str)} {sc : Scope} {params : Arguments} {body : Expr} {scope : Scope} {pos : Pos} (TB : TabB X.base X.mg c P) (hcode : X.env.code = .ref c) (hqq : X.env.qual = qq) (htb : G.tb = tb)
    (hmT : (P, qq ++ "<lambda>") ∈ tb) (hu : ∀ p ∈ tb, p.1 = P → p.2 = qq ++ "<lambda>") (hsc : X.env.scope = sc) (hL : lamSB sc scope = true) (hdef : defaultsOf params X.env = ([], [])) (hcl : X.env.cells = cellsFrom (L + 1) sc.names [])
    (hcm : G.W0.cm m = some L) (hoq : ∀ vs a, G.oq j vs a = LamO (qq ++ "<lambda>") params body sc scope vs a) (hoc : ∀ vs a, G.oq kc vs a = CodeO a (qq ++ "<lambda>")) :
    DE X G Wx (.Lambda params body scope pos) (eLamV j kc m) := by
  refine ⟨⟨fun pins s σ H Q I h => ?_⟩⟩
  subst hqq htb hsc
  have L' := lamS_by hL
  obtain ⟨W, sl, C, rs, st, q⟩ := h
  refine lam_make3 I TB hcode hmT hu (tabs_of st) hdef (L'.has I.ok) hcl fun f c' H1 s' I1 eN T1 hf hco => ?_
  obtain ⟨W1, st1, t1, _, kn1⟩ := fr_lam (f := f) st eN T1
  obtain ⟨W2, st2, t2, k2⟩ := fr_ext st1 hf
  have kc' := t2.le.F _ _ (kn1 _ hmT c' hco)
  refine ⟨.ref f, H1, I1, rfl, q W2 (.ref f) H1 (t1.trans t2) st2 (.opq (vs := [.ref L, .ref c']) ?_ (.cons (.cel (st2.lnk.cm _ _ hcm)) (.cons (.opq (vs := []) ?_ .nil) .nil)))⟩
  · rw [hoq]; exact k2
  · rw [hoc]; exact kc'
/-- x(), in the def that got a kept lambda -/
theorem pe_actV {CXg : CXT} {Eg : XK} {Ng : List Str} {qg : Str} {sg : Scope} {g : Addr} {cdg : Value} {k i : Nat} {a : Str} {pn : List (Addr × Obj)} {xe : Value → Shared → Prop} {W : WX} {p1 p2 : Pos} {pins : List (Addr × Obj)} {σ : L2.St} {H : Hp} {s : Shared}
    {BD : Addr → Addr → Expr → Scope → (XK → TE) → Prop}
    (I : Inv X pins σ H s)
    (tk : Takes ((cxOf CXg X.prog X.w X.K X.mg X.base Ng qg sg g cdg X.A X.stack s H Eg).tr pn xe) W) (hr : Room (k + 1) (X.A.deeper (envOfC qg sg s.heap.objs.size g cdg)))
    (hbody : ∀ f c' body scope tb, BD f c' body scope tb → ∀ (A : Around) (outer : List Env) (s : Shared) (H : Hp) (E : XK), Room k (A.deeper (lamEnv X scope s.heap.objs.size f c')) → PE (lamCx X A outer s H E scope f c') body (tb E))
    (hN : Ng[i]? = some a) (hv : Vis sg a) (hd : (a == ("__debug__" : Str)) = false := by decide) (hcd : (a == ("__classdict__" : Str)) = false := by decide) :
    PE ((cxOf CXg X.prog X.w X.K X.mg X.base Ng qg sg g cdg X.A X.stack s H Eg).tr pn xe) (.Call (.Name a p1) [] [] p2)
      (fun σZ HZ Q => ∃ (f c' L : Addr) (params : Arguments) (body : Expr) (sc scope : Scope) (tb : XK → TE), σZ[i]? = some (some (.ref f)) ∧ HZ f = some (LamO (X.env.qual ++ "<lambda>") params body sc scope [V.ref L, V.ref c'] f) ∧ X.env.cells = cellsFrom (L + 1) sc.names [] ∧
        HZ c' = some (CodeO c' (X.env.qual ++ "<lambda>")) ∧ LamS X.env.scope scope ∧ (∀ (q : Str) (cl : List (Str × Addr)) (pm cv ctv : Value), bindArgs (PySem.W.kla_fn "<lambda>" q params body scope cl pm cv ctv) ⟨[], []⟩ = pure []) ∧ BD f c' body scope tb ∧ tb (fun c d H => W c d σZ H) σ HZ Q) := by
  refine ⟨fun pinsZ sZ σZ HZ Q IZ h => ?_⟩
  obtain ⟨f, c', L0, params, body, sc, scope, tb, hs, hf, hcl, hc, L, hbind, hBD, ht⟩ := h
  refine wpAny_Call_Name_kw (thn ((pe_var (pos := p1) (i := i) hN hv hd hcd).run pinsZ sZ σZ HZ (fun v H1 => v = .ref f ∧ H1 = HZ) IZ ⟨.ref f, hs, rfl, rfl⟩) fun u s1 ⟨v, H1, I1, r1, q1⟩ => ?_)
  obtain ⟨ev, eH⟩ := q1
  subst ev
  rw [eH] at I1
  obtain rfl : u = Value.ref f := r1
  obtain ⟨L1, c1, pm, ctv, e1, of1⟩ := (I1.hok f _ hf).1
  cases e1
  rw [← hcl] at of1
  refine PySem.W.callWith_F0 ⟨_, _, _, _, of1⟩ ?_
  have un : Un (frs X.stack) [] H HZ s.heap s1.heap := I1.base
  obtain ⟨⟨oc, vs, t, hoc, hdc, hvc⟩, _, _⟩ := I1.hok c' _ hc
  have rc : codeAny (model X.prog X.w) (X.A.deeper (envOfC qg sg s.heap.objs.size g cdg)) (.call (.ref f) ⟨[], []⟩) (CR (L2.CX X.prog X.w) (envOfC qg sg s.heap.objs.size g cdg :: X.stack) X.prog X.w HZ s1 Q (fun c d H => W c d σZ H)) s1 := by
    refine PySem.W.kla_callFunE hr.depth of1 rfl L.co L.gen rfl ⟨c', oc, vs, t, rfl, hoc, hdc, hvc⟩ ?_
    rw [hbind]
    refine wpAny_pure (wpAny_newFunctionEnv (fun y hy => (L.own y hy).2) (fun y hy => absurd hy (by simp)) (fun h₁ hns hsb => ⟨I1.nolimit.fresh _ hsb, ?_⟩) L.kind)
    show codeAny _ _ (.expr body (lamEnv X scope s1.heap.objs.size f c')) _ _
    have kp : ∀ b o, s1.heap.get? b = some o → h₁.get? b = some o := fun b o e => hsb.extBut b o (Nat.ne_of_lt (Heap.lt_size e)) (Heap.get?_push_of_some _ e)
    have J : Inv (lamCx X (X.A.deeper (envOfC qg sg s.heap.objs.size g cdg)) (envOfC qg sg s.heap.objs.size g cdg :: X.stack) s1 HZ (fun c d H => W c d σZ H) scope f c') [] σ HZ { s1 with heap := h₁, toks := s1.toks + ([] : List (Str × Value)).length } :=
      lam_start2 I L I1.env0 hr.hd un hns kp
    refine PySem.W.kla_codeExpr (wpAny_mono ((hbody f c' body scope tb hBD _ _ s1 HZ _ (hr.deeper _)).run [] _ _ HZ Q J ht) (fun v s' hq => ?_) fun e s' hq => hq)
    obtain ⟨w', H', J', rv, q⟩ := hq
    exact ⟨w', H', J'.os, J'.bare, J'.base, J'.hok, rv, q⟩
  have hx : PassesAt (L2.CX X.prog X.w) ((cxOf CXg X.prog X.w X.K X.mg X.base Ng qg sg g cdg X.A X.stack s H Eg).tr pn xe) σZ (fun c d H => W c d σZ H) := passAt tk σZ
  refine wpAny_call (codeAny_mono rc fun r s' hq => ?_)
  cases r with
  | error e => exact hx pinsZ HZ s1 e s' I1 hq
  | ok fl =>
    cases fl with
    | ret u => exact I1.after hq
    | next => exact False.elim hq
    | brk => exact False.elim hq
    | cont => exact False.elim hq
/-- what must be known of a kept lambda -/
structure LamK (X : Cx) (G : Glo) (k : Nat) (sc : Scope) (q : Str) (j : Nat) (fb : EF) : Prop where
  ex : ∃ (params : Arguments) (body : Expr) (scope : Scope), (∀ vs a, G.oq j vs a = LamO q params body sc scope vs a) ∧ lamSB sc scope = true ∧
    (∀ (q : Str) (cl : List (Str × Addr)) (pm cv ctv : Value), bindArgs (PySem.W.kla_fn "<lambda>" q params body scope cl pm cv ctv) ⟨[], []⟩ = pure []) ∧
    ∀ (w1 : Wd) (A : Around) (outer : List Env) (s : Shared) (H : Hp) (E : XK) (f c' : Addr), Room k (A.deeper (lamEnv X scope s.heap.objs.size f c')) →
      (A.deeper (lamEnv X scope s.heap.objs.size f c')).units + 64 < cLine → Takes (lamCx X A outer s H E scope f c') (fun c d _ H => E c d H) → DE (lamCx X A outer s H E scope f c') (G.at_ w1) (fun c d _ H => E c d H) body fb
theorem de_lamU {x a : Str} {g L : Addr} {k n kc m : Nat} {stg : Stmt} {cdv : Value} {Ng : List Str} {gg : (D → Cells → Res D) → SF} {bd : Nat → Option EF} {fe : EF} {e : Expr}
    {p pos : Pos} (hk : X.K = G.K) (hg : Gl X x) (hm : X.mg x = some (.ref g)) (FP : FunP X.K x stg g cdv) (hB : ∀ fd, Fun X.K x x stg g fd → L2.Binds X.K fd [a] []) (Sg : FnScope Ng [a] (defScope stg)) (hn : Ng.length = n) (hNg : Ng[0]? = some a) (hva : Vis (defScope stg) a)
    {qq : Str} (hqq : X.env.qual = qq) (hr : Room (k + 2) X.A) (tk : Takes X Wx) {sc : Scope} (hsc : X.env.scope = sc) (hcl : X.env.cells = cellsFrom (L + 1) sc.names []) (hcm : G.W0.cm m = some L) (hoc : ∀ vs a, G.oq kc vs a = CodeO a (qq ++ "<lambda>"))
    (he : DE X G Wx e fe) (hbd : ∀ j fb, bd j = some fb → LamK X G k sc (qq ++ "<lambda>") j fb)
    (hG : ∀ (w1 : Wd) (act : D → Cells → Res D) (s : Shared) (H : Hp) (E : XK), Room (k + 1) (X.A.deeper (envOfC x (defScope stg) s.heap.objs.size g cdv)) →
      (∀ (W : WX) (pn : List (Addr × Obj)) (xe : Value → Shared → Prop) (p1 p2 : Pos), Takes ((cxOf (L2.CX X.prog X.w) X.prog X.w X.K X.mg X.base Ng x (defScope stg) g cdv X.A X.stack s H E).tr pn xe) W →
        DE ((cxOf (L2.CX X.prog X.w) X.prog X.w X.K X.mg X.base Ng x (defScope stg) g cdv X.A X.stack s H E).tr pn xe) (G.at_ w1) W (.Call (.Name a p1) [] [] p2) (eAct act 0)) →
      DSs (cxOf (L2.CX X.prog X.w) X.prog X.w X.K X.mg X.base Ng x (defScope stg) g cdv X.A X.stack s H E) (G.at_ w1) (fun c d _ H => E c d H) (defBody stg) (gg act))
    (hes : starEach [e] X.env = (false, eval e X.env) :: starEach [] X.env := by rfl) (hep : (backTo pos (starEach [] X.env)).any (·.1) = false := by rfl)
    (hdb : (x == ("__debug__" : Str)) = false := by decide) (hd : (a == ("__debug__" : Str)) = false := by decide) (hcd : (a == ("__classdict__" : Str)) = false := by decide) :
    DE X G Wx (.Call (.Name x p) [e] [] pos) (eLamU n gg bd kc m fe) := by
  refine ⟨⟨fun pins s σ H Q I h => ?_⟩⟩
  subst hqq hsc
  obtain ⟨⟨oc, od, kV, doc, pm, an, ct, osl, lk, hcg⟩, hkp⟩ := FP
  have hb := hB _ ⟨⟨oc, od, kV, doc, pm, an, cdv, ct, osl, rfl, lk, hcg⟩, hkp⟩
  obtain ⟨W0, sl, C0, rs0, st0, q0⟩ := h
  refine wpAny_Call_Name_kw (ld_glob I hg hm ?_ hdb)
  refine PySem.W.callWith_K (h₀ := X.base) I.ok.mod.kin hkp ?_ hes hep
  rw [hes]
  show wpAny _ _ (spliced ((false, eval e X.env) :: backTo pos (starEach [] X.env))) _ _ s
  refine Calls.spliced_cons (wpAny_mono (he.pe.run pins s σ H (fun v H1 => ∃ d C1 W1, RepV G W1 d v ∧ StR G W1 C1 H1 ∧ W0.le W1 ∧ Post G Wx σ (RepV G) W1 C1 H1 (callF n 1 (gg (actL bd kc m sl)) [d] C1) Q) I ⟨W0, sl, C0, rs0, st0, q0.bind fun d C1 W1 v H1 _ t st rd q1 => ⟨d, C1, W1, rd, st, t.le, q1⟩⟩) (fun u s' hu => ?_) fun e' s' hx => hx)
  obtain ⟨v, H1, I1, rv, d, C1, W1, rd, st1, le1, q⟩ := hu
  refine Calls.spliced_nil ⟨I1.kIn, ?_⟩
  have rc : codeAny (model X.prog X.w) X.A (.call (.ref g) ⟨[u], []⟩) (CR (L2.CX X.prog X.w) X.stack X.prog X.w H1 s' Q (fun c d H => Wx c d σ H)) s' := by
    refine run_ofS (N := Ng) (ps := [a]) (us := [u]) (vs := [v]) lk hcg Sg hr I1.env0 (hb s' [u] I1.kIn rfl) (.cons rv .nil) rfl fun hr' => ?_
    refine ⟨_, (hG W1 (actL bd kc m sl) s' H1 (fun c d H => Wx c d σ H) hr' fun Wz pn xe p1 p2 tkz => ?_).ps, ?_⟩
    · refine ⟨PE.weak (pe_actV (i := 0) (BD := fun f c' body scope tb => ∃ fb, tb = (fun E => tD (G.at_ W1) (fun c d _ H => E c d H) fb) ∧ ∀ (A : Around) (outer : List Env) (s : Shared) (H : Hp) (E : XK), Room k (A.deeper (lamEnv X scope s.heap.objs.size f c')) →
          DE (lamCx X A outer s H E scope f c') (G.at_ W1) (fun c d _ H => E c d H) body fb) I1 tkz hr' (fun f c' body scope tb ⟨fb, e1, hb1⟩ A outer s H E hr2 => by rw [e1]; exact (hb1 A outer s H E hr2).pe) hNg hva hd hcd) fun σZ HZ Q' hz => ?_⟩
      obtain ⟨W', sz, Cz, rsz, stz, qz⟩ := hz
      unfold eAct at qz
      split at qz
      · rename_i dz ed
        obtain ⟨vz, h1, h2⟩ := rsz.at_ 0 dz ed
        unfold actL at qz
        split at qz
        · rename_i j m' k'
          split at qz
          · rename_i em
            obtain ⟨rfl, rfl⟩ := em
            split at qz
            · rename_i fb eb
              obtain ⟨params, body, scope, hoq, hL, hbind, hbody⟩ := (hbd j fb eb).ex
              obtain ⟨f, vs, rfl, h3, h4⟩ := h2.opq_
              obtain ⟨v1, vr, rfl, r1, r2⟩ := h4.cons_inv
              obtain ⟨v2, vr2, rfl, r3, r4⟩ := r2.cons_inv
              obtain rfl := r4.nil_inv
              obtain ⟨aL, rfl, cmL⟩ := r1.cel_
              obtain ⟨c', vs', rfl, h5, _⟩ := r3.opq_
              have hLm := stz.lnk.cm _ _ (st1.lnk.cm _ _ hcm)
              rw [cmL] at hLm
              cases hLm
              have h3 : W'.F f = some (G.oq j _ f) := h3
              have h5 : W'.F c' = some (G.oq k' vs' c') := h5
              rw [hoq] at h3
              rw [hoc] at h5
              refine ⟨f, c', _, params, body, _, scope, _, h1, stz.F _ _ h3, hcl, stz.F _ _ h5, lamS_by hL, hbind, ⟨fb, rfl, fun A outer s H E hr2 => hbody W1 A outer s H E f c' hr2 hr2.units (takes_of rfl rfl rfl rfl)⟩, W', sl, Cz, (rs0.up (le1.trans stz.lnk)).to, stz, qz.wx⟩
            · exact qz.elim
          · exact qz.elim
        · exact qz.elim
      · exact qz.elim
    · refine ⟨W1, _, C1, RepS.start (N := Ng) (.cons (repV_at.2 rd) .nil : RepVs (G.at_ W1) W1 [d] [v]), st1.to .refl, ?_⟩
      unfold callF at q
      rw [if_pos (show ([d] : List D).length = 1 from rfl), ← hn] at q
      cases e : gg (actL bd kc m sl) (([d] : List D).map some ++ List.replicate (Ng.length - ([d] : List D).length) none) C1 with
      | nxt s' C' => rw [e] at q; exact fun W' σ' H' t st' _ => q W' .non H' t (st'.of st1.lnk) .non
      | ret d C' => rw [e] at q; exact fun W' v H' t st' r => q W' v H' t (st'.of st1.lnk) (repV_at.1 r)
      | err c s' C' => rw [e] at q; exact fun W' σ' H' t st' _ => q W' H' t (st'.of st1.lnk)
      | brk s' C' => rw [e] at q; exact q.elim
      | cnt s' C' => rw [e] at q; exact q.elim
      | no => rw [e] at q; exact q.elim
  refine wpAny_call (codeAny_mono rc fun r s2 hq => ?_)
  cases r with
  | error e => exact passAt tk σ pins H1 s' e s2 I1 hq
  | ok fl =>
    cases fl with
    | ret u => exact I1.after hq
    | next => exact False.elim hq
    | brk => exact False.elim hq
    | cont => exact False.elim hq
end
section
variable {G : Glo} {P : Program} {w : World} {K : PySem.W.Frag} {mg : Str → Option Value} {base : Heap}
/-- a def that keeps lambdas -/
theorem fun_okL {x qual : Str} {st : Stmt} {c f : Addr} {fd : FuncData} {N ps : List Str} {k n np : Nat} {g : Nat → SF} (F : FunC G.K x qual st c f fd) (S : FnScope N ps (defScope st)) (hn : N.length = n) (hp : ps.length = np)
    (hbody : ∀ (w1 : Wd) (m : Nat) (A : Around) (outer : List Env) (s : Shared) (H : Hp) (E : XK), w1.cm m = some s.heap.objs.size → Room k (A.deeper (envOfC qual (defScope st) s.heap.objs.size f (.ref c))) →
      DSs (cxOf (L2.CX P w) P w G.K mg base N qual (defScope st) f (.ref c) A outer s H E) (G.at_ w1) (fun c d _ H => E c d H) (defBody st) (g m)) :
    FnOk P w G.K mg base (L2.CX P w) (k + 1) f fd ps (spD G np (callL n np g)) := by
  obtain ⟨oc, od, kV, doc, pm, an, ct, osl, rfl, lk, hcd⟩ := F.ex
  refine fn_of lk hcd S (fun vs H Q E h => h.1.trans hp.symm) fun A outer s H vs Q E hr h => ?_
  obtain ⟨hl, W, ds, C, rv, st, q⟩ := h
  obtain ⟨W1, st1, t1, cm1⟩ := fr_ghost s.heap.objs.size st
  refine ⟨_, (hbody W1 C.nx A outer s H E cm1 hr).ps, W1, _, C.bump 1, RepS.start (N := N) (repVs_at.2 (rv.up t1.le)), st1.to .refl, ?_⟩
  have hl' := rv.length.trans hl
  unfold callL callF at q
  rw [if_pos hl', ← hn] at q
  cases e : g C.nx (ds.map some ++ List.replicate (N.length - ds.length) none) (C.bump 1) with
  | nxt s' C' => rw [e] at q; exact fun W' σ' H' t st' _ => q W' .non H' (t1.trans t) (st'.of st1.lnk) .non
  | ret d C' => rw [e] at q; exact fun W' v H' t st' r => q W' v H' (t1.trans t) (st'.of st1.lnk) (repV_at.1 r)
  | err c s' C' => rw [e] at q; exact fun W' σ' H' t st' _ => q W' H' (t1.trans t) (st'.of st1.lnk)
  | brk s' C' => rw [e] at q; exact q.elim
  | cnt s' C' => rw [e] at q; exact q.elim
  | no => rw [e] at q; exact q.elim
end
/-! where a lambda stands in a def's text -/
def lvEx : Stmt → Expr
  | .Assign _ e _ => e
  | .Expr e _ => e
  | .Return (some e) _ => e
  | _ => .Tuple [] 0 ⟨0, 0, 0, 0⟩
def lvIf : Stmt → List Stmt
  | .If _ b _ _ => b
  | _ => []
def lvArg (i : Nat) : Expr → Expr
  | .Call _ as _ _ => as.getD i (.Tuple [] 0 ⟨0, 0, 0, 0⟩)
  | _ => .Tuple [] 0 ⟨0, 0, 0, 0⟩
def lvElt (i : Nat) : Expr → Expr
  | .List es _ => es.getD i (.Tuple [] 0 ⟨0, 0, 0, 0⟩)
  | .Tuple es _ _ => es.getD i (.Tuple [] 0 ⟨0, 0, 0, 0⟩)
  | _ => .Tuple [] 0 ⟨0, 0, 0, 0⟩
/-- the lambda's object by its text -/
def LamAt (q : Str) (sc : Scope) : Expr → List V → Addr → HO
  | .Lambda params body scope _ => LamO q params body sc scope
  | _ => fun _ _ => .own 0
end DL

set_option Elab.async false
set_option linter.all false
set_option maxRecDepth 100000
set_option maxHeartbeats 1000000
set_option autoImplicit false
/-! t[::-1], t a known tuple of three -/
namespace DL
open PySem PySem.Spec PyProof.Rows L2 HT
section
variable {prog : Program} {w : World} {A : Around} {E : Value → Shared → Prop} {s : Shared}
theorem applied_rev3 {sl : Addr} {vl vu vs : Value} {Q : Int × Int × Nat → Shared → Prop} (hs : s.heap.IsSliceOf sl vl vu vs) (pl : IsPart vl none) (pu : IsPart vu none) (ps : IsPart vs (some (-1)))
    (h : Q (2, -1, 3) s) : wpAny (model prog w) A (Builtin.Slice.sliceApplied (.ref sl) (pure (3 : Int))) Q E s := by
  obtain ⟨os, hos, hcs, hds⟩ := id hs
  unfold Builtin.Slice.sliceApplied Builtin.Slice.sliceFields
  refine wpAny_bind (wpAny_bind (wpAny_field hos hds (x := vl) rfl (wpAny_bind (wpAny_field hos hds (x := vu) rfl (wpAny_bind (wpAny_field hos hds (x := vs) rfl (wpAny_pure ?_)))))))
  refine wpAny_bind (slicePart_ ps ?_)
  show wpAny _ _ (if ((-1 : Int) == 0) = true then _ else _) _ _ s
  rw [if_neg (by decide)]
  refine wpAny_bind (slicePart_ pl (wpAny_bind (slicePart_ pu (wpAny_bind (wpAny_pure ?_)))))
  exact wpAny_pure h
theorem getItem_rev3 {t sl : Addr} {a b c : Value} {vl vu vs : Value} {Q : Value → Shared → Prop} (ht : IsTup s.heap t #[a, b, c]) (hs : s.heap.IsSliceOf sl vl vu vs) (pl : IsPart vl none) (pu : IsPart vu none) (ps : IsPart vs (some (-1)))
    (h : Q (.ref s.heap.objs.size) { s with heap := s.heap.push { cls := .type "tuple", data := .seq #[c, b, a] } }) : wpAny (model prog w) A (getItem (.ref t) (.ref sl)) Q E s := by
  obtain ⟨os, hos, hcs, hds⟩ := id hs
  have hTs : s.TypeIs (.ref sl) "slice" := ⟨os, hos, hcs⟩
  have fit : sizeOk (.seq #[c, b, a]) := by show 3 ≤ sizeLine; decide
  unfold getItem
  try with_reducible refine wpAny_holding ?_
  first | refine wpAny_bind (wpAny_pure ?_) | skip
  refine wpAny_bind (wpAny_sequenceKey ht.typeIs (by decide) ?_)
  refine wpAny_bind (wpAny_callSpecial?_slot (name := Str.ofString "__getitem__") ht.typeIs PyProof.Rows.slot_tuple_getitem
    (wpAny_call_entry PyProof.Rows.slot_tuple_getitem ht.typeIs entry_tuple_getitem ?_ (args_tuple_getitem _ _)))
  show wpAny _ _ (Builtin.Tuple.tupleItemsOf (.ref t) >>= _) _ _ s
  refine wpAny_bind (tupleItemsOf_ ht ?_)
  refine wpAny_bind (wpAny_typeOf hTs ?_)
  rw [if_pos (by decide)]
  refine wpAny_bind (applied_rev3 hs pl pu ps ?_)
  show wpAny _ _ (if (((2 : Int) == 0 && (-1 : Int) == 1 && (3 : Nat) == 3)) = true then _ else _) _ _ s
  rw [if_neg (by decide)]
  have e : ((List.range 3).filterMap fun (m : Nat) => (#[a, b, c] : Array Value)[((2 : Int) + (m : Int) * (-1)).toNat]?).toArray = #[c, b, a] := rfl
  rw [e]
  first
    | exact wpAny_bind (m := Builtin.Tuple.tupleExact _) (wpAny_newObj_type (wpAny_pure ⟨_, rfl, wpAny_pure h⟩) fit)
    | exact wpAny_bind (m := Builtin.Tuple.tupleExact _) (wpAny_newObj_type (wpAny_bind (wpAny_pure (wpAny_pure ⟨_, rfl, wpAny_pure h⟩))) fit)
    | exact wpAny_bind (wpAny_bind (m := Builtin.Tuple.tupleExact _) (wpAny_newObj_type (wpAny_pure (wpAny_pure ⟨_, rfl, wpAny_pure h⟩)) fit))
    | exact wpAny_bind (wpAny_bind (m := Builtin.Tuple.tupleExact _) (wpAny_newObj_type (wpAny_pure ⟨_, rfl, wpAny_pure h⟩) fit))
end
def tRev3 (K : PySem.W.Frag) (te : TE) : TE := fun σ H Q => te σ H fun x H1 => ∃ a x1 x2 x3, x = .ref a ∧ SqT K H1 a [x1, x2, x3] ∧ ∀ p, H1 p = none → Q (.ref p) (upd H1 p (.tup [x3, x2, x1]))
section
variable {X : Cx}
theorem pe_rev3 {e : Expr} {te : TE} {k : Nat} {p1 p2 p3 pos : Pos} (he : PE X e te) : PE X (.Subscript e (.Slice none none (some (.UnaryOp .USub (.Constant (.int 1) k p1) p2)) p3) pos) (tRev3 X.K te) := by
  refine ⟨fun pins s σ H Q I h => ?_⟩
  refine Subscript_ (thn (he.run pins s σ H _ I h) fun v s1 ⟨x, H1, I1, r1, q1⟩ => ?_)
  obtain ⟨a, x1, x2, x3, ex, hx, q⟩ := q1
  subst ex
  cases r1
  have hst : PO X (some (.UnaryOp .USub (.Constant (.int 1) k p1) p2)) (tPart (tUn (rU fun i => .int (-i)) (tC (.int 1)))) := po_some (pe_un un_neg pe_int)
  refine wpAny_Slice (thn (po_none.run pins s1 σ H1 (fun o H2 => o = none ∧ H2 = H1) I1 ⟨rfl, rfl⟩) fun vl s2 ⟨l, H2, I2, pl, el, e2⟩ => ?_)
  subst el e2
  refine thn (po_none.run pins s2 σ H2 (fun o H3 => o = none ∧ H3 = H2) I2 ⟨rfl, rfl⟩) fun vu s3 ⟨u, H3, I3, pu, eu, e3⟩ => ?_
  subst eu e3
  refine thn (hst.run pins s3 σ H3 (fun o H4 => o = some (-1) ∧ H4 = H3) I3 ⟨1, rfl, -1, rfl, rfl, rfl⟩) fun vs s4 ⟨o, H4, I4, ps, eo, e4⟩ => ?_
  subst eo e4
  have I5 : Inv X pins σ H4 { s4 with heap := s4.heap.push { cls := .type "slice", data := .fields #[vl, vu, vs] } } := I4.kept (t' := s4.toks) fun b ob q => Heap.get?_push_of_some _ q
  obtain ⟨its, r, ht, hz⟩ := I5.tuple hx
  obtain ⟨u1, u2, u3, rfl, k1, k2, k3⟩ : ∃ u1 u2 u3, its = [u1, u2, u3] ∧ RelV x1 u1 ∧ RelV x2 u2 ∧ RelV x3 u3 := by
    cases r with
    | cons p q =>
      cases q with
      | cons p' q' =>
        cases q' with
        | cons p'' q'' =>
          cases q''
          exact ⟨_, _, _, rfl, p, p', p''⟩
  show wpAny (model X.prog X.w) X.A (subscriptTail e (.Slice none none (some (.UnaryOp .USub (.Constant (.int 1) k p1) p2)) p3) (.ref a) (.ref s4.heap.objs.size)) (EP X pins σ Q) X.xe { s4 with heap := s4.heap.push { cls := .type "slice", data := .fields #[vl, vu, vs] } }
  refine tail_any (ops := [.ref a, .ref s4.heap.objs.size]) ht.typeIs (PyProof.Rows.slot_tuple_getitem.lookup) ?_ (by with_unfolding_all rfl)
  refine getItem_rev3 ht (Heap.IsSliceOf.new _ vl vu vs) pl pu ps ?_
  refine ⟨.ref _, _, I5.laid (t' := s4.toks) (o := .tup [x3, x2, x1]) (fun b ob q => Heap.get?_push_of_some _ q) (Nat.le_refl _) ⟨show 3 ≤ sizeLine by decide, [u3, u2, u1], .cons k3 (.cons k2 (.cons k1 .nil)), IsTup.new _ _⟩, rfl, q _ (I5.hok.fresh (Nat.le_refl _))⟩
/-- t[::-1] -/
def dRev3 (x : D) (C : Cells) : Res D := match x with
  | .tup [a, b, c] => .ok (.tup [c, b, a]) C
  | _ => .no
def eRev3 (f : EF) : EF := fun s C => (f s C).bind dRev3
@[simp] theorem eRev3_ap {f : EF} {s : Sl} {C : Cells} : eRev3 f s C = (f s C).bind dRev3 := (rfl)
@[simp] theorem dRev3_ap {a b c : D} {C : Cells} : dRev3 (.tup [a, b, c]) C = .ok (.tup [c, b, a]) C := (rfl)
variable {G : Glo} {Wx : WX}
theorem de_rev3 {e : Expr} {f : EF} {k : Nat} {p1 p2 p3 pos : Pos} (hk : X.K = G.K) (he : DE X G Wx e f) : DE X G Wx (.Subscript e (.Slice none none (some (.UnaryOp .USub (.Constant (.int 1) k p1) p2)) p3) pos) (eRev3 f) :=
  ⟨PE.weak (pe_rev3 he.pe) fun σ H Q ⟨W, sl, C, rs, st, q⟩ => ⟨W, sl, C, rs, st, q.bind fun x C1 W1 v H1 _ t st1 rx q1 => by
    unfold dRev3 at q1
    split at q1
    · rename_i a b c
      obtain ⟨q, vs, rfl, hv, rv⟩ := rx.tup_
      obtain ⟨v1, vr, rfl, r1, r⟩ := rv.cons_inv
      obtain ⟨v2, vr, rfl, r2, r⟩ := r.cons_inv
      obtain ⟨v3, vr, rfl, r3, r⟩ := r.cons_inv
      obtain rfl := r.nil_inv
      exact ⟨q, v1, v2, v3, rfl, .inl (.inl (st1.F _ _ hv)), new_tup st1 (.cons r3 (.cons r2 (.cons r1 .nil))) q1⟩
    · exact q1.elim⟩⟩
end
end DL

set_option Elab.async false
set_option linter.all false
set_option maxRecDepth 100000
set_option maxHeartbeats 2000000
set_option autoImplicit false
/-! a comprehension whose block hands kept lambdas to a def: the block is shown for the very state that it starts from, where the def's own frame is known -/
namespace DL
open PySem PySem.Spec PyProof.Rows L2 LamX
section
variable {X : Cx} {pins : List (Addr × Obj)} {s : Shared} {σ : L2.St} {H : Hp} {Q : VK} {elt tg iter : Expr} {ifs : List Expr} {scope : Scope} {own : List (Str × Nat)} {pos : Pos} {wi : TI} {g : TG} {tt : TT} {te : TE}
/-- the block's frame -/
abbrev benv (X : Cx) (scope : Scope) (s : Shared) : Env := compEnvC scope (cellsFrom (s.heap.objs.size + 1) scope.names (cloFrom X.env.cells scope.names [])) s.heap.objs.size X.env
/-- what the block's parts come to, at the state where the block starts -/
structure BlkI (X : Cx) (pins : List (Addr × Obj)) (σ : L2.St) (scope : Scope) (tg : Expr) (ifs : List Expr) (elt : Expr) (g : TG) (tt : TT) (te : TE) : Prop where
  at_ : ∀ (s : Shared) (H : Hp) (fp : List Addr), Inv X pins σ H s → (∀ b ∈ fp, FpOk X pins H b) → PG (X.blk s H scope (benv X scope s) fp) tg g ∧ PTs (X.blk s H scope (benv X scope s) fp) ifs tt ∧ PE (X.blk s H scope (benv X scope s) fp) elt te
theorem lcI (hc : X.calm = true) (hN : X.N.Nodup) (I : Inv X pins σ H s) (hi : PI X tg iter wi) (ok : BlkOk X.N X.env.scope scope own) (B : BlkI X pins σ scope tg ifs elt g tt te) (hs : ∀ x, foldedSetIterable iter X.env x = pure x)
    (h : tLc wi g tt te (own.map (·.2)) σ H Q) : wpAny (model X.prog X.w) X.A (eval (.ListComp elt [⟨tg, iter, ifs, 0⟩] scope pos) X.env) (EP X pins σ Q) X.xe s := by
  have hfree : ∀ y ∈ scope.names, y.2 = .free → ∃ c, X.env.cells.lookup y.1 = some c := fun y hy e => I.ok.has _ ((ok.free y hy e).elim .inl .inr)
  rw [eval_ListComp]
  refine wpAny_comprehension_free (use := none) rfl hs (closure_ok hfree) ok.kind (fun y hy e => by rw [ok.uniq y hy, e]) (thn (hi.run pins s σ H _ I h) fun xv s1 hx => thn hx fun itv s2 h2 => ?_)
  obtain ⟨it, fp, tn, J, H2, rfl, I2, T, st2, f2, q⟩ := h2
  refine wpAny_newObj_type (newEnv_comp ?_) (by show 0 ≤ sizeLine; decide)
  obtain ⟨D, hD⟩ : ∃ D, D = s2.heap.objs.size := ⟨_, rfl⟩
  rw [← hD]
  have hDn : H2 D = none := I2.hok.fresh (Nat.le_of_eq hD.symm)
  obtain ⟨W, ⟨m0, w0⟩, turn⟩ := q D hDn
  obtain ⟨s3, hs3⟩ : ∃ s3 : Shared, s3 = { s2 with heap := s2.heap.push { cls := .type "list", data := .seq ([] : List Value).toArray } } := ⟨_, rfl⟩
  rw [← hs3]
  have g3 : s3.heap.get? D = some { cls := .type "list", data := .seq ([] : List Value).toArray } := by rw [hs3, hD]; exact Heap.get?_push_size _ rfl
  have k3 : ∀ b o, s2.heap.get? b = some o → s3.heap.get? b = some o := fun b o e => by rw [hs3]; exact Heap.get?_push_of_some _ e
  obtain ⟨H3, hH3⟩ : ∃ H3, H3 = upd H2 D (.lst []) := ⟨_, rfl⟩
  rw [← hH3] at w0
  have I3 : Inv X pins σ H3 s3 := by
    rw [hs3] at k3 g3 ⊢
    rw [hH3]
    exact I2.laid (t' := s2.toks) k3 (Nat.le_of_eq hD.symm) ⟨Nat.zero_le _, [], 0, .nil, g3⟩
  have z3 : s3.heap.objs.size = D + 1 := by rw [hs3, hD]; exact Heap.size_push ..
  have lo : ∀ b ∈ fp, b < D := fun b hb => by
    obtain ⟨o, e, _⟩ := T.obj _ _ st2 b hb
    rw [hD]; exact Heap.lt_size e
  have f3 : ∀ b ∈ fp, FpOk X pins H3 b ∧ b < s3.heap.objs.size := fun b hb => by
    have := lo b hb
    exact ⟨⟨by rw [hH3, upd_ne (Nat.ne_of_lt this)]; exact (f2 b hb).1, (f2 b hb).2⟩, by rw [z3]; exact Nat.lt_succ_of_lt this⟩
  have st3 : tn 0 s3.heap := T.keep _ _ _ st2 fun b _ o e => k3 b o e
  obtain ⟨pg, pt, pe⟩ := B.at_ s3 H3 fp I3 fun b hb => (f3 b hb).1
  have I4 := block_start I3 ok hN f3
  obtain ⟨ce, hce⟩ : ∃ ce, ce = benv X scope s3 := ⟨_, rfl⟩
  have cL : ce.locals = s3.heap.objs.size := by rw [hce]; rfl
  change Inv (X.blk s3 H3 scope (benv X scope s3) fp) [] (wipe σ (own.map (·.2))) H3 _ at I4
  show codeAny _ _ (.compStart (.ListComp elt [⟨tg, iter, ifs, 0⟩] scope pos) 0 (.ref it) (.ref D) (benv X scope s3)) (compPost (model X.prog X.w) X.A X.xe none (EP X pins σ Q) (.ref D) s3.heap.objs.size) { s3 with heap := pushCells (s3.heap.push { cls := .type "dict", data := .dict #[] }) scope.names }
  rw [← hce] at I4 pg pt pe ⊢
  obtain ⟨s4, hs4⟩ : ∃ s4 : Shared, s4 = { s3 with heap := pushCells (s3.heap.push { cls := .type "dict", data := .dict #[] }) scope.names } := ⟨_, rfl⟩
  rw [← hs4] at I4 ⊢
  have st4 : tn 0 s4.heap := T.keep _ _ _ st3 fun b _ o e => by rw [hs4]; exact pushCells_keeps _ _ _ _ (Heap.get?_push_of_some _ e)
  have back : ∀ {σ' : L2.St} {H' : Hp} {s' : Shared} {pn : List (Addr × Obj)}, Inv (X.blk s3 H3 scope ce fp) pn σ' H' s' → Inv X pins σ H' s' := fun {σ' H' s' pn} J' =>
    I3.call' (ch := fp) J'.os J'.base J'.hok J'.bare fun b hb => ⟨(f3 b hb).1.2.2.2.1, (f3 b hb).1.2.1, (f3 b hb).1.2.2.2.2.1, (f3 b hb).1.2.2.2.2.2⟩
  have stay : ∀ {σ' : L2.St} {H' : Hp} {s' : Shared}, Inv (X.blk s3 H3 scope ce fp) [] σ' H' s' → (∀ b ∈ fp, H' b = none) → ∀ b ∈ fp, FpOk (X.blk s3 H3 scope ce fp) [] H' b := fun {σ' H' s'} J' hn b hb =>
    ⟨hn b hb, (J'.ok.exf b hb).1, J'.ok.exfs b hb, .inl hb, (J'.ok.exf b hb).2, fun p hp => nomatch (show p ∈ ([] : List (Addr × Obj)) ++ [] from hp)⟩
  have loop : codeAny (model X.prog X.w) X.A (.compLoop (.ListComp elt [⟨tg, iter, ifs, 0⟩] scope pos) 0 (.ref it) (.ref D) ce) (compPost (model X.prog X.w) X.A X.xe none (EP X pins σ Q) (.ref D) s3.heap.objs.size) s4 := by
    refine compLoop_any (fun m s' => ∃ i H', Inv (X.blk s3 H3 scope ce fp) [] (wipe σ (own.map (·.2))) H' s' ∧ tn i s'.heap ∧ (∀ b ∈ fp, H' b = none) ∧ W i m H') ?_ m0 ⟨0, H3, I4, st4, fun b hb => (f3 b hb).1.1, w0⟩
    rintro m s5 ⟨i, H5, I5, st5, n5, w5⟩
    rcases turn i m H5 w5 with ⟨stop, qq⟩ | ⟨go, Nx, hNx, step⟩
    · refine thnF (T.done (X.blk s3 H3 scope ce fp) rfl rfl rfl hc i [] s5 _ H5 (fun _ _ => False) I5 (stay I5 n5) st5 stop) fun r s6 ⟨hr, I6⟩ => ?_
      subst hr
      have I7 := back I6
      have nC : H5 s3.heap.objs.size = none := cL ▸ (show H5 ce.locals = none from I6.free)
      obtain ⟨mm, hn, _⟩ := I6.loc
      have hn : s6.heap.Ns ce.locals mm := hn
      rw [cL] at hn
      have fk := I3.fpOk (H' := H5) (Nat.le_refl _) nC
      refine ⟨mm, hn, fun h'' sb => ?_⟩
      obtain ⟨k0, k1, k2, k4, k5, k6⟩ := fk
      exact ⟨.ref D, H5, I7.turned (t' := s6.toks) (fun b o hb e => (sb.2 b hb).trans e) k0 k1 k4 k5 k6, rfl, qq⟩
    · refine thnF (T.item (X.blk s3 H3 scope ce fp) rfl rfl rfl hc i [] s5 _ H5 (fun _ _ => False) I5 (stay I5 n5) st5 go) fun r s6 ⟨u, hr, h6⟩ => ?_
      subst hr
      refine thnF h6 fun _ s7 ⟨x, H7, I7, r7, y7, st7, n7⟩ => ?_
      refine thnF (pg.run _ s7 _ H7 x u _ (I7.pinned (stay I7 n7) (T.obj _ _ st7)) r7 (step x H7 y7)) fun _ s8 ⟨σ8, H8, I8, hw8, q8⟩ => ?_
      refine thnF (pt.run _ s8 σ8 H8 _ I8 q8) fun b s9 ⟨H9, I9, q9⟩ => ?_
      have again : ∀ {s' : Shared} {H' : Hp}, Inv (X.blk s3 H3 scope ce fp) ([] ++ pinsAt fp s7.heap) σ8 H' s' → Nx H' → ∃ m', m' < m ∧ ∃ i H', Inv (X.blk s3 H3 scope ce fp) [] (wipe σ (own.map (·.2))) H' s' ∧ tn i s'.heap ∧ (∀ b ∈ fp, H' b = none) ∧ W i m' H' := fun {s' H'} J' nx => by
        obtain ⟨m', hm, w'⟩ := hNx H' nx
        have kept : ∀ b ∈ fp, ∀ o, s7.heap.get? b = some o → s'.heap.get? b = some o ∧ H' b = none := fun b hb o e =>
          ⟨(J'.pin (b, o) (List.mem_append_right _ (List.mem_append_right _ (mem_pinsAt hb e)))).1, (J'.pin (b, o) (List.mem_append_right _ (List.mem_append_right _ (mem_pinsAt hb e)))).2.1⟩
        refine ⟨m', hm, i + 1, H', (J'.unpinned (pins := [])).weak (by rw [← hw8, wipe_length]) (fun j v e => (wipe_some (hw8 ▸ e)).1), T.keep _ _ _ st7 fun b hb o e => (kept b hb o e).1, fun b hb => ?_, w'⟩
        obtain ⟨o, e, _⟩ := T.obj _ _ st7 b hb
        exact (kept b hb o e).2
      cases b with
      | false =>
        simp only [Bool.false_eq_true, if_false] at q9 ⊢
        exact again I9 q9
      | true =>
        simp only [if_true] at q9 ⊢
        refine thnF (pe.run _ s9 σ8 H9 _ I9 q9) fun z s10 ⟨yv, H10, I10, r10, acc, hD10, hz10, nx⟩ => ?_
        exact app_ok (X := X.blk s3 H3 scope ce fp) I10 hD10 hz10 r10 fun s11 I11 => again I11 nx
  exact codeAny_compStart_list loop (T.self X.A 0 _ _ _ st4 loop)
end
/-- a comprehension whose parts look at the frame's slots as they are where it starts -/
def eLcI (fi : IF) (gf : GF) (tt : Sl → TF) (f : Sl → EF) (vs : List Nat) : EF := fun s C => (lcG fi gf (tt s) (f s) vs s C).bind fun ys C => .ok (.lst ys) C
/-- g(e) within the block, e a kept lambda: its body is worth what it is at the frame's slots -/
def eLamB (n : Nat) (gg : (D → Cells → Res D) → SF) (bd : Nat → Option EF) (kc m : Nat) (sl : Sl) (fe : EF) : EF := fun s C => (fe s C).bind fun d C1 => callF n 1 (gg (actL bd kc m sl)) [d] C1
section
variable {X : Cx} {G : Glo} {Wx : WX}
theorem Post.at_ {α β : Type} {σ : L2.St} {R R' : Wd → α → β → Prop} {W : Wd} {C : Cells} {H : Hp} {r : Res α} {Q : β → Hp → Prop} {w1 : Wd} (hw : G.W0.le w1) (hR : ∀ W a b, R' W a b → R W a b) (h : Post G Wx σ R W C H r Q) : Post (G.at_ w1) Wx σ R' W C H r Q := by
  cases r with
  | ok a C' => exact fun W' b H' t st r => h W' b H' t (st.of hw) (hR _ _ _ r)
  | err c C' => exact fun W' H' t st => h W' H' t (st.of hw)
  | no => exact h
theorem de_lcI {elt tg iter : Expr} {ifs : List Expr} {scope : Scope} {own : List (Str × Nat)} {pos : Pos} {wi : Wd → TI} {t : TG} {gf : GF} {tch : List Nat} {tt : Sl → TF} {f : Sl → EF} {fi : IF}
    (hc : X.calm = true) (hN : X.N.Nodup) (hi : ∀ w1, PI X tg iter (wi w1)) (io : ∀ w1, IOk (G.at_ w1) Wx (wi w1) fi) (ok : BlkOk X.N X.env.scope scope own) (go : ∀ w1, GOk (G.at_ w1) t gf tch) (htc : ∀ i ∈ tch, i ∈ own.map (·.2))
    (hin : ∀ (w1 : Wd) (sl : Sl) (pins : List (Addr × Obj)) (σ : L2.St) (s : Shared) (H : Hp) (fp : List Addr), G.W0.le w1 → Inv X pins σ H s → (∀ b ∈ fp, FpOk X pins H b) → RepS (G.at_ w1) w1 sl σ →
      PG (X.blk s H scope (benv X scope s) fp) tg t ∧ DTs (X.blk s H scope (benv X scope s) fp) (G.at_ w1) W0 ifs (tt sl) ∧ DE (X.blk s H scope (benv X scope s) fp) (G.at_ w1) W0 elt (f sl)) (hs : ∀ x, foldedSetIterable iter X.env x = pure x := by intro _; rfl) :
    DE X G Wx (.ListComp elt [⟨tg, iter, ifs, 0⟩] scope pos) (eLcI fi gf tt f (own.map (·.2))) := by
  refine ⟨⟨fun pins s σ H Q I h => ?_⟩⟩
  obtain ⟨W, sl, C, rs, st, q⟩ := h
  refine lcI hc hN I (hi W) ok ⟨fun s3 H3 fp I3 hfp => ?_⟩ hs (lc_use (G := G.at_ W) (io W) (go W) htc fin_lst rs.to (st.to .refl) (q.at_ st.lnk fun _ _ _ r => repV_at.1 r))
  obtain ⟨a, b, c⟩ := hin W sl pins σ s3 H3 fp st.lnk I3 hfp rs.to
  exact ⟨a, b.pts, c.pe⟩
theorem de_lamB {x a : Str} {g L : Addr} {k n kc m : Nat} {stg : Stmt} {cdv : Value} {Ng : List Str} {gg : (D → Cells → Res D) → SF} {bd : Nat → Option EF} {fe : EF} {e : Expr}
    {p pos : Pos} {w1 : Wd} {sl : Sl} {pinsX : List (Addr × Obj)} {σX : L2.St} {s3 : Shared} {H3 : Hp} {fp : List Addr} {scope : Scope} (hw : G.W0.le w1) (I3 : Inv X pinsX σX H3 s3) (hfp : ∀ b ∈ fp, FpOk X pinsX H3 b) (rs3 : RepS (G.at_ w1) w1 sl σX)
    (hk : X.K = G.K) (hg : Gl (X.blk s3 H3 scope (benv X scope s3) fp) x) (hm : X.mg x = some (.ref g)) (FP : FunP X.K x stg g cdv) (hB : ∀ fd, Fun X.K x x stg g fd → L2.Binds X.K fd [a] []) (Sg : FnScope Ng [a] (defScope stg)) (hn : Ng.length = n) (hNg : Ng[0]? = some a) (hva : Vis (defScope stg) a)
    {qq : Str} (hqq : X.env.qual = qq) (hr : Room (k + 2) X.A) {sc : Scope} (hsc : X.env.scope = sc) (hcl : X.env.cells = cellsFrom (L + 1) sc.names []) (hcm : G.W0.cm m = some L) (hoc : ∀ vs a, G.oq kc vs a = CodeO a (qq ++ "<lambda>"))
    (he : DE (X.blk s3 H3 scope (benv X scope s3) fp) (G.at_ w1) W0 e fe) (hbd : ∀ j fb, bd j = some fb → LamK X G k sc (qq ++ "<lambda>") j fb)
    (hG : ∀ (w1 : Wd) (act : D → Cells → Res D) (s : Shared) (H : Hp) (E : XK), Room (k + 1) (X.A.deeper (envOfC x (defScope stg) s.heap.objs.size g cdv)) →
      (∀ (W : WX) (pn : List (Addr × Obj)) (xe : Value → Shared → Prop) (p1 p2 : Pos), Takes ((cxOf (L2.CX X.prog X.w) X.prog X.w X.K X.mg X.base Ng x (defScope stg) g cdv X.A X.stack s H E).tr pn xe) W →
        DE ((cxOf (L2.CX X.prog X.w) X.prog X.w X.K X.mg X.base Ng x (defScope stg) g cdv X.A X.stack s H E).tr pn xe) (G.at_ w1) W (.Call (.Name a p1) [] [] p2) (eAct act 0)) →
      DSs (cxOf (L2.CX X.prog X.w) X.prog X.w X.K X.mg X.base Ng x (defScope stg) g cdv X.A X.stack s H E) (G.at_ w1) (fun c d _ H => E c d H) (defBody stg) (gg act))
    (hes : starEach [e] (benv X scope s3) = (false, eval e (benv X scope s3)) :: starEach [] (benv X scope s3) := by rfl) (hep : (backTo pos (starEach [] (benv X scope s3))).any (·.1) = false := by rfl)
    (hdb : (x == ("__debug__" : Str)) = false := by decide) (hd : (a == ("__debug__" : Str)) = false := by decide) (hcd : (a == ("__classdict__" : Str)) = false := by decide) :
    DE (X.blk s3 H3 scope (benv X scope s3) fp) (G.at_ w1) W0 (.Call (.Name x p) [e] [] pos) (eLamB n gg bd kc m sl fe) := by
  refine ⟨⟨fun pins s σ H Q I h => ?_⟩⟩
  subst hqq hsc
  obtain ⟨⟨oc, od, kV, doc, pm, an, ct, osl, lk, hcg⟩, hkp⟩ := FP
  have hb := hB _ ⟨⟨oc, od, kV, doc, pm, an, cdv, ct, osl, rfl, lk, hcg⟩, hkp⟩
  obtain ⟨W0', sl0, C0, rs0, st0, q0⟩ := h
  refine wpAny_Call_Name_kw (ld_glob I hg hm ?_ hdb)
  refine PySem.W.callWith_K (h₀ := X.base) I.ok.mod.kin hkp ?_ hes hep
  rw [hes]
  show wpAny _ _ (spliced ((false, eval e (benv X scope s3)) :: backTo pos (starEach [] (benv X scope s3)))) _ _ s
  refine Calls.spliced_cons (wpAny_mono (he.pe.run pins s σ H (fun v H1 => ∃ d C1 W1, RepV (G.at_ w1) W1 d v ∧ StR (G.at_ w1) W1 C1 H1 ∧ Post (G.at_ w1) W0 σ (RepV (G.at_ w1)) W1 C1 H1 (callF n 1 (gg (actL bd kc m sl)) [d] C1) Q) I ⟨W0', sl0, C0, rs0, st0, q0.bind fun d C1 W1 v H1 _ t st rd q1 => ⟨d, C1, W1, rd, st, q1⟩⟩) (fun u s' hu => ?_) fun e' s' hx => hx)
  obtain ⟨v, H1, I1b, rv, d, C1, W1, rd, st1, q⟩ := hu
  refine Calls.spliced_nil ⟨I1b.kIn, ?_⟩
  have I1 : Inv X pinsX σX H1 s' := I3.call' (ch := fp) I1b.os I1b.base I1b.hok I1b.bare fun b hb => ⟨(hfp b hb).2.2.2.1, (hfp b hb).2.1, (hfp b hb).2.2.2.2.1, (hfp b hb).2.2.2.2.2⟩
  have rc : codeAny (model X.prog X.w) X.A (.call (.ref g) ⟨[u], []⟩) (CR (L2.CX X.prog X.w) X.stack X.prog X.w H1 s' Q (fun c d H => W0 c d σ H)) s' := by
    refine run_ofS (N := Ng) (ps := [a]) (us := [u]) (vs := [v]) lk hcg Sg hr I1.env0 (hb s' [u] I1.kIn rfl) (.cons rv .nil) rfl fun hr' => ?_
    refine ⟨_, (hG W1 (actL bd kc m sl) s' H1 (fun c d H => W0 c d σ H) hr' fun Wz pn xe p1 p2 tkz => ?_).ps, ?_⟩
    · refine ⟨PE.weak (pe_actV (i := 0) (BD := fun f c' body scope tb => ∃ fb, tb = (fun E => tD (G.at_ W1) (fun c d _ H => E c d H) fb) ∧ ∀ (A : Around) (outer : List Env) (s : Shared) (H : Hp) (E : XK), Room k (A.deeper (lamEnv X scope s.heap.objs.size f c')) →
          DE (lamCx X A outer s H E scope f c') (G.at_ W1) (fun c d _ H => E c d H) body fb) I1 tkz hr' (fun f c' body scope tb ⟨fb, e1, hb1⟩ A outer s H E hr2 => by rw [e1]; exact (hb1 A outer s H E hr2).pe) hNg hva hd hcd) fun σZ HZ Q' hz => ?_⟩
      obtain ⟨W', sz, Cz, rsz, stz, qz⟩ := hz
      unfold eAct at qz
      split at qz
      · rename_i dz ed
        obtain ⟨vz, h1, h2⟩ := rsz.at_ 0 dz ed
        unfold actL at qz
        split at qz
        · rename_i j m' k'
          split at qz
          · rename_i em
            obtain ⟨rfl, rfl⟩ := em
            split at qz
            · rename_i fb eb
              obtain ⟨params, body, scope, hoq, hL, hbind, hbody⟩ := (hbd j fb eb).ex
              obtain ⟨f, vs, rfl, h3, h4⟩ := h2.opq_
              obtain ⟨v1, vr, rfl, r1, r2⟩ := h4.cons_inv
              obtain ⟨v2, vr2, rfl, r3, r4⟩ := r2.cons_inv
              obtain rfl := r4.nil_inv
              obtain ⟨aL, rfl, cmL⟩ := r1.cel_
              obtain ⟨c', vs', rfl, h5, _⟩ := r3.opq_
              have hLm := stz.lnk.cm _ _ (st1.lnk.cm _ _ (hw.cm _ _ hcm))
              rw [cmL] at hLm
              cases hLm
              have h3 : W'.F f = some (G.oq j _ f) := h3
              have h5 : W'.F c' = some (G.oq k' vs' c') := h5
              rw [hoq] at h3
              rw [hoc] at h5
              refine ⟨f, c', _, params, body, _, scope, _, h1, stz.F _ _ h3, hcl, stz.F _ _ h5, lamS_by hL, hbind, ⟨fb, rfl, fun A outer s H E hr2 => hbody W1 A outer s H E f c' hr2 hr2.units (takes_of rfl rfl rfl rfl)⟩, W', sl, Cz, (rs3.up (st1.lnk.trans stz.lnk)).of.to, stz, qz.wx⟩
            · exact qz.elim
          · exact qz.elim
        · exact qz.elim
      · exact qz.elim
    · refine ⟨W1, _, C1, RepS.start (N := Ng) (.cons (repV_at.2 (repV_at.1 rd)) .nil : RepVs (G.at_ W1) W1 [d] [v]), (st1.of hw).to .refl, ?_⟩
      unfold callF at q
      rw [if_pos (show ([d] : List D).length = 1 from rfl), ← hn] at q
      have back : ∀ {W' : Wd} {C' : Cells} {H' : Hp}, StR (G.at_ W1) W' C' H' → StR (G.at_ w1) W' C' H' := fun {W' C' H'} st' => (st'.of (hw.trans st1.lnk)).to (st1.lnk.trans st'.lnk)
      cases e : gg (actL bd kc m sl) (([d] : List D).map some ++ List.replicate (Ng.length - ([d] : List D).length) none) C1 with
      | nxt s' C' => rw [e] at q; exact fun W' σ' H' t st' _ => q W' .non H' t (back st') .non
      | ret d C' => rw [e] at q; exact fun W' v H' t st' r => q W' v H' t (back st') (repV_at.2 (repV_at.1 r))
      | err c s' C' => rw [e] at q; exact fun W' σ' H' t st' _ => q W' H' t (back st')
      | brk s' C' => rw [e] at q; exact q.elim
      | cnt s' C' => rw [e] at q; exact q.elim
      | no => rw [e] at q; exact q.elim
  refine wpAny_call (codeAny_mono rc fun r s2 hq => ?_)
  cases r with
  | error e => exact passAt (W := W0) (L2.takes0 (X := X.blk s3 H3 scope (benv X scope s3) fp)) σ pins H1 s' e s2 I1b hq
  | ok fl =>
    cases fl with
    | ret u => exact I1b.after hq
    | next => exact False.elim hq
    | brk => exact False.elim hq
    | cont => exact False.elim hq
end
end DL

set_option Elab.async false
set_option linter.all false
set_option maxRecDepth 100000
set_option maxHeartbeats 1000000
set_option autoImplicit false
/-! a kept lambda called by the def that keeps it -/
namespace DL
open PySem PySem.Spec PyProof.Rows L2 LamX
/-- e(), e a kept lambda -/
def eLamC (bd : Nat → Option EF) (kc m : Nat) (fe : EF) : EF := fun s C => (fe s C).bind fun d C1 => actL bd kc m s d C1
section
variable {X : Cx} {G : Glo} {Wx : WX}
theorem de_lamC {L : Addr} {k kc m : Nat} {bd : Nat → Option EF} {fe : EF} {e : Expr} {pos : Pos}
    {qq : Str} (hqq : X.env.qual = qq) (hr : Room (k + 1) X.A) (tk : Takes X Wx) {sc : Scope} (hsc : X.env.scope = sc) (hcl : X.env.cells = cellsFrom (L + 1) sc.names []) (hcm : G.W0.cm m = some L) (hoc : ∀ vs a, G.oq kc vs a = CodeO a (qq ++ "<lambda>"))
    (he : DE X G Wx e fe) (hbd : ∀ j fb, bd j = some fb → LamK X G k sc (qq ++ "<lambda>") j fb)
    (hev : eval (.Call e [] [] pos) X.env = (do callWith pos (← eval e X.env) [] (backTo pos (starEach [] X.env)) (backToKw pos (keywordEach [] X.env))) := by rfl) :
    DE X G Wx (.Call e [] [] pos) (eLamC bd kc m fe) := by
  refine ⟨⟨fun pins s σ H Q I h => ?_⟩⟩
  subst hqq hsc
  obtain ⟨W0, sl, C0, rs0, st0, q0⟩ := h
  rw [hev]
  refine wpAny_bind (wpAny_mono (he.pe.run pins s σ H (fun v H1 => ∃ d C1 W1, RepV G W1 d v ∧ StR G W1 C1 H1 ∧ W0.le W1 ∧ Post G Wx σ (RepV G) W1 C1 H1 (actL bd kc m sl d C1) Q) I ⟨W0, sl, C0, rs0, st0, q0.bind fun d C1 W1 v H1 _ t st rd q1 => ⟨d, C1, W1, rd, st, t.le, q1⟩⟩) (fun u s' hu => ?_) fun e' s' hx => hx)
  obtain ⟨v, H1, I1, rv, d, C1, W1, rd, st1, le1, q⟩ := hu
  unfold actL at q
  split at q
  · rename_i j m' k'
    split at q
    · rename_i em
      obtain ⟨rfl, rfl⟩ := em
      split at q
      · rename_i fb eb
        obtain ⟨params, body, scope, hoq, hL, hbind, hbody⟩ := (hbd j fb eb).ex
        obtain ⟨f, vs, rfl, h3, h4⟩ := rd.opq_
        obtain ⟨v1, vr, rfl, r1, r2⟩ := h4.cons_inv
        obtain ⟨v2, vr2, rfl, r3, r4⟩ := r2.cons_inv
        obtain rfl := r4.nil_inv
        obtain ⟨aL, rfl, cmL⟩ := r1.cel_
        obtain ⟨c', vs', rfl, h5, _⟩ := r3.opq_
        have hLm := st1.lnk.cm _ _ hcm
        rw [cmL] at hLm
        cases hLm
        have h3 : W1.F f = some (G.oq j _ f) := h3
        have h5 : W1.F c' = some (G.oq k' vs' c') := h5
        rw [hoq] at h3
        rw [hoc] at h5
        obtain rfl : u = Value.ref f := rv
        obtain ⟨L1, c1, pm, ctv, e1, of1⟩ := (I1.hok f _ (st1.F _ _ h3)).1
        cases e1
        rw [← hcl] at of1
        have L := lamS_by hL
        refine PySem.W.callWith_F0 ⟨_, _, _, _, of1⟩ ?_
        have un : Un (frs X.stack) [] H1 H1 s'.heap s'.heap := Un.kept fun _ _ e => e
        obtain ⟨⟨oc, vs, t, hoc', hdc, hvc⟩, _, _⟩ := I1.hok c' _ (st1.F _ _ h5)
        have rc : codeAny (model X.prog X.w) X.A (.call (.ref f) ⟨[], []⟩) (CR (L2.CX X.prog X.w) X.stack X.prog X.w H1 s' Q (fun c d H => Wx c d σ H)) s' := by
          refine PySem.W.kla_callFunE hr.depth of1 rfl L.co L.gen rfl ⟨c', oc, vs, t, rfl, hoc', hdc, hvc⟩ ?_
          rw [hbind]
          refine wpAny_pure (wpAny_newFunctionEnv (fun y hy => (L.own y hy).2) (fun y hy => absurd hy (by simp)) (fun h₁ hns hsb => ⟨I1.nolimit.fresh _ hsb, ?_⟩) L.kind)
          show codeAny _ _ (.expr body (lamEnv X scope s'.heap.objs.size f c')) _ _
          have kp : ∀ b o, s'.heap.get? b = some o → h₁.get? b = some o := fun b o e => hsb.extBut b o (Nat.ne_of_lt (Heap.lt_size e)) (Heap.get?_push_of_some _ e)
          have J : Inv (lamCx X X.A X.stack s' H1 (fun c d H => Wx c d σ H) scope f c') [] σ H1 { s' with heap := h₁, toks := s'.toks + ([] : List (Str × Value)).length } :=
            lam_start2 I1 L I1.env0 hr.hd un hns kp
          have hr2 : Room k (X.A.deeper (lamEnv X scope s'.heap.objs.size f c')) := hr.deeper _
          refine PySem.W.kla_codeExpr (wpAny_mono ((hbody G.W0 X.A X.stack s' H1 (fun c d H => Wx c d σ H) f c' hr2 hr2.units (takes_of rfl rfl rfl rfl)).pe.run [] _ _ H1 Q J ⟨W1, sl, C1, rs0.up le1, st1, q.wx⟩) (fun v s2 hq => ?_) fun e s2 hq => hq)
          obtain ⟨w', H', J', rv, q⟩ := hq
          exact ⟨w', H', J'.os, J'.bare, J'.base, J'.hok, rv, q⟩
        refine wpAny_call (codeAny_mono rc fun r s2 hq => ?_)
        cases r with
        | error e => exact passAt tk σ pins H1 s' e s2 I1 hq
        | ok fl =>
          cases fl with
          | ret u => exact I1.after hq
          | next => exact False.elim hq
          | brk => exact False.elim hq
          | cont => exact False.elim hq
      · exact q.elim
    · exact q.elim
  · exact q.elim
end
end DL

set_option Elab.async false
set_option linter.all false
set_option maxRecDepth 100000
set_option maxHeartbeats 1000000
set_option autoImplicit false
/-! closures that outlive the frame that made them -/
namespace DL
open PySem PySem.Spec PyProof.Rows L2 LamX
/-- a variable's cell whose frame has ended: nobody writes it any more -/
def CellO (vs : List V) (a : Addr) : HO := .ext fun h => ∃ (v : V) (u : Value), vs = [v] ∧ RelV v u ∧ h.IsCell a (some u)
def adrs (N : List Str) (cs : List (Str × Addr)) : List V := N.map fun x => match cs.lookup x with | some c => V.ref c | none => .non
/-- a lambda whose frame has ended: it holds that frame's cells -/
def CloO (q : Str) (params : Arguments) (body : Expr) (sc scope : Scope) (N : List Str) (vs : List V) (a : Addr) : HO := .ext fun h => ∃ (L c' : Addr) (pm ctv : Value),
  (∀ y z c, (cellsFrom (L + 1) sc.names []).lookup y = some c → (cellsFrom (L + 1) sc.names []).lookup z = some c → y = z) ∧
  vs = V.ref c' :: adrs N (cellsFrom (L + 1) sc.names []) ∧
  h.get? a = some (PySem.W.kla_obj "<lambda>" q params body scope (cloFrom (cellsFrom (L + 1) sc.names []) scope.names []) pm c' ctv)
/-- no thing that is known by a sentence within -/
def plainD : Nat → D → Bool
  | 0, _ => false
  | n + 1, .lst l => l.all (plainD n)
  | n + 1, .tup l => l.all (plainD n)
  | n + 1, .scr l => l.all (plainD n)
  | n + 1, .ktp l => l.all (plainD n)
  | n + 1, .obj _ l => l.all (plainD n)
  | _ + 1, .opq _ _ => false
  | _ + 1, _ => true
/-- what a closure's variables are worth -/
def capD (kk : Nat) : List D → Option (List D)
  | [] => some []
  | .opq k [d] :: r => if k = kk ∧ plainD 30 d = true then (capD kk r).map (d :: ·) else none
  | _ => none
def subC (C : Cells) : Cells := ⟨C.nx, fun _ => none, fun _ _ => rfl⟩
def joinC (C C' : Cells) : Cells := ⟨max C.nx C'.nx, fun n => if n < C.nx then C.get n else C'.get n, fun n h => by
  have h1 : C.nx ≤ n := Nat.le_trans (Nat.le_max_left _ _) h
  have h2 : C'.nx ≤ n := Nat.le_trans (Nat.le_max_right _ _) h
  rw [if_neg (by omega)]
  exact C'.wf n h2⟩
def joinR (C : Cells) : Res D → Res D
  | .ok d C' => .ok d (joinC C C')
  | .err c C' => .err c (joinC C C')
  | .no => .no
/-- what a closure is worth when it is called -/
def actG (bd : Nat → Option EF) (kc kk : Nat) : D → Cells → Res D := fun d C => match d with
  | .opq j (.opq k [] :: l) => if k = kc then (match capD kk l with | some ds => (match bd j with | some fb => joinR C (fb (ds.map some) (subC C)) | none => .no) | none => .no) else .no
  | _ => .no
def eCloC (bd : Nat → Option EF) (kc kk : Nat) (fe : EF) : EF := fun s C => (fe s C).bind fun d C1 => actG bd kc kk d C1
section
open Classical
variable {G : Glo} {W W1 : Wd} {C : Cells} {H : Hp} {S : Addr → Prop}
/-- the world without what is known of some cells -/
noncomputable def Wd.sub (W : Wd) (S : Addr → Prop) : Wd := ⟨fun a => if S a then none else W.F a, W.cm⟩
noncomputable def hsub (H : Hp) (S : Addr → Prop) : Hp := fun a => if S a then none else H a
theorem Wd.sub_F {a : Addr} {o : HO} (h : W.F a = some o) (n : ¬ S a) : (W.sub S).F a = some o := (if_neg n).trans h
theorem Wd.sub_le : (W.sub S).le W := ⟨fun a o h => by
  have h : (if S a then none else W.F a) = some o := h
  split at h
  · cases h
  · exact h, fun _ _ h => h⟩
theorem SqL.subW {K : PySem.W.Frag} {a : Addr} {vs : List V} (hS : ∀ a, S a → ∃ φ, W.F a = some (.ext φ)) (h : SqL K W.F a vs) : SqL K (W.sub S).F a vs := by
  refine h.imp (fun r => ?_) fun z => z
  have na : ¬ S a := fun s => by
    obtain ⟨φ, e⟩ := hS a s
    rcases r with r | ⟨ob, r⟩ <;> rw [e] at r <;> cases r
  rcases r with r | ⟨ob, r⟩
  · exact .inl (Wd.sub_F r na)
  · exact .inr ⟨ob, Wd.sub_F r na⟩
theorem SqT.subW {K : PySem.W.Frag} {a : Addr} {vs : List V} (hS : ∀ a, S a → ∃ φ, W.F a = some (.ext φ)) (h : SqT K W.F a vs) : SqT K (W.sub S).F a vs := by
  refine h.imp (fun r => ?_) fun z => z
  have na : ¬ S a := fun s => by
    obtain ⟨φ, e⟩ := hS a s
    rcases r with r | ⟨ob, r⟩ <;> rw [e] at r <;> cases r
  rcases r with r | ⟨ob, r⟩
  · exact .inl (Wd.sub_F r na)
  · exact .inr ⟨ob, Wd.sub_F r na⟩
mutual
theorem RepV.subW (hS : ∀ a, S a → ∃ φ, W.F a = some (.ext φ)) : ∀ {d : D} {v : V} (n : Nat), plainD n d = true → RepV G W d v → RepV G (W.sub S) d v
  | _, _, 0, p, _ => by cases p
  | .non, _, _ + 1, _, h => by unfold RepV at h ⊢; exact h
  | .bl _, _, _ + 1, _, h => by unfold RepV at h ⊢; exact h
  | .int _, _, _ + 1, _, h => by unfold RepV at h ⊢; exact h
  | .str _, _, _ + 1, _, h => by unfold RepV at h ⊢; exact h
  | .lst ds, _, n + 1, p, h => by
    unfold plainD at p
    unfold RepV at h ⊢
    obtain ⟨a, vs, e, s, r⟩ := h
    exact ⟨a, vs, e, Wd.sub_F s fun z => (by obtain ⟨φ, q⟩ := hS a z; rw [q] at s; cases s), RepVs.subW hS n p r⟩
  | .scr ds, _, n + 1, p, h => by
    unfold plainD at p
    unfold RepV at h ⊢
    obtain ⟨a, vs, e, s, r⟩ := h
    exact ⟨a, vs, e, SqL.subW hS s, RepVs.subW hS n p r⟩
  | .tup ds, _, n + 1, p, h => by
    unfold plainD at p
    unfold RepV at h ⊢
    obtain ⟨a, vs, e, s, r⟩ := h
    exact ⟨a, vs, e, Wd.sub_F s fun z => (by obtain ⟨φ, q⟩ := hS a z; rw [q] at s; cases s), RepVs.subW hS n p r⟩
  | .ktp ds, _, n + 1, p, h => by
    unfold plainD at p
    unfold RepV at h ⊢
    obtain ⟨a, vs, e, s, r⟩ := h
    exact ⟨a, vs, e, SqT.subW hS s, RepVs.subW hS n p r⟩
  | .obj c ds, _, n + 1, p, h => by
    unfold plainD at p
    unfold RepV at h ⊢
    obtain ⟨a, dx, vs, e, s, r, l⟩ := h
    exact ⟨a, dx, vs, e, Wd.sub_F s fun z => (by obtain ⟨φ, q⟩ := hS a z; rw [q] at s; cases s), RepVs.subW hS n p r, l⟩
  | .cel n, _, _ + 1, _, h => by unfold RepV at h ⊢; exact h
  | .opq _ _, _, _ + 1, p, _ => by unfold plainD at p; cases p
theorem RepVs.subW (hS : ∀ a, S a → ∃ φ, W.F a = some (.ext φ)) : ∀ {ds : List D} {vs : List V} (n : Nat), ds.all (plainD n) = true → RepVs G W ds vs → RepVs G (W.sub S) ds vs
  | [], _, _, _, h => by unfold RepVs at h ⊢; exact h
  | d :: r, _, n, p, h => by
    rw [List.all_cons, Bool.and_eq_true] at p
    unfold RepVs at h ⊢
    obtain ⟨v, vr, e, s, t⟩ := h
    exact ⟨v, vr, e, RepV.subW hS n p.1 s, RepVs.subW hS n p.2 t⟩
end
/-- the state without what is known of some cells, and without the data's cells -/
theorem StR.sub (st : StR G W C H) (hS : ∀ a, S a → ∃ φ, W.F a = some (.ext φ)) (hC : ∀ c q, W.F c = some (CodeO c q) → ¬ S c) : StR (G.at_ (W.sub S)) (W.sub S) (subC C) (hsub H S) := by
  have hT : ∀ a ps, H a = some (.tbl ps) → hsub H S a = some (.tbl ps) := fun a ps h => (if_neg fun z => by
    obtain ⟨φ, q⟩ := hS a z
    rw [st.F a _ q] at h; cases h).trans h
  refine ⟨.refl, ⟨fun a ps z => st.tb.1 a ps (Wd.sub_le.F a _ z), fun p hp => ?_⟩, fun a o h => ?_, fun n o h => (nomatch h), fun n m a o o' h => (nomatch h), fun n h => st.nx n h⟩
  · obtain ⟨ps, h1, h2, h3⟩ := st.tb.2 p hp
    refine ⟨ps, hT _ _ h1, h2, fun pos cv e => ?_⟩
    obtain ⟨c, e1, e2⟩ := h3 pos cv e
    exact ⟨c, e1, Wd.sub_F e2 (hC c _ e2)⟩
  · have h' : (if S a then none else W.F a) = some o := h
    split at h'
    · cases h'
    · rename_i n
      exact (if_neg n).trans (st.F a o h')
variable {W' : Wd} {C' : Cells} {H' : Hp}
noncomputable def Wd.back (W W' : Wd) (S : Addr → Prop) : Wd := ⟨fun a => if S a then W.F a else W'.F a, W'.cm⟩
noncomputable def hback (H H' : Hp) (S : Addr → Prop) : Hp := fun a => if S a then H a else H' a
/-- what was left out is put back -/
theorem fr_join (st : StR G W C H) (hS : ∀ a, S a → ∃ φ, W.F a = some (.ext φ)) (stp : Step (W.sub S) (subC C) (hsub H S) W' C' H') (st' : StR (G.at_ (W.sub S)) W' C' H') (hn : ∀ a, S a → H' a = none) :
    StR G (W.back W' S) (joinC C C') (hback H H' S) ∧ Step W C H (W.back W' S) (joinC C C') (hback H H' S) ∧ W'.le (W.back W' S) := by
  have leB : W'.le (W.back W' S) := ⟨fun a o h => by
    show (if S a then W.F a else W'.F a) = some o
    by_cases z : S a
    · have := st'.F a o h
      rw [hn a z] at this; cases this
    · rw [if_neg z]; exact h, fun _ _ h => h⟩
  have leW : W.le (W.back W' S) := ⟨fun a o h => by
    show (if S a then W.F a else W'.F a) = some o
    by_cases z : S a
    · rw [if_pos z]; exact h
    · rw [if_neg z]; exact stp.le.F a o (Wd.sub_F h z), fun n a h => stp.le.cm n a h⟩
  have hB : ∀ a o, H' a = some o → hback H H' S a = some o := fun a o h => by
    unfold hback
    by_cases z : S a
    · rw [hn a z] at h; cases h
    · rw [if_neg z]; exact h
  -- an old cell's thing is where it was
  have old : ∀ n o, C.get n = some o → ∃ a ho, W.cm n = some a ∧ W'.cm n = some a ∧ W'.F a = none ∧ ¬ S a ∧ H' a = some ho ∧ RepO G W o ho ∧ ¬ Own W' C' a := fun n o h => by
    obtain ⟨a, ho, h1, h2, h3, h4⟩ := st.cells n o h
    have ns : ¬ S a := fun z => by
      obtain ⟨φ, q⟩ := hS a z
      rw [h2] at q; cases q
    have no : ¬ Own (W.sub S) (subC C) a := by
      rintro (⟨u, z⟩ | ⟨m, u, z, _⟩)
      · have := Wd.sub_le.F a u z
        rw [h2] at this; cases this
      · cases z
    obtain ⟨k1, k2⟩ := stp.fr a ho ((if_neg ns).trans h3) h4.pla no
    refine ⟨a, ho, h1, stp.le.cm n a h1, ?_, ns, k1, h4, k2⟩
    cases e : W'.F a with
    | none => rfl
    | some u => exact absurd (.inl ⟨u, e⟩) k2
  have jg : ∀ n o, (joinC C C').get n = some o → (n < C.nx ∧ C.get n = some o) ∨ (¬ n < C.nx ∧ C'.get n = some o) := fun n o h => by
    have h : (if n < C.nx then C.get n else C'.get n) = some o := h
    by_cases z : n < C.nx
    · rw [if_pos z] at h; exact .inl ⟨z, h⟩
    · rw [if_neg z] at h; exact .inr ⟨z, h⟩
  refine ⟨⟨st.lnk.trans leW, ⟨fun a ps z => ?_, fun p hp => ?_⟩, fun a o h => ?_, fun n o h => ?_, fun n m a o o' h1 h2 h3 h4 => ?_, fun n h => st'.nx n (Nat.le_trans (Nat.le_max_right _ _) h)⟩, ⟨leW, Nat.le_max_left _ _, fun a o h po no => ?_⟩, leB⟩
  · have z : (if S a then W.F a else W'.F a) = some (.tbl ps) := z
    split at z
    · exact st.tb.1 a ps z
    · exact st'.tb.1 a ps z
  · obtain ⟨ps, h1, h2, h3⟩ := st'.tb.2 p hp
    refine ⟨ps, hB _ _ h1, h2, fun pos cv e => ?_⟩
    obtain ⟨c, e1, e2⟩ := h3 pos cv e
    exact ⟨c, e1, leB.F _ _ e2⟩
  · have h : (if S a then W.F a else W'.F a) = some o := h
    split at h
    · rename_i z
      exact (if_pos z).trans (st.F a o h)
    · exact hB a o (st'.F a o h)
  · rcases jg n o h with ⟨_, h⟩ | ⟨_, h⟩
    · obtain ⟨a, ho, h1, h2, h3, ns, h4, h5, _⟩ := old n o h
      exact ⟨a, ho, h2, (if_neg ns).trans h3, hB a ho h4, h5.up leW⟩
    · obtain ⟨a, ho, h1, h2, h3, h4⟩ := st'.cells n o h
      have ns : ¬ S a := fun z => by rw [hn a z] at h3; cases h3
      exact ⟨a, ho, h1, (if_neg ns).trans h2, hB a ho h3, (repO_at.1 h4).up leB⟩
  · have h3 : W'.cm n = some a := h3
    have h4 : W'.cm m = some a := h4
    rcases jg n o h1 with ⟨_, k1⟩ | ⟨_, k1⟩ <;> rcases jg m o' h2 with ⟨_, k2⟩ | ⟨_, k2⟩
    · obtain ⟨a1, _, x1, x2, _⟩ := old n o k1
      obtain ⟨a2, _, y1, y2, _⟩ := old m o' k2
      rw [h3] at x2; cases x2
      rw [h4] at y2; cases y2
      exact st.inj n m a o o' k1 k2 x1 y1
    · obtain ⟨a1, _, x1, x2, _, _, _, _, no⟩ := old n o k1
      rw [h3] at x2; cases x2
      exact absurd (.inr ⟨m, o', k2, h4⟩) no
    · obtain ⟨a1, _, x1, x2, _, _, _, _, no⟩ := old m o' k2
      rw [h4] at x2; cases x2
      exact absurd (.inr ⟨n, o, k1, h3⟩) no
    · exact st'.inj n m a o o' k1 k2 h3 h4
  · have ns : ¬ S a := fun z => by
      obtain ⟨φ, q⟩ := hS a z
      exact no (.inl ⟨_, q⟩)
    have no2 : ¬ Own (W.sub S) (subC C) a := by
      rintro (⟨u, z⟩ | ⟨m, u, z, _⟩)
      · exact no (.inl ⟨u, Wd.sub_le.F a u z⟩)
      · cases z
    obtain ⟨k1, k2⟩ := stp.fr a o ((if_neg ns).trans h) po no2
    refine ⟨hB a o k1, ?_⟩
    rintro (⟨u, z⟩ | ⟨m, u, z, y⟩)
    · have z : (if S a then W.F a else W'.F a) = some u := z
      rw [if_neg ns] at z
      exact k2 (.inl ⟨u, z⟩)
    · have y : W'.cm m = some a := y
      rcases jg m u z with ⟨_, z⟩ | ⟨_, z⟩
      · obtain ⟨a1, _, x1, x2, _⟩ := old m u z
        rw [y] at x2; cases x2
        exact no (.inr ⟨m, u, z, x1⟩)
      · exact k2 (.inr ⟨m, u, z, y⟩)
/-- heaps: what was left out is put back -/
theorem un_back {fs : List Addr} {h h' : Heap} (hS : ∀ a, S a → ∃ φ, H a = some (.ext φ)) (u : Un fs [] (hsub H S) H' h h') : Un fs [] H (hback H H' S) h h' := by
  have sn : ∀ b, H b = none → hsub H S b = none := fun b e => by unfold hsub; split; rfl; exact e
  have ns : ∀ b, H b = none → ¬ S b := fun b e z => by obtain ⟨φ, q⟩ := hS b z; rw [e] at q; cases q
  have nx : ∀ b o, H b = some o → (∀ φ, o ≠ .ext φ) → ¬ S b := fun b o e n z => by
    obtain ⟨φ, q⟩ := hS b z
    rw [e] at q
    exact n φ (Option.some.inj q)
  refine ⟨fun b o e n => u.keep b o e (sn b n), fun b o e n => u.slot b o e (sn b n), fun b o e n x => ?_, u.there, fun b xs e => ?_, fun b o v e => ?_, fun b ps e => ?_⟩
  · exact (if_neg (ns b n)).trans (u.free b o e (sn b n) x)
  · have z := nx b _ e (fun φ q => by cases q)
    exact (if_neg z).trans (u.tups b xs ((if_neg z).trans e))
  · have z := nx b _ e (fun φ q => by cases q)
    exact (if_neg z).trans (u.frzs b o v ((if_neg z).trans e))
  · have z := nx b _ e (fun φ q => by cases q)
    obtain ⟨more, q⟩ := u.tbls b ps ((if_neg z).trans e)
    exact ⟨more, (if_neg z).trans q⟩
theorem ub_back {fs : List Addr} {h B h' : Heap} (hS : ∀ a, S a → ∃ φ, H a = some (.ext φ)) (u : UB fs (hsub H S) H' h B h') : UB fs H (hback H H' S) h B h' := by
  have sn : ∀ b, H b = none → hsub H S b = none := fun b e => by unfold hsub; split; rfl; exact e
  have ns : ∀ b, H b = none → ¬ S b := fun b e z => by obtain ⟨φ, q⟩ := hS b z; rw [e] at q; cases q
  have nx : ∀ b o, H b = some o → (∀ φ, o ≠ .ext φ) → ¬ S b := fun b o e n z => by
    obtain ⟨φ, q⟩ := hS b z
    rw [e] at q
    exact n φ (Option.some.inj q)
  refine ⟨fun b o e n => u.keep b o e (sn b n), u.slot, fun b o e n => ?_, u.there, fun b xs e => ?_, fun b o v e => ?_, fun b ps e => ?_⟩
  · exact (if_neg (ns b n)).trans (u.free b o e (sn b n))
  · have z := nx b _ e (fun φ q => by cases q)
    exact (if_neg z).trans (u.tups b xs ((if_neg z).trans e))
  · have z := nx b _ e (fun φ q => by cases q)
    exact (if_neg z).trans (u.frzs b o v ((if_neg z).trans e))
  · have z := nx b _ e (fun φ q => by cases q)
    obtain ⟨more, q⟩ := u.tbls b ps ((if_neg z).trans e)
    exact ⟨more, (if_neg z).trans q⟩
/-- facts of old H hold on where the objects stay -/
theorem hok_sub {P : Program} {w : World} {h : Heap} (hS : ∀ a, S a → ∃ φ, H a = some (.ext φ)) (ok : HOk P w H h) : HOk P w (hsub H S) h := fun a o e => by
  have e' : H a = some o := by
    unfold hsub at e
    split at e
    · cases e
    · exact e
  have nx : ∀ b o, H b = some o → (∀ φ, o ≠ .ext φ) → ¬ S b := fun b o e n z => by
    obtain ⟨φ, q⟩ := hS b z
    rw [e] at q
    exact n φ (Option.some.inj q)
  exact (ok a o e').stay (fun _ _ _ q => q) (fun b q => (if_neg (nx b _ q (fun φ q => by cases q))).trans q) fun b xs q => (if_neg (nx b _ q (fun φ q => by cases q))).trans q
theorem hok_back {P : Program} {w : World} {h h' : Heap} (hS : ∀ a, S a → ∃ φ, H a = some (.ext φ)) (ok : HOk P w H h) (ok' : HOk P w H' h') (hn : ∀ a, S a → H' a = none) (keep : ∀ a o, S a → h.get? a = some o → h'.get? a = some o) : HOk P w (hback H H' S) h' := fun a o e => by
  unfold hback at e
  split at e
  · rename_i z
    obtain ⟨φ, q⟩ := hS a z
    rw [e] at q
    cases q
    obtain ⟨k1, ⟨ob, k2⟩, k3⟩ := ok a _ e
    exact ⟨k3 h h' k1 fun u q => keep a u z q, ⟨ob, keep a ob z k2⟩, k3⟩
  · have nb : ∀ b o, H' b = some o → hback H H' S b = some o := fun b o q => by
      unfold hback
      by_cases z : S b
      · rw [hn b z] at q; cases q
      · rw [if_neg z]; exact q
    exact (ok' a o e).stay (fun _ _ _ q => q) (fun b q => nb b _ q) fun b xs q => nb b _ q
end
section
/-- the closure's body begins: the cells are known by their contents -/
theorem lam_start3 {XM : Cx} {σ : L2.St} {H : Hp} {s1 : Shared} {A : Around} {outer : List Env} {E : XK} {scope : Scope} {f c' : Addr} {h₁ : Heap} {tk : Nat} (L : LamS XM.env.scope scope) (e0 : Env0 XM.prog XM.w XM.K XM.mg XM.base A outer s1 H) (hd : A.handled = none)
    (inj : ∀ y z c, XM.env.cells.lookup y = some c → XM.env.cells.lookup z = some c → y = z)
    (val : ∀ (i : Nat) (x : Str) (v : V), XM.N[i]? = some x → σ[i]? = some (some v) → ∃ c u, XM.env.cells.lookup x = some c ∧ RelV v u ∧ s1.heap.IsCell c (some u))
    (hfree : ∀ y ∈ scope.names, y.2 = .free → ∃ c, XM.env.cells.lookup y.1 = some c ∧ (∃ v, s1.heap.IsCell c v) ∧ H c = none)
    (len : σ.length = XM.N.length) (hns : h₁.Ns s1.heap.objs.size fun y => ([] : List (Str × Value)).reverse.lookup y) (kp : ∀ b o, s1.heap.get? b = some o → h₁.get? b = some o) :
    Inv (lamCx XM A outer s1 H E scope f c') [] σ H { s1 with heap := h₁, toks := tk } := by
  have cm : ∀ {y c}, (cloFrom XM.env.cells scope.names []).lookup y = some c → XM.env.cells.lookup y = some c ∧ (∃ v, s1.heap.IsCell c v) ∧ H c = none := fun {y c} e => by
    rcases cloFrom_mem (PySem.mem_of_lookup e) with hm | ⟨h1, h2⟩
    · cases hm
    · obtain ⟨c1, hc, h3, h4⟩ := hfree _ h1 rfl
      have hc : XM.env.cells.lookup y = some c1 := hc
      have e2 : c = c1 := by
        rw [h2, hc] <;> rfl
      rw [e2]
      exact ⟨hc, h3, h4⟩
  have look : ∀ {y}, scope.names.lookup y = some .free → ∃ c, (cloFrom XM.env.cells scope.names []).lookup y = some c := fun {y} hl => by
    have hy : (y, NameKind.free) ∈ scope.names := PySem.mem_of_lookup hl
    exact mem_lookup (cloFrom_has (cells := XM.env.cells) (acc := []) hy)
  have cellK : ∀ {c : Addr} {v : Option Value}, s1.heap.IsCell c v → h₁.IsCell c v := fun {c v} ⟨o, ho, hd⟩ => ⟨o, kp _ _ ho, hd⟩
  have noA : ∀ b : Addr, b ∉ (lamCx XM A outer s1 H E scope f c').ex := fun b z => absurd (show b ∈ ([] : List Addr) from z) (by simp)
  refine ⟨⟨e0.mod, L.kind, rfl, rfl, Nat.le_refl _, fun y z c e1 e2 => inj y z c (cm e1).1 (cm e2).1, fun y hy => ?_, fun y c z _ => ?_, fun _ => hd, Around.frames_deeper e0.frames, .inr ⟨rfl, rfl⟩, fun b z => absurd z (noA b), e0.bs, e0.bsz, fun b _ _ => noA b,
      fun b z => absurd z (noA b), e0.funs, e0.frf⟩,
    rfl, e0.bare, Un.kept kp, ⟨_, hns, fun i y v e1 e2 e3 => ?_⟩, fun y c e => ?_, e0.hok.fresh (Nat.le_refl _), fun y c e => (cm e).2.2, fun q hq => absurd (show q ∈ ([] : List (Addr × Obj)) ++ [] from hq) (by simp), e0.hok.kept kp, len⟩
  · have hy : scope.names.lookup y = some .cell ∨ scope.names.lookup y = some .free := hy
    rcases hy with hy | hy
    · exact absurd rfl (L.own _ (PySem.mem_of_lookup hy)).2
    · exact look hy
  · have z : false = true := z
    cases z
  · have e3 : Vis scope y := e3
    rcases e3 with k | k | k
    · exact absurd rfl (L.own _ (PySem.mem_of_lookup k)).1
    · exact absurd rfl (L.own _ (PySem.mem_of_lookup k)).2
    · obtain ⟨c, u, h1, h2, h3⟩ := val i y v e1 e2
      obtain ⟨c2, k2⟩ := look k
      have c1 := (cm k2).1
      rw [h1] at c1
      cases c1
      exact ⟨u, h2, .inr ⟨.inr k, c, k2, cellK h3⟩⟩
  · obtain ⟨v, z⟩ := (cm e).2.1
    exact ⟨v, cellK z⟩
end
/-- what must be known of a closure's body, in the frame of whatever size the heap had -/
structure LamG (P : Program) (w : World) (K : PySem.W.Frag) (mg : Str → Option Value) (base : Heap) (N : List Str) (qual : Str) (sc : Scope) (fM : Addr) (cdM : Value) (G : Glo) (k : Nat) (q : Str) (j : Nat) (fb : EF) : Prop where
  ex : ∃ (params : Arguments) (body : Expr) (scope : Scope), (∀ vs a, G.oq j vs a = CloO q params body sc scope N vs a) ∧ lamSB sc scope = true ∧ (∀ y ∈ scope.names, y.2 = .free → y.1 ∈ N) ∧
    (∀ (q : Str) (cl : List (Str × Addr)) (pm cv ctv : Value), bindArgs (PySem.W.kla_fn "<lambda>" q params body scope cl pm cv ctv) ⟨[], []⟩ = pure []) ∧
    ∀ (w1 : Wd) (A0 : Around) (outer0 : List Env) (sM : Shared) (HM : Hp) (EM : XK) (A : Around) (outer : List Env) (s : Shared) (H : Hp) (E : XK) (f c' : Addr),
      Room k (A.deeper (lamEnv (cxOf (L2.CX P w) P w K mg base N qual sc fM cdM A0 outer0 sM HM EM) scope s.heap.objs.size f c')) →
      (A.deeper (lamEnv (cxOf (L2.CX P w) P w K mg base N qual sc fM cdM A0 outer0 sM HM EM) scope s.heap.objs.size f c')).units + 64 < cLine →
      Takes (lamCx (cxOf (L2.CX P w) P w K mg base N qual sc fM cdM A0 outer0 sM HM EM) A outer s H E scope f c') (fun c d _ H => E c d H) →
      DE (lamCx (cxOf (L2.CX P w) P w K mg base N qual sc fM cdM A0 outer0 sM HM EM) A outer s H E scope f c') (G.at_ w1) (fun c d _ H => E c d H) body fb
theorem shared_of (s : Shared) (n : Nat) : ∃ s' : Shared, s'.heap.objs.size = n :=
  ⟨{ s with heap := { s.heap with objs := Array.replicate n { cls := .none, data := .fields #[] } } }, by show (Array.replicate n _).size = n; rw [Array.size_replicate]⟩
theorem capD_inv {G : Glo} {W : Wd} {kk : Nat} : ∀ {l ds : List D} {vs : List V}, capD kk l = some ds → RepVs G W l vs → ∃ us : List V, ds.length = us.length ∧ vs.length = us.length ∧ RepVs G W ds us ∧ ds.all (plainD 30) = true ∧
    ∀ (i : Nat) (v : V), us[i]? = some v → ∃ a, vs[i]? = some (.ref a) ∧ W.F a = some (G.oq kk [v] a)
  | [], ds, vs, h, r => by
    obtain rfl := r.nil_inv
    cases h
    exact ⟨[], rfl, rfl, .nil, rfl, fun i v e => by simp at e⟩
  | .opq k [d0] :: l, ds, vs, h, r => by
    obtain ⟨v, vr, rfl, r1, r2⟩ := r.cons_inv
    have h : (if k = kk ∧ plainD 30 d0 = true then (capD kk l).map (d0 :: ·) else none) = some ds := h
    split at h
    · rename_i hk
      obtain ⟨rfl, hp⟩ := hk
      cases hr : capD k l with
      | none => rw [hr] at h; cases h
      | some es =>
        rw [hr] at h
        cases h
        obtain ⟨us, h1, h2, h3, h4, h5⟩ := capD_inv hr r2
        obtain ⟨a, ws, rfl, k1, k2⟩ := r1.opq_
        obtain ⟨w, wr, rfl, k3, k4⟩ := k2.cons_inv
        obtain rfl := k4.nil_inv
        refine ⟨w :: us, by simp [h1], by simp [h2], .cons k3 h3, by simp [hp, h4], fun i v e => ?_⟩
        cases i with
        | zero =>
          simp at e
          subst e
          exact ⟨a, rfl, k1⟩
        | succ i => exact h5 i v (by simpa using e)
    · cases h
  | .opq _ [] :: _, _, _, h, _ => by cases h
  | .opq _ (_ :: _ :: _) :: _, _, _, h, _ => by cases h
  | .non :: _, _, _, h, _ => by cases h
  | .bl _ :: _, _, _, h, _ => by cases h
  | .int _ :: _, _, _, h, _ => by cases h
  | .str _ :: _, _, _, h, _ => by cases h
  | .lst _ :: _, _, _, h, _ => by cases h
  | .tup _ :: _, _, _, h, _ => by cases h
  | .obj _ _ :: _, _, _, h, _ => by cases h
  | .cel _ :: _, _, _, h, _ => by cases h
  | .scr _ :: _, _, _, h, _ => by cases h
  | .ktp _ :: _, _, _, h, _ => by cases h
section
variable {X : Cx} {G : Glo} {Wx : WX}
open Classical
theorem de_cloC {k kc kk : Nat} {bd : Nat → Option EF} {fe : EF} {e : Expr} {pos : Pos} {N : List Str} {qual : Str} {sc : Scope} {fM : Addr} {cdM : Value} {q : Str}
    (hq : qual ++ ".<locals>." ++ "<lambda>" = q) (hr : Room (k + 1) X.A) (tk : Takes X Wx) (hoc : ∀ vs a, G.oq kc vs a = CodeO a q) (hkk : ∀ vs a, G.oq kk vs a = CellO vs a)
    (he : DE X G Wx e fe) (hbd : ∀ j fb, bd j = some fb → LamG X.prog X.w X.K X.mg X.base N qual sc fM cdM G k q j fb)
    (hev : eval (.Call e [] [] pos) X.env = (do callWith pos (← eval e X.env) [] (backTo pos (starEach [] X.env)) (backToKw pos (keywordEach [] X.env))) := by rfl) :
    DE X G Wx (.Call e [] [] pos) (eCloC bd kc kk fe) := by
  refine ⟨⟨fun pins s σ H Q I h => ?_⟩⟩
  subst hq
  obtain ⟨W0, sl, C0, rs0, st0, q0⟩ := h
  rw [hev]
  refine wpAny_bind (wpAny_mono (he.pe.run pins s σ H (fun v H1 => ∃ d C1 W1, RepV G W1 d v ∧ StR G W1 C1 H1 ∧ W0.le W1 ∧ Post G Wx σ (RepV G) W1 C1 H1 (actG bd kc kk d C1) Q) I ⟨W0, sl, C0, rs0, st0, q0.bind fun d C1 W1 v H1 _ t st rd q1 => ⟨d, C1, W1, rd, st, t.le, q1⟩⟩) (fun u s' hu => ?_) fun e' s' hx => hx)
  obtain ⟨v, H1, I1, rv, d, C1, W1, rd, st1, le1, q⟩ := hu
  unfold actG at q
  split at q
  · rename_i j k' l
    split at q
    · rename_i em
      subst em
      split at q
      · rename_i ds hds
        split at q
        · rename_i fb eb
          obtain ⟨params, body, scope, hoq, hL, hfN, hbind, hbody⟩ := (hbd j fb eb).ex
          obtain ⟨f, vs, rfl, h3, h4⟩ := rd.opq_
          obtain ⟨v1, vr, rfl, r1, r2⟩ := h4.cons_inv
          obtain ⟨c', vs', rfl, h5, _⟩ := r1.opq_
          obtain ⟨us, l1, l2, rus, hpl, hcell⟩ := capD_inv hds r2
          rw [hoq] at h3
          rw [hoc] at h5
          obtain rfl : u = Value.ref f := rv
          obtain ⟨L1, c1, pm, ctv, injC, e1, of1⟩ := (I1.hok f _ (st1.F _ _ h3)).1
          obtain ⟨e2, e3⟩ := List.cons.inj e1
          cases e2
          have L := lamS_by hL
          refine PySem.W.callWith_F0 ⟨_, _, _, _, of1⟩ ?_
          obtain ⟨⟨oc, ws, t, hoc', hdc, hvc⟩, _, _⟩ := I1.hok c' _ (st1.F _ _ h5)
          -- a context of the frame that made it
          obtain ⟨sM, hsM⟩ := shared_of s' L1
          subst hsM
          -- its variables' cells
          have lN : us.length = N.length := by
            rw [← l2, e3]; unfold adrs; rw [List.length_map]
          have cellAt : ∀ (i : Nat) (x : Str) (v : V), N[i]? = some x → us[i]? = some v → ∃ a, (cellsFrom (sM.heap.objs.size + 1) sc.names []).lookup x = some a ∧ W1.F a = some (CellO [v] a) := fun i x v h1 h2 => by
            obtain ⟨a, ha, hF⟩ := hcell i v h2
            rw [hkk] at hF
            rw [e3] at ha
            unfold adrs at ha
            rw [List.getElem?_map, h1] at ha
            simp only [Option.map_some, Option.some.injEq] at ha
            split at ha
            · rename_i c hc
              cases ha
              exact ⟨_, hc, hF⟩
            · cases ha
          obtain ⟨S, hS0⟩ : ∃ S : Addr → Prop, S = fun a => ∃ v, W1.F a = some (CellO [v] a) := ⟨_, rfl⟩
          have hS : ∀ a, S a → ∃ φ, W1.F a = some (.ext φ) := fun a z => by
            rw [hS0] at z
            obtain ⟨v, z⟩ := z
            exact ⟨_, z⟩
          have hSH : ∀ a, S a → ∃ φ, H1 a = some (.ext φ) := fun a z => by
            obtain ⟨φ, z⟩ := hS a z
            exact ⟨φ, st1.F a _ z⟩
          have cellIn : ∀ (v : V) (a : Addr), W1.F a = some (CellO [v] a) → ∃ u, RelV v u ∧ s'.heap.IsCell a (some u) := fun v a hF => by
            obtain ⟨v', u, z, r, c⟩ := (I1.hok a _ (st1.F a _ hF)).1
            cases z
            exact ⟨u, r, c⟩
          have hC : ∀ c q, W1.F c = some (CodeO c q) → ¬ S c := fun c q hF z => by
            rw [hS0] at z
            obtain ⟨v, z⟩ := z
            obtain ⟨u, _, ob, ho, hd⟩ := cellIn v c z
            obtain ⟨oc, ws, t, k1, k2, _⟩ := (I1.hok c _ (st1.F c _ hF)).1
            rw [ho] at k1
            cases k1
            rw [hd] at k2
            cases k2
          have st2 := st1.sub hS hC
          have e0 : Env0 X.prog X.w X.K X.mg X.base X.A X.stack s' (hsub H1 S) := by
            have e := I1.env0
            exact ⟨e.frames, e.mod, fun b o h => ⟨(e.bs b o h).1, by unfold hsub; split; rfl; exact (e.bs b o h).2⟩, e.bsz, e.funs, fun b h => by unfold hsub; split; rfl; exact e.frf b h, hok_sub hSH e.hok, e.bare⟩
          have sv : ∀ (i : Nat) (v : V), (L2.start N us)[i]? = some (some v) → us[i]? = some v := fun i v h2 => by
            have hi : i < us.length := by
              unfold L2.start at h2
              by_cases hi : i < us.length
              · exact hi
              · rw [List.getElem?_append_right (by simpa using hi), List.getElem?_replicate] at h2
                split at h2 <;> cases h2
            unfold L2.start at h2
            rw [List.getElem?_append_left (by simpa using hi), List.getElem?_map] at h2
            cases e : us[i]? with
            | none => rw [e] at h2; cases h2
            | some a => rw [e] at h2; cases h2; rfl
          have hcl : ∀ a, S a → ∃ ob u, s'.heap.get? a = some ob ∧ ob.data = .cell (some u) := fun a z => by
            rw [hS0] at z
            obtain ⟨v, z⟩ := z
            obtain ⟨u, _, ob, ho, hd⟩ := cellIn v a z
            exact ⟨ob, u, ho, hd⟩
          have sH : ∀ a, S a → hsub H1 S a = none := fun a z => if_pos z
          have nfr : ∀ a, S a → a ∉ frs X.stack := fun a z hm => by
            obtain ⟨φ, q⟩ := hSH a z
            rw [I1.env0.frf a hm] at q
            cases q
          have st3 : RepS (G.at_ (W1.sub S)) (W1.sub S) (ds.map some) (L2.start N us) := by
            have r := RepS.start (N := N) (repVs_at.2 (RepVs.subW hS 30 hpl rus) : RepVs (G.at_ (W1.sub S)) (W1.sub S) ds us)
            rw [l1, lN, Nat.sub_self, List.replicate_zero, List.append_nil] at r
            exact r
          have rc : codeAny (model X.prog X.w) X.A (.call (.ref f) ⟨[], []⟩) (CR (L2.CX X.prog X.w) X.stack X.prog X.w (hsub H1 S) s'
              (fun v H' => ∃ d' C' W', fb (ds.map some) (subC C1) = .ok d' C' ∧ Step (W1.sub S) (subC C1) (hsub H1 S) W' C' H' ∧ StR (G.at_ (W1.sub S)) W' C' H' ∧ RepV G W' d' v)
              (fun cls dd H' => ∃ c C' W', fb (ds.map some) (subC C1) = .err c C' ∧ cls = .ref (G.cls c) ∧ dd = none ∧ Step (W1.sub S) (subC C1) (hsub H1 S) W' C' H' ∧ StR (G.at_ (W1.sub S)) W' C' H')) s' := by
            refine PySem.W.kla_callFunE hr.depth of1 rfl L.co L.gen rfl ⟨c', oc, ws, t, rfl, hoc', hdc, hvc⟩ ?_
            rw [hbind]
            refine wpAny_pure (wpAny_newFunctionEnv (fun y hy => (L.own y hy).2) (fun y hy => absurd hy (by simp)) (fun h₁ hns hsb => ⟨I1.nolimit.fresh _ hsb, ?_⟩) L.kind)
            obtain ⟨EE, hEE⟩ : ∃ EE : XK, EE = fun cls dd H' => ∃ c C' W', fb (ds.map some) (subC C1) = .err c C' ∧ cls = .ref (G.cls c) ∧ dd = none ∧ Step (W1.sub S) (subC C1) (hsub H1 S) W' C' H' ∧ StR (G.at_ (W1.sub S)) W' C' H' := ⟨_, rfl⟩
            rw [← hEE]
            show codeAny _ _ (.expr body (lamEnv (cxOf (L2.CX X.prog X.w) X.prog X.w X.K X.mg X.base N qual sc fM cdM X.A X.stack sM H1 EE) scope s'.heap.objs.size f c')) _ _
            have kp : ∀ b o, s'.heap.get? b = some o → h₁.get? b = some o := fun b o e => hsb.extBut b o (Nat.ne_of_lt (Heap.lt_size e)) (Heap.get?_push_of_some _ e)
            have J : Inv (lamCx (cxOf (L2.CX X.prog X.w) X.prog X.w X.K X.mg X.base N qual sc fM cdM X.A X.stack sM H1 EE) X.A X.stack s' (hsub H1 S) EE scope f c') [] (L2.start N us) (hsub H1 S) { s' with heap := h₁, toks := s'.toks + ([] : List (Str × Value)).length } := by
              refine lam_start3 (XM := cxOf (L2.CX X.prog X.w) X.prog X.w X.K X.mg X.base N qual sc fM cdM X.A X.stack sM H1 EE) L e0 hr.hd injC (fun i x v h1 h2 => ?_) (fun y hy hf => ?_) ?_ hns kp
              · obtain ⟨a, k1, k2⟩ := cellAt i x v h1 (sv i v h2)
                obtain ⟨u, r, c⟩ := cellIn v a k2
                exact ⟨a, u, k1, r, c⟩
              · obtain ⟨i, hi, ei⟩ := List.mem_iff_getElem.1 (hfN y hy hf)
                have hu : i < us.length := by rw [lN]; exact hi
                obtain ⟨a, k1, k2⟩ := cellAt i y.1 us[i] (by rw [← ei]; exact List.getElem?_eq_getElem hi) (List.getElem?_eq_getElem hu)
                obtain ⟨u, r, c⟩ := cellIn _ a k2
                exact ⟨a, k1, ⟨_, c⟩, sH a (by rw [hS0]; exact ⟨_, k2⟩)⟩
              · unfold L2.start
                show _ = N.length
                rw [List.length_append, List.length_map, List.length_replicate]
                omega
            have hr2 : Room k (X.A.deeper (lamEnv (cxOf (L2.CX X.prog X.w) X.prog X.w X.K X.mg X.base N qual sc fM cdM X.A X.stack sM H1 EE) scope s'.heap.objs.size f c')) := hr.deeper _
            have po : Post (G.at_ (W1.sub S)) (fun c d _ H => EE c d H) (L2.start N us) (RepV (G.at_ (W1.sub S))) (W1.sub S) (subC C1) (hsub H1 S) (fb (ds.map some) (subC C1))
                (fun v H' => ∃ d' C' W', fb (ds.map some) (subC C1) = .ok d' C' ∧ Step (W1.sub S) (subC C1) (hsub H1 S) W' C' H' ∧ StR (G.at_ (W1.sub S)) W' C' H' ∧ RepV G W' d' v) := by
              cases ef : fb (ds.map some) (subC C1) with
              | ok d' C' => exact fun W' b H' t st r => ⟨d', C', W', rfl, t, st, repV_at.1 r⟩
              | err c C' => exact fun W' H' t st => by rw [hEE]; exact ⟨c, C', W', ef, rfl, rfl, t, st⟩
              | no => rw [ef] at q; exact q.elim
            refine PySem.W.kla_codeExpr (wpAny_mono ((hbody (W1.sub S) X.A X.stack sM H1 EE X.A X.stack s' (hsub H1 S) EE f c' hr2 hr2.units (takes_of rfl rfl rfl rfl)).pe.run [] _ _ (hsub H1 S) _ J ⟨W1.sub S, ds.map some, subC C1, st3, st2, po⟩) (fun v s2 hq => ?_) fun e s2 hq => hq)
            obtain ⟨w', H', J', rv, q⟩ := hq
            exact ⟨w', H', J'.os, J'.bare, J'.base, J'.hok, rv, q⟩
          refine wpAny_call (codeAny_mono rc fun r s2 hq => ?_)
          cases r with
          | error ex =>
            obtain ⟨a, B, H', cls, dd, ea, fl, hok, ub, na, os, ag, c, C', W', ef, ec, ed, stp, st'⟩ := hq
            have hn : ∀ a, S a → H' a = none := fun a z => by
              obtain ⟨ob, u, ho, _⟩ := hcl a z
              exact ub.free a ob ho (sH a z)
            have keep : ∀ a o, S a → s'.heap.get? a = some o → B.get? a = some o := fun a o z h => ub.keep a o h (sH a z) (nfr a z)
            obtain ⟨g1, g2, g3⟩ := fr_join st1 hS stp st' hn
            rw [ef] at q
            refine passAt tk σ pins H1 s' ex s2 I1 ⟨a, B, hback H1 H' S, cls, dd, ea, fl, hok_back hSH I1.hok hok hn keep, ub_back hSH ub, ?_, os, ag, ?_⟩
            · have ns : ¬ S a := fun z => by
                obtain ⟨ob, u, ho, _⟩ := hcl a z
                have := keep a ob z ho
                rw [fl.2.1] at this
                cases this
              exact (if_neg ns).trans na
            · rw [ec, ed]
              exact q _ _ g2 g1
          | ok fl =>
            cases fl with
            | ret u =>
              obtain ⟨v, H', os, bare, un, hok, rv, d', C', W', ef, stp, st', rd'⟩ := hq
              have hn : ∀ a, S a → H' a = none := fun a z => by
                obtain ⟨ob, u, ho, _⟩ := hcl a z
                exact un.free a ob ho (sH a z) (by simp)
              have keep : ∀ a o, S a → s'.heap.get? a = some o → s2.heap.get? a = some o := fun a o z h => un.keep a o h (sH a z) (nfr a z) (by simp)
              obtain ⟨g1, g2, g3⟩ := fr_join st1 hS stp st' hn
              rw [ef] at q
              exact I1.after ⟨v, hback H1 H' S, os, bare, un_back hSH un, hok_back hSH I1.hok hok hn keep, rv, q _ v _ g2 g1 (rd'.up g3)⟩
            | next => exact False.elim hq
            | brk => exact False.elim hq
            | cont => exact False.elim hq
        · exact q.elim
      · exact q.elim
    · exact q.elim
  · exact q.elim
end
section
variable {X : Cx} {pins : List (Addr × Obj)} {σ : L2.St} {H : Hp} {s : Shared}
/-- a function object that is made now is known from now on -/
theorem inv_clo {q : Str} {params : Arguments} {body : Expr} {sc scope : Scope} {L c' : Addr} {pm ctv : Value} {cl : List (Str × Addr)} {tk : Nat} {N : List Str} (hcl : cl = cellsFrom (L + 1) sc.names []) (inj : ∀ y z c, (cellsFrom (L + 1) sc.names []).lookup y = some c → (cellsFrom (L + 1) sc.names []).lookup z = some c → y = z) (I : Inv X pins σ H s) :
    Inv X pins σ (upd H s.heap.objs.size (CloO q params body sc scope N (V.ref c' :: adrs N (cellsFrom (L + 1) sc.names [])) s.heap.objs.size)) { s with heap := s.heap.push (PySem.W.kla_obj "<lambda>" q params body scope (cloFrom cl scope.names []) pm c' ctv), toks := tk } := by
  subst hcl
  have g : (s.heap.push (PySem.W.kla_obj "<lambda>" q params body scope (cloFrom (cellsFrom (L + 1) sc.names []) scope.names []) pm c' ctv)).get? s.heap.objs.size = some (PySem.W.kla_obj "<lambda>" q params body scope (cloFrom (cellsFrom (L + 1) sc.names []) scope.names []) pm c' ctv) := Heap.get?_push_size _ rfl
  exact I.laid (fun b u e => Heap.get?_push_of_some _ e) (Nat.le_refl _) ⟨⟨L, c', pm, ctv, inj, rfl, g⟩, ⟨_, g⟩, fun h1 h2 ⟨L1, c1, p1, t1, z0, z1, z2⟩ st => ⟨L1, c1, p1, t1, z0, z1, st _ z2⟩⟩
theorem lam_make4 {N : List Str} {T : List (Addr × Str)} {c P L : Addr} {params : Arguments} {body : Expr} {sc scope : Scope} {pos : Pos} {E : Value → Shared → Prop} {Q : Value → Shared → Prop} (I : Inv X pins σ H s) (TB : TabB X.base X.mg c P) (hcode : X.env.code = .ref c)
    (hm : (P, X.env.qual ++ "<lambda>") ∈ T) (hu : ∀ p ∈ T, p.1 = P → p.2 = X.env.qual ++ "<lambda>") (hT : Tabs T H) (hdef : defaultsOf params X.env = ([], [])) (hfree : ∀ y ∈ scope.names, y.2 = .free → ∃ c, X.env.cells.lookup y.1 = some c)
    (hcl : X.env.cells = cellsFrom (L + 1) sc.names []) (inj : ∀ y z c, (cellsFrom (L + 1) sc.names []).lookup y = some c → (cellsFrom (L + 1) sc.names []).lookup z = some c → y = z)
    (h : ∀ (f c' : Addr) (H1 : Hp) (s' : Shared), Inv X pins σ H1 s' → ExtN H H1 → Tabs T H1 → H1 f = some (CloO (X.env.qual ++ "<lambda>") params body sc scope N (V.ref c' :: adrs N (cellsFrom (L + 1) sc.names [])) f) → H1 c' = some (CodeO c' (X.env.qual ++ "<lambda>")) → Q (.ref f) s') :
    wpAny (model X.prog X.w) X.A (eval (.Lambda params body scope pos) X.env) Q E s := by
  obtain ⟨ps, hP, ht, ha⟩ := hT _ hm
  refine PySem.W.kla_eval hdef ?_
  have bP : s.heap.BuiltinsAt X.mg P := TB.bm.keeps I.bk
  have hP' : s.heap.get? P = some { cls := .none, data := .fields ps } := I.hok P _ hP
  have one : ∀ {H1 : Hp} {s1 : Shared} {c' : Addr} {pm ctv : Value} {tk : Nat}, Inv X pins σ H1 s1 → ExtN H H1 → Tabs T H1 → H1 c' = some (CodeO c' (X.env.qual ++ "<lambda>")) →
      Q (.ref s1.heap.objs.size) { s1 with heap := s1.heap.push (PySem.W.kla_obj "<lambda>" (X.env.qual ++ "<lambda>") params body scope (cloFrom X.env.cells scope.names []) pm c' ctv), toks := tk } := fun {H1 s1 c' pm ctv tk} I1 eN T1 hc => by
    have nF := I1.hok.fresh (Nat.le_refl _)
    refine h s1.heap.objs.size c' _ _ (inv_clo (L := L) hcl inj I1) (fun b o e n => (upd_ne (ne_of_none (eN b o e n) nF)).trans (eN b o e n)) (T1.ext fun b o e => (upd_ne (ne_of_none e nF)).trans e) upd_same ((upd_ne (ne_of_none hc nF)).trans hc)
  cases hc : codeAmong pos ps.toList with
  | none =>
    refine PySem.W.kla_makeFunction (mg := X.mg) (c := c) (P := P) (ps := ps) (closure_ok hfree) I.ok.glob (I.mod.glob.keeps I.bk) hcode (TB.code.keeps I.bk) hP' ht hc TB.gP bP fun c' ctv h' tk hx hge hlt hrec htb => ?_
    obtain ⟨c2, oc, vs, t, e2, hoc, hd, hv⟩ := hrec
    cases e2
    have nC : H c' = none := I.hok.fresh hge
    have I1 := inv_table (t' := tk) (more := #[rawInt pos.line, rawInt pos.col, .ref c']) (h' := h') I hP (fun b o hb e => hx b o hb e) htb hge ⟨oc, vs, t, hoc, hd, hv⟩
    have hE : ExtN H (upd (upd H P (.tbl (ps ++ #[rawInt pos.line, rawInt pos.col, .ref c']))) c' (CodeO c' (X.env.qual ++ "<lambda>"))) := fun b o e n => by
      rw [upd_ne (ne_of_none e nC), upd_ne (fun z => n ps (Option.some.inj (e.symm.trans (by rw [z]; exact hP))))]
      exact e
    have eL : (ps ++ #[rawInt pos.line, rawInt pos.col, .ref c']).toList = ps.toList ++ [rawInt pos.line, rawInt pos.col, .ref c'] := by simp
    refine one I1 hE (fun p hp => ?_) upd_same
    by_cases hb : p.1 = P
    · rw [hu p hp hb, hb]
      refine ⟨_, by rw [upd_ne (ne_of_none hP nC), upd_same], by rw [eL]; exact PySem.TriplesOk_snoc _ _ _ _ ht, fun p' cv hcv => ?_⟩
      rw [eL] at hcv
      rcases among_app _ ht hcv with z | z
      · obtain ⟨c0, e1, e2⟩ := ha p' cv z
        exact ⟨c0, e1, hE _ _ e2 codeO_ne⟩
      · exact ⟨c', z, upd_same⟩
    · obtain ⟨ps', a1, a2, a3⟩ := hT p hp
      refine ⟨ps', by rw [upd_ne (ne_of_none a1 nC), upd_ne hb]; exact a1, a2, fun p' cv hcv => ?_⟩
      obtain ⟨c0, e1, e2⟩ := a3 p' cv hcv
      exact ⟨c0, e1, hE _ _ e2 codeO_ne⟩
  | some cv =>
    obtain ⟨c', e, hco⟩ := ha pos cv hc
    subst e
    refine PySem.W.kla_makeFunctionHit (mg := X.mg) (c := c) (P := P) (ps := ps) (closure_ok hfree) I.ok.glob (I.mod.glob.keeps I.bk) hcode (TB.code.keeps I.bk) hP' ht hc bP fun ctv h' tk hx hsz => ?_
    have I1 : Inv X pins σ H { s with heap := h', toks := tk } := I.kept hx
    exact one I1 (ExtN.refl H) hT hco
end
/-- a def that tells a closure -/
def cloF (j kc kk np : Nat) : Fn := fun ds C => if ds.length = np then .ok (.opq j (.opq kc [] :: ds.map fun d => .opq kk [d])) (C.bump 1) else .no
theorem arity_clo {j kc kk np : Nat} : Arity (cloF j kc kk np) np := fun ds C h => by
  unfold cloF at h
  split at h
  · assumption
  · exact absurd rfl h
section
variable {G : Glo} {W : Wd} {C : Cells} {H : Hp} {add : Addr → Option HO}
/-- things known by a sentence become known -/
theorem fr_adds (st : StR G W C H) (ha : ∀ a o, add a = some o → H a = none ∧ ∃ φ, o = .ext φ) :
    ∃ W2 : Wd, StR G W2 C (fun a => match add a with | some o => some o | none => H a) ∧ Step W C H W2 C (fun a => match add a with | some o => some o | none => H a) ∧ ∀ a o, add a = some o → W2.F a = some o := by
  obtain ⟨H2, hH2⟩ : ∃ H2 : Hp, H2 = fun a => match add a with | some o => some o | none => H a := ⟨_, rfl⟩
  rw [← hH2]
  have kH : ∀ a o, H a = some o → H2 a = some o := fun a o h => by
    rw [hH2]
    show (match add a with | some o => some o | none => H a) = _
    cases e : add a with
    | none => exact h
    | some u =>
      have := (ha a u e).1
      rw [h] at this; cases this
  have nA : ∀ a o, H a = some o → add a = none := fun a o h => by
    cases e : add a with
    | none => rfl
    | some u =>
      have := (ha a u e).1
      rw [h] at this; cases this
  have le : W.le ⟨fun a => match add a with | some o => some o | none => W.F a, W.cm⟩ := ⟨fun a o h => by
    show (match add a with | some o => some o | none => W.F a) = _
    rw [nA a o (st.F a o h)]
    exact h, fun _ _ h => h⟩
  refine ⟨⟨fun a => match add a with | some o => some o | none => W.F a, W.cm⟩, ⟨st.lnk.trans le, ⟨fun a ps z => ?_, fun p hp => ?_⟩, fun a o h => ?_, fun n o h => ?_, st.inj, st.nx⟩, ⟨le, Nat.le_refl _, fun a o h po no => ⟨kH a o h, fun z => no ?_⟩⟩, fun a o e => ?_⟩
  · have z : (match add a with | some o => some o | none => W.F a) = some (.tbl ps) := z
    cases e : add a with
    | none => rw [e] at z; exact st.tb.1 a ps z
    | some u =>
      rw [e] at z
      obtain ⟨_, φ, hu⟩ := ha a u e
      rw [hu] at z; cases z
  · obtain ⟨ps, h1, h2, h3⟩ := st.tb.2 p hp
    refine ⟨ps, kH _ _ h1, h2, fun pos cv e => ?_⟩
    obtain ⟨c, e1, e2⟩ := h3 pos cv e
    exact ⟨c, e1, le.F _ _ e2⟩
  · have h : (match add a with | some o => some o | none => W.F a) = some o := h
    rw [hH2]
    show (match add a with | some o => some o | none => H a) = _
    cases e : add a with
    | none => rw [e] at h; exact st.F a o h
    | some u => rw [e] at h; exact h
  · obtain ⟨a, ho, h1, h2, h3, h4⟩ := st.cells n o h
    refine ⟨a, ho, h1, ?_, kH a ho h3, h4.up le⟩
    show (match add a with | some o => some o | none => W.F a) = none
    rw [nA a ho h3]
    exact h2
  · rcases z with ⟨u, z⟩ | ⟨m, u, z, y⟩
    · have z : (match add a with | some o => some o | none => W.F a) = some u := z
      rw [nA a o h] at z
      exact .inl ⟨u, z⟩
    · exact .inr ⟨m, u, z, y⟩
  · show (match add a with | some o => some o | none => W.F a) = _
    rw [e]
end
theorem rep_adrs {G : Glo} {W : Wd} {kk : Nat} {cs : List (Str × Addr)} : ∀ (N : List Str) {ds : List D} {vs : List V}, RepVs G W ds vs → N.length = vs.length → (∀ (i : Nat) (x : Str) (v : V), N[i]? = some x → vs[i]? = some v → ∃ a, cs.lookup x = some a ∧ W.F a = some (G.oq kk [v] a)) →
    RepVs G W (ds.map fun d => .opq kk [d]) (adrs N cs)
  | [], ds, vs, r, hl, _ => by
    cases vs with
    | nil =>
      cases ds with
      | nil => exact .nil
      | cons d ds => obtain ⟨_, _, e, _⟩ := r.cons_inv; cases e
    | cons v vs => cases hl
  | x :: N, ds, vs, r, hl, h => by
    cases ds with
    | nil =>
      rw [r.nil_inv] at hl; cases hl
    | cons d ds =>
      obtain ⟨v, vr, rfl, r1, r2⟩ := r.cons_inv
      obtain ⟨a, k1, k2⟩ := h 0 x v rfl rfl
      have ih := rep_adrs N r2 (by simpa using hl) fun i y w h1 h2 => h (i + 1) y w (by simpa using h1) (by simpa using h2)
      have : adrs (x :: N) cs = .ref a :: adrs N cs := by
        unfold adrs
        rw [List.map_cons, k1]
      rw [this, List.map_cons]
      exact .cons (.opq (vs := [v]) k2 (.cons r1 .nil)) ih
section
variable {G : Glo} {P : Program} {w : World} {mg : Str → Option Value} {base : Heap}
open Classical
/-- a def whose one statement returns a lambda -/
theorem fun_okG {x qual : Str} {sm : Stmt} {c f PP : Addr} {fd : FuncData} {N : List Str} {k j kc kk np : Nat} {params : Arguments} {body : Expr} {scope : Scope} {pos pos' : Pos} {q : Str}
    (F : FunC G.K x qual sm c f fd) (S : FnScope N N (defScope sm)) (hn : N.length = np) (hcel : ∀ x ∈ N, (defScope sm).names.lookup x = some .cell) (hbd : defBody sm = [.Return (some (.Lambda params body scope pos)) pos'])
    (TB : TabB base mg c PP) (hq : qual ++ ".<locals>." ++ "<lambda>" = q) (hmT : (PP, q) ∈ G.tb) (hu : ∀ p ∈ G.tb, p.1 = PP → p.2 = q) (hdef : ∀ env, defaultsOf params env = ([], [])) (hL : lamSB (defScope sm) scope = true)
    (hoq : ∀ vs a, G.oq j vs a = CloO q params body (defScope sm) scope N vs a) (hoc : ∀ vs a, G.oq kc vs a = CodeO a q) (hkk : ∀ vs a, G.oq kk vs a = CellO vs a) :
    FnOk P w G.K mg base (L2.CX P w) (k + 1) f fd N (spD G np (cloF j kc kk np)) := by
  subst hq
  obtain ⟨oc, od, kV, doc, pm, an, ct, osl, rfl, lk, hcd⟩ := F.ex
  refine ⟨fun vs H Q E h => h.1.trans hn.symm, fun A outer s H args us vs Q E hr e0 hb r hsp => ?_⟩
  have hl : vs.length = N.length := hsp.1.trans hn.symm
  obtain ⟨_, W, ds, C, rv, sR, q⟩ := hsp
  have KX : G.K.In s.heap := e0.mod.kin.keeps fun b o e => (e0.bs b o e).1
  have lim : s.heap.NoLimit := e0.mod.nolimit.keeps fun b o e => (e0.bs b o e).1
  have hkind : ∀ y ∈ N.zip us, (defScope sm).names.lookup y.1 = some .local ∨ ((defScope sm).names.lookup y.1 = some .cell ∧ ((cellsFrom (s.heap.objs.size + 1) (defScope sm).names []).lookup y.1).isSome = true) := fun ⟨n, v⟩ hy => by
    have q := hcel n (List.of_mem_zip hy).1
    exact .inr ⟨q, PySem.W.cellsFrom_some _ _ _ (.inl q)⟩
  refine codeAny_call_function hr.depth (KX _ _ lk) rfl S.co S.gen rfl (PySem.W.codeRec_of KX hcd) (hb _ _ _ _ ?_)
  refine wpAny_newFunctionEnv_cells S.kind hkind fun env he s1 x => ?_
  subst he
  refine ⟨lim.keeps x.toInCall.keep, codeAny_func ?_⟩
  have hr2 : Room k (A.deeper (envOfC qual (defScope sm) s.heap.objs.size f (.ref c))) := hr.deeper _
  have I : Inv (cxOf (L2.CX P w) P w G.K mg base N qual (defScope sm) f (.ref c) A outer s H E) [] (L2.start N vs) H s1 := inv_start S hr.hd e0 hl r x
  rw [hbd]
  have L := lamS_by hL
  have inj := I.ok.inj
  refine wpAny_execs_cons (wpAny_Return_some (lam_make4 (X := cxOf (L2.CX P w) P w G.K mg base N qual (defScope sm) f (.ref c) A outer s H E) (N := N) (T := G.tb) (sc := defScope sm) (L := s.heap.objs.size) I TB rfl hmT hu (tabs_of sR) (hdef _) (LamS.has (X := cxOf (L2.CX P w) P w G.K mg base N qual (defScope sm) f (.ref c) A outer s H E) L I.ok) rfl inj fun f' c' H1 s' I1 eN T1 hf hco => ?_))
  show CE outer P w H s Q (.ref f') s'
  obtain ⟨W1, st1, t1, _, kn1⟩ := fr_lam (f := f') sR eN T1
  obtain ⟨W2, st2, t2, k2⟩ := fr_ext st1 hf
  obtain ⟨cs, hcs⟩ : ∃ cs, cs = cellsFrom (s.heap.objs.size + 1) (defScope sm).names [] := ⟨_, rfl⟩
  obtain ⟨Pv, hPv⟩ : ∃ Pv : Addr → V → Prop, Pv = fun a v => ∃ (i : Nat) (x : Str), N[i]? = some x ∧ vs[i]? = some v ∧ cs.lookup x = some a := ⟨_, rfl⟩
  have uniq : ∀ a v v', Pv a v → Pv a v' → v = v' := fun a v v' h1 h2 => by
    rw [hPv] at h1 h2
    obtain ⟨i, x, a1, a2, a3⟩ := h1
    obtain ⟨i', x', b1, b2, b3⟩ := h2
    rw [hcs] at a3 b3
    obtain rfl := inj x x' a a3 b3
    have hi : i < N.length := (List.getElem?_eq_some_iff.1 a1).1
    have := (List.getElem?_inj hi S.nd).1 (a1.trans b1.symm)
    subst this
    rw [a2] at b2
    cases b2
    rfl
  have isC : ∀ a v, Pv a v → (∃ u, RelV v u ∧ s'.heap.IsCell a (some u)) ∧ H1 a = none ∧ s.heap.objs.size < a := fun a v h => by
    rw [hPv] at h
    obtain ⟨i, x', a1, a2, a3⟩ := h
    rw [hcs] at a3
    have hx := hcel x' (List.mem_of_getElem? a1)
    have hi : i < vs.length := (List.getElem?_eq_some_iff.1 a2).1
    have sg : (L2.start N vs)[i]? = some (some v) := by
      unfold L2.start
      rw [List.getElem?_append_left (by simpa using hi), List.getElem?_map, a2]; rfl
    obtain ⟨m, hm, hloc⟩ := I1.loc
    obtain ⟨u, ru, lu⟩ := hloc i x' v a1 sg (.inr (.inl hx))
    refine ⟨⟨u, ru, ?_⟩, I1.freeC x' a a3, x.above x' a (PySem.mem_of_lookup a3)⟩
    rcases lu with ⟨z, _⟩ | ⟨_, c2, z1, z2⟩
    · have z : (defScope sm).names.lookup x' = some .local := z
      rw [hx] at z; cases z
    · have z1 : (cellsFrom (s.heap.objs.size + 1) (defScope sm).names []).lookup x' = some c2 := z1
      rw [a3] at z1
      cases z1
      exact z2
  obtain ⟨add, hadd⟩ : ∃ add : Addr → Option HO, add = fun a => if h : ∃ v, Pv a v then some (CellO [choose h] a) else none := ⟨_, rfl⟩
  have addP : ∀ a v, Pv a v → add a = some (CellO [v] a) := fun a v h => by
    rw [hadd]
    have hex : ∃ v, Pv a v := ⟨v, h⟩
    show (if h : ∃ v, Pv a v then some (CellO [choose h] a) else none) = _
    rw [dif_pos hex, uniq a _ v (choose_spec hex) h]
  have addI : ∀ a o, add a = some o → ∃ v, Pv a v ∧ o = CellO [v] a := fun a o h => by
    rw [hadd] at h
    have h : (if h : ∃ v, Pv a v then some (CellO [choose h] a) else none) = some o := h
    split at h
    · rename_i hex
      cases h
      exact ⟨_, choose_spec hex, rfl⟩
    · cases h
  have ha : ∀ a o, add a = some o → H1 a = none ∧ ∃ φ, o = .ext φ := fun a o h => by
    obtain ⟨v, hv, rfl⟩ := addI a o h
    exact ⟨(isC a v hv).2.1, _, rfl⟩
  obtain ⟨W3, st3, t3, kn3⟩ := fr_adds st2 ha
  obtain ⟨H3, hH3⟩ : ∃ H3 : Hp, H3 = fun a => match add a with | some o => some o | none => H1 a := ⟨_, rfl⟩
  rw [← hH3] at st3 t3
  have nA : ∀ a o, H1 a = some o → add a = none := fun a o h => by
    cases e : add a with
    | none => rfl
    | some u =>
      have := (ha a u e).1
      rw [h] at this; cases this
  have kH : ∀ a o, H1 a = some o → H3 a = some o := fun a o h => by
    rw [hH3]
    show (match add a with | some o => some o | none => H1 a) = _
    rw [nA a o h]; exact h
  have nH : ∀ a, H1 a = none → add a = none → H3 a = none := fun a h1 h2 => by
    rw [hH3]
    show (match add a with | some o => some o | none => H1 a) = _
    rw [h2]; exact h1
  have un : Un (frs outer) [] H H1 s.heap s'.heap := I1.base
  have rel : RepV G W3 (.opq j (.opq kc [] :: ds.map fun d => .opq kk [d])) (.ref f') := by
    refine .opq (vs := V.ref c' :: adrs N (cellsFrom (s.heap.objs.size + 1) (defScope sm).names [])) ?_ (.cons (.opq (vs := []) ?_ .nil) (rep_adrs N (rv.up (t1.le.trans (t2.le.trans t3.le))) hl.symm fun i x' v h1 h2 => ?_))
    · rw [hoq]; exact t3.le.F _ _ k2
    · rw [hoc]; exact (t2.le.trans t3.le).F _ _ (kn1 _ hmT c' hco)
    · have hx := hcel x' (List.mem_of_getElem? h1)
      obtain ⟨a, ea⟩ : ∃ a, (cellsFrom (s.heap.objs.size + 1) (defScope sm).names []).lookup x' = some a := cell_has hx
      exact ⟨a, ea, by rw [hkk]; exact kn3 a _ (addP a v (by rw [hPv, hcs]; exact ⟨i, x', h1, h2, ea⟩))⟩
  have qq : Q (.ref f') H3 := by
    have q' : Post G (fun c d _ H => E c d H) [] (RepV G) W C H (.ok (.opq j (.opq kc [] :: ds.map fun d => .opq kk [d])) (C.bump 1)) Q := by
      unfold cloF at q
      rw [if_pos (rv.length.trans (hl.trans hn))] at q
      exact q
    exact q' W3 (.ref f') H3 (t1.trans (t2.trans t3)) st3 rel
  refine ⟨.ref f', H3, I1.os, I1.bare, ⟨un.keep, un.slot, fun b o e n z => nH b (un.free b o e n z) ?_, un.there, fun b xs e => kH b _ (un.tups b xs e), fun b o u e => kH b _ (un.frzs b o u e), fun b ps e => ?_⟩, fun a o e => ?_, rfl, qq⟩
  · cases ea : add b with
    | none => rfl
    | some u =>
      obtain ⟨v, hv, _⟩ := addI b u ea
      have h1 := (isC b v hv).2.2
      have h2 : b < s.heap.objs.size := Heap.lt_size e
      exact absurd h1 (Nat.lt_asymm h2)
  · obtain ⟨more, z⟩ := un.tbls b ps e
    exact ⟨more, kH b _ z⟩
  · rw [hH3] at e
    have e : (match add a with | some o => some o | none => H1 a) = some o := e
    cases ea : add a with
    | none =>
      rw [ea] at e
      exact (I1.hok a o e).stay (fun _ _ _ z => z) (fun b z => kH b _ z) fun b xs z => kH b _ z
    | some u =>
      rw [ea] at e
      obtain rfl := Option.some.inj e
      obtain ⟨v, hv, rfl⟩ := addI a _ ea
      obtain ⟨⟨u, ru, ob, ho, hd⟩, _⟩ := isC a v hv
      exact ⟨⟨v, u, rfl, ru, ob, ho, hd⟩, ⟨ob, ho⟩, fun h1 h2 ⟨v, u, z, r, ob, ho, hd⟩ k => ⟨v, u, z, r, ob, k _ ho, hd⟩⟩
end
/-- the closure's object by its text -/
def CloAt (q : Str) (sc : Scope) (N : List Str) : Expr → List V → Addr → HO
  | .Lambda params body scope _ => CloO q params body sc scope N
  | _ => fun _ _ => .own 0
end DL

set_option Elab.async false
set_option linter.all false
set_option maxRecDepth 100000
set_option autoImplicit false
namespace DL
open PySem PySem.Spec PyProof.Rows L2
/-! ### the words' worth, applied -/
section
variable {α β : Type} {a b : EF} {af : AF} {s : Sl} {C C' : Cells} {g g' : D → D → Cells → Res D} {t u : TF} {f h : SF}
@[simp] theorem bind_ok (x : α) (k : α → Cells → Res β) : (Res.ok x C).bind k = k x C := rfl
@[simp] theorem bind_err (c : Nat) (k : α → Cells → Res β) : (Res.err c C).bind k = .err c C := rfl
@[simp] theorem toS_ok (d : D) (k : D → Cells → SRes) : (Res.ok d C).toS s k = k d C := rfl
@[simp] theorem toS_err (c : Nat) (k : D → Cells → SRes) : (Res.err c C).toS s k = .err c s C := rfl
@[simp] theorem toSB_ok (d : Bool) (k : Bool → Cells → SRes) : (Res.ok d C).toSB s k = k d C := rfl
@[simp] theorem toSB_err (c : Nat) (k : Bool → Cells → SRes) : (Res.err c C).toSB s k = .err c s C := rfl
@[simp 2000] theorem sl_at0 {α : Type} {a0 : α} {r : List α} : (a0 :: r)[0]? = some a0 := rfl
@[simp 2000] theorem sl_at1 {α : Type} {a0 a1 : α} {r : List α} : (a0 :: a1 :: r)[1]? = some a1 := rfl
@[simp 2000] theorem sl_at2 {α : Type} {a0 a1 a2 : α} {r : List α} : (a0 :: a1 :: a2 :: r)[2]? = some a2 := rfl
@[simp 2000] theorem sl_at3 {α : Type} {a0 a1 a2 a3 : α} {r : List α} : (a0 :: a1 :: a2 :: a3 :: r)[3]? = some a3 := rfl
@[simp 2000] theorem sl_at4 {α : Type} {a0 a1 a2 a3 a4 : α} {r : List α} : (a0 :: a1 :: a2 :: a3 :: a4 :: r)[4]? = some a4 := rfl
@[simp 2000] theorem sl_at5 {α : Type} {a0 a1 a2 a3 a4 a5 : α} {r : List α} : (a0 :: a1 :: a2 :: a3 :: a4 :: a5 :: r)[5]? = some a5 := rfl
@[simp 2000] theorem sl_at6 {α : Type} {a0 a1 a2 a3 a4 a5 a6 : α} {r : List α} : (a0 :: a1 :: a2 :: a3 :: a4 :: a5 :: a6 :: r)[6]? = some a6 := rfl
@[simp 2000] theorem sl_at7 {α : Type} {a0 a1 a2 a3 a4 a5 a6 a7 : α} {r : List α} : (a0 :: a1 :: a2 :: a3 :: a4 :: a5 :: a6 :: a7 :: r)[7]? = some a7 := rfl
@[simp 2000] theorem sl_at8 {α : Type} {a0 a1 a2 a3 a4 a5 a6 a7 a8 : α} {r : List α} : (a0 :: a1 :: a2 :: a3 :: a4 :: a5 :: a6 :: a7 :: a8 :: r)[8]? = some a8 := rfl
@[simp 2000] theorem sl_at9 {α : Type} {a0 a1 a2 a3 a4 a5 a6 a7 a8 a9 : α} {r : List α} : (a0 :: a1 :: a2 :: a3 :: a4 :: a5 :: a6 :: a7 :: a8 :: a9 :: r)[9]? = some a9 := rfl
@[simp 2000] theorem sl_at10 {α : Type} {a0 a1 a2 a3 a4 a5 a6 a7 a8 a9 a10 : α} {r : List α} : (a0 :: a1 :: a2 :: a3 :: a4 :: a5 :: a6 :: a7 :: a8 :: a9 :: a10 :: r)[10]? = some a10 := rfl
@[simp 2000] theorem sl_at11 {α : Type} {a0 a1 a2 a3 a4 a5 a6 a7 a8 a9 a10 a11 : α} {r : List α} : (a0 :: a1 :: a2 :: a3 :: a4 :: a5 :: a6 :: a7 :: a8 :: a9 :: a10 :: a11 :: r)[11]? = some a11 := rfl
@[simp 2000] theorem sl_at12 {α : Type} {a0 a1 a2 a3 a4 a5 a6 a7 a8 a9 a10 a11 a12 : α} {r : List α} : (a0 :: a1 :: a2 :: a3 :: a4 :: a5 :: a6 :: a7 :: a8 :: a9 :: a10 :: a11 :: a12 :: r)[12]? = some a12 := rfl
@[simp 2000] theorem sl_at13 {α : Type} {a0 a1 a2 a3 a4 a5 a6 a7 a8 a9 a10 a11 a12 a13 : α} {r : List α} : (a0 :: a1 :: a2 :: a3 :: a4 :: a5 :: a6 :: a7 :: a8 :: a9 :: a10 :: a11 :: a12 :: a13 :: r)[13]? = some a13 := rfl
@[simp 2000] theorem sl_at14 {α : Type} {a0 a1 a2 a3 a4 a5 a6 a7 a8 a9 a10 a11 a12 a13 a14 : α} {r : List α} : (a0 :: a1 :: a2 :: a3 :: a4 :: a5 :: a6 :: a7 :: a8 :: a9 :: a10 :: a11 :: a12 :: a13 :: a14 :: r)[14]? = some a14 := rfl
@[simp 2000] theorem sl_at15 {α : Type} {a0 a1 a2 a3 a4 a5 a6 a7 a8 a9 a10 a11 a12 a13 a14 a15 : α} {r : List α} : (a0 :: a1 :: a2 :: a3 :: a4 :: a5 :: a6 :: a7 :: a8 :: a9 :: a10 :: a11 :: a12 :: a13 :: a14 :: a15 :: r)[15]? = some a15 := rfl
@[simp 2000] theorem sl_at16 {α : Type} {a0 a1 a2 a3 a4 a5 a6 a7 a8 a9 a10 a11 a12 a13 a14 a15 a16 : α} {r : List α} : (a0 :: a1 :: a2 :: a3 :: a4 :: a5 :: a6 :: a7 :: a8 :: a9 :: a10 :: a11 :: a12 :: a13 :: a14 :: a15 :: a16 :: r)[16]? = some a16 := rfl
@[simp 2000] theorem sl_at17 {α : Type} {a0 a1 a2 a3 a4 a5 a6 a7 a8 a9 a10 a11 a12 a13 a14 a15 a16 a17 : α} {r : List α} : (a0 :: a1 :: a2 :: a3 :: a4 :: a5 :: a6 :: a7 :: a8 :: a9 :: a10 :: a11 :: a12 :: a13 :: a14 :: a15 :: a16 :: a17 :: r)[17]? = some a17 := rfl
@[simp 2000] theorem sl_at18 {α : Type} {a0 a1 a2 a3 a4 a5 a6 a7 a8 a9 a10 a11 a12 a13 a14 a15 a16 a17 a18 : α} {r : List α} : (a0 :: a1 :: a2 :: a3 :: a4 :: a5 :: a6 :: a7 :: a8 :: a9 :: a10 :: a11 :: a12 :: a13 :: a14 :: a15 :: a16 :: a17 :: a18 :: r)[18]? = some a18 := rfl
@[simp 2000] theorem sl_at19 {α : Type} {a0 a1 a2 a3 a4 a5 a6 a7 a8 a9 a10 a11 a12 a13 a14 a15 a16 a17 a18 a19 : α} {r : List α} : (a0 :: a1 :: a2 :: a3 :: a4 :: a5 :: a6 :: a7 :: a8 :: a9 :: a10 :: a11 :: a12 :: a13 :: a14 :: a15 :: a16 :: a17 :: a18 :: a19 :: r)[19]? = some a19 := rfl
@[simp 2000] theorem sl_at20 {α : Type} {a0 a1 a2 a3 a4 a5 a6 a7 a8 a9 a10 a11 a12 a13 a14 a15 a16 a17 a18 a19 a20 : α} {r : List α} : (a0 :: a1 :: a2 :: a3 :: a4 :: a5 :: a6 :: a7 :: a8 :: a9 :: a10 :: a11 :: a12 :: a13 :: a14 :: a15 :: a16 :: a17 :: a18 :: a19 :: a20 :: r)[20]? = some a20 := rfl
@[simp 2000] theorem sl_at21 {α : Type} {a0 a1 a2 a3 a4 a5 a6 a7 a8 a9 a10 a11 a12 a13 a14 a15 a16 a17 a18 a19 a20 a21 : α} {r : List α} : (a0 :: a1 :: a2 :: a3 :: a4 :: a5 :: a6 :: a7 :: a8 :: a9 :: a10 :: a11 :: a12 :: a13 :: a14 :: a15 :: a16 :: a17 :: a18 :: a19 :: a20 :: a21 :: r)[21]? = some a21 := rfl
@[simp 2000] theorem sl_at22 {α : Type} {a0 a1 a2 a3 a4 a5 a6 a7 a8 a9 a10 a11 a12 a13 a14 a15 a16 a17 a18 a19 a20 a21 a22 : α} {r : List α} : (a0 :: a1 :: a2 :: a3 :: a4 :: a5 :: a6 :: a7 :: a8 :: a9 :: a10 :: a11 :: a12 :: a13 :: a14 :: a15 :: a16 :: a17 :: a18 :: a19 :: a20 :: a21 :: a22 :: r)[22]? = some a22 := rfl
@[simp 2000] theorem sl_at23 {α : Type} {a0 a1 a2 a3 a4 a5 a6 a7 a8 a9 a10 a11 a12 a13 a14 a15 a16 a17 a18 a19 a20 a21 a22 a23 : α} {r : List α} : (a0 :: a1 :: a2 :: a3 :: a4 :: a5 :: a6 :: a7 :: a8 :: a9 :: a10 :: a11 :: a12 :: a13 :: a14 :: a15 :: a16 :: a17 :: a18 :: a19 :: a20 :: a21 :: a22 :: a23 :: r)[23]? = some a23 := rfl
@[simp] theorem eC_ap (d : D) : eC d s C = .ok d C := rfl
@[simp] theorem eVar_ap (i : Nat) : eVar i s C = match s[i]? with | some (some d) => .ok d C | _ => .no := rfl
@[simp] theorem e2_ap : e2 g a b s C = (a s C).bind fun x C => (b s C).bind fun y C => g x y C := rfl
@[simp] theorem asB_ap : asB a s C = (a s C).bind fun d C => match d with | .bl b => .ok b C | _ => .no := rfl
@[simp] theorem tAnd_ap : tAndF t u s C = (t s C).bind fun b C => if b = true then u s C else .ok false C := rfl
@[simp] theorem tOr_ap : tOrF t u s C = (t s C).bind fun b C => if b = true then .ok true C else u s C := rfl
@[simp] theorem tNot_ap : tNotF t s C = (t s C).bind fun b C => .ok (!b) C := rfl
@[simp] theorem eAnd_ap : eAndF a b s C = (a s C).bind fun d C => match d with | .bl true => b s C | .bl false => .ok (.bl false) C | _ => .no := rfl
@[simp] theorem eOr_ap : eOrF a b s C = (a s C).bind fun d C => match d with | .bl true => .ok (.bl true) C | .bl false => b s C | _ => .no := rfl
@[simp] theorem eNot_ap : eNotF a s C = (a s C).bind fun d C => match d with | .bl b => .ok (.bl (!b)) C | _ => .no := rfl
@[simp] theorem eIf_ap : eIf t a b s C = (t s C).bind fun k C => if k = true then a s C else b s C := rfl
@[simp] theorem eNeg_ap : eNeg a s C = (a s C).bind fun d C => match d with | .int i => .ok (.int (-i)) C | _ => .no := rfl
@[simp] theorem e3_ap {c : EF} : e3 g g' a b c s C = (a s C).bind fun x C => (b s C).bind fun y C => (g x y C).bind fun z C => match z with | .bl true => (c s C).bind fun w C => g' y w C | .bl false => .ok (.bl false) C | _ => .no := rfl
@[simp] theorem aNil_ap : aNil s C = .ok [] C := rfl
@[simp] theorem aCons_ap : aCons a af s C = (a s C).bind fun x C => (af s C).bind fun xs C => .ok (x :: xs) C := rfl
@[simp] theorem eTup_ap : eTup af s C = (af s C).bind fun xs C => if xs.length ≤ mxl then .ok (.tup xs) C else .no := rfl
@[simp] theorem eLst_ap : eLst af s C = (af s C).bind fun xs C => if xs.length ≤ mxl then .ok (.lst xs) C else .no := rfl
@[simp] theorem eLstC_ap : eLstC af s C = (af s C).bind fun xs C => if xs.length ≤ mxl then .ok (.cel C.nx) (C.new (.lst xs)) else .no := rfl
@[simp] theorem newL_ap (xs : List D) : newL xs C = .ok (.cel C.nx) (C.new (.lst xs)) := rfl
@[simp] theorem oNone_ap : oNone s C = .ok none C := rfl
@[simp] theorem oSome_ap : oSome a s C = (a s C).bind fun d C => match d with | .int i => .ok (some i) C | _ => .no := rfl
@[simp] theorem eSlG_ap {q : D → Option Int → Option Int → Cells → Res D} {lo hi : OF} : eSlG q a lo hi s C = (a s C).bind fun x C => (lo s C).bind fun l C => (hi s C).bind fun h C => q x l h C := rfl
@[simp] theorem eA_ap {q : List D → Cells → Res D} : eA q af s C = (af s C).bind fun xs C => q xs C := rfl
@[simp] theorem eCall_ap {F : Fn} {dd : List D} : eCall F dd af s C = (af s C).bind fun xs C => F (xs ++ dd) C := rfl
@[simp] theorem eMake_ap {mk : List D → Cells → Res D} {dd : List D} : eMake mk dd af s C = (af s C).bind fun xs C => mk (xs ++ dd) C := rfl
@[simp high] theorem eCall0_ap {F : Fn} : eCall F [] af s C = (af s C).bind F := by
  show ((af s C).bind fun xs C => F (xs ++ []) C) = _
  simp only [List.append_nil]
@[simp high] theorem eMake0_ap {mk : List D → Cells → Res D} : eMake mk [] af s C = (af s C).bind mk := by
  show ((af s C).bind fun xs C => mk (xs ++ []) C) = _
  simp only [List.append_nil]
@[simp] theorem eMeth_ap {M : MTab} : eMeth M a af s C = (a s C).bind fun x C => match objOf C x with | some (c, _) => (match M c with | some (_, F) => (af s C).bind fun xs C => F (x :: xs) C | none => .no) | none => .no := rfl
@[simp] theorem eFld_ap {T : Tab} {k : Nat} : eFld T k a s C = (a s C).bind fun x C => fld T k x C := rfl
@[simp] theorem eBm_ap {ty : Cells → D → Bool} {q : D → List D → Cells → Res D} : eBm ty q a af s C = (a s C).bind fun x C => if ty C x = true then (af s C).bind fun xs C => q x xs C else .no := rfl
@[simp] theorem eIsi_ap {T : Tab} {tb : ITab} {k : Nat} : eIsi T tb k a s C = (a s C).bind fun x C => match knd C x with | some v => if v < 10 + T.ncl then (match isT tb k v with | some b => .ok (.bl b) C | none => .no) else .no | none => .no := rfl
@[simp] theorem frz_ap : frz a s C = (a s C).bind fun d C => match d with | .cel n => (match C.get n with | some (.lst l) => .ok (.lst l) (C.del n) | _ => .ok d C) | d => .ok d C := rfl
@[simp] theorem eNewK_ap : eNewK s C = .ok (.cel C.nx) (C.new (.dk [])) := rfl
@[simp] theorem eNewT_ap : eNewT s C = .ok (.cel C.nx) (C.new (.dt [])) := rfl
@[simp] theorem sNil_ap : sNil s C = .nxt s C := rfl
@[simp] theorem sSeq_ap : sSeq f h s C = match f s C with | .nxt s C => h s C | r => r := rfl
@[simp] theorem sPass_ap : sPass s C = .nxt s C := rfl
@[simp] theorem sBrk_ap : sBrk s C = .brk s C := rfl
@[simp] theorem sCnt_ap : sCnt s C = .cnt s C := rfl
@[simp] theorem sRet_ap : sRet a s C = (a s C).toS s fun d C => .ret d C := rfl
@[simp] theorem sRetN_ap : sRetN s C = .ret .non C := rfl
@[simp] theorem sDrop_ap : sDrop a s C = (a s C).toS s fun _ C => .nxt s C := rfl
@[simp] theorem sSet_ap (i : Nat) : sSet i a s C = (a s C).toS s fun d C => .nxt (s.set i (some d)) C := rfl
@[simp] theorem sIf_ap : sIf t f h s C = (t s C).toSB s fun b C => if b = true then f s C else h s C := rfl
@[simp] theorem sAsg_ap {q : GF} : sAsg a q s C = (a s C).toS s fun d C => match q d s C with | some s => .nxt s C | none => .no := rfl
@[simp] theorem sFldF_ap {T : Tab} {k : Nat} : sFldF T k a b s C = (b s C).toS s fun d C => (a s C).toS s fun x C => match setFld T k x d C with | some C => .nxt s C | none => .no := rfl
@[simp] theorem sIxF_ap {c : EF} : sIxF a b c s C = (c s C).toS s fun d C => (a s C).toS s fun x C => (b s C).toS s fun i C => match setIx x i d C with | some C => .nxt s C | none => .no := rfl
@[simp] theorem sDPutF_ap {c : EF} : sDPutF a b c s C = (c s C).toS s fun d C => (a s C).toS s fun x C => (b s C).toS s fun y C => match dPutK C x y d with | some C => .nxt s C | none => .no := rfl
@[simp] theorem sFor_ap {it : IF} {tg : GF} : sFor it tg f s C = match it s C with | .ok ds C => forF tg f ds s C | .err c C => .err c s C | .no => .no := rfl
@[simp] theorem sWhile_ap : sWhile t f s C = whileF t f wFuel s C := rfl
@[simp] theorem gfName_ap (i : Nat) (d : D) : gfName i d s C = some (s.set i (some d)) := rfl
@[simp] theorem gfNil_ap : gfNil [] s C = some s := rfl
@[simp] theorem gfCons_ap {p : GF} {q : GFs} (d : D) (r : List D) : gfCons p q (d :: r) s C = (p d s C).bind fun s => q r s C := rfl
@[simp] theorem gfTup_ap {q : GFs} (n : Nat) (l : List D) : gfTup n q (.tup l) s C = if l.length = n then q l s C else none := rfl
@[simp] theorem iLst_ap : iLst a s C = (a s C).bind fun d C => match d with | .lst l => .ok l C | .scr l => .ok l C | _ => .no := rfl
@[simp] theorem iTpl_ap : iTpl a s C = (a s C).bind fun d C => match d with | .tup l => .ok l C | .ktp l => .ok l C | _ => .no := rfl
@[simp] theorem iR1_ap : iR1 af s C = (af s C).bind fun xs C => match xs with | [.int j] => if -(2 ^ 62) ≤ j ∧ j < 2 ^ 62 then .ok (rngD 0 j.toNat) C else .no | _ => .no := rfl
@[simp] theorem iR2_ap : iR2 af s C = (af s C).bind fun xs C => match xs with | [.int i, .int j] => if -(2 ^ 62) ≤ i ∧ i < 2 ^ 62 ∧ -(2 ^ 62) ≤ j ∧ j < 2 ^ 62 then .ok (rngD i (j - i).toNat) C else .no | _ => .no := rfl
@[simp] theorem tYes_ap : tYesF s C = .ok true C := rfl
@[simp] theorem eLc_ap {it : IF} {tg : GF} {vs : List Nat} : eLc it tg t a vs s C = (lcG it tg t a vs s C).bind fun ys C => .ok (.lst ys) C := rfl
@[simp] theorem eLcC_ap {it : IF} {tg : GF} {vs : List Nat} : eLcC it tg t a vs s C = (lcG it tg t a vs s C).bind newL := rfl
@[simp] theorem lcG_ap {it : IF} {tg : GF} {vs : List Nat} : lcG it tg t a vs s C = (it s C).bind fun ds C => match lcF tg t a vs ds s C with | .ok ys C => if ds.length ≤ mxl then .ok ys C else .no | _ => .no := rfl
@[simp] theorem callF_ap {n np : Nat} {ds : List D} : callF n np f ds C = if ds.length = np then (match f (ds.map some ++ List.replicate (n - ds.length) none) C with | .nxt _ C => .ok .non C | .ret d C => .ok d C | .err c _ C => .err c C | _ => .no) else .no := rfl
@[simp] theorem mxl_le : ∀ {k : Nat}, (k ≤ mxl) = (k ≤ 16777216) := fun {_} => rfl
@[simp] theorem mxl_lt : ∀ {k : Nat}, (k < mxl) = (k < 16777216) := fun {_} => rfl
end
/-! ### operators on data -/
section
variable {C : Cells} {i j : Int} {l m : List D}
@[simp] theorem dAdd_i : dAdd (.int i) (.int j) C = .ok (.int (i + j)) C := rfl
@[simp] theorem dSub_i : dSub (.int i) (.int j) C = .ok (.int (i - j)) C := rfl
@[simp] theorem dLt_i : dLt (.int i) (.int j) C = .ok (.bl (decide (i < j))) C := rfl
@[simp] theorem dLe_i : dLe (.int i) (.int j) C = .ok (.bl (decide (i ≤ j))) C := rfl
@[simp] theorem dGt_i : dGt (.int i) (.int j) C = .ok (.bl (decide (j < i))) C := rfl
@[simp] theorem dGe_i : dGe (.int i) (.int j) C = .ok (.bl (decide (j ≤ i))) C := rfl
@[simp] theorem dIsN_ap (x : D) : dIsN x .non C = .ok (.bl (isN x)) C := rfl
@[simp] theorem dNotN_ap (x : D) : dNotN x .non C = .ok (.bl (!isN x)) C := rfl
@[simp] theorem isN_non : isN .non = true := rfl
@[simp] theorem isN_int : isN (.int i) = false := rfl
theorem dMul_i (h : CMul i j) : dMul (.int i) (.int j) C = .ok (.int (i * j)) C := if_pos h
theorem dDiv_i (h : 0 < j ∧ j < 1073741824) : dDiv (.int i) (.int j) C = .ok (.int (i / j)) C := if_pos h
theorem dMod_i (h : 0 < j) : dMod (.int i) (.int j) C = .ok (.int (i % j)) C := if_pos h
@[simp] theorem min2_ap : bMin2 [.int i, .int j] C = .ok (.int (if j < i then j else i)) C := rfl
@[simp] theorem max2_ap : bMax2 [.int i, .int j] C = .ok (.int (if j > i then j else i)) C := rfl
@[simp] theorem lstOf_lst : lstOf C (.lst l) = some l := rfl
@[simp] theorem lstOf_scr : lstOf C (.scr l) = some l := rfl
@[simp] theorem lstOf_cel (n : Nat) : lstOf C (.cel n) = match C.get n with | some (.lst l) => some l | _ => none := rfl
@[simp] theorem lstOf_int : lstOf C (.int i) = none := rfl
@[simp] theorem lstOf_bl (b : Bool) : lstOf C (.bl b) = none := rfl
@[simp] theorem lstOf_non : lstOf C .non = none := rfl
@[simp] theorem lstOf_str (x : Str) : lstOf C (.str x) = none := rfl
@[simp] theorem lstOf_tup : lstOf C (.tup l) = none := rfl
@[simp] theorem lstOf_ktp : lstOf C (.ktp l) = none := rfl
@[simp] theorem lstOf_obj (c : Nat) : lstOf C (.obj c l) = none := rfl
@[simp] theorem trkOf_lst : trkOf C (.lst l) = some l := rfl
@[simp] theorem trkOf_cel (n : Nat) : trkOf C (.cel n) = match C.get n with | some (.lst l) => some l | _ => none := rfl
@[simp] theorem seqOf_lst : seqOf C (.lst l) = some l := rfl
@[simp] theorem seqOf_scr : seqOf C (.scr l) = some l := rfl
@[simp] theorem seqOf_tup : seqOf C (.tup l) = some l := rfl
@[simp] theorem seqOf_ktp : seqOf C (.ktp l) = some l := rfl
@[simp] theorem seqOf_cel (n : Nat) : seqOf C (.cel n) = match C.get n with | some (.lst l) => some l | _ => none := rfl
@[simp] theorem vw_lst : vw C (.lst l) = .lst l := rfl
@[simp] theorem vw_tup : vw C (.tup l) = .tup l := rfl
@[simp] theorem vw_int : vw C (.int i) = .int i := rfl
@[simp] theorem vw_non : vw C .non = .non := rfl
@[simp] theorem vw_bl (b : Bool) : vw C (.bl b) = .bl b := rfl
@[simp] theorem vw_str (x : Str) : vw C (.str x) = .str x := rfl
theorem vw_cel {n : Nat} (h : C.get n = some (.lst l)) : vw C (.cel n) = .lst l := by simp [vw, h]
@[simp] theorem eqD_int : eqD (.int i) (.int j) = (i == j) := rfl
@[simp] theorem knd_lst : knd C (.lst l) = some 4 := rfl
@[simp] theorem knd_cel (n : Nat) : knd C (.cel n) = (C.get n).map kndO := rfl
@[simp] theorem kndO_lst : kndO (.lst l) = 4 := rfl
@[simp] theorem tyL_lst : tyL C (.lst l) = true := rfl
theorem tyL_cel {n : Nat} (h : C.get n = some (.lst l)) : tyL C (.cel n) = true := by simp [tyL, h]
theorem append_cel {n : Nat} (h : C.get n = some (.lst l)) (d : D) (hl : l.length < 16777216) : mAppend (.cel n) [d] C = .ok .non (C.set n (.lst (l ++ [d]))) := by
  simp only [mAppend, atL, h]; exact if_pos hl
mutual
theorem eqD_refl : ∀ (n : Nat) (d : D), plain n d = true → eqD d d = true
  | 0, _, h => by simp [plain] at h
  | n + 1, .non, _ => by unfold eqD; rfl
  | n + 1, .bl b, _ => by unfold eqD; exact beq_self_eq_true b
  | n + 1, .int b, _ => by unfold eqD; exact beq_self_eq_true b
  | n + 1, .str b, _ => by unfold eqD; exact beq_self_eq_true b
  | n + 1, .lst l, h => by unfold eqD; exact eqDs_refl n l (by simpa [plain] using h)
  | n + 1, .tup l, h => by unfold eqD; exact eqDs_refl n l (by simpa [plain] using h)
  | n + 1, .obj _ _, h => by simp [plain] at h
  | n + 1, .cel _, h => by simp [plain] at h
  | n + 1, .opq _ _, h => by simp [plain] at h
  | n + 1, .scr _, h => by simp [plain] at h
  | n + 1, .ktp _, h => by simp [plain] at h
theorem eqDs_refl (n : Nat) : ∀ (l : List D), (∀ x ∈ l, plain n x = true) → eqDs l l = true
  | [], _ => by unfold eqDs; rfl
  | d :: r, h => by
    unfold eqDs
    rw [eqD_refl n d (h d (by simp)), eqDs_refl n r fun x q => h x (by simp [q])]; rfl
end
/-- the same data: not different -/
theorem dNe_same {x y : D} (h : vw C x = vw C y) (p : plain 30 (vw C x) = true) : dNe x y C = .ok (.bl false) C := by
  unfold dNe; rw [← h, p, eqD_refl 30 _ p]; rfl
theorem dEq_same {x y : D} (h : vw C x = vw C y) (p : plain 30 (vw C x) = true) : dEq x y C = .ok (.bl true) C := by
  unfold dEq; rw [← h, p, eqD_refl 30 _ p]; rfl
@[simp] theorem dEq_i : dEq (.int i) (.int j) C = .ok (.bl (i == j)) C := rfl
@[simp] theorem dNe_i : dNe (.int i) (.int j) C = .ok (.bl (!(i == j))) C := rfl
@[simp] theorem asInts_ints (ns : List Int) : asInts (ns.map D.int) = some ns := by
  induction ns with
  | nil => rfl
  | cons a r ih => simp [asInts, ih]
end
/-! ### the cells: what a run keeps -/
structure Ext (S : List Nat) (C C' : Cells) : Prop where
  nx : C.nx ≤ C'.nx
  get : ∀ n, n < C.nx → n ∉ S → C'.get n = C.get n
section
variable {S S' : List Nat} {C C' C'' : Cells} {n : Nat} {o : O}
theorem Ext.refl : Ext S C C := ⟨Nat.le_refl _, fun _ _ _ => rfl⟩
theorem Ext.trans (h : Ext S C C') (k : Ext S C' C'') : Ext S C C'' := ⟨Nat.le_trans h.nx k.nx, fun n a b => (k.get n (Nat.lt_of_lt_of_le a h.nx) b).trans (h.get n a b)⟩
theorem Ext.mono (h : Ext S C C') (k : ∀ n ∈ S, n ∈ S' ∨ C.nx ≤ n) : Ext S' C C' := ⟨h.nx, fun n a b => h.get n a fun q => (k n q).elim b fun z => absurd a (Nat.not_lt.mpr z)⟩
theorem Ext.new (h : Ext S C C') : Ext S C (C'.new o) := ⟨Nat.le_trans h.nx (Nat.le_succ _), fun n a b => by
  rw [get_new_ne (by have := h.nx; omega)]; exact h.get n a b⟩
theorem Ext.set (h : Ext S C C') (k : n ∈ S ∨ C.nx ≤ n) : Ext S C (C'.set n o) := ⟨h.nx, fun m a b => by
  by_cases q : m = n
  · subst q; exact k.elim (absurd · b) fun z => absurd a (Nat.not_lt.mpr z)
  · rw [get_set_ne q]; exact h.get m a b⟩
theorem Ext.del (h : Ext S C C') (k : n ∈ S ∨ C.nx ≤ n) : Ext S C (C'.del n) := ⟨h.nx, fun m a b => by
  by_cases q : m = n
  · subst q; exact k.elim (absurd · b) fun z => absurd a (Nat.not_lt.mpr z)
  · exact (if_neg q).trans (h.get m a b)⟩
theorem Ext.bump (h : Ext S C C') (k : Nat) : Ext S C (C'.bump k) := ⟨Nat.le_trans h.nx (Nat.le_add_right _ _), h.get⟩
theorem Ext.keep (h : Ext S C C') (e : C.get n = some o) (k : n ∉ S := by simp) : C'.get n = some o := (h.get n (by
  by_cases q : n < C.nx
  · exact q
  · rw [C.wf n (by omega)] at e; cases e) k).trans e
theorem lt_of_get (e : C.get n = some o) : n < C.nx := by
  by_cases q : n < C.nx
  · exact q
  · rw [C.wf n (by omega)] at e; cases e
end
/-! ### loops -/
section
variable {tg : GF} {b : SF} {t : TF} {f : EF} {vs : List Nat}
@[simp] theorem forF_nil {s : Sl} {C : Cells} : forF tg b [] s C = .nxt s C := rfl
@[simp] theorem forF_cons {d : D} {r : List D} {s : Sl} {C : Cells} : forF tg b (d :: r) s C = match tg d s C with | none => .no | some s => match b s C with | .nxt s C => forF tg b r s C | .cnt s C => forF tg b r s C | .brk s C => .nxt s C | x => x := rfl
/-- a loop that goes through: P holds of what is left, slots, cells -/
theorem forF_inv (P : List D → Sl → Cells → Prop) (hs : ∀ d r s C, P (d :: r) s C → ∃ s1, tg d s C = some s1 ∧ ∃ s' C', (b s1 C = .nxt s' C' ∨ b s1 C = .cnt s' C') ∧ P r s' C') :
    ∀ ds s C, P ds s C → ∃ s' C', forF tg b ds s C = .nxt s' C' ∧ P [] s' C'
  | [], s, C, h => ⟨s, C, rfl, h⟩
  | d :: r, s, C, h => by
    obtain ⟨s1, h1, s', C', h2, h3⟩ := hs d r s C h
    obtain ⟨s2, C2, h4, h5⟩ := forF_inv P hs r s' C' h3
    refine ⟨s2, C2, ?_, h5⟩
    rw [forF_cons, h1]
    rcases h2 with h2 | h2 <;> simp only [h2] <;> exact h4
theorem whileF_inv (P : Nat → Sl → Cells → Prop) (Z : Sl → Cells → Prop) (hs : ∀ n s C, P n s C → (∃ s' C', t s C = .ok false C' ∧ s' = s ∧ Z s' C') ∨ ∃ C1, t s C = .ok true C1 ∧ ∃ s' C', ((b s C1 = .brk s' C' ∧ Z s' C') ∨ ((b s C1 = .nxt s' C' ∨ b s C1 = .cnt s' C') ∧ ∃ m, m < n ∧ P m s' C'))) :
    ∀ k n s C, P n s C → n < k → ∃ s' C', whileF t b k s C = .nxt s' C' ∧ Z s' C'
  | 0, n, s, C, _, h => absurd h (Nat.not_lt_zero _)
  | k + 1, n, s, C, h, hk => by
    rcases hs n s C h with ⟨s', C', h1, rfl, h2⟩ | ⟨C1, h1, s', C', h2⟩
    · exact ⟨s', C', by unfold whileF; rw [h1]; rfl, h2⟩
    · rcases h2 with ⟨h2, h3⟩ | ⟨h2, m, hm, h3⟩
      · exact ⟨s', C', by unfold whileF; rw [h1]; simp [h2], h3⟩
      · obtain ⟨s2, C2, h4, h5⟩ := whileF_inv P Z hs k m s' C' h3 (by omega)
        refine ⟨s2, C2, ?_, h5⟩
        unfold whileF; rw [h1]
        rcases h2 with h2 | h2 <;> simp [h2, h4]
/-- a comprehension that changes no cell -/
theorem lcF_pure {s : Sl} {C : Cells} (p : D → Bool) (g : D → D) : ∀ (ds : List D), (∀ d ∈ ds, ∃ s', tg d (wipeD s vs) C = some s' ∧ t s' C = .ok (p d) C ∧ (p d = true → f s' C = .ok (g d) C)) →
    lcF tg t f vs ds s C = .ok ((ds.filter p).map g) C
  | [], _ => rfl
  | d :: r, h => by
    obtain ⟨s', h1, h2, h3⟩ := h d (by simp)
    have ih := lcF_pure p g r fun x q => h x (by simp [q])
    unfold lcF
    rw [h1]; simp only [h2]
    cases hp : p d with
    | true => simp only [h3 hp, ih, List.filter_cons, hp, if_true, List.map_cons]
    | false => simp only [ih, List.filter_cons, hp]; rfl
/-- a comprehension whose parts keep an invariant of the cells; its worth by the items -/
theorem lcF_inv {s : Sl} (I : Cells → Prop) (p : D → Bool) (g : D → D) : ∀ (ds : List D) (C : Cells), I C → (∀ d ∈ ds, ∀ C, I C → ∃ s', tg d (wipeD s vs) C = some s' ∧ ∃ C1, t s' C = .ok (p d) C1 ∧ I C1 ∧ (p d = true → ∃ C2, f s' C1 = .ok (g d) C2 ∧ I C2)) →
    ∃ C', lcF tg t f vs ds s C = .ok ((ds.filter p).map g) C' ∧ I C'
  | [], C, i, _ => ⟨C, rfl, i⟩
  | d :: r, C, i, h => by
    obtain ⟨s', h1, C1, h2, i1, h3⟩ := h d (by simp) C i
    cases hp : p d with
    | true =>
      obtain ⟨C2, h4, i2⟩ := h3 hp
      obtain ⟨C3, ih, i3⟩ := lcF_inv I p g r C2 i2 fun x q => h x (by simp [q])
      refine ⟨C3, ?_, i3⟩
      unfold lcF
      rw [h1]; simp only [h2, hp, h4, ih, List.filter_cons, if_true, List.map_cons]
    | false =>
      obtain ⟨C3, ih, i3⟩ := lcF_inv I p g r C1 i1 fun x q => h x (by simp [q])
      refine ⟨C3, ?_, i3⟩
      unfold lcF
      rw [h1]; simp only [h2, hp, ih, List.filter_cons]; rfl
end
/-- a comprehension whose items' worth is only bounded -/
theorem lcF_all {tg : GF} {f : EF} {vs : List Nat} {s : Sl} (I : Cells → Prop) (R : D → Prop) : ∀ (ds : List D) (C : Cells), I C → (∀ d ∈ ds, ∀ C, I C → ∃ s', tg d (wipeD s vs) C = some s' ∧ ∃ y C2, f s' C = .ok y C2 ∧ I C2 ∧ R y) →
    ∃ ys C', lcF tg tYesF f vs ds s C = .ok ys C' ∧ I C' ∧ ys.length = ds.length ∧ ∀ y ∈ ys, R y
  | [], C, i, _ => ⟨[], C, rfl, i, rfl, by simp⟩
  | d :: r, C, i, h => by
    obtain ⟨s', h1, y, C2, h4, i2, r1⟩ := h d (by simp) C i
    obtain ⟨ys, C3, ih, i3, l3, r3⟩ := lcF_all I R r C2 i2 fun x q => h x (by simp [q])
    refine ⟨y :: ys, C3, ?_, i3, by simp [l3], fun z m => ?_⟩
    · unfold lcF
      rw [h1]; simp only [tYes_ap, h4, ih]
    · rcases List.mem_cons.1 m with rfl | m
      · exact r1
      · exact r3 z m
theorem bAll_true {C : Cells} {l : List D} (h : ∀ x ∈ l, x = .bl true) : bAll [.lst l] C = .ok (.bl true) C := by
  have : asBls l = some (List.replicate l.length true) := by
    induction l with
    | nil => rfl
    | cons a r ih =>
      rw [h a (by simp)]
      unfold asBls
      rw [ih fun x m => h x (by simp [m])]; rfl
  simp [bAll, this]
theorem ints_of {l : List D} {P : Int → Prop} (h : ∀ y ∈ l, ∃ i, y = .int i ∧ P i) : ∃ ns : List Int, l = ns.map D.int ∧ ns.length = l.length ∧ ∀ i ∈ ns, P i := by
  induction l with
  | nil => exact ⟨[], rfl, rfl, by simp⟩
  | cons a r ih =>
    obtain ⟨ns, h1, h2, h3⟩ := ih fun y m => h y (by simp [m])
    obtain ⟨i, rfl, hi⟩ := h a (by simp)
    exact ⟨i :: ns, by simp [h1], by simp [h2], fun j m => by
      rcases List.mem_cons.1 m with rfl | m
      · exact hi
      · exact h3 j m⟩
theorem cutD_take (l : List D) (k : Nat) : cutD l none (some (k : Int)) = l.take k := by
  unfold cutD
  rw [HT.sIx_none, HT.sIx_nat, List.drop_zero, Nat.sub_zero]
  by_cases h : k ≤ l.length
  · rw [Nat.min_eq_left h]
  · rw [Nat.min_eq_right (by omega), List.take_length, List.take_of_length_le (by omega)]
theorem cutD_drop (l : List D) (k : Nat) : cutD l (some (k : Int)) none = l.drop k := by
  unfold cutD
  rw [HT.sIx_none, HT.sIx_nat]
  by_cases h : k ≤ l.length
  · rw [Nat.min_eq_left h, List.take_of_length_le (by simp)]
  · rw [Nat.min_eq_right (by omega), List.drop_length, List.drop_of_length_le (by omega)]; simp
/-! ### loops over cells -/
section
variable {tg : GF} {b : SF} {t : TF} {f : EF} {vs : List Nat} {kp : Cells → Prop}
@[simp] theorem iCel_ap {a : EF} {s : Sl} {C : Cells} : iCel a s C = (a s C).bind celK := rfl
theorem celK_cel {n : Nat} {l : List D} {C : Cells} (h : C.get n = some (.lst l)) : celK (.cel n) C = .ok (l, fun C' => C'.get n = some (.lst l)) C := by
  unfold celK; simp only [h]
@[simp] theorem celK_lst {l : List D} {C : Cells} : celK (.lst l) C = .ok (l, fun _ => True) C := rfl
@[simp] theorem celK_scr {l : List D} {C : Cells} : celK (.scr l) C = .ok (l, fun _ => True) C := rfl
@[simp] theorem sForK_ap {it : IK} {s : Sl} {C : Cells} : sForK it tg b s C = match it s C with | .ok p C => forK p.2 tg b p.1 s C | .err c C => .err c s C | .no => .no := rfl
@[simp] theorem eLcK_ap {a : EF} {s : Sl} {C : Cells} {it : IK} : eLcK it tg t a vs s C = (lcKG it tg t a vs s C).bind fun ys C => .ok (.lst ys) C := rfl
@[simp] theorem eLcKC_ap {a : EF} {s : Sl} {C : Cells} {it : IK} : eLcKC it tg t a vs s C = (lcKG it tg t a vs s C).bind newL := rfl
@[simp] theorem lcKG_ap {a : EF} {s : Sl} {C : Cells} {it : IK} : lcKG it tg t a vs s C = (it s C).bind fun p C => match lcK p.2 tg t a vs p.1 s C with | .ok ys C => if p.1.length ≤ mxl then .ok ys C else .no | _ => .no := rfl
theorem forK_eq : ∀ (ds : List D) (s : Sl) (C : Cells), (∀ C', kp C') → forK kp tg b ds s C = forF tg b ds s C
  | [], s, C, h => by unfold forK; rw [if_pos (h C)]; rfl
  | d :: r, s, C, h => by
    unfold forK; rw [if_pos (h C), forF_cons]
    cases tg d s C with
    | none => rfl
    | some s1 =>
      cases hb : b s1 C <;> simp only [hb, forK_eq r _ _ h]
theorem forK_inv (P : List D → Sl → Cells → Prop) (hk : ∀ ds s C, P ds s C → kp C) (hs : ∀ d r s C, P (d :: r) s C → ∃ s1, tg d s C = some s1 ∧ ∃ s' C', (b s1 C = .nxt s' C' ∨ b s1 C = .cnt s' C') ∧ P r s' C') :
    ∀ ds s C, P ds s C → ∃ s' C', forK kp tg b ds s C = .nxt s' C' ∧ P [] s' C'
  | [], s, C, h => ⟨s, C, by unfold forK; rw [if_pos (hk _ _ _ h)], h⟩
  | d :: r, s, C, h => by
    obtain ⟨s1, h1, s', C', h2, h3⟩ := hs d r s C h
    obtain ⟨s2, C2, h4, h5⟩ := forK_inv P hk hs r s' C' h3
    refine ⟨s2, C2, ?_, h5⟩
    unfold forK
    rw [if_pos (hk _ _ _ h), h1]
    rcases h2 with h2 | h2 <;> simp only [h2] <;> exact h4
theorem lcK_pure {s : Sl} {C : Cells} (p : D → Bool) (g : D → D) (hk : kp C) : ∀ (ds : List D), (∀ d ∈ ds, ∃ s', tg d (wipeD s vs) C = some s' ∧ t s' C = .ok (p d) C ∧ (p d = true → f s' C = .ok (g d) C)) →
    lcK kp tg t f vs ds s C = .ok ((ds.filter p).map g) C
  | [], _ => by unfold lcK; rw [if_pos hk]; rfl
  | d :: r, h => by
    obtain ⟨s', h1, h2, h3⟩ := h d (by simp)
    have ih := lcK_pure p g hk r fun x q => h x (by simp [q])
    unfold lcK
    rw [if_pos hk, h1]; simp only [h2]
    cases hp : p d with
    | true => simp only [h3 hp, ih, List.filter_cons, hp, if_true, List.map_cons]
    | false => simp only [ih, List.filter_cons, hp]; rfl
theorem lcK_inv {s : Sl} (I : Cells → Prop) (p : D → Bool) (g : D → D) (hk : ∀ C, I C → kp C) : ∀ (ds : List D) (C : Cells), I C → (∀ d ∈ ds, ∀ C, I C → ∃ s', tg d (wipeD s vs) C = some s' ∧ ∃ C1, t s' C = .ok (p d) C1 ∧ I C1 ∧ (p d = true → ∃ C2, f s' C1 = .ok (g d) C2 ∧ I C2)) →
    ∃ C', lcK kp tg t f vs ds s C = .ok ((ds.filter p).map g) C' ∧ I C'
  | [], C, i, _ => ⟨C, by unfold lcK; rw [if_pos (hk C i)]; rfl, i⟩
  | d :: r, C, i, h => by
    obtain ⟨s', h1, C1, h2, i1, h3⟩ := h d (by simp) C i
    cases hp : p d with
    | true =>
      obtain ⟨C2, h4, i2⟩ := h3 hp
      obtain ⟨C3, ih, i3⟩ := lcK_inv I p g hk r C2 i2 fun x q => h x (by simp [q])
      refine ⟨C3, ?_, i3⟩
      unfold lcK
      rw [if_pos (hk C i), h1]; simp only [h2, hp, h4, ih, List.filter_cons, if_true, List.map_cons]
    | false =>
      obtain ⟨C3, ih, i3⟩ := lcK_inv I p g hk r C1 i1 fun x q => h x (by simp [q])
      refine ⟨C3, ?_, i3⟩
      unfold lcK
      rw [if_pos (hk C i), h1]; simp only [h2, hp, ih, List.filter_cons]; rfl
end
/-! ### lists of ints -/
theorem max_ok (n : Int) (r : List Int) : PySem.W.maxOf n r ∈ n :: r ∧ ∀ x ∈ n :: r, x ≤ PySem.W.maxOf n r := by
  unfold PySem.W.maxOf
  induction r generalizing n with
  | nil => simp
  | cons y ys ih =>
    rw [List.foldl_cons]
    obtain ⟨h1, h2⟩ := ih (if PySem.W.DatumOrd.lt n y = true then y else n)
    have e : PySem.W.DatumOrd.lt n y = decide (n < y) := rfl
    rw [e] at h1 h2 ⊢
    by_cases q : n < y
    · simp only [decide_eq_true q, if_true] at h1 h2 ⊢
      refine ⟨by simp at h1 ⊢; right; exact h1, fun x m => ?_⟩
      have := h2 y (by simp)
      simp at m
      rcases m with rfl | rfl | m
      · omega
      · exact this
      · exact h2 x (by simp [m])
    · simp only [decide_eq_false q, Bool.false_eq_true, if_false] at h1 h2 ⊢
      refine ⟨by simp at h1 ⊢; rcases h1 with h1 | h1; exact .inl h1; exact .inr (.inr h1), fun x m => ?_⟩
      have := h2 n (by simp)
      simp at m
      rcases m with rfl | rfl | m
      · exact this
      · omega
      · exact h2 x (by simp [m])
theorem mem_sortI {l : List Int} {x : Int} : x ∈ sortI l ↔ x ∈ l := (List.mergeSort_perm l _).mem_iff
theorem sortI_len {l : List Int} : (sortI l).length = l.length := (List.mergeSort_perm l _).length_eq
theorem sortI_lt {l : List Int} (h : l.Nodup) : (sortI l).Pairwise (· < ·) := by
  have p : (sortI l).Pairwise (fun a b => decide (a ≤ b) = true) := List.pairwise_mergeSort (fun a b c => by simp; omega) (fun a b => by simp; omega) l
  have n : (sortI l).Nodup := (List.mergeSort_perm l _).nodup_iff.2 h
  refine (List.Pairwise.and p n).imp fun {a b} q => ?_
  have := q.1
  have := q.2
  simp at *
  omega
theorem sortI_same {l : List Int} (h : l.Pairwise (· < ·)) : sortI l = l := List.mergeSort_of_pairwise (h.imp fun {a b} q => by simp; omega)
theorem map_rngD {lo : Int} {n : Nat} : rngD lo n = ((List.range n).map fun (i : Nat) => lo + (i : Int)).map D.int := by
  unfold rngD; rw [List.map_map]; rfl
def rng (lo : Int) (n : Nat) : List Int := (List.range n).map fun (i : Nat) => lo + (i : Int)
theorem rngD_eq {lo : Int} {n : Nat} : rngD lo n = (rng lo n).map D.int := map_rngD
theorem mem_rng {lo x : Int} {n : Nat} : x ∈ rng lo n ↔ lo ≤ x ∧ x < lo + n := by
  unfold rng
  rw [List.mem_map]
  constructor
  · rintro ⟨i, m, rfl⟩
    have := List.mem_range.1 m
    omega
  · rintro ⟨a, b⟩
    exact ⟨(x - lo).toNat, List.mem_range.2 (by omega), by omega⟩
theorem rng_lt {lo : Int} {n : Nat} : (rng lo n).Pairwise (· < ·) := by
  unfold rng
  rw [List.pairwise_map]
  exact List.pairwise_lt_range.imp fun {a b} h => by omega
theorem rng_len {lo : Int} {n : Nat} : (rng lo n).length = n := by simp [rng]
theorem atI_get {α : Type} {l : List α} {i : Int} {x : α} (h0 : 0 ≤ i) (h : l[i.toNat]? = some x) : atI l i = some x := by
  have hl : i.toNat < l.length := by
    by_cases q : i.toNat < l.length
    · exact q
    · rw [List.getElem?_eq_none (by omega)] at h; cases h
  unfold atI ixN
  rw [if_pos h0, if_pos (by omega)]
  exact h
theorem ixN_last {n : Nat} (h : 0 < n) : ixN n (-1) = some (n - 1) := by
  unfold ixN
  rw [if_neg (by decide), if_pos (by omega)]
  congr 1; omega
theorem ixN_get {n : Nat} {i : Int} (h0 : 0 ≤ i) (h : i < n) : ixN n i = some i.toNat := by
  unfold ixN; rw [if_pos h0, if_pos h]
/-- dicts with int keys -/
def dkI (ks : List Int) (v : D) : List (Key × D) := ks.map fun k => (.inl k, v)
theorem look_dkI {ks : List Int} {v : D} {x : Int} : lookD (dkI ks v) (.inl x) = if x ∈ ks then some v else none := by
  unfold lookD dkI
  induction ks with
  | nil => simp
  | cons a r ih =>
    rw [List.map_cons, List.find?_cons]
    by_cases q : a = x
    · subst q; simp
    · have : decide ((Sum.inl a : Key) = .inl x) = false := by simp [q]
      rw [this]
      have q' : ¬ x = a := fun z => q z.symm
      simp [q'] at ih ⊢
      exact ih
def insI (ks : List Int) (x : Int) : List Int := if x ∈ ks then ks else ks ++ [x]
theorem put_dkI {ks : List Int} {v : D} {x : Int} : putD (dkI ks v) (.inl x) v = dkI (insI ks x) v := by
  unfold putD insI dkI
  by_cases q : x ∈ ks
  · rw [if_pos (by simp [q]), if_pos q, List.map_map]
    apply List.map_congr_left
    intro a _
    show (if (Sum.inl a : Key) = .inl x then ((Sum.inl a : Key), v) else (.inl a, v)) = (.inl a, v)
    split <;> rfl
  · rw [if_neg (by simp [q]), if_neg q, List.map_append]; rfl
theorem mem_insI {ks : List Int} {x y : Int} : y ∈ insI ks x ↔ y ∈ ks ∨ y = x := by
  unfold insI; split
  · constructor
    · exact .inl
    · rintro (h | rfl) <;> assumption
  · simp
theorem nodup_insI {ks : List Int} {x : Int} (h : ks.Nodup) : (insI ks x).Nodup := by
  unfold insI; split
  · exact h
  · rename_i q
    rw [List.nodup_append]
    exact ⟨h, by simp, fun a m b n => by simp at n; subst n; intro e; subst e; exact q m⟩
theorem len_insI {ks : List Int} {x : Int} : (insI ks x).length ≤ ks.length + 1 := by
  unfold insI; split <;> simp
theorem keys_dkI {ks : List Int} {v : D} : (dkI ks v).map (fun p => keyD p.1) = ks.map D.int := by
  unfold dkI; rw [List.map_map]; rfl
theorem len_dkI {ks : List Int} {v : D} : (dkI ks v).length = ks.length := by simp [dkI]
end DL

set_option Elab.async false
set_option linter.all false
set_option maxRecDepth 100000
set_option autoImplicit false
namespace DL
open PySem PySem.Spec PyProof.Rows L2
/-! ### cutting, in plain numbers -/
/-- what a piece has -/
structure Pc where
  n : Int
  a : Str
  b : Str
  bs : List Int
  k : Bool
  at_ : Int
  mo : Bool
def stp (w : Nat) : Nat := w - w % 8
/-- the rest behind s bytes -/
def Pc.rest (x : Pc) (s : Nat) : Pc := { x with bs := x.bs.drop s, at_ := x.at_ + s }
/-- the first s bytes, something being behind them -/
def Pc.head (x : Pc) (s : Nat) : Pc := { x with bs := x.bs.take s, mo := true }
def cutP (w : Nat) (x : Pc) : List Pc :=
  if h : x.bs.length ≤ w ∨ stp w = 0 then [x] else x.head (stp w) :: cutP w (x.rest (stp w))
termination_by x.bs.length
decreasing_by simp [Pc.rest]; omega
theorem cutP_le {w : Nat} {x : Pc} (h : x.bs.length ≤ w) : cutP w x = [x] := by
  unfold cutP; rw [dif_pos (.inl h)]
theorem stp_pos {w : Nat} (h : 8 ≤ w) : 8 ≤ stp w ∧ stp w ≤ w ∧ stp w % 8 = 0 := by unfold stp; omega
theorem cutP_gt {w : Nat} {x : Pc} (hw : 8 ≤ w) (h : w < x.bs.length) : cutP w x = x.head (stp w) :: cutP w (x.rest (stp w)) := by
  have := stp_pos hw
  conv => lhs; unfold cutP
  rw [dif_neg (by omega)]
/-- x stands as the row ps -/
inductive Div : Pc → List Pc → Prop
  | one (x : Pc) : Div x [x]
  | cons (x : Pc) (s : Nat) (r : List Pc) : 0 < s → s < x.bs.length → s % 8 = 0 → Div (x.rest s) r → Div x (x.head s :: r)
theorem Div.ne {x : Pc} {ps : List Pc} (h : Div x ps) : ps ≠ [] := by cases h <;> simp
theorem cutP_div {w : Nat} (hw : 8 ≤ w) : ∀ (n : Nat) (x : Pc), x.bs.length ≤ n → Div x (cutP w x)
  | 0, x, h => by rw [cutP_le (by omega)]; exact .one x
  | n + 1, x, h => by
    by_cases q : x.bs.length ≤ w
    · rw [cutP_le q]; exact .one x
    · have := stp_pos hw
      rw [cutP_gt hw (by omega)]
      exact .cons x _ _ (by omega) (by omega) (by omega) (cutP_div hw n _ (by simp [Pc.rest]; omega))
theorem Pc.head_rest (x : Pc) (t s : Nat) (h : t ≤ s) : (x.head s).rest t = (x.rest t).head (s - t) := by
  unfold Pc.head Pc.rest
  simp [List.drop_take]
theorem Pc.head_head (x : Pc) (t s : Nat) (h : t ≤ s) : (x.head s).head t = x.head t := by
  unfold Pc.head
  simp [List.take_take, Nat.min_eq_left h]
theorem Pc.rest_rest (x : Pc) (t s : Nat) (h : t ≤ s) : (x.rest t).rest (s - t) = x.rest s := by
  unfold Pc.rest
  simp only [List.drop_drop]
  congr 1
  · congr 1; omega
  · omega
theorem Div.app {r : List Pc} : ∀ {y : Pc} {qs : List Pc}, Div y qs → ∀ (x : Pc) (s : Nat), y = x.head s → 0 < s → s < x.bs.length → s % 8 = 0 → Div (x.rest s) r → Div x (qs ++ r) := by
  intro y qs h
  induction h with
  | one y =>
    rintro x s rfl h0 h1 h2 hr
    exact .cons x s r h0 h1 h2 hr
  | cons y t r' t0 t1 t2 hr' ih =>
    rintro x s rfl h0 h1 h2 hr
    have hl : (x.head s).bs.length = s := by simp [Pc.head]; omega
    rw [hl] at t1
    rw [List.cons_append, Pc.head_head x t s (by omega)]
    refine .cons x t _ t0 (by omega) t2 (ih (x.rest t) (s - t) (Pc.head_rest x t s (by omega)) (by omega) (by simp [Pc.rest]; omega) (by omega) ?_)
    rw [Pc.rest_rest x t s (by omega)]; exact hr
theorem Div.flat {f : Pc → List Pc} : ∀ {x : Pc} {ps : List Pc}, Div x ps → (∀ y ∈ ps, Div y (f y)) → Div x (ps.flatMap f) := by
  intro x ps h
  induction h with
  | one x => intro hf; have := hf x (by simp); simpa using this
  | cons x s r h0 h1 h2 hr ih =>
    intro hf
    rw [List.flatMap_cons]
    exact Div.app (hf _ (by simp)) x s rfl h0 h1 h2 (ih fun y m => hf y (by simp [m]))
/-- all parts are short -/
theorem cutP_short {w : Nat} (hw : 8 ≤ w) : ∀ (n : Nat) (x : Pc), x.bs.length ≤ n → ∀ y ∈ cutP w x, y.bs.length ≤ w
  | 0, x, h => by
    intro y m
    rw [cutP_le (by omega)] at m
    rw [List.mem_singleton.1 m]; omega
  | n + 1, x, h => by
    intro y m
    by_cases q : x.bs.length ≤ w
    · rw [cutP_le q] at m
      rw [List.mem_singleton.1 m]; exact q
    · have := stp_pos hw
      rw [cutP_gt hw (by omega)] at m
      rcases List.mem_cons.1 m with rfl | m
      · simp [Pc.head]; omega
      · exact cutP_short hw n _ (by simp [Pc.rest]; omega) y m
/-- a part is no longer than what is cut, keeps key and keep -/
theorem Div.mem : ∀ {x : Pc} {ps : List Pc}, Div x ps → ∀ y ∈ ps, y.bs.length ≤ x.bs.length ∧ y.n = x.n ∧ y.a = x.a ∧ y.b = x.b ∧ y.k = x.k := by
  intro x ps h
  induction h with
  | one x => intro y m; rw [List.mem_singleton.1 m]; exact ⟨Nat.le_refl _, rfl, rfl, rfl, rfl⟩
  | cons x s r h0 h1 h2 hr ih =>
    intro y m
    rcases List.mem_cons.1 m with rfl | m
    · exact ⟨by simp [Pc.head]; omega, rfl, rfl, rfl, rfl⟩
    · obtain ⟨a, b, c, d, e⟩ := ih y m
      exact ⟨by simp [Pc.rest] at a; omega, b, c, d, e⟩
/-- one width more -/
def cutW (ps : List Pc) (w : Nat) : List Pc := ps.flatMap (cutP w)
def sentP (x : Pc) (ws : List Nat) : List Pc := ws.foldl cutW [x]
theorem cutW_div {x : Pc} {ps : List Pc} {w : Nat} (h : Div x ps) (hw : 8 ≤ w) : Div x (cutW ps w) := h.flat fun y _ => cutP_div hw _ y (Nat.le_refl _)
theorem cutW_short {ps : List Pc} {w : Nat} (hw : 8 ≤ w) : ∀ y ∈ cutW ps w, y.bs.length ≤ w := by
  intro y m
  obtain ⟨z, _, h⟩ := List.mem_flatMap.1 m
  exact cutP_short hw _ z (Nat.le_refl _) y h
theorem cutW_keep {ps : List Pc} {w m : Nat} (hw : 8 ≤ w) (h : ∀ y ∈ ps, y.bs.length ≤ m) : ∀ y ∈ cutW ps w, y.bs.length ≤ m := by
  intro y q
  obtain ⟨z, hz, q⟩ := List.mem_flatMap.1 q
  have := ((cutP_div hw _ z (Nat.le_refl _)).mem y q).1
  have := h z hz
  omega
theorem cutW_same {ps : List Pc} {w : Nat} (h : ∀ y ∈ ps, y.bs.length ≤ w) : cutW ps w = ps := by
  unfold cutW
  induction ps with
  | nil => rfl
  | cons y r ih => rw [List.flatMap_cons, cutP_le (h y (by simp)), ih fun z m => h z (by simp [m])]; rfl
theorem sent_div {x : Pc} : ∀ (ws : List Nat) (ps : List Pc), Div x ps → (∀ w ∈ ws, 8 ≤ w) → Div x (ws.foldl cutW ps)
  | [], _, h, _ => h
  | w :: r, _, h, hw => sent_div r _ (cutW_div h (hw w (by simp))) fun v m => hw v (by simp [m])
theorem sent_keep {m : Nat} : ∀ (ws : List Nat) (ps : List Pc), (∀ y ∈ ps, y.bs.length ≤ m) → (∀ w ∈ ws, 8 ≤ w) → ∀ y ∈ ws.foldl cutW ps, y.bs.length ≤ m
  | [], _, h, _ => h
  | w :: r, _, h, hw => sent_keep r _ (cutW_keep (hw w (by simp)) h) fun v m => hw v (by simp [m])
theorem sent_short : ∀ (ws : List Nat) (ps : List Pc), (∀ w ∈ ws, 8 ≤ w) → ∀ w ∈ ws, ∀ y ∈ ws.foldl cutW ps, y.bs.length ≤ w
  | [], _, _, w, m => by cases m
  | v :: r, ps, hw, w, m => by
    rcases List.mem_cons.1 m with rfl | m
    · exact sent_keep r _ (cutW_short (hw w (by simp))) fun u m => hw u (by simp [m])
    · exact sent_short r _ (fun u m => hw u (by simp [m])) w m
/-- the widths that are narrower than all ahead -/
def narG : List Nat → List Nat → List Nat
  | _, [] => []
  | f, w :: r => if ∀ m ∈ f, w < m then w :: narG (f ++ [w]) r else narG f r
theorem nar_same : ∀ (ws f : List Nat) (ps : List Pc), (∀ m ∈ f, ∀ y ∈ ps, y.bs.length ≤ m) → (∀ w ∈ ws, 8 ≤ w) → (narG f ws).foldl cutW ps = ws.foldl cutW ps
  | [], _, _, _, _ => rfl
  | w :: r, f, ps, h, hw => by
    unfold narG
    have h8 := hw w (by simp)
    split
    · rw [List.foldl_cons, List.foldl_cons]
      refine nar_same r _ _ (fun m hm y hy => ?_) fun v m => hw v (by simp [m])
      rcases List.mem_append.1 hm with hm | hm
      · exact cutW_keep h8 (h m hm) y hy
      · rw [List.mem_singleton.1 hm]; exact cutW_short h8 y hy
    · rename_i q
      obtain ⟨m, q⟩ := Classical.not_forall.1 q
      obtain ⟨q, q2⟩ := Classical.not_imp.1 q
      rw [List.foldl_cons, cutW_same fun y hy => Nat.le_trans (h m q y hy) (by omega)]
      exact nar_same r f ps h fun v m => hw v (by simp [m])
theorem twice_same : ∀ (ws : List Nat) (ps : List Pc), (∀ w ∈ ws, 8 ≤ w) → (ws.flatMap fun w => [w, w]).foldl cutW ps = ws.foldl cutW ps
  | [], _, _ => rfl
  | w :: r, ps, hw => by
    rw [List.flatMap_cons, List.foldl_append, List.foldl_cons]
    show List.foldl cutW (cutW (cutW ps w) w) _ = _
    rw [cutW_same (cutW_short (hw w (by simp)))]
    exact twice_same r _ fun v m => hw v (by simp [m])
/-- the sizes -/
def szL (w len : Nat) : List Nat :=
  if h : len ≤ w ∨ stp w = 0 then [len] else stp w :: szL w (len - stp w)
termination_by len
decreasing_by omega
theorem szL_le {w len : Nat} (h : len ≤ w) : szL w len = [len] := by
  unfold szL; rw [dif_pos (.inl h)]
theorem szL_gt {w len : Nat} (hw : 8 ≤ w) (h : w < len) : szL w len = stp w :: szL w (len - stp w) := by
  have := stp_pos hw
  conv => lhs; unfold szL
  rw [dif_neg (by omega)]
theorem cutP_len {w : Nat} (hw : 8 ≤ w) : ∀ (n : Nat) (x : Pc), x.bs.length ≤ n → (cutP w x).length = (szL w x.bs.length).length
  | 0, x, h => by rw [cutP_le (by omega), szL_le (by omega)]; rfl
  | n + 1, x, h => by
    by_cases q : x.bs.length ≤ w
    · rw [cutP_le q, szL_le q]; rfl
    · have := stp_pos hw
      rw [cutP_gt hw (by omega), szL_gt hw (by omega), List.length_cons, List.length_cons, cutP_len hw n _ (by simp [Pc.rest]; omega)]
      simp [Pc.rest]
/-- a row is no longer than its bytes -/
theorem Div.len_le : ∀ {x : Pc} {ps : List Pc}, Div x ps → 1 ≤ x.bs.length → ps.length ≤ x.bs.length := by
  intro x ps h
  induction h with
  | one x => intro h; simpa using h
  | cons x s r h0 h1 h2 hr ih =>
    intro h
    have := ih (by simp [Pc.rest]; omega)
    simp [Pc.rest] at this ⊢
    omega
theorem flat_len {α β : Type} (f : α → List β) (a b : List α) : (a.flatMap f).length ≤ ((a ++ b).flatMap f).length := by
  rw [List.flatMap_append, List.length_append]; omega
/-! ### small things -/
theorem cutD_mid (l : List D) (a b : Nat) (h : a ≤ b) (hb : b ≤ l.length) : cutD l (some (a : Int)) (some (b : Int)) = (l.drop a).take (b - a) := by
  unfold cutD
  have h1 : min a l.length = a := by omega
  have h2 : min b l.length = b := by omega
  rw [HT.sIx_nat, HT.sIx_nat, h1, h2]
theorem pl_int29' (bs : List Int) : plain 29 (.lst (bs.map D.int)) = true := by
  show List.all _ (plain 28) = true
  rw [List.all_eq_true]; intro x m
  obtain ⟨i, _, rfl⟩ := List.mem_map.1 m; rfl
theorem dNeV_same' {x y : D} {C : Cells} (h : vwn 30 C x = vwn 30 C y) (p : plain 30 (vwn 30 C x) = true) : dNeV x y C = .ok (.bl false) C := by
  unfold dNeV; rw [← h, p, eqD_refl 30 _ p]; rfl
theorem dEqV_same' {x y : D} {C : Cells} (h : vwn 30 C x = vwn 30 C y) (p : plain 30 (vwn 30 C x) = true) : dEqV x y C = .ok (.bl true) C := by
  unfold dEqV; rw [← h, p, eqD_refl 30 _ p]; rfl
theorem neV_pl {x : D} {C : Cells} (p : plain 30 x = true) : dNeV x x C = .ok (.bl false) C := dNeV_same' rfl (by rw [vwn_plain 30 30 C x p]; exact p)
theorem eqV_pl {x : D} {C : Cells} (p : plain 30 x = true) : dEqV x x C = .ok (.bl true) C := dEqV_same' rfl (by rw [vwn_plain 30 30 C x p]; exact p)
@[simp] theorem neV_i (i j : Int) (C : Cells) : dNeV (.int i) (.int j) C = .ok (.bl (!(i == j))) C := rfl
@[simp] theorem eqV_i (i j : Int) (C : Cells) : dEqV (.int i) (.int j) C = .ok (.bl (i == j)) C := rfl
@[simp] theorem neV_b (i j : Bool) (C : Cells) : dNeV (.bl i) (.bl j) C = .ok (.bl (!(i == j))) C := rfl
@[simp] theorem eqV_b (i j : Bool) (C : Cells) : dEqV (.bl i) (.bl j) C = .ok (.bl (i == j)) C := rfl
theorem minL_le {l : List Int} {x : Int} (h : x ∈ l) : minL l ≤ x := (minL_ok (List.ne_nil_of_mem h)).2 x h
theorem bMin_ints {l : List Int} {C : Cells} (h : l ≠ []) : bMin [.lst (l.map D.int)] C = .ok (.int (minL l)) C := by
  cases l with
  | nil => exact absurd rfl h
  | cons a r =>
    have := asInts_ints (a :: r)
    unfold bMin
    simp only [lstOf_lst, Option.bind_some, this]
theorem min_ok (n : Int) (r : List Int) : PySem.W.minOf n r ∈ n :: r ∧ ∀ x ∈ n :: r, PySem.W.minOf n r ≤ x := by
  unfold PySem.W.minOf
  induction r generalizing n with
  | nil => simp
  | cons y ys ih =>
    rw [List.foldl_cons]
    obtain ⟨h1, h2⟩ := ih (if PySem.W.DatumOrd.lt y n = true then y else n)
    have e : PySem.W.DatumOrd.lt y n = decide (y < n) := rfl
    rw [e] at h1 h2 ⊢
    by_cases q : y < n
    · simp only [decide_eq_true q, if_true] at h1 h2 ⊢
      refine ⟨by simp at h1 ⊢; right; exact h1, fun x m => ?_⟩
      have := h2 y (by simp)
      simp at m
      rcases m with rfl | rfl | m
      · omega
      · exact this
      · exact h2 x (by simp [m])
    · simp only [decide_eq_false q, Bool.false_eq_true, if_false] at h1 h2 ⊢
      refine ⟨by simp at h1 ⊢; rcases h1 with h1 | h1; exact .inl h1; exact .inr (.inr h1), fun x m => ?_⟩
      have := h2 n (by simp)
      simp at m
      rcases m with rfl | rfl | m
      · exact this
      · omega
      · exact h2 x (by simp [m])
/-! one statement at a time -/
def sThen (r : SRes) (g : SF) : SRes := match r with | .nxt s C => g s C | r => r
theorem sq {f g : SF} {s : Sl} {C : Cells} : sSeq f g s C = sThen (f s C) g := rfl
theorem sn {g : SF} {s : Sl} {C : Cells} : sThen (.nxt s C) g = g s C := rfl
theorem sr {g : SF} {d : D} {C : Cells} : sThen (.ret d C) g = .ret d C := rfl
theorem se {g : SF} {c : Nat} {s : Sl} {C : Cells} : sThen (.err c s C) g = .err c s C := rfl
theorem iR1_of {af : AF} {s : Sl} {C C' : Cells} {n : Nat} (h : af s C = .ok [.int (n : Int)] C') (hn : n ≤ 16777216) : iR1 af s C = .ok (rngD 0 n) C' := by
  have e : iR1 af s C = (af s C).bind fun xs C => match xs with | [.int j] => if -(2 ^ 62) ≤ j ∧ j < 2 ^ 62 then .ok (rngD 0 j.toNat) C else .no | _ => .no := rfl
  rw [e, h, bind_ok]
  dsimp only
  rw [if_pos (by constructor <;> omega), Int.toNat_natCast]
theorem iR2_of {af : AF} {s : Sl} {C C' : Cells} {i j : Int} (h : af s C = .ok [.int i, .int j] C') (hn : -16777216 ≤ i ∧ i ≤ 16777216 ∧ -16777216 ≤ j ∧ j ≤ 16777216) : iR2 af s C = .ok (rngD i (j - i).toNat) C' := by
  have e : iR2 af s C = (af s C).bind fun xs C => match xs with | [.int i, .int j] => if -(2 ^ 62) ≤ i ∧ i < 2 ^ 62 ∧ -(2 ^ 62) ≤ j ∧ j < 2 ^ 62 then .ok (rngD i (j - i).toNat) C else .no | _ => .no := rfl
  rw [e, h, bind_ok]
  dsimp only
  rw [if_pos (by refine ⟨?_, ?_, ?_, ?_⟩ <;> omega)]
theorem nats_of {l : List D} {P : Nat → Prop} (h : ∀ y ∈ l, ∃ i : Nat, y = .int i ∧ P i) : ∃ ns : List Nat, l = ns.map (fun (w : Nat) => D.int w) ∧ ns.length = l.length ∧ ∀ i ∈ ns, P i := by
  induction l with
  | nil => exact ⟨[], rfl, rfl, by simp⟩
  | cons a r ih =>
    obtain ⟨ns, h1, h2, h3⟩ := ih fun y m => h y (by simp [m])
    obtain ⟨i, rfl, hi⟩ := h a (by simp)
    exact ⟨i :: ns, by simp [h1], by simp [h2], fun j m => by
      rcases List.mem_cons.1 m with rfl | m
      · exact hi
      · exact h3 j m⟩
theorem minN {ws : List Nat} (h : ws ≠ []) : ∃ m ∈ ws, minL (ws.map fun (w : Nat) => (w : Int)) = (m : Int) ∧ ∀ w ∈ ws, m ≤ w := by
  obtain ⟨h1, h2⟩ := minL_ok (l := ws.map fun (w : Nat) => (w : Int)) (by simpa using h)
  obtain ⟨m, hm, e⟩ := List.mem_map.1 h1
  refine ⟨m, hm, e.symm, fun w hw => ?_⟩
  have := h2 (w : Int) (List.mem_map.2 ⟨w, hw, rfl⟩)
  omega
theorem bMin_nats {ws : List Nat} {C : Cells} (h : ws ≠ []) : ∃ m ∈ ws, bMin [.lst (ws.map fun (w : Nat) => D.int w)] C = .ok (.int (m : Int)) C ∧ ∀ w ∈ ws, m ≤ w := by
  obtain ⟨m, hm, e, hle⟩ := minN h
  refine ⟨m, hm, ?_, hle⟩
  have := bMin_ints (l := ws.map fun (w : Nat) => (w : Int)) (C := C) (by simpa using h)
  rw [List.map_map, e] at this
  exact this
/-! how many pieces -/
def nP (w len : Nat) : Nat := (szL w len).length
theorem nP_le {w len : Nat} (h : len ≤ w) : nP w len = 1 := by unfold nP; rw [szL_le h]; rfl
theorem nP_gt {w len : Nat} (hw : 8 ≤ w) (h : w < len) : nP w len = 1 + nP w (len - stp w) := by unfold nP; rw [szL_gt hw h, List.length_cons, Nat.add_comm]
theorem nP_pos {w len : Nat} (hw : 8 ≤ w) : 1 ≤ nP w len := by
  by_cases q : len ≤ w
  · rw [nP_le q]; exact Nat.le_refl _
  · rw [nP_gt hw (by omega)]; omega
theorem nP_mono {w : Nat} (hw : 8 ≤ w) : ∀ (n a b : Nat), b ≤ n → a ≤ b → nP w a ≤ nP w b
  | 0, a, b, h, hab => by
    have : a = b := by omega
    subst this; exact Nat.le_refl _
  | n + 1, a, b, h, hab => by
    have hs := stp_pos hw
    by_cases qb : b ≤ w
    · rw [nP_le qb, nP_le (by omega)]; exact Nat.le_refl _
    · have eb := nP_gt hw (len := b) (by omega)
      by_cases qa : a ≤ w
      · rw [nP_le qa]; omega
      · have ea := nP_gt hw (len := a) (by omega)
        have := nP_mono hw n (a - stp w) (b - stp w) (by omega) (by omega)
        omega
theorem nP_bound {w : Nat} (hw : 8 ≤ w) : ∀ (n len : Nat), len ≤ n → nP w len ≤ len + 1
  | 0, len, h => by rw [nP_le (by omega)]; omega
  | n + 1, len, h => by
    have hs := stp_pos hw
    by_cases q : len ≤ w
    · rw [nP_le q]; omega
    · rw [nP_gt hw (by omega)]
      have := nP_bound hw n (len - stp w) (by omega)
      omega
/-- a row of short pieces has at least so many -/
theorem Div.least {w : Nat} (hw : 8 ≤ w) : ∀ {x : Pc} {ps : List Pc}, Div x ps → (∀ y ∈ ps, y.bs.length ≤ w) → nP w x.bs.length ≤ ps.length := by
  intro x ps h
  induction h with
  | one x => intro hs; rw [nP_le (hs x (by simp))]; simp
  | cons x s r h0 h1 h2 hr ih =>
    intro hs
    have i := ih fun y m => hs y (by simp [m])
    have hd := hs (x.head s) (by simp)
    have hsl : (x.head s).bs.length = s := by simp [Pc.head]; omega
    rw [hsl] at hd
    have hrl : (x.rest s).bs.length = x.bs.length - s := by simp [Pc.rest]
    rw [hrl] at i
    rw [List.length_cons]
    by_cases q : x.bs.length ≤ w
    · rw [nP_le q]; omega
    · rw [nP_gt hw (by omega)]
      have hle : s ≤ stp w := by unfold stp; omega
      have := nP_mono hw (x.bs.length - s) (x.bs.length - stp w) (x.bs.length - s) (Nat.le_refl _) (by omega)
      omega
/-! dicts: what is told behind a store -/
theorem lookD_map {κ : Type} [DecidableEq κ] (l : List (κ × D)) (k k' : κ) (d : D) : lookD (l.map fun p => if p.1 = k then (p.1, d) else p) k' = if k' = k then (lookD l k').map fun _ => d else lookD l k' := by
  unfold lookD
  induction l with
  | nil => simp
  | cons p r ih =>
    rw [List.map_cons, List.find?_cons, List.find?_cons]
    by_cases h1 : p.1 = k
    · simp only [h1, if_true]
      by_cases h2 : k = k'
      · subst h2; simp
      · have : ¬ k' = k := fun z => h2 z.symm
        simp only [h2, decide_false, this, if_false] at ih ⊢
        exact ih
    · simp only [h1, if_false]
      by_cases h2 : p.1 = k'
      · subst h2; simp [h1]
      · simp only [h2, decide_false]; exact ih
theorem lookD_any {κ : Type} [DecidableEq κ] (l : List (κ × D)) (k : κ) : l.any (fun p => decide (p.1 = k)) = (lookD l k).isSome := by
  unfold lookD
  induction l with
  | nil => rfl
  | cons p r ih =>
    rw [List.any_cons, List.find?_cons]
    by_cases h : p.1 = k
    · simp [h]
    · simp only [h, decide_false, Bool.false_or]; exact ih
theorem lookD_put {κ : Type} [DecidableEq κ] (l : List (κ × D)) (k k' : κ) (d : D) : lookD (putD l k d) k' = if k' = k then some d else lookD l k' := by
  unfold putD
  rw [lookD_any]
  by_cases h : (lookD l k).isSome = true
  · rw [if_pos h, lookD_map]
    by_cases e : k' = k
    · subst e
      obtain ⟨v, hv⟩ := Option.isSome_iff_exists.1 h
      simp [hv]
    · simp [e]
  · rw [if_neg h]
    have hn : lookD l k = none := by simpa using h
    unfold lookD at hn ⊢
    rw [List.find?_append]
    by_cases e : k' = k
    · subst e
      have : l.find? (fun p => decide (p.1 = k')) = none := by
        cases q : l.find? (fun p => decide (p.1 = k')) with
        | none => rfl
        | some z => rw [q] at hn; cases hn
      simp [this]
    · have e' : ¬ k = k' := fun z => e z.symm
      simp [e, e', List.find?_cons]
theorem putD_len {κ : Type} [DecidableEq κ] (l : List (κ × D)) (k : κ) (d : D) : (putD l k d).length ≤ l.length + 1 := by
  unfold putD
  split <;> simp
theorem dput_cel {C : Cells} {n : Nat} {l : List (Key × D)} {y d : D} {k : Key} (h : C.get n = some (.dk l)) (hk : keyOf y = some k) (hl : l.length < 16777216) : dPutK C (.cel n) y d = some (C.set n (.dk (putD l k d))) := by
  unfold dPutK
  simp only [h, hk]
  exact if_pos hl
theorem dget_cel {C : Cells} {n : Nat} {l : List (Key × D)} {y : D} {k : Key} (h : C.get n = some (.dk l)) (hk : keyOf y = some k) : dGetK C (.cel n) y = some (lookD l k) := by
  unfold dGetK
  simp only [h, hk]; rfl
@[simp] theorem keyOf_i (i : Int) : keyOf (.int i) = some (.inl i) := rfl
@[simp] theorem keyOf_s (i : Str) : keyOf (.str i) = some (.inr i) := rfl
@[simp] theorem eGet2_ap {a b c : EF} {s : Sl} {C : Cells} : eGet2 a b c s C = (a s C).bind fun x C => match dGetK C x (.int 0), dGetK C x (.tup []) with
  | none, none => .no
  | _, _ => (b s C).bind fun y C => (c s C).bind fun z C => match dGetK C x y with
    | some (some d) => .ok d C
    | some none => .ok z C
    | none => .no := rfl
@[simp] theorem eDisp_ap {f : PF} {s : Sl} {C : Cells} : eDisp f s C = (f s (C.new (.dk []))).bind fun ps C2 => match C2.get C.nx, keyPs ps with
  | some (.dk []), some kvs => if kvs.length ≤ 15 then .ok (.cel C.nx) (C2.set C.nx (.dk (mergeD [] kvs))) else .no
  | _, _ => .no := rfl
@[simp] theorem pNil_ap {s : Sl} {C : Cells} : pNil s C = .ok [] C := rfl
@[simp] theorem pCons_ap {a b : EF} {r : PF} {s : Sl} {C : Cells} : pCons a b r s C = (a s C).bind fun x C => (b s C).bind fun y C => (r s C).bind fun ps C => .ok ((x, y) :: ps) C := rfl
theorem iR3_of {af : AF} {s : Sl} {C C' : Cells} {i j c : Int} (h : af s C = .ok [.int i, .int j, .int c] C') (hn : -1000000 ≤ i ∧ i ≤ 1000000 ∧ -1000000 ≤ j ∧ j ≤ 1000000 ∧ 0 < c ∧ c ≤ 1000000) : iR3 af s C = .ok (rngC i c (Builtin.Range.rangeSize i j c).toNat) C' := by
  have e : iR3 af s C = (af s C).bind fun xs C => match xs with
    | [.int i, .int j, .int c] => if -1000000 ≤ i ∧ i ≤ 1000000 ∧ -1000000 ≤ j ∧ j ≤ 1000000 ∧ 0 < c ∧ c ≤ 1000000 then .ok (rngC i c (Builtin.Range.rangeSize i j c).toNat) C else .no
    | _ => .no := rfl
  rw [e, h, bind_ok]
  dsimp only
  rw [if_pos hn]
theorem callF_ret {n np : Nat} {g : SF} {ds : List D} {C C' : Cells} {d : D} (h : ds.length = np) (hg : g (ds.map some ++ List.replicate (n - ds.length) none) C = .ret d C') : callF n np g ds C = .ok d C' := by
  unfold callF; rw [if_pos h, hg]
theorem callF_nxt {n np : Nat} {g : SF} {ds : List D} {C C' : Cells} {s : Sl} (h : ds.length = np) (hg : g (ds.map some ++ List.replicate (n - ds.length) none) C = .nxt s C') : callF n np g ds C = .ok .non C' := by
  unfold callF; rw [if_pos h, hg]
theorem callF_r {n np : Nat} {g : SF} {ds : List D} {C C' : Cells} {d : D} (s : Sl) (h : ds.length = np) (hs : ds.map some ++ List.replicate (n - ds.length) none = s) (hg : g s C = .ret d C') : callF n np g ds C = .ok d C' := callF_ret h (by rw [hs]; exact hg)
theorem callF_n {n np : Nat} {g : SF} {ds : List D} {C C' : Cells} {s' : Sl} (s : Sl) (h : ds.length = np) (hs : ds.map some ++ List.replicate (n - ds.length) none = s) (hg : g s C = .nxt s' C') : callF n np g ds C = .ok .non C' := callF_nxt h (by rw [hs]; exact hg)
theorem callF_e {n np : Nat} {g : SF} {ds : List D} {C C' : Cells} {s' : Sl} {c : Nat} (s : Sl) (h : ds.length = np) (hs : ds.map some ++ List.replicate (n - ds.length) none = s) (hg : g s C = .err c s' C') : callF n np g ds C = .err c C' := by
  unfold callF; rw [if_pos h, hs, hg]
theorem sFor_of {it : IF} {tg : GF} {b : SF} {s : Sl} {C C1 : Cells} {ds : List D} {r : SRes} (h : it s C = .ok ds C1) (hf : forF tg b ds s C1 = r) : sFor it tg b s C = r := by
  rw [sFor_ap, h]; exact hf
theorem sForK_of {it : IK} {tg : GF} {b : SF} {s : Sl} {C C1 : Cells} {ds : List D} {kp : Cells → Prop} {r : SRes} (h : it s C = .ok (ds, kp) C1) (hf : forK kp tg b ds s C1 = r) : sForK it tg b s C = r := by
  rw [sForK_ap, h]; exact hf
end DL

set_option Elab.async false
set_option linter.all false
set_option maxRecDepth 100000
set_option autoImplicit false
namespace Cov
abbrev C := List (Int × Int)
/-- in order, apart, none empty -/
def Cv (c : C) : Prop := c.Pairwise (fun p q => p.2 < q.1) ∧ ∀ p ∈ c, p.1 < p.2
def In (x : Int) (c : C) : Prop := ∃ p ∈ c, p.1 ≤ x ∧ x < p.2
theorem in_nil {x : Int} : ¬ In x [] := fun ⟨_, h, _⟩ => by simp at h
theorem in_cons {x : Int} {p : Int × Int} {c : C} : In x (p :: c) ↔ (p.1 ≤ x ∧ x < p.2) ∨ In x c := by simp [In]
theorem in_app {x : Int} {c d : C} : In x (c ++ d) ↔ In x c ∨ In x d := by
  constructor
  · rintro ⟨p, h, q⟩
    rcases List.mem_append.1 h with h | h
    · exact .inl ⟨p, h, q⟩
    · exact .inr ⟨p, h, q⟩
  · rintro (⟨p, h, q⟩ | ⟨p, h, q⟩)
    · exact ⟨p, by simp [h], q⟩
    · exact ⟨p, by simp [h], q⟩
theorem Cv.tail {p : Int × Int} {c : C} (h : Cv (p :: c)) : Cv c := ⟨(List.pairwise_cons.1 h.1).2, fun q m => h.2 q (by simp [m])⟩
theorem Cv.head {p : Int × Int} {c : C} (h : Cv (p :: c)) : p.1 < p.2 ∧ ∀ q ∈ c, p.2 < q.1 := ⟨h.2 p (by simp), (List.pairwise_cons.1 h.1).1⟩
theorem Cv.after {p : Int × Int} {c : C} (h : Cv (p :: c)) {x : Int} (m : In x c) : p.2 < x := by
  obtain ⟨q, a, b⟩ := m
  have := h.head.2 q a
  omega
theorem cv_unique : ∀ {c d : C}, Cv c → Cv d → (∀ x, In x c ↔ In x d) → c = d
  | [], [], _, _, _ => rfl
  | [], q :: d, _, h, e => absurd ((e q.1).2 (in_cons.2 (.inl ⟨Int.le_refl _, h.head.1⟩))) in_nil
  | p :: c, [], h, _, e => absurd ((e p.1).1 (in_cons.2 (.inl ⟨Int.le_refl _, h.head.1⟩))) in_nil
  | p :: c, q :: d, h, k, e => by
    have hp := h.head.1
    have hq := k.head.1
    have lo : ∀ {p q : Int × Int} {c d : C}, Cv (p :: c) → Cv (q :: d) → (∀ x, In x (p :: c) ↔ In x (q :: d)) → q.1 ≤ p.1 := by
      intro p q c d h k e
      have hp := h.head.1
      have hq := k.head.1
      rcases in_cons.1 ((e p.1).1 (in_cons.2 (.inl ⟨Int.le_refl _, hp⟩))) with m | m
      · exact m.1
      · have := k.after m; omega
    have l1 := lo h k e
    have l2 := lo k h fun x => (e x).symm
    have hi : ∀ {p q : Int × Int} {c d : C}, Cv (p :: c) → Cv (q :: d) → (∀ x, In x (p :: c) ↔ In x (q :: d)) → p.1 = q.1 → p.2 ≤ q.2 := by
      intro p q c d h k e z
      have hp := h.head.1
      have hq := k.head.1
      by_cases w : p.2 ≤ q.2
      · exact w
      · rcases in_cons.1 ((e q.2).1 (in_cons.2 (.inl ⟨by omega, by omega⟩))) with m | m
        · omega
        · have := k.after m; omega
    have z : p.1 = q.1 := by omega
    have h1 := hi h k e z
    have h2 := hi k h (fun x => (e x).symm) z.symm
    have pq : p = q := Prod.ext z (by omega)
    subst pq
    rw [cv_unique h.tail k.tail fun x => ⟨fun m => ?_, fun m => ?_⟩]
    · have a := h.after m
      rcases in_cons.1 ((e x).1 (in_cons.2 (.inr m))) with b | b
      · omega
      · exact b
    · have a := k.after m
      rcases in_cons.1 ((e x).2 (in_cons.2 (.inr m))) with b | b
      · omega
      · exact b
theorem cv_snoc {c : C} {p : Int × Int} (h : Cv c) (a : ∀ q ∈ c, q.2 < p.1) (b : p.1 < p.2) : Cv (c ++ [p]) := by
  refine ⟨List.pairwise_append.2 ⟨h.1, List.pairwise_singleton _ _, fun x m y n => ?_⟩, fun q m => ?_⟩
  · rw [List.mem_singleton.1 n]; exact a x m
  · rcases List.mem_append.1 m with m | m
    · exact h.2 q m
    · rw [List.mem_singleton.1 m]; exact b
/-- the loop of with_span -/
structure WS (pre rest ahead behind : C) (lo hi lo0 hi0 e : Int) : Prop where
  cv : Cv (ahead ++ [(lo, hi)] ++ behind)
  ins : ∀ x, In x (ahead ++ [(lo, hi)] ++ behind) ↔ In x pre ∨ (lo0 ≤ x ∧ x < hi0)
  ua : ∀ p ∈ ahead ++ behind, p.2 ≤ e
  ub : behind ≠ [] → hi ≤ e
  rs : Cv rest
  re : ∀ p ∈ rest, e < p.1
theorem ws0 {c : C} (h : Cv c) {lo hi e : Int} (q : lo < hi) (k : ∀ p ∈ c, e < p.1) : WS [] c [] [] lo hi lo hi e :=
  ⟨⟨by simp, by simp [q]⟩, fun x => by simp [In], by simp, by simp, h, k⟩
theorem WS.ahead {pre rest ahead behind : C} {lo hi lo0 hi0 e : Int} {p : Int × Int} (h : WS pre (p :: rest) ahead behind lo hi lo0 hi0 e) (q : p.2 < lo) (hb : behind = [] ∨ True) : WS (pre ++ [p]) rest (ahead ++ [p]) behind lo hi lo0 hi0 p.2 := by
  have hr := h.rs.head
  have he := h.re p (by simp)
  have cv := h.cv
  have b0 : behind = [] := by
    cases hbb : behind with
    | nil => rfl
    | cons b r =>
      exfalso
      have e1 := h.ub (by simp [hbb])
      have lh : lo < hi := cv.2 (lo, hi) (by simp)
      omega
  subst b0
  have ca : Cv ahead := ⟨(List.pairwise_append.1 (List.pairwise_append.1 cv.1).1).1, fun x m => cv.2 x (by simp [m])⟩
  have lh : lo < hi := cv.2 (lo, hi) (by simp)
  have c1 : Cv (ahead ++ [p]) := cv_snoc ca (fun x m => by have := h.ua x (by simp [m]); omega) hr.1
  refine ⟨?_, fun x => ?_, fun x m => ?_, fun z => absurd rfl z, h.rs.tail, fun x m => hr.2 x m⟩
  · rw [List.append_nil]
    refine cv_snoc c1 (fun x m => ?_) lh
    rcases List.mem_append.1 m with m | m
    · have := h.ua x (by simp [m]); show x.2 < lo; omega
    · rw [List.mem_singleton.1 m]; exact q
  · have := h.ins x
    simp only [in_app, in_cons, List.append_nil] at this ⊢
    grind
  · simp at m
    rcases m with m | m
    · have := h.ua x (by simp [m]); omega
    · rw [m]; exact Int.le_refl _
theorem WS.behind {pre rest ahead behind : C} {lo hi lo0 hi0 e : Int} {p : Int × Int} (h : WS pre (p :: rest) ahead behind lo hi lo0 hi0 e) (q : hi < p.1) : WS (pre ++ [p]) rest ahead (behind ++ [p]) lo hi lo0 hi0 p.2 := by
  have hr := h.rs.head
  have he := h.re p (by simp)
  have cv := h.cv
  have lh : lo < hi := cv.2 (lo, hi) (by simp)
  refine ⟨?_, fun x => ?_, fun x m => ?_, fun _ => by omega, h.rs.tail, fun x m => hr.2 x m⟩
  · rw [← List.append_assoc]
    refine cv_snoc cv (fun x m => ?_) hr.1
    simp at m
    rcases m with m | m | m
    · have := h.ua x (by simp [m]); omega
    · rw [m]; exact q
    · have := h.ua x (by simp [m]); omega
  · have := h.ins x
    simp only [in_app, in_cons] at this ⊢
    grind
  · simp at m
    rcases m with m | m | m
    · have := h.ua x (by simp [m]); omega
    · have := h.ua x (by simp [m]); omega
    · rw [m]; exact Int.le_refl _
theorem WS.merge {pre rest ahead behind : C} {lo hi lo0 hi0 e : Int} {p : Int × Int} (h : WS pre (p :: rest) ahead behind lo hi lo0 hi0 e) (q1 : ¬ p.2 < lo) (q2 : ¬ hi < p.1) : WS (pre ++ [p]) rest ahead behind (if p.1 < lo then p.1 else lo) (if p.2 > hi then p.2 else hi) lo0 hi0 p.2 := by
  have hr := h.rs.head
  have he := h.re p (by simp)
  have cv := h.cv
  have b0 : behind = [] := by
    cases hbb : behind with
    | nil => rfl
    | cons b r =>
      exfalso
      have e1 := h.ub (by simp [hbb])
      omega
  subst b0
  have ca : Cv ahead := ⟨(List.pairwise_append.1 (List.pairwise_append.1 cv.1).1).1, fun x m => cv.2 x (by simp [m])⟩
  have lh : lo < hi := cv.2 (lo, hi) (by simp)
  have al : ∀ x ∈ ahead, x.2 < lo := fun x m => by
    have := (List.pairwise_append.1 (List.append_nil (ahead ++ [(lo, hi)]) ▸ cv.1)).2.2 x m (lo, hi) (by simp)
    exact this
  refine ⟨?_, fun x => ?_, fun x m => ?_, fun z => absurd rfl z, h.rs.tail, fun x m => hr.2 x m⟩
  · rw [List.append_nil]
    refine cv_snoc ca (fun x m => ?_) ?_
    · have h1 := al x m
      have h2 := h.ua x (by simp [m])
      show x.2 < if p.1 < lo then p.1 else lo
      split <;> omega
    · show (if p.1 < lo then p.1 else lo) < if p.2 > hi then p.2 else hi
      split <;> split <;> omega
  · have := h.ins x
    simp only [in_app, in_cons, List.append_nil] at this ⊢
    grind [in_nil]
  · simp at m
    have := h.ua x (by simp [m]); omega
/-- what lacks up to an end -/
def lackL (e : Int) : Int → C → C
  | at_, [] => if at_ < e then [(at_, e)] else []
  | at_, p :: r => (if at_ < p.1 ∧ at_ < e then [(at_, if e < p.1 then e else p.1)] else []) ++ lackL e p.2 r
theorem lack_ok (e : Int) : ∀ (c : C) (a : Int), Cv c → (∀ p ∈ c, a ≤ p.1) → Cv (lackL e a c) ∧ (∀ p ∈ lackL e a c, a ≤ p.1) ∧ ∀ x, In x (lackL e a c) ↔ (a ≤ x ∧ x < e ∧ ¬ In x c)
  | [], a, _, _ => by
    unfold lackL
    split
    · refine ⟨⟨by simp, by simp [*]⟩, by simp, fun x => by simp [In]⟩
    · refine ⟨⟨by simp, by simp⟩, by simp, fun x => by simp [In]; omega⟩
  | p :: r, a, h, k => by
    have hh := h.head
    obtain ⟨i1, i2, i3⟩ := lack_ok e r p.2 h.tail fun q m => Int.le_of_lt (hh.2 q m)
    have ka := k p (by simp)
    unfold lackL
    split
    · rename_i z
      refine ⟨⟨?_, ?_⟩, ?_, ?_⟩
      · rw [List.singleton_append, List.pairwise_cons]
        refine ⟨fun q m => ?_, i1.1⟩
        have := i2 q m
        show (if e < p.1 then e else p.1) < q.1
        split <;> omega
      · intro q m
        simp at m
        rcases m with m | m
        · subst m; show a < if e < p.1 then e else p.1; split <;> omega
        · exact i1.2 q m
      · intro q m
        simp at m
        rcases m with m | m
        · subst m; exact Int.le_refl _
        · have := i2 q m; omega
      · intro x
        rw [List.singleton_append, in_cons, i3, in_cons]
        have : In x r → p.2 < x := fun m => h.after m
        show (a ≤ x ∧ x < if e < p.1 then e else p.1) ∨ _ ↔ _
        split <;> grind
    · rename_i z
      refine ⟨i1, fun q m => by have := i2 q m; omega, fun x => ?_⟩
      rw [List.nil_append, i3, in_cons]
      have : In x r → p.2 < x := fun m => h.after m
      grind
/-- runs: the loop -/
def runStep (f : C) (x : Int) : C := match f.getLast? with
  | some p => if p.2 = x then f.dropLast ++ [(p.1, x + 1)] else f ++ [(x, x + 1)]
  | none => f ++ [(x, x + 1)]
def runsL (l : List Int) : C := l.foldl runStep []
def sz (c : C) : Int := (c.map fun p => p.2 - p.1).sum
structure RS (pre : List Int) (f : C) : Prop where
  cv : Cv f
  ins : ∀ x, In x f ↔ x ∈ pre
  le : ∀ p ∈ f, p.2 - 1 ∈ pre
  sz : sz f = pre.length
theorem RS.step {pre : List Int} {f : C} (h : RS pre f) {x : Int} (hx : ∀ y ∈ pre, y < x) : RS (pre ++ [x]) (runStep f x) := by
  unfold runStep
  split
  · rename_i p hp
    have hf : f = f.dropLast ++ [p] := by
      obtain ⟨ys, e⟩ := List.getLast?_eq_some_iff.1 hp
      rw [e, List.dropLast_concat]
    have hpm : p ∈ f := by rw [hf]; simp
    have hl := hx _ (h.le p hpm)
    split
    · rename_i z
      have cv := h.cv
      have i := h.ins
      have s := h.sz
      have le := h.le
      rw [hf] at cv i s le
      generalize f.dropLast = g at cv i s le
      have cg : Cv g := ⟨(List.pairwise_append.1 cv.1).1, fun x m => cv.2 x (by simp [m])⟩
      have lg : ∀ q ∈ g, q.2 < p.1 := fun q m => (List.pairwise_append.1 cv.1).2.2 q m p (by simp)
      have hp2 := cv.2 p (by simp)
      refine ⟨cv_snoc cg lg (by show p.1 < x + 1; omega), fun y => ?_, fun q m => ?_, ?_⟩
      · have := i y
        simp only [in_app, in_cons] at this ⊢
        rw [List.mem_append, List.mem_singleton]
        grind [in_nil]
      · rw [List.mem_append] at m ⊢
        rcases m with m | m
        · exact .inl (le q (by simp [m]))
        · rw [List.mem_singleton] at m; subst m; right; simp
      · unfold Cov.sz at s ⊢
        simp at s ⊢
        omega
    · rename_i z
      refine ⟨cv_snoc h.cv (fun q m => ?_) (by show x < x + 1; omega), fun y => ?_, fun q m => ?_, ?_⟩
      · have a := hx _ (h.le q m)
        show q.2 < x
        by_cases qp : q = p
        · subst qp; omega
        · rw [hf] at m
          have cv := h.cv
          rw [hf] at cv
          have hm : q ∈ f.dropLast := by
            rcases List.mem_append.1 m with m | m
            · exact m
            · exact absurd (List.mem_singleton.1 m) qp
          have := (List.pairwise_append.1 cv.1).2.2 q hm p (by simp)
          have := h.cv.2 p hpm
          omega
      · rw [in_app, h.ins, in_cons, List.mem_append, List.mem_singleton]
        show _ ∨ (x ≤ y ∧ y < x + 1) ∨ _ ↔ _
        grind [in_nil]
      · rw [List.mem_append] at m ⊢
        rcases m with m | m
        · exact .inl (h.le q m)
        · rw [List.mem_singleton] at m; subst m; right; simp
      · have s := h.sz
        unfold Cov.sz at s ⊢
        simp at s ⊢
        omega
  · rename_i hp
    have hf : f = [] := by simpa using hp
    subst hf
    have hpre : pre = [] := by
      cases pre with
      | nil => rfl
      | cons a r => exact absurd ((h.ins a).2 (by simp)) in_nil
    subst hpre
    refine ⟨⟨by simp, by simp; omega⟩, fun y => by simp [In]; omega, by simp, by simp [Cov.sz]; omega⟩
theorem rs_all : ∀ (l pre : List Int) (f : C), RS pre f → (pre ++ l).Pairwise (· < ·) → RS (pre ++ l) (l.foldl runStep f)
  | [], pre, f, h, _ => by simpa using h
  | x :: r, pre, f, h, k => by
    have e : pre ++ x :: r = (pre ++ [x]) ++ r := by simp
    rw [e] at k ⊢
    refine rs_all r (pre ++ [x]) (runStep f x) (h.step fun y m => ?_) k
    have := (List.pairwise_append.1 (List.pairwise_append.1 k).1).2.2 y m x (by simp)
    exact this
theorem runs_ok {l : List Int} (h : l.Pairwise (· < ·)) : RS l (runsL l) := rs_all l [] [] ⟨⟨by simp, by simp⟩, fun x => by simp [In], by simp, rfl⟩ h
/-- the room that a cover takes -/
theorem sz_le : ∀ {c : C} {a b : Int}, Cv c → (∀ p ∈ c, a ≤ p.1 ∧ p.2 ≤ b) → a ≤ b → sz c ≤ b - a
  | [], _, _, _, _, h => by simp [sz]; omega
  | p :: r, a, b, h, k, _ => by
    have := k p (by simp)
    have hh := h.head
    have ih := sz_le (a := p.2) (b := b) h.tail (fun q m => ⟨Int.le_of_lt (hh.2 q m), (k q (by simp [m])).2⟩) this.2
    unfold sz at ih ⊢
    simp
    omega
end Cov

set_option Elab.async false
set_option linter.all false
set_option maxRecDepth 100000
set_option autoImplicit false
namespace DL
open PySem PySem.Spec PyProof.Rows L2
def pr (p : Int × Int) : D := .tup [.int p.1, .int p.2]
theorem pl_pr (n : Nat) (c : Cov.C) : (c.map pr).all (plain (n + 2)) = true := by
  rw [List.all_eq_true]; intro x m
  obtain ⟨p, _, rfl⟩ := List.mem_map.1 m
  rfl
theorem pl_prL (c : Cov.C) : plain 30 (.lst (c.map pr)) = true := pl_pr 27 c
/-- an end: none or a number -/
def dE : Option Int → D
  | none => .non
  | some e => .int e
def capE : Option Int → Int → Int
  | none, x => x
  | some e, x => if e < x then e else x
def lackD (e : Option Int) : Int → Cov.C → List D
  | a, [] => if e = none ∨ (∃ k, e = some k ∧ a < k) then [.tup [.int a, dE e]] else []
  | a, p :: r => (if a < p.1 ∧ (e = none ∨ ∃ k, e = some k ∧ a < k) then [.tup [.int a, .int (capE e p.1)]] else []) ++ lackD e p.2 r
theorem lack_len (e : Option Int) : ∀ (c : Cov.C) (a : Int), (lackD e a c).length ≤ c.length + 1
  | [], a => by unfold lackD; split <;> simp
  | p :: r, a => by
    have := lack_len e r p.2
    unfold lackD; split <;> simp <;> omega
theorem lackD_some (k : Int) : ∀ (c : Cov.C) (a : Int), lackD (some k) a c = (Cov.lackL k a c).map pr
  | [], a => by unfold lackD Cov.lackL; simp; split <;> rfl
  | p :: r, a => by
    unfold lackD Cov.lackL
    rw [lackD_some k r, List.map_append]; simp
    split <;> rfl
def endOf : Int → Cov.C → Int
  | a, [] => a
  | _, p :: r => endOf p.2 r
theorem endOf_le : ∀ (c : Cov.C) (a : Int), Cov.Cv c → (∀ p ∈ c, a ≤ p.1) → a ≤ endOf a c ∧ ∀ p ∈ c, p.2 ≤ endOf a c
  | [], a, _, _ => by simp [endOf]
  | p :: r, a, h, k => by
    obtain ⟨h1, h2⟩ := endOf_le r p.2 h.tail fun q m => Int.le_of_lt (h.head.2 q m)
    have a1 := k p (by simp)
    have a2 := h.head.1
    unfold endOf
    refine ⟨by omega, fun q m => ?_⟩
    simp at m
    rcases m with rfl | m
    · exact h1
    · exact h2 q m
theorem endOf_in : ∀ (c : Cov.C) (a : Int), Cov.Cv c → c ≠ [] → Cov.In (endOf a c - 1) c
  | [], _, _, h => absurd rfl h
  | p :: r, a, h, _ => by
    unfold endOf
    cases r with
    | nil => have := h.head.1; exact Cov.in_cons.2 (.inl (by simp [endOf]; omega))
    | cons q r => exact Cov.in_cons.2 (.inr (endOf_in (q :: r) p.2 h.tail (by simp)))
theorem lackD_none : ∀ (c : Cov.C) (a : Int), Cov.Cv c → (∀ p ∈ c, a ≤ p.1) → lackD none a c = (Cov.lackL (endOf a c) a c).map pr ++ [.tup [.int (endOf a c), .non]]
  | [], a, _, _ => by unfold lackD Cov.lackL endOf; simp; rfl
  | p :: r, a, h, k => by
    have ih := lackD_none r p.2 h.tail fun q m => Int.le_of_lt (h.head.2 q m)
    have hl := (endOf_le r p.2 h.tail fun q m => Int.le_of_lt (h.head.2 q m)).1
    have a1 := k p (by simp)
    have a2 := h.head.1
    unfold lackD Cov.lackL endOf
    rw [ih, List.map_append]
    have e1 : ¬ endOf p.2 r < p.1 := by omega
    have e2 : (a < p.1 ∧ a < endOf p.2 r) ↔ a < p.1 := by omega
    simp only [e1, e2, if_false]
    simp
    split <;> rfl
theorem eqDs_nil (l : List D) : eqDs l [] = l.isEmpty := by cases l <;> (unfold eqDs; rfl)
end DL

set_option Elab.async false
set_option linter.all false
set_option maxRecDepth 100000
set_option autoImplicit false
namespace DL
open PySem PySem.Spec PyProof.Rows L2
/-! ### what pieces come to: plain -/
abbrev Bt := List (Key × D)
def has (bt : Bt) (x : Int) : Bool := (lookD bt (.inl x)).isSome
/-- bytes by their numbers -/
structure Bts (bt : Bt) : Prop where
  kv : ∀ p ∈ bt, ∃ (i v : Int), p = (.inl i, .int v) ∧ 0 ≤ i ∧ i < 4000
  nd : (bt.map (·.1)).Nodup
theorem lookD_mem {bt : Bt} {k : Key} {d : D} (h : lookD bt k = some d) : (k, d) ∈ bt := by
  unfold lookD at h
  cases q : bt.find? (fun p => decide (p.1 = k)) with
  | none => rw [q] at h; cases h
  | some p =>
    rw [q] at h
    cases h
    have h1 := List.find?_some q
    have h2 := List.mem_of_find?_eq_some q
    have : p.1 = k := by simpa using h1
    rw [← this]; exact h2
theorem Bts.int {bt : Bt} (h : Bts bt) {x : Int} {d : D} (e : lookD bt (.inl x) = some d) : ∃ v : Int, d = .int v ∧ 0 ≤ x ∧ x < 4000 := by
  obtain ⟨i, v, q, h0, h1⟩ := h.kv _ (lookD_mem e)
  cases q
  exact ⟨v, rfl, h0, h1⟩
theorem Bts.has {bt : Bt} (h : Bts bt) {x : Int} (e : has bt x = true) : ∃ v : Int, lookD bt (.inl x) = some (.int v) ∧ 0 ≤ x ∧ x < 4000 := by
  unfold DL.has at e
  obtain ⟨d, hd⟩ := Option.isSome_iff_exists.1 e
  obtain ⟨v, rfl, h0, h1⟩ := h.int hd
  exact ⟨v, hd, h0, h1⟩
theorem lookD_some_of_mem {bt : Bt} {k : Key} (h : k ∈ bt.map (·.1)) : (lookD bt k).isSome = true := by
  obtain ⟨p, hp, e⟩ := List.mem_map.1 h
  rw [← lookD_any]
  rw [List.any_eq_true]
  exact ⟨p, hp, by simpa using e⟩
/-- the keys as numbers -/
def keysI (bt : Bt) : List Int := bt.filterMap fun p => match p.1 with | .inl i => some i | .inr _ => none
theorem Bts.keys {bt : Bt} (h : Bts bt) : bt.map (fun p => keyD p.1) = (keysI bt).map D.int ∧ bt.map (·.1) = (keysI bt).map Sum.inl ∧ (keysI bt).length = bt.length := by
  have hk := h.kv
  clear h
  induction bt with
  | nil => exact ⟨rfl, rfl, rfl⟩
  | cons p r ih =>
    obtain ⟨i, v, rfl, _, _⟩ := hk p (by simp)
    obtain ⟨h1, h2, h3⟩ := ih fun q m => hk q (by simp [m])
    have e : keysI ((Sum.inl i, D.int v) :: r) = i :: keysI r := rfl
    rw [e]
    exact ⟨by rw [List.map_cons, List.map_cons, h1]; rfl, by rw [List.map_cons, List.map_cons, h2], by simp [h3]⟩
theorem Bts.mem_keys {bt : Bt} (h : Bts bt) {x : Int} : x ∈ keysI bt ↔ DL.has bt x = true := by
  obtain ⟨_, h2, _⟩ := h.keys
  constructor
  · intro m
    exact lookD_some_of_mem (by rw [h2]; exact List.mem_map.2 ⟨x, m, rfl⟩)
  · intro e
    obtain ⟨d, hd⟩ := Option.isSome_iff_exists.1 e
    have this : (Sum.inl x : Key) ∈ bt.map (·.1) := List.mem_map.2 ⟨_, lookD_mem hd, rfl⟩
    rw [h2] at this
    obtain ⟨y, hy, e⟩ := List.mem_map.1 this
    cases e
    exact hy
theorem Bts.nodupI {bt : Bt} (h : Bts bt) : (keysI bt).Nodup := by
  have := h.nd
  rw [h.keys.2.1] at this
  rw [List.Nodup, List.pairwise_map] at this
  exact this.imp fun hne e => hne (by rw [e])
theorem nodup_le : ∀ (n : Nat) {l : List Int}, l.Nodup → (∀ x ∈ l, 0 ≤ x ∧ x < n) → l.length ≤ n
  | 0, l, _, hb => by
    cases l with
    | nil => simp
    | cons a r => have := hb a (by simp); omega
  | n + 1, l, h, hb => by
    have h1 := nodup_le n (l := l.erase (n : Int)) (h.erase _) fun x m => by
      have := (h.mem_erase_iff).1 m
      have := hb x this.2
      omega
    rw [List.length_erase] at h1
    split at h1 <;> omega
theorem Bts.len {bt : Bt} (h : Bts bt) : bt.length ≤ 4000 := by
  rw [← h.keys.2.2]
  refine nodup_le 4000 h.nodupI fun x m => ?_
  obtain ⟨v, _, h0, h1⟩ := h.has (h.mem_keys.1 m)
  exact ⟨h0, h1⟩
theorem putD_keys (bt : Bt) (k : Key) (d : D) : (putD bt k d).map (·.1) = if (bt.any fun p => decide (p.1 = k)) = true then bt.map (·.1) else bt.map (·.1) ++ [k] := by
  unfold putD
  split
  · rw [List.map_map]
    apply List.map_congr_left
    intro p _
    show (if p.1 = k then (p.1, d) else p).1 = p.1
    split <;> rfl
  · rw [List.map_append]; rfl
theorem Bts.put {bt : Bt} (h : Bts bt) {i v : Int} (hi : 0 ≤ i ∧ i < 4000) : Bts (putD bt (.inl i) (.int v)) := by
  refine ⟨fun p m => ?_, ?_⟩
  · unfold putD at m
    split at m
    · obtain ⟨q, hq, e⟩ := List.mem_map.1 m
      obtain ⟨j, w, rfl, h0, h1⟩ := h.kv q hq
      split at e
      · subst e; exact ⟨j, v, rfl, h0, h1⟩
      · subst e; exact ⟨j, w, rfl, h0, h1⟩
    · rcases List.mem_append.1 m with m | m
      · exact h.kv p m
      · rw [List.mem_singleton.1 m]; exact ⟨i, v, rfl, hi⟩
  · rw [putD_keys]
    split
    · exact h.nd
    · rename_i q
      rw [List.nodup_append]
      refine ⟨h.nd, by simp, fun a m b n => ?_⟩
      simp at n
      subst n
      intro e
      subst e
      obtain ⟨p, hp, e⟩ := List.mem_map.1 m
      exact q (List.any_eq_true.2 ⟨p, hp, by simpa using e⟩)
theorem has_put {bt : Bt} {i v x : Int} : has (putD bt (.inl i) (.int v)) x = (decide (x = i) || has bt x) := by
  unfold has
  rw [lookD_put]
  by_cases q : x = i
  · subst q; simp
  · rw [if_neg (fun z => q (Sum.inl.inj z))]; simp [q]
/-- a byte that stands otherwise -/
def difF (bt : Bt) (a b : Int) : Bool := match lookD bt (.inl a) with | some (.int v) => !(v == b) | _ => false
/-- the first number of a byte that stands otherwise -/
def clashF (bt : Bt) : Int → List Int → Option Int
  | _, [] => none
  | a, b :: r => if difF bt a b = true then some a else clashF bt (a + 1) r
theorem get2_ok {fo fi fd : EF} {s : Sl} {C : Cells} {nb : Nat} {bt : Bt} {a b : Int} (ho : fo s C = .ok (.cel nb) C) (hd : C.get nb = some (.dk bt)) (hi : fi s C = .ok (.int a) C) (hdf : fd s C = .ok (.int b) C) : eGet2 fo fi fd s C = .ok ((lookD bt (.inl a)).getD (.int b)) C := by
  have g0 : dGetK C (.cel nb) (.int 0) = some (lookD bt (.inl 0)) := dget_cel hd rfl
  have g1 : dGetK C (.cel nb) (.int a) = some (lookD bt (.inl a)) := dget_cel hd rfl
  rw [eGet2_ap, ho, bind_ok, g0]
  dsimp only
  rw [hi, bind_ok, hdf, bind_ok, g1]
  cases lookD bt (.inl a) <;> rfl
theorem dif_ok {bt : Bt} (h : Bts bt) (a b : Int) (C : Cells) : dNe ((lookD bt (.inl a)).getD (.int b)) (.int b) C = .ok (.bl (difF bt a b)) C ∧ dNeV ((lookD bt (.inl a)).getD (.int b)) (.int b) C = .ok (.bl (difF bt a b)) C := by
  unfold difF
  cases e : lookD bt (.inl a) with
  | none =>
    show dNe (.int b) (.int b) C = _ ∧ dNeV (.int b) (.int b) C = _
    simp
  | some d =>
    obtain ⟨v, rfl, _, _⟩ := h.int e
    show dNe (.int v) (.int b) C = _ ∧ dNeV (.int v) (.int b) C = _
    simp
/-- the bytes put in -/
def putF (last : Bool) : Bt → Int → List Int → Bt
  | bt, _, [] => bt
  | bt, a, b :: r => putF last (if last = true ∨ has bt a = false then putD bt (.inl a) (.int b) else bt) (a + 1) r
theorem putF_ok (last : Bool) : ∀ (bs : List Int) (bt : Bt) (a : Int), Bts bt → 0 ≤ a → a + bs.length ≤ 4000 → Bts (putF last bt a bs) ∧ ∀ x, has (putF last bt a bs) x = (has bt x || (decide (a ≤ x) && decide (x < a + bs.length)))
  | [], bt, a, h, _, _ => by
    refine ⟨h, fun x => ?_⟩
    have : (decide (a ≤ x) && decide (x < a + (([] : List Int).length : Int))) = false := by
      rw [Bool.eq_false_iff]; simp
    rw [this]; simp [putF]
  | b :: r, bt, a, h, h0, h1 => by
    have hl : ((b :: r).length : Int) = r.length + 1 := by simp
    rw [hl] at h1
    have hb : Bts (if last = true ∨ has bt a = false then putD bt (.inl a) (.int b) else bt) := by
      split
      · exact h.put ⟨h0, by omega⟩
      · exact h
    have hh : ∀ x, has (if last = true ∨ has bt a = false then putD bt (.inl a) (.int b) else bt) x = (has bt x || decide (x = a)) := fun x => by
      split
      · rw [has_put, Bool.or_comm]
      · rename_i q
        have : has bt a = true := by
          cases e : has bt a with
          | true => rfl
          | false => exact absurd (.inr e) q
        by_cases z : x = a
        · subst z; simp [this]
        · simp [z]
    obtain ⟨i1, i2⟩ := putF_ok last r _ (a + 1) hb (by omega) (by omega)
    refine ⟨i1, fun x => ?_⟩
    show has (putF last _ (a + 1) r) x = _
    rw [i2, hh, hl]
    cases has bt x
    · simp only [Bool.false_or]
      rw [Bool.eq_iff_iff]
      simp only [Bool.or_eq_true, Bool.and_eq_true, decide_eq_true_eq]
      omega
    · simp
/-- a piece that ends at e does not fit -/
def strangeH (lend : Option Int) (most e : Int) (mo : Bool) : Bool := match lend with
  | some k => decide (k < e) || (mo && decide (e = k)) || (!mo && !decide (e = k))
  | none => !mo && decide (e ≤ most)
/-- the numbers below e that lack -/
def lackK (bt : Bt) (e : Int) : Cov.C := Cov.runsL ((rng 0 e.toNat).filter fun x => !has bt x)
theorem lackK_ok (bt : Bt) (e : Int) : Cov.Cv (lackK bt e) ∧ ∀ x, Cov.In x (lackK bt e) ↔ (0 ≤ x ∧ x < e ∧ has bt x = false) := by
  have h := Cov.runs_ok (l := (rng 0 e.toNat).filter fun x => !has bt x) (rng_lt.filter _)
  refine ⟨h.cv, fun x => ?_⟩
  unfold lackK
  rw [h.ins, List.mem_filter, mem_rng]
  cases has bt x <;> simp <;> omega
/-- behind the greatest number -/
def topK (bt : Bt) : Int := maxL (-1 :: keysI bt) + 1
def lacksP (bt : Bt) : Option Int → List D
  | some e => (lackK bt e).map pr
  | none => (lackK bt (topK bt)).map pr ++ [.tup [.int (topK bt), .non]]
structure Hs where
  bt : Bt
  lend : Option Int
  most : Int
def Hs0 : Hs := ⟨[], none, 0⟩
inductive Ans where
  | whole (l : List D) | lacking (l : List D) | unlike (a : Int)
def endP (x : Pc) : Int := x.at_ + x.bs.length
def Hs.strange (s : Hs) (x : Pc) : Bool := strangeH s.lend s.most (endP x) x.mo
def Hs.take (s : Hs) (last : Bool) (x : Pc) : Hs := ⟨putF last s.bt x.at_ x.bs, if x.mo = true then s.lend else some (endP x), if x.mo = true then (if endP x > s.most then endP x else s.most) else s.most⟩
def Hs.trouble (s : Hs) (refuse : Bool) (x : Pc) : Option Int := if refuse = true then (if s.strange x = true then some x.at_ else clashF s.bt x.at_ x.bs) else none
def Hs.lacks (s : Hs) : List D := lacksP s.bt s.lend
def bytesP (bt : Bt) (e : Int) : List D := (rng 0 e.toNat).map fun x => (lookD bt (.inl x)).getD .non
def Hs.bytes (s : Hs) : List D := match s.lend with | some e => bytesP s.bt e | none => []
def judgeP (refuse last : Bool) : Hs → List Pc → Ans
  | s, [] => .lacking s.lacks
  | s, x :: r => match s.trouble refuse x with
    | some a => .unlike a
    | none => if s.strange x = true then judgeP refuse last s r else
      if (s.take last x).lacks = [] then .whole (s.take last x).bytes else judgeP refuse last (s.take last x) r
/-- what stands in a heap that took valid pieces -/
structure Hok (s : Hs) : Prop where
  b : Bts s.bt
  e : ∀ k, s.lend = some k → 0 < k ∧ k ≤ 4000
  m : 0 ≤ s.most ∧ s.most ≤ 4000
theorem hok0 : Hok Hs0 := ⟨⟨by simp [Hs0], by simp [Hs0]⟩, fun k h => by simp [Hs0] at h, by simp [Hs0]⟩
theorem Hok.take {s : Hs} (h : Hok s) {x : Pc} (last : Bool) (ha : 0 ≤ x.at_) (hl : 1 ≤ x.bs.length) (he : endP x ≤ 4000) : Hok (s.take last x) := by
  unfold endP at he
  refine ⟨(putF_ok last x.bs s.bt x.at_ h.b ha he).1, fun k hk => ?_, ?_⟩
  · unfold Hs.take at hk
    dsimp only at hk
    split at hk
    · exact h.e k hk
    · cases hk; unfold endP; omega
  · have := h.m
    unfold Hs.take endP
    dsimp only
    split
    · split <;> omega
    · exact this
theorem topK_ok {bt : Bt} (h : Bts bt) : 0 ≤ topK bt ∧ topK bt ≤ 4000 ∧ (∀ x, has bt x = true → x < topK bt) ∧ (0 < topK bt → has bt (topK bt - 1) = true) := by
  obtain ⟨h1, h2⟩ := maxL_ok (l := -1 :: keysI bt) (by simp)
  have hm := h2 (-1) (by simp)
  unfold topK
  generalize maxL (-1 :: keysI bt) = M at *
  refine ⟨by omega, ?_, fun x hx => ?_, fun hp => ?_⟩
  · rcases List.mem_cons.1 h1 with h1 | h1
    · omega
    · obtain ⟨v, _, h0, h1⟩ := h.has (h.mem_keys.1 h1)
      omega
  · have := h2 x (List.mem_cons_of_mem _ (h.mem_keys.2 hx))
    omega
  · rcases List.mem_cons.1 h1 with h1 | h1
    · omega
    · have := h.mem_keys.1 h1
      rwa [show M + 1 - 1 = M by omega]
/-- the cover of what stands -/
structure Hcv (c : Cov.C) (bt : Bt) : Prop where
  cv : Cov.Cv c
  ins : ∀ x, Cov.In x c ↔ has bt x = true
theorem Hcv.nn {c : Cov.C} {bt : Bt} (h : Hcv c bt) (b : Bts bt) : ∀ p ∈ c, 0 ≤ p.1 ∧ p.2 ≤ 4000 := fun p m => by
  have h1 := h.cv.2 p m
  obtain ⟨_, _, a, _⟩ := b.has ((h.ins p.1).1 ⟨p, m, Int.le_refl _, h1⟩)
  obtain ⟨_, _, _, d⟩ := b.has ((h.ins (p.2 - 1)).1 ⟨p, m, by omega, by omega⟩)
  omega
theorem len_sz' : ∀ {c : Cov.C}, Cov.Cv c → (c.length : Int) ≤ Cov.sz c
  | [], _ => by simp [Cov.sz]
  | p :: r, h => by
    have ih := len_sz' h.tail
    have := h.head.1
    unfold Cov.sz at ih ⊢
    simp
    omega
theorem Hcv.len {c : Cov.C} {bt : Bt} (h : Hcv c bt) (b : Bts bt) : c.length ≤ 4000 := by
  have h1 := len_sz' h.cv
  have h2 := Cov.sz_le h.cv (fun p m => (h.nn b p m : 0 ≤ p.1 ∧ p.2 ≤ 4000)) (by decide)
  omega
theorem Hcv.lack {c : Cov.C} {bt : Bt} (h : Hcv c bt) (b : Bts bt) (e : Int) : Cov.lackL e 0 c = lackK bt e := by
  obtain ⟨i1, i2, i3⟩ := Cov.lack_ok e c 0 h.cv fun p m => (h.nn b p m).1
  obtain ⟨j1, j2⟩ := lackK_ok bt e
  refine Cov.cv_unique i1 j1 fun x => ?_
  rw [i3, j2, h.ins]
  simp
theorem Hcv.endOf {c : Cov.C} {bt : Bt} (h : Hcv c bt) (b : Bts bt) : endOf 0 c = topK bt := by
  obtain ⟨t0, t1, t2, t3⟩ := topK_ok b
  obtain ⟨k1, k2⟩ := endOf_le c 0 h.cv fun p m => (h.nn b p m).1
  by_cases q : c = []
  · subst q
    have : ¬ 0 < topK bt := fun z => by
      have := (h.ins _).2 (t3 z)
      simp [Cov.In] at this
    show (0 : Int) = _
    omega
  · have h1 := t2 _ ((h.ins _).1 (endOf_in c 0 h.cv q))
    have h2 : 0 < topK bt := by
      cases c with
      | nil => exact absurd rfl q
      | cons p r =>
        have := h.nn b p (by simp)
        have := h.cv.2 p (by simp)
        have := k2 p (by simp)
        omega
    obtain ⟨p, hp, a, d⟩ := (h.ins _).2 (t3 h2)
    have := k2 p hp
    omega
theorem Hcv.lacks {c : Cov.C} {bt : Bt} (h : Hcv c bt) (b : Bts bt) (e : Option Int) : lackD e 0 c = lacksP bt e := by
  cases e with
  | some k => rw [lackD_some, h.lack b]; rfl
  | none => rw [lackD_none c 0 h.cv fun p m => (h.nn b p m).1, h.lack b, h.endOf b]; rfl
/-- nothing lacks: all bytes stand -/
theorem lacks_nil {bt : Bt} {e : Option Int} (h : lacksP bt e = []) : ∃ k, e = some k ∧ ∀ x, 0 ≤ x → x < k → has bt x = true := by
  cases e with
  | none => simp [lacksP] at h
  | some k =>
    refine ⟨k, rfl, fun x h0 h1 => ?_⟩
    have h' : lackK bt k = [] := by simpa [lacksP] using h
    obtain ⟨_, j2⟩ := lackK_ok bt k
    cases q : has bt x with
    | true => rfl
    | false =>
      have := (j2 x).2 ⟨h0, h1, q⟩
      rw [h'] at this
      simp [Cov.In] at this
/-! ### fields of objects that are cells -/
theorem fld_cel {T : Tab} {k n c i : Nat} {l : List D} {C : Cells} {d : D} (h : C.get n = some (.obj c l)) (hk : c < T.ncl ∧ k ∈ T.fl c) (hi : (T.fl c).idxOf k = i) (hd : l[i]? = some d) : fld T k (.cel n) C = .ok d C := by
  have ho : objOf C (.cel n) = some (c, l) := by unfold objOf; simp only [h]
  unfold fld
  simp only [ho]
  rw [if_pos hk, hi, hd]
theorem setFld_cel {T : Tab} {k n c i : Nat} {l : List D} {C : Cells} {d : D} (h : C.get n = some (.obj c l)) (hk : c < T.ncl ∧ k ∈ T.fl c) (hi : (T.fl c).idxOf k = i) (hlt : i < l.length) : setFld T k (.cel n) d C = some (C.set n (.obj c (l.set i d))) := by
  unfold setFld
  simp only [h]
  rw [if_pos hk, hi, if_pos hlt]
theorem setFld_add {T : Tab} {k n c i : Nat} {l : List D} {C : Cells} {d : D} (h : C.get n = some (.obj c l)) (hk : c < T.ncl ∧ k ∈ T.fl c) (hi : (T.fl c).idxOf k = i) (hlt : i = l.length) : setFld T k (.cel n) d C = some (C.set n (.obj c (l ++ [d]))) := by
  unfold setFld
  simp only [h]
  rw [if_pos hk, hi, if_neg (by omega), if_pos hlt]
theorem objOf_cel {C : Cells} {n c : Nat} {l : List D} (h : C.get n = some (.obj c l)) : objOf C (.cel n) = some (c, l) := by unfold objOf; simp only [h]
@[simp] theorem dEq_b (i j : Bool) (C : Cells) : dEq (.bl i) (.bl j) C = .ok (.bl (i == j)) C := rfl
@[simp] theorem dNe_b (i j : Bool) (C : Cells) : dNe (.bl i) (.bl j) C = .ok (.bl (!(i == j))) C := rfl
/-! ### the three rules -/
inductive Rule where | first | last | refuse
def Rule.s : Rule → Str
  | .first => "first"
  | .last => "last"
  | .refuse => "refuse"
def Rule.r : Rule → Bool
  | .refuse => true
  | _ => false
def Rule.l : Rule → Bool
  | .last => true
  | _ => false
theorem neV_p {x y : D} {C : Cells} (hx : plain 30 x = true) (hy : plain 30 y = true) : dNeV x y C = .ok (.bl (!eqD x y)) C := by
  unfold dNeV; rw [vwn_plain 30 30 C x hx, vwn_plain 30 30 C y hy, hx, hy]; rfl
theorem eqV_p {x y : D} {C : Cells} (hx : plain 30 x = true) (hy : plain 30 y = true) : dEqV x y C = .ok (.bl (eqD x y)) C := by
  unfold dEqV; rw [vwn_plain 30 30 C x hx, vwn_plain 30 30 C y hy, hx, hy]; rfl
theorem dNe_str {a b : Str} {C : Cells} (ha : plain 30 (.str a) = true) (hb : plain 30 (.str b) = true) : dNe (.str a) (.str b) C = .ok (.bl (!eqD (.str a) (.str b))) C := by
  unfold dNe; rw [vw_str, vw_str, ha, hb]; rfl
theorem dEq_str {a b : Str} {C : Cells} (ha : plain 30 (.str a) = true) (hb : plain 30 (.str b) = true) : dEq (.str a) (.str b) C = .ok (.bl (eqD (.str a) (.str b))) C := by
  unfold dEq; rw [vw_str, vw_str, ha, hb]; rfl
theorem Rule.ne (r : Rule) (C : Cells) : dNe (.str r.s) (.str "refuse") C = .ok (.bl (!r.r)) C ∧ dNeV (.str r.s) (.str "refuse") C = .ok (.bl (!r.r)) C := by
  cases r <;> exact ⟨(dNe_str (by decide +kernel) (by decide +kernel)).trans (congrArg (fun b => Res.ok (D.bl b) C) (by decide +kernel)), (neV_p (by decide +kernel) (by decide +kernel)).trans (congrArg (fun b => Res.ok (D.bl b) C) (by decide +kernel))⟩
theorem Rule.eq (r : Rule) (C : Cells) : dEq (.str r.s) (.str "last") C = .ok (.bl r.l) C ∧ dEqV (.str r.s) (.str "last") C = .ok (.bl r.l) C := by
  cases r <;> exact ⟨(dEq_str (by decide +kernel) (by decide +kernel)).trans (congrArg (fun b => Res.ok (D.bl b) C) (by decide +kernel)), (eqV_p (by decide +kernel) (by decide +kernel)).trans (congrArg (fun b => Res.ok (D.bl b) C) (by decide +kernel))⟩
theorem Rule.eqr (r : Rule) (C : Cells) : dEq (.str r.s) (.str "refuse") C = .ok (.bl r.r) C ∧ dEqV (.str r.s) (.str "refuse") C = .ok (.bl r.r) C := by
  cases r <;> exact ⟨(dEq_str (by decide +kernel) (by decide +kernel)).trans (congrArg (fun b => Res.ok (D.bl b) C) (by decide +kernel)), (eqV_p (by decide +kernel) (by decide +kernel)).trans (congrArg (fun b => Res.ok (D.bl b) C) (by decide +kernel))⟩
theorem Rule.mem (r : Rule) (C : Cells) : dInG true (.str r.s) (.ktp [.str "first", .str "last", .str "refuse"]) C = .ok (.bl false) C := by cases r <;> rfl
def Rule.judge (r : Rule) (xs : List Pc) : Ans := judgeP r.r r.l Hs0 xs
@[simp] theorem isN_dE (e : Option Int) : isN (dE e) = e.isNone := by cases e <;> rfl
end DL

set_option Elab.async false
set_option linter.all false
set_option maxRecDepth 100000
set_option autoImplicit false
namespace DL
open PySem PySem.Spec PyProof.Rows L2
/-! ### pieces of one letter, in any order -/
/-- y is a true part of a letter of the bytes B -/
structure Tru (B : List Int) (y : Pc) : Prop where
  a : 0 ≤ y.at_
  l : 1 ≤ y.bs.length
  e : endP y ≤ B.length
  s : ∀ i, i < y.bs.length → B[y.at_.toNat + i]? = y.bs[i]?
  m : y.mo = decide (endP y < B.length)
structure Sok (B : List Int) (s : Hs) : Prop where
  ok : Hok s
  v : ∀ x d, lookD s.bt (.inl x) = some d → ∃ v, B[x.toNat]? = some v ∧ d = .int v
  b : ∀ x, has s.bt x = true → 0 ≤ x ∧ x < B.length
  e : s.lend = if has s.bt (B.length - 1) = true then some (B.length : Int) else none
  m : s.most < B.length
def cvr (y : Pc) (z : Int) : Prop := y.at_ ≤ z ∧ z < endP y
theorem sok0 {B : List Int} (hB : 1 ≤ B.length) : Sok B Hs0 := ⟨hok0, fun x d h => by simp [Hs0, lookD] at h, fun x h => by simp [Hs0, has, lookD] at h, by simp [Hs0, has, lookD], by simp [Hs0]; omega⟩
theorem Sok.fits {B : List Int} {s : Hs} {y : Pc} (S : Sok B s) (T : Tru B y) : s.strange y = false := by
  unfold Hs.strange strangeH
  have hm := T.m
  have he := T.e
  have h0 := S.m
  rw [S.e, hm]
  by_cases q : endP y < B.length
  · split
    · rename_i k hk
      split at hk
      · cases hk
        rw [decide_eq_true q]
        simp; omega
      · cases hk
    · rw [decide_eq_true q]; rfl
  · have qe : endP y = B.length := by omega
    rw [decide_eq_false q]
    split
    · rename_i k hk
      split at hk
      · cases hk
        simp; omega
      · cases hk
    · simp; omega
theorem clash_tru {bt : Bt} {B : List Int} (hv : ∀ x d, lookD bt (.inl x) = some d → ∃ v, B[x.toNat]? = some v ∧ d = .int v) : ∀ (bs : List Int) (a : Int), 0 ≤ a → (∀ i, i < bs.length → B[a.toNat + i]? = bs[i]?) → clashF bt a bs = none
  | [], a, _, _ => rfl
  | b :: r, a, h0, h => by
    have hb : B[a.toNat]? = some b := by simpa using h 0 (by simp)
    have d : difF bt a b = false := by
      unfold difF
      cases e : lookD bt (.inl a) with
      | none => rfl
      | some d =>
        obtain ⟨v, h1, rfl⟩ := hv a d e
        rw [hb] at h1; cases h1; simp
    unfold clashF
    rw [d]
    refine clash_tru hv r (a + 1) (by omega) fun i hi => ?_
    have := h (i + 1) (by simp; omega)
    rw [show (a + 1).toNat + i = a.toNat + (i + 1) by omega, this]; rfl
theorem put_tru {last : Bool} {B : List Int} : ∀ (bs : List Int) (bt : Bt) (a : Int), (∀ x d, lookD bt (.inl x) = some d → ∃ v, B[x.toNat]? = some v ∧ d = .int v) → 0 ≤ a → (∀ i, i < bs.length → B[a.toNat + i]? = bs[i]?) →
    ∀ x d, lookD (putF last bt a bs) (.inl x) = some d → ∃ v, B[x.toNat]? = some v ∧ d = .int v
  | [], bt, a, hv, _, _ => hv
  | b :: r, bt, a, hv, h0, h => by
    have hb : B[a.toNat]? = some b := by simpa using h 0 (by simp)
    refine put_tru r _ (a + 1) (fun x d e => ?_) (by omega) fun i hi => ?_
    · split at e
      · rw [lookD_put] at e
        split at e
        · rename_i q
          cases q; cases e
          exact ⟨b, hb, rfl⟩
        · exact hv x d e
      · exact hv x d e
    · have := h (i + 1) (by simp; omega)
      rw [show (a + 1).toNat + i = a.toNat + (i + 1) by omega, this]; rfl
theorem Sok.take {B : List Int} {s : Hs} {y : Pc} (hB : 1 ≤ B.length ∧ B.length ≤ 4000) (S : Sok B s) (T : Tru B y) (last : Bool) : Sok B (s.take last y) ∧ ∀ x, has (s.take last y).bt x = true ↔ has s.bt x = true ∨ cvr y x := by
  have te := T.e
  have ta := T.a
  have tl := T.l
  have hb : ∀ x, has (s.take last y).bt x = true ↔ has s.bt x = true ∨ cvr y x := fun x => by
    have := (putF_ok last y.bs s.bt y.at_ S.ok.b ta (by unfold endP at te; omega)).2 x
    show has (putF last s.bt y.at_ y.bs) x = true ↔ _
    rw [this]
    unfold cvr endP
    simp
  refine ⟨⟨S.ok.take last ta tl (by omega), put_tru y.bs s.bt y.at_ S.v ta T.s, fun x h => ?_, ?_, ?_⟩, hb⟩
  · rcases (hb x).1 h with h | h
    · exact S.b x h
    · unfold cvr at h; omega
  · show (if y.mo = true then s.lend else some (endP y)) = _
    by_cases q : endP y < B.length
    · rw [T.m, decide_eq_true q, if_pos rfl, S.e]
      have : has (s.take last y).bt (B.length - 1) = has s.bt (B.length - 1) := by
        rw [Bool.eq_iff_iff, hb]
        unfold cvr
        constructor
        · rintro (h | h)
          · exact h
          · omega
        · exact .inl
      rw [this]
    · have : has (s.take last y).bt (B.length - 1) = true := (hb _).2 (.inr (by unfold cvr; unfold endP at *; omega))
      rw [T.m, decide_eq_false q, this]
      simp; omega
  · show (if y.mo = true then (if endP y > s.most then endP y else s.most) else s.most) < _
    have := S.m
    split
    · rename_i q
      rw [T.m] at q
      have := of_decide_eq_true q
      split <;> omega
    · exact this
theorem Sok.full {B : List Int} {s : Hs} (hB : 1 ≤ B.length) (S : Sok B s) (h : ∀ x : Int, 0 ≤ x → x < B.length → has s.bt x = true) : s.lacks = [] := by
  have e := S.e
  rw [if_pos (h _ (by omega) (by omega))] at e
  unfold Hs.lacks
  rw [e]
  show (lackK s.bt B.length).map pr = []
  obtain ⟨j1, j2⟩ := lackK_ok s.bt B.length
  have : lackK s.bt B.length = [] := Cov.cv_unique j1 ⟨by simp, by simp⟩ fun x => by
    rw [j2]
    constructor
    · rintro ⟨h0, h1, h2⟩
      rw [h x h0 h1] at h2; cases h2
    · intro z; simp [Cov.In] at z
  rw [this]; rfl
theorem Sok.bytes {B : List Int} {s : Hs} (S : Sok B s) (h : s.lacks = []) : s.bytes = B.map D.int := by
  obtain ⟨k, hk, ha⟩ := lacks_nil h
  have e := S.e
  rw [hk] at e
  split at e
  · cases e
    unfold Hs.bytes
    rw [hk]
    show bytesP s.bt B.length = _
    unfold bytesP
    apply List.ext_getElem
    · simp [rng]
    · intro i h1 h2
      simp at h2
      have hi := ha i (by omega) (by omega)
      obtain ⟨d, hd⟩ := Option.isSome_iff_exists.1 hi
      obtain ⟨v, hv, rfl⟩ := S.v _ _ hd
      simp [rng] at hv ⊢
      rw [hd]
      rw [List.getElem?_eq_getElem h2] at hv
      cases hv; rfl
  · cases e
theorem judge_whole {B : List Int} (hB : 1 ≤ B.length ∧ B.length ≤ 4000) (r l : Bool) : ∀ (xs : List Pc) (s : Hs), Sok B s → (∀ y ∈ xs, Tru B y) → s.lacks ≠ [] → (∀ x : Int, 0 ≤ x → x < B.length → has s.bt x = true ∨ ∃ y ∈ xs, cvr y x) →
    judgeP r l s xs = .whole (B.map D.int)
  | [], s, S, _, hn, hc => absurd (S.full hB.1 fun x h0 h1 => by simpa using hc x h0 h1) hn
  | y :: xs, s, S, ht, hn, hc => by
    have T := ht y (by simp)
    have st := S.fits T
    have tr : s.trouble r y = none := by
      unfold Hs.trouble
      split
      · rw [st, clash_tru S.v y.bs y.at_ T.a T.s]; rfl
      · rfl
    obtain ⟨S', hb⟩ := S.take hB T l
    unfold judgeP
    rw [tr]
    simp only [st]
    by_cases q : (s.take l y).lacks = []
    · rw [if_neg (by decide), if_pos q, S'.bytes q]
    · rw [if_neg (by decide), if_neg q]
      refine judge_whole hB r l xs _ S' (fun z m => ht z (by simp [m])) q fun x h0 h1 => ?_
      rcases hc x h0 h1 with h | ⟨z, hz, h⟩
      · exact .inl ((hb x).2 (.inl h))
      · rcases List.mem_cons.1 hz with rfl | hz
        · exact .inl ((hb x).2 (.inr h))
        · exact .inr ⟨z, hz, h⟩
theorem judge_lacking {B : List Int} (hB : 1 ≤ B.length ∧ B.length ≤ 4000) (r l : Bool) {x0 : Int} (hx : 0 ≤ x0 ∧ x0 < B.length) : ∀ (xs : List Pc) (s : Hs), Sok B s → (∀ y ∈ xs, Tru B y) → has s.bt x0 = false → (∀ y ∈ xs, ¬ cvr y x0) →
    ∃ s', Sok B s' ∧ (∀ x, has s'.bt x = true ↔ has s.bt x = true ∨ ∃ y ∈ xs, cvr y x) ∧ judgeP r l s xs = .lacking s'.lacks
  | [], s, S, _, _, _ => ⟨s, S, by simp, rfl⟩
  | y :: xs, s, S, ht, h0, hn => by
    have T := ht y (by simp)
    have st := S.fits T
    have tr : s.trouble r y = none := by
      unfold Hs.trouble
      split
      · rw [st, clash_tru S.v y.bs y.at_ T.a T.s]; rfl
      · rfl
    obtain ⟨S', hb⟩ := S.take hB T l
    have h0' : has (s.take l y).bt x0 = false := by
      cases e : has (s.take l y).bt x0 with
      | false => rfl
      | true =>
        rcases (hb x0).1 e with e | e
        · rw [h0] at e; cases e
        · exact absurd e (hn y (by simp))
    have q : (s.take l y).lacks ≠ [] := fun z => by
      obtain ⟨k, hk, ha⟩ := lacks_nil z
      have e := S'.e
      rw [hk] at e
      split at e
      · cases e
        rw [ha x0 hx.1 hx.2] at h0'; cases h0'
      · cases e
    obtain ⟨s', S2, h2, j⟩ := judge_lacking hB r l hx xs _ S' (fun z m => ht z (by simp [m])) h0' fun z m => hn z (by simp [m])
    refine ⟨s', S2, fun x => ?_, ?_⟩
    · rw [h2, hb]
      constructor
      · rintro ((h | h) | ⟨z, m, h⟩)
        · exact .inl h
        · exact .inr ⟨y, by simp, h⟩
        · exact .inr ⟨z, by simp [m], h⟩
      · rintro (h | ⟨z, m, h⟩)
        · exact .inl (.inl h)
        · rcases List.mem_cons.1 m with rfl | m
          · exact .inl (.inr h)
          · exact .inr ⟨z, m, h⟩
    · conv => lhs; unfold judgeP
      rw [tr]
      simp only [st]
      rw [if_neg (by decide), if_neg q, j]
/-- one gap -/
theorem Sok.gap {B : List Int} {s : Hs} (hB : 1 ≤ B.length) (S : Sok B s) {p q : Int} (h0 : 0 ≤ p) (h1 : p < q) (h2 : q ≤ B.length) (hp : q = B.length → 0 < p) (hb : ∀ x, has s.bt x = true ↔ 0 ≤ x ∧ x < B.length ∧ ¬ (p ≤ x ∧ x < q)) :
    s.lacks = [.tup [.int p, if q < B.length then .int q else .non]] := by
  have nf : ∀ x, has s.bt x = false ↔ ¬ (0 ≤ x ∧ x < B.length ∧ ¬ (p ≤ x ∧ x < q)) := fun x => by rw [← hb]; simp
  unfold Hs.lacks
  rw [S.e]
  by_cases w : q < B.length
  · rw [if_pos ((hb _).2 (by omega)), if_pos w]
    obtain ⟨j1, j2⟩ := lackK_ok s.bt B.length
    have : lackK s.bt B.length = [(p, q)] := Cov.cv_unique j1 ⟨by simp, by simpa using h1⟩ fun x => by
      rw [j2, nf]
      simp [Cov.In]
      omega
    show (lackK s.bt B.length).map pr = _
    rw [this]; rfl
  · have hq : q = B.length := by omega
    rw [if_neg (by rw [hb]; omega), if_neg w]
    obtain ⟨t0, t1, t2, t3⟩ := topK_ok S.ok.b
    have e : topK s.bt = p := by
      have a1 := t2 (p - 1) ((hb _).2 (by have := hp hq; omega))
      have a2 := (hb _).1 (t3 (by omega))
      omega
    show (lackK s.bt (topK s.bt)).map pr ++ [.tup [.int (topK s.bt), .non]] = _
    rw [e]
    obtain ⟨j1, j2⟩ := lackK_ok s.bt p
    have : lackK s.bt p = [] := Cov.cv_unique j1 ⟨by simp, by simp⟩ fun x => by
      rw [j2, nf]
      simp [Cov.In]
      omega
    rw [this]; rfl
/-! ### a row that a letter stands as -/
theorem Tru.head {B : List Int} {x : Pc} (T : Tru B x) {s : Nat} (h0 : 0 < s) (h1 : s < x.bs.length) : Tru B (x.head s) := by
  have e := T.e
  have hl : (x.head s).bs.length = s := by simp [Pc.head]; omega
  have he : endP (x.head s) = x.at_ + s := by unfold endP; rw [hl]; rfl
  unfold endP at e
  refine ⟨T.a, by omega, by omega, fun i hi => ?_, ?_⟩
  · rw [hl] at hi
    have := T.s i (by omega)
    show B[x.at_.toNat + i]? = (x.bs.take s)[i]?
    rw [this, List.getElem?_take, if_pos hi]
  · rw [he]
    show true = _
    rw [decide_eq_true (by omega)]
theorem Tru.rest {B : List Int} {x : Pc} (T : Tru B x) {s : Nat} (h1 : s < x.bs.length) : Tru B (x.rest s) := by
  have e := T.e
  have a := T.a
  have hl : (x.rest s).bs.length = x.bs.length - s := by simp [Pc.rest]
  have ha : (x.rest s).at_ = x.at_ + s := rfl
  have he : endP (x.rest s) = endP x := by unfold endP; rw [hl, ha]; omega
  refine ⟨by omega, by omega, by omega, fun i hi => ?_, ?_⟩
  · rw [hl] at hi
    have := T.s (s + i) (by omega)
    rw [ha, show (x.at_ + s).toNat + i = x.at_.toNat + (s + i) by omega, this]
    show _ = (x.bs.drop s)[i]?
    rw [List.getElem?_drop]
  · rw [he]; exact T.m
theorem Div.tru {B : List Int} : ∀ {x : Pc} {ps : List Pc}, Div x ps → Tru B x → ∀ y ∈ ps, Tru B y := by
  intro x ps h
  induction h with
  | one x => intro T y m; rw [List.mem_singleton.1 m]; exact T
  | cons x s r h0 h1 h2 hr ih =>
    intro T y m
    rcases List.mem_cons.1 m with rfl | m
    · exact T.head h0 h1
    · exact ih (T.rest h1) y m
theorem cvr_head {x : Pc} {s : Nat} (h1 : s < x.bs.length) (z : Int) : cvr (x.head s) z ↔ x.at_ ≤ z ∧ z < x.at_ + s := by
  have hl : (x.head s).bs.length = s := by simp [Pc.head]; omega
  unfold cvr endP
  rw [hl]; rfl
theorem cvr_rest {x : Pc} {s : Nat} (h1 : s < x.bs.length) (z : Int) : cvr (x.rest s) z ↔ x.at_ + s ≤ z ∧ z < endP x := by
  have hl : (x.rest s).bs.length = x.bs.length - s := by simp [Pc.rest]
  have ha : (x.rest s).at_ = x.at_ + s := rfl
  unfold cvr endP
  rw [hl, ha]
  omega
theorem Div.cvr : ∀ {x : Pc} {ps : List Pc}, Div x ps → ∀ z, DL.cvr x z ↔ ∃ y ∈ ps, DL.cvr y z := by
  intro x ps h
  induction h with
  | one x => intro z; simp
  | cons x s r h0 h1 h2 hr ih =>
    intro z
    have a := cvr_head h1 z
    have b := cvr_rest h1 z
    have c := ih z
    have d : DL.cvr x z ↔ x.at_ ≤ z ∧ z < endP x := Iff.rfl
    constructor
    · intro h
      have h' := d.1 h
      by_cases q : z < x.at_ + s
      · exact ⟨_, by simp, a.2 (by omega)⟩
      · obtain ⟨y, m, h⟩ := c.1 (b.2 (by omega))
        exact ⟨y, by simp [m], h⟩
    · rintro ⟨y, m, h⟩
      have : endP x = x.at_ + x.bs.length := rfl
      rcases List.mem_cons.1 m with rfl | m
      · have := a.1 h; exact d.2 (by omega)
      · have := b.1 (c.2 ⟨y, m, h⟩); exact d.2 (by omega)
theorem Div.out : ∀ {x : Pc} {ps : List Pc}, Div x ps → ∀ (a : List Pc) (p : Pc) (b : List Pc), ps = a ++ p :: b → ∀ z, (∃ y ∈ a ++ b, DL.cvr y z) ↔ DL.cvr x z ∧ ¬ DL.cvr p z := by
  intro x ps h
  induction h with
  | one x =>
    intro a p b e z
    cases a with
    | nil =>
      cases e
      simp
    | cons q a =>
      have := congrArg List.length e
      simp at this
  | cons x s r h0 h1 h2 hr ih =>
    intro a p b e z
    have ch := cvr_head h1 z
    have cr := cvr_rest h1 z
    have cc := hr.cvr z
    have d : DL.cvr x z ↔ x.at_ ≤ z ∧ z < endP x := Iff.rfl
    have ee : endP x = x.at_ + x.bs.length := rfl
    cases a with
    | nil =>
      cases e
      show (∃ y ∈ r, DL.cvr y z) ↔ _
      rw [← cc, cr, ch, d]
      omega
    | cons q a =>
      simp only [List.cons_append] at e
      injection e with e1 e2'
      subst e1
      have i := ih a p b e2' z
      have hp : DL.cvr p z → DL.cvr (x.rest s) z := fun h => cc.2 ⟨p, by rw [e2']; simp, h⟩
      constructor
      · rintro ⟨y, m, h⟩
        rcases List.mem_cons.1 m with rfl | m
        · have := ch.1 h
          exact ⟨d.2 (by omega), fun z' => by have := cr.1 (hp z'); omega⟩
        · obtain ⟨i1, i2⟩ := i.1 ⟨y, m, h⟩
          have := cr.1 i1
          exact ⟨d.2 (by omega), i2⟩
      · rintro ⟨i1, i2⟩
        have := d.1 i1
        by_cases q : z < x.at_ + s
        · exact ⟨_, by simp, ch.2 (by omega)⟩
        · obtain ⟨y, m, h⟩ := i.2 ⟨cr.2 (by omega), i2⟩
          exact ⟨y, by simp at m ⊢; exact .inr m, h⟩
end DL

set_option Elab.async false
set_option linter.all false
set_option maxRecDepth 100000
set_option maxHeartbeats 4000000
set_option autoImplicit false
namespace K04
open PySem PySem.Spec PyProof.Rows L2 DL
def top (i : Nat) : Stmt := PySem.Challenge.pw_pieceways_k04_what_is_no_piece.main.body.getD i (.Pass ⟨0, 0, 0, 0⟩)
def T0 : Tab := ⟨2, fun | 0 => [0, 1, 2, 3, 4] | 1 => [0, 1, 2, 3, 4, 5, 6] | _ => [], fun | 0 => "number" | 1 => "sender" | 2 => "goal" | 3 => "body" | 4 => "keep" | 5 => "at" | 6 => "more" | _ => ""⟩
def tb0 : ITab := [((19, 0), false), ((19, 14), false), ((13, 0), false), ((13, 14), false), ((14, 0), false), ((14, 14), true), ((23, 0), false), ((23, 14), false), ((22, 0), false), ((22, 14), false), ((21, 0), false), ((21, 14), false), ((17, 0), false), ((17, 14), false), ((20, 0), false), ((20, 14), false), ((18, 0), false), ((18, 14), false), ((15, 0), false), ((15, 14), false), ((16, 0), false), ((16, 14), false), ((7, 14), true)]
def exs : List Nat := [4]
def sb0 : ITab := [((12, 14), true)]
def c_LETTERS : D := .str "abcdefghijklmnopqrstuvwxyz"
def c_MOST_BYTES : D := .int 4000
abbrev s_is_whole : Stmt := top 17
abbrev s_is_within : Stmt := top 18
abbrev s_is_name : Stmt := top 19
abbrev s_is_key : Stmt := top 20
abbrev s_is_body : Stmt := top 21
abbrev s_is_placed : Stmt := top 24
abbrev s_Keyed_init : Stmt := inClass (top 23) 0
abbrev s_Piece_init : Stmt := inClass (top 25) 0
abbrev s__law_made : Stmt := top 37
abbrev s__law_digit : Stmt := top 28
abbrev s__law_name : Stmt := top 29
abbrev s__law_key : Stmt := top 30
abbrev s__law_body : Stmt := top 31
abbrev s__law_odd_key : Stmt := top 34
abbrev s__law_odd_at : Stmt := top 36
abbrev s__law_odd_body : Stmt := top 35
abbrev s__law_refusal : Stmt := top 33
abbrev s_Piece_end : Stmt := inClass (top 25) 1
abbrev s_law : Stmt := top 38
noncomputable def F_is_whole : Fn := callF 1 1 (sRet (eAndF (eIsi T0 tb0 2 (eVar 0)) (eNotF (eIsi T0 tb0 1 (eVar 0)))))
noncomputable def F_is_within : Fn := callF 3 3 (sRet (eAndF (eCall F_is_whole [] (aCons (eVar 0) (aNil))) (e3 dLe dLe (eVar 1) (eVar 0) (eVar 2))))
noncomputable def Y_is_name_1 : EF := e2 (dInG false) (eVar 1) (eC c_LETTERS)
noncomputable def F_is_name : Fn := callF 2 1 (sSeq (sIf (tOrF (tNotF (asB (eIsi T0 tb0 3 (eVar 0)))) (tNotF (asB (e3 dLe dLe (eC (.int 1)) (eA bLen (aCons (eVar 0) (aNil))) (eC (.int 8)))))) (sRet (eC (.bl false))) (sNil)) (sRet (eA bAll (aCons (eLc (iSt (eVar 0)) (gfName 1) (tYesF) (Y_is_name_1) [1]) (aNil)))))
noncomputable def F_is_key : Fn := callF 1 1 (sSeq (sIf (tOrF (tNotF (asB (eIsi T0 tb0 5 (eVar 0)))) (asB (e2 dNeV (eA bLen (aCons (eVar 0) (aNil))) (eC (.int 3))))) (sRet (eC (.bl false))) (sNil)) (sRet (eAndF (eCall F_is_within [] (aCons (e2 dIx (eVar 0) (eC (.int 0))) (aCons (eC (.int 0)) (aCons (eC (.int 65535)) (aNil))))) (eAndF (eCall F_is_name [] (aCons (e2 dIx (eVar 0) (eC (.int 1))) (aNil))) (eCall F_is_name [] (aCons (e2 dIx (eVar 0) (eC (.int 2))) (aNil)))))))
noncomputable def Y_is_body_1 : EF := eCall F_is_within [] (aCons (eVar 1) (aCons (eC (.int 0)) (aCons (eC (.int 255)) (aNil))))
noncomputable def F_is_body : Fn := callF 2 1 (sSeq (sIf (tOrF (tNotF (asB (eIsi T0 tb0 4 (eVar 0)))) (tNotF (asB (e3 dLe dLe (eC (.int 1)) (eA bLen (aCons (eVar 0) (aNil))) (eC c_MOST_BYTES))))) (sRet (eC (.bl false))) (sNil)) (sRet (eA bAll (aCons (eLcK (iCel (eVar 0)) (gfName 1) (tYesF) (Y_is_body_1) [1]) (aNil)))))
noncomputable def F_is_placed : Fn := callF 3 3 (sSeq (sIf (tOrF (tNotF (asB (eCall F_is_within [] (aCons (eVar 0) (aCons (eC (.int 0)) (aCons (eC c_MOST_BYTES) (aNil))))))) (tOrF (asB (e2 dNeV (e2 dMod (eVar 0) (eC (.int 8))) (eC (.int 0)))) (tNotF (asB (eIsi T0 tb0 1 (eVar 2)))))) (sRet (eC (.bl false))) (sNil)) (sSeq (sIf (asB (eVar 2)) (sRet (eAndF (e2 dEqV (e2 dMod (eA bLen (aCons (eVar 1) (aNil))) (eC (.int 8))) (eC (.int 0))) (e2 dLt (e2 dAdd (eVar 0) (eA bLen (aCons (eVar 1) (aNil)))) (eC c_MOST_BYTES)))) (sNil)) (sRet (e2 dLe (e2 dAdd (eVar 0) (eA bLen (aCons (eVar 1) (aNil)))) (eC c_MOST_BYTES)))))
noncomputable def F_Keyed_init : Fn := callF 6 6 (sSeq (sFldF T0 0 (eVar 0) (eVar 1)) (sSeq (sFldF T0 1 (eVar 0) (eVar 2)) (sSeq (sFldF T0 2 (eVar 0) (eVar 3)) (sSeq (sFldF T0 3 (eVar 0) (eA bList (aCons (eVar 4) (aNil)))) (sFldF T0 4 (eVar 0) (eVar 5))))))
noncomputable def F_Piece_init : Fn := callF 8 8 (sSeq (sIf (tOrF (tNotF (asB (eCall F_is_key [] (aCons (eTup (aCons (eVar 1) (aCons (eVar 2) (aCons (eVar 3) (aNil))))) (aNil))))) (tOrF (tNotF (asB (eCall F_is_body [] (aCons (eVar 5) (aNil))))) (tNotF (asB (eIsi T0 tb0 1 (eVar 7)))))) (sRaise 4) (sNil)) (sSeq (sIf (tNotF (asB (eCall F_is_placed [] (aCons (eVar 4) (aCons (eVar 5) (aCons (eVar 6) (aNil))))))) (sRaise 4) (sNil)) (sSeq (sDrop (eCall F_Keyed_init [] (aCons (eVar 0) (aCons (eVar 1) (aCons (eVar 2) (aCons (eVar 3) (aCons (eVar 5) (aCons (eVar 7) (aNil))))))))) (sSeq (sFldF T0 5 (eVar 0) (eVar 4)) (sFldF T0 6 (eVar 0) (eVar 6))))))
noncomputable def L__law_made_1 : EF := eMake (mkF T0 1 F_Piece_init) [] (aCons (e2 dIx (eVar 0) (eC (.int 0))) (aCons (e2 dIx (eVar 0) (eC (.int 1))) (aCons (e2 dIx (eVar 0) (eC (.int 2))) (aCons (eVar 1) (aCons (eVar 2) (aCons (eVar 3) (aCons (eVar 4) (aNil))))))))
noncomputable def bd_clo : Nat → Option EF := fun | 1000 => some L__law_made_1 | _ => none
noncomputable def F__law_made : Fn := cloF 1000 900 901 5
noncomputable def F__law_digit : Fn := callF 4 2 (sSeq (sIf (asB (e2 dEqV (eA bLen (aCons (eVar 0) (aNil))) (eC (.int 1)))) (sDrop (eBm tyL mExtend (eVar 0) (aCons (eLst (aCons (e2 dMod (e2 dIx (eVar 0) (eC (.int 0))) (eC (.int 2147483647))) (aCons (eC (.int 0)) (aNil)))) (aNil)))) (sNil)) (sSeq (sIf (asB (e2 dGt (e2 dIx (eVar 0) (eC (.int 0))) (eC (.int 0)))) (sSeq (sSet 3 (e2 dMod (e2 dIx (eVar 0) (eC (.int 0))) (eVar 1))) (sSeq (sIxF (eVar 0) (eC (.int 0)) (e2 dDiv (e2 dIx (eVar 0) (eC (.int 0))) (eVar 1))) (sRet (eVar 3)))) (sNil)) (sSeq (sIxF (eVar 0) (eC (.int 2)) (e2 dAdd (e2 dIx (eVar 0) (eC (.int 2))) (eC (.int 1)))) (sSeq (sSet 2 (e2 dMod (e2 dMul (e2 dAdd (e2 dAdd (e2 dIx (eVar 0) (eC (.int 1))) (e2 dMul (eC (.int 7919)) (e2 dIx (eVar 0) (eC (.int 2))))) (eC (.int 1))) (eC (.int 48271))) (eC (.int 2147483647)))) (sSeq (sSet 2 (e2 dMod (e2 dMul (eVar 2) (e2 dAdd (e2 dDiv (eVar 2) (eC (.int 1009))) (eC (.int 69621)))) (eC (.int 2147483647)))) (sRet (e2 dMod (e2 dMod (e2 dMul (eVar 2) (e2 dAdd (e2 dDiv (eVar 2) (eC (.int 2003))) (eC (.int 40692)))) (eC (.int 2147483399))) (eVar 1))))))))
noncomputable def B__law_name_1 : SF := sSet 1 (e2 dAdd (eVar 1) (e2 dIx (eC (.str "abcdefghijklmnopqrstuvwxyz")) (eCall F__law_digit [] (aCons (eVar 0) (aCons (eC (.int 26)) (aNil))))))
noncomputable def F__law_name : Fn := callF 3 1 (sSeq (sSet 1 (eC (.str ""))) (sSeq (sFor (iR1 (aCons (e2 dAdd (eC (.int 1)) (eCall F__law_digit [] (aCons (eVar 0) (aCons (eC (.int 8)) (aNil))))) (aNil))) (gfName 2) (B__law_name_1)) (sRet (eVar 1))))
noncomputable def F__law_key : Fn := callF 2 1 (sSeq (sSet 1 (e2 dIx (eLst (aCons (eCall F__law_digit [] (aCons (eVar 0) (aCons (eC (.int 4)) (aNil)))) (aCons (eCall F__law_digit [] (aCons (eVar 0) (aCons (eC (.int 65536)) (aNil)))) (aCons (eC (.int 65535)) (aNil))))) (eCall F__law_digit [] (aCons (eVar 0) (aCons (eC (.int 3)) (aNil)))))) (sRet (eTup (aCons (eVar 1) (aCons (eCall F__law_name [] (aCons (eVar 0) (aNil))) (aCons (eCall F__law_name [] (aCons (eVar 0) (aNil))) (aNil)))))))
noncomputable def Y__law_body_1 : EF := eCall F__law_digit [] (aCons (eVar 0) (aCons (eC (.int 256)) (aNil)))
noncomputable def W__law_body_2 : TF := asB (e2 dLt (eA bLen (aCons (eVar 2) (aNil))) (eVar 1))
noncomputable def B__law_body_3 : SF := sDrop (eBm tyL mAppend (eVar 2) (aCons (e2 dMod (e2 dAdd (e2 dIx (eVar 2) (e2 dSub (eA bLen (aCons (eVar 2) (aNil))) (eC (.int 60)))) (eVar 3)) (eC (.int 256))) (aNil)))
noncomputable def F__law_body : Fn := callF 5 2 (sSeq (sSet 2 (eLcC (iR1 (aCons (eA bMin2 (aCons (eVar 1) (aCons (eC (.int 60)) (aNil)))) (aNil))) (gfName 4) (tYesF) (Y__law_body_1) [4])) (sSeq (sSet 3 (e2 dAdd (eC (.int 1)) (eCall F__law_digit [] (aCons (eVar 0) (aCons (eC (.int 255)) (aNil)))))) (sSeq (sWhile (W__law_body_2) (B__law_body_3)) (sRet (frz (eVar 2))))))
noncomputable def F__law_odd_key : Fn := callF 5 2 (sSeq (sSet 2 (e2 dIx (eLst (aCons (eNeg (eC (.int 1))) (aCons (eC (.int 65536)) (aCons (eC (.bl true)) (aCons (eC .non) (aCons (eC (.str "5")) (aCons (e2 dPow (eC (.int 10)) (eC (.int 30))) (aNil)))))))) (eCall F__law_digit [] (aCons (eVar 0) (aCons (eC (.int 6)) (aNil)))))) (sSeq (sSet 3 (e2 dIx (eLst (aCons (eC (.str "")) (aCons (eC (.str "abcdefghi")) (aCons (eC (.str "A")) (aCons (eC (.str "a1")) (aCons (eC (.str "a b")) (aCons (eC .non) (aCons (eLst (aCons (eC (.str "a")) (aNil))) (aCons (eC (.int 5)) (aNil)))))))))) (eCall F__law_digit [] (aCons (eVar 0) (aCons (eC (.int 8)) (aNil)))))) (sSeq (sSet 4 (eLst (aCons (eTup (aCons (eVar 2) (aCons (e2 dIx (eVar 1) (eC (.int 1))) (aCons (e2 dIx (eVar 1) (eC (.int 2))) (aNil))))) (aCons (eTup (aCons (e2 dIx (eVar 1) (eC (.int 0))) (aCons (eVar 3) (aCons (e2 dIx (eVar 1) (eC (.int 2))) (aNil))))) (aCons (eTup (aCons (e2 dIx (eVar 1) (eC (.int 0))) (aCons (e2 dIx (eVar 1) (eC (.int 1))) (aCons (eVar 3) (aNil))))) (aCons (eTup (aCons (eVar 2) (aCons (eVar 3) (aCons (eVar 3) (aNil))))) (aNil))))))) (sRet (e2 dIx (eVar 4) (eCall F__law_digit [] (aCons (eVar 0) (aCons (eC (.int 4)) (aNil)))))))))
noncomputable def F__law_odd_at : Fn := callF 4 2 (sSeq (sSet 2 (e2 dAdd (e2 dMul (e2 dDiv (e2 dSub (eC (.int 4000)) (eA bLen (aCons (eVar 1) (aNil)))) (eC (.int 8))) (eC (.int 8))) (eC (.int 8)))) (sSeq (sSet 3 (e2 dAdd (e2 dAdd (e2 dMul (eC (.int 8)) (eCall F__law_digit [] (aCons (eVar 0) (aCons (eC (.int 40)) (aNil))))) (eC (.int 1))) (eCall F__law_digit [] (aCons (eVar 0) (aCons (eC (.int 7)) (aNil)))))) (sRet (e2 dIx (eLst (aCons (eNeg (eC (.int 8))) (aCons (eVar 3) (aCons (eVar 3) (aCons (eVar 2) (aCons (eVar 2) (aCons (eC (.int 4000)) (aCons (eC (.int 4008)) (aCons (eC (.bl true)) (aCons (eC (.bl false)) (aCons (eC .non) (aCons (eC (.str "0")) (aCons (eNeg (eC (.int 1))) (aCons (e2 dMul (eC (.int 8)) (e2 dPow (eC (.int 10)) (eC (.int 20)))) (aNil))))))))))))))) (eCall F__law_digit [] (aCons (eVar 0) (aCons (eC (.int 13)) (aNil))))))))
noncomputable def F__law_odd_body : Fn := callF 5 2 (sSeq (sSet 2 (eCall F__law_digit [] (aCons (eVar 0) (aCons (eA bLen (aCons (eVar 1) (aNil))) (aNil))))) (sSeq (sSet 3 (e2 dIx (eLst (aCons (eNeg (eC (.int 1))) (aCons (eC (.int 256)) (aCons (eC (.bl true)) (aCons (eC (.bl false)) (aCons (eC .non) (aCons (eC (.str "7")) (aCons (eLst (aCons (eC (.int 7)) (aNil))) (aNil))))))))) (eCall F__law_digit [] (aCons (eVar 0) (aCons (eC (.int 7)) (aNil)))))) (sSeq (sSet 4 (eLst (aCons (eLst (aNil)) (aCons (e2 dMul (eSlG dSl (eVar 1) (oNone) (oSome (eC (.int 1)))) (eC (.int 4001))) (aCons (eA bTuple (aCons (eVar 1) (aNil))) (aCons (eC .non) (aCons (eC (.str "abc")) (aCons (eC (.int 5)) (aNil))))))))) (sSeq (sSet 4 (e2 dAdd (eVar 4) (e2 dMul (eLst (aCons (e2 dAdd (e2 dAdd (eSlG dSl (eVar 1) (oNone) (oSome (eVar 2))) (eLst (aCons (eVar 3) (aNil)))) (eSlG dSl (eVar 1) (oSome (e2 dAdd (eVar 2) (eC (.int 1)))) (oNone))) (aNil))) (eC (.int 6))))) (sRet (e2 dIx (eVar 4) (eCall F__law_digit [] (aCons (eVar 0) (aCons (eC (.int 12)) (aNil))))))))))
noncomputable def I__law_refusal_1 : TF := asB (e2 dIx (eVar 3) (eVar 6))
noncomputable def Y__law_refusal_2 : EF := e2 dIx (eVar 4) (eVar 6)
noncomputable def F__law_refusal : Fn := callF 7 1 (sSeq (sSet 1 (eC .non)) (sSeq (sTryAs sb0 exs 2 2 1 (sDrop (eCloC bd_clo 900 901 (eVar 0)))) (sSeq (sSet 3 (eLst (aCons (eIsiX T0 tb0 exs 13 (eVar 1)) (aCons (eIsiX T0 tb0 exs 14 (eVar 1)) (aCons (eIsiX T0 tb0 exs 15 (eVar 1)) (aNil)))))) (sSeq (sSet 3 (e2 dAdd (eVar 3) (eLst (aCons (eIsiX T0 tb0 exs 16 (eVar 1)) (aCons (eIsiX T0 tb0 exs 17 (eVar 1)) (aCons (eIsiX T0 tb0 exs 18 (eVar 1)) (aNil))))))) (sSeq (sSet 3 (e2 dAdd (eVar 3) (eLst (aCons (eIsiX T0 tb0 exs 19 (eVar 1)) (aCons (eIsiX T0 tb0 exs 20 (eVar 1)) (aCons (eIsiX T0 tb0 exs 21 (eVar 1)) (aNil))))))) (sSeq (sSet 3 (e2 dAdd (eVar 3) (eLst (aCons (eIsiX T0 tb0 exs 22 (eVar 1)) (aCons (eIsiX T0 tb0 exs 23 (eVar 1)) (aNil)))))) (sSeq (sSet 4 (eLst (aCons (eC (.str "letter")) (aCons (eC (.str "piece")) (aCons (eC (.str "width")) (aCons (eC (.str "wide")) (aCons (eC (.str "rule")) (aCons (eC (.str "time")) (aCons (eC (.str "key")) (aCons (eC (.str "text")) (aCons (eC (.str "row")) (aCons (eC (.str "room")) (aCons (eC (.str "road")) (aNil)))))))))))))) (sSeq (sSet 5 (eLc (iR1 (aCons (eC (.int 11)) (aNil))) (gfName 6) (I__law_refusal_1) (Y__law_refusal_2) [6])) (sSeq (sIf (tOrF (asB (e2 dNeV (eA bLen (aCons (eVar 5) (aNil))) (eC (.int 1)))) (tNotF (asB (eIsiX T0 tb0 exs 7 (eVar 1))))) (sRet (eC (.str "wrong"))) (sNil)) (sRet (e2 dIx (eVar 5) (eC (.int 0)))))))))))))
noncomputable def F_Piece_end : Fn := callF 1 1 (sRet (e2 dAdd (eFld T0 5 (eVar 0)) (eA bLen (aCons (eFld T0 3 (eVar 0)) (aNil)))))
noncomputable def M_end : MTab := fun | 1 => some (1, F_Piece_end) | _ => none
noncomputable def I_law_1 : TF := asB (e2 dNeV (eCall F__law_refusal [] (aCons (eVar 11) (aNil))) (eC (.str "piece")))
noncomputable def Y_law_2 : EF := eVar 11
noncomputable def B_law_3 : SF := sSeq (sSet 2 (eLstC (aCons (eVar 1) (aNil)))) (sSeq (sSet 3 (eCall F__law_key [] (aCons (eVar 2) (aNil)))) (sSeq (sSet 4 (eCall F__law_body [] (aCons (eVar 2) (aCons (e2 dMul (eC (.int 8)) (e2 dAdd (eC (.int 1)) (eCall F__law_digit [] (aCons (eVar 2) (aCons (eC (.int 6)) (aNil)))))) (aNil))))) (sSeq (sSet 5 (e2 dMul (eC (.int 8)) (eCall F__law_digit [] (aCons (eVar 2) (aCons (eC (.int 40)) (aNil)))))) (sSeq (sSet 6 (e2 dEqV (eCall F__law_digit [] (aCons (eVar 2) (aCons (eC (.int 2)) (aNil)))) (eC (.int 1)))) (sSeq (sSet 7 (e2 dEqV (eCall F__law_digit [] (aCons (eVar 2) (aCons (eC (.int 2)) (aNil)))) (eC (.int 1)))) (sSeq (sSet 8 (e2 dIx (eLst (aCons (eC (.int 0)) (aCons (eC (.int 1)) (aCons (eC .non) (aCons (eC (.str "")) (aCons (eC (.str "True")) (aCons (eLst (aNil)) (aNil)))))))) (eCall F__law_digit [] (aCons (eVar 2) (aCons (eC (.int 6)) (aNil)))))) (sSeq (sSet 9 (eSlG dSl (eVar 4) (oNone) (oSome (e2 dSub (e2 dSub (eA bLen (aCons (eVar 4) (aNil))) (eC (.int 1))) (eCall F__law_digit [] (aCons (eVar 2) (aCons (eC (.int 7)) (aNil)))))))) (sSeq (sSet 10 (eLstC (aCons (eCall F__law_made [] (aCons (eCall F__law_odd_key [] (aCons (eVar 2) (aCons (eVar 3) (aNil)))) (aCons (eVar 5) (aCons (eVar 4) (aCons (eVar 6) (aCons (eVar 7) (aNil))))))) (aCons (eCall F__law_made [] (aCons (eVar 3) (aCons (eVar 5) (aCons (eVar 4) (aCons (eVar 8) (aCons (eVar 7) (aNil))))))) (aNil))))) (sSeq (sDrop (eBm tyL mAppend (eVar 10) (aCons (eCall F__law_made [] (aCons (eVar 3) (aCons (eCall F__law_odd_at [] (aCons (eVar 2) (aCons (eVar 4) (aNil)))) (aCons (eVar 4) (aCons (eVar 6) (aCons (eVar 7) (aNil))))))) (aNil)))) (sSeq (sDrop (eBm tyL mAppend (eVar 10) (aCons (eCall F__law_made [] (aCons (eVar 3) (aCons (eVar 5) (aCons (eCall F__law_odd_body [] (aCons (eVar 2) (aCons (eVar 4) (aNil)))) (aCons (eVar 6) (aCons (eVar 7) (aNil))))))) (aNil)))) (sSeq (sDrop (eBm tyL mAppend (eVar 10) (aCons (eCall F__law_made [] (aCons (eVar 3) (aCons (eVar 5) (aCons (eVar 4) (aCons (eVar 6) (aCons (eVar 8) (aNil))))))) (aNil)))) (sSeq (sDrop (eBm tyL mAppend (eVar 10) (aCons (eCall F__law_made [] (aCons (eVar 3) (aCons (eVar 5) (aCons (eVar 9) (aCons (eC (.bl true)) (aCons (eVar 7) (aNil))))))) (aNil)))) (sSeq (sDrop (eBm tyL mAppend (eVar 10) (aCons (eCall F__law_made [] (aCons (eVar 3) (aCons (e2 dSub (eC (.int 4000)) (eA bLen (aCons (eVar 4) (aNil)))) (aCons (eVar 4) (aCons (eC (.bl true)) (aCons (eVar 7) (aNil))))))) (aNil)))) (sSeq (sFrz 10 (sDrop (eBm tyL mAppend (eVar 10) (aCons (eCall F__law_made [] (aCons (eCall F__law_odd_key [] (aCons (eVar 2) (aCons (eVar 3) (aNil)))) (aCons (eCall F__law_odd_at [] (aCons (eVar 2) (aCons (eVar 4) (aNil)))) (aCons (eC .non) (aCons (eVar 8) (aCons (eVar 8) (aNil))))))) (aNil))))) (sSeq (sIf (asB (e2 dNeV (eLc (iLst (eVar 10)) (gfName 11) (I_law_1) (Y_law_2) [11]) (eLst (aNil)))) (sRet (eC (.bl false))) (sNil)) (sSeq (sIf (asB (e2 dNeV (eMeth M_end (eCloC bd_clo 900 901 (eCall F__law_made [] (aCons (eVar 3) (aCons (eVar 5) (aCons (eVar 9) (aCons (eC (.bl false)) (aCons (eVar 7) (aNil)))))))) aNil) (e2 dAdd (eVar 5) (eA bLen (aCons (eVar 9) (aNil)))))) (sRet (eC (.bl false))) (sNil)) (sSeq (sIf (asB (e2 dNeV (eMeth M_end (eCloC bd_clo 900 901 (eCall F__law_made [] (aCons (eVar 3) (aCons (eVar 5) (aCons (eVar 4) (aCons (eVar 6) (aCons (eVar 7) (aNil)))))))) aNil) (e2 dAdd (eVar 5) (eA bLen (aCons (eVar 4) (aNil)))))) (sRet (eC (.bl false))) (sNil)) (sSeq (sIf (asB (e2 dNeV (eMeth M_end (eCloC bd_clo 900 901 (eCall F__law_made [] (aCons (eVar 3) (aCons (e2 dSub (eC (.int 4000)) (eA bLen (aCons (eVar 4) (aNil)))) (aCons (eVar 4) (aCons (eC (.bl false)) (aCons (eVar 7) (aNil)))))))) aNil) (eC (.int 4000)))) (sRet (eC (.bl false))) (sNil)) (sIf (asB (e2 dNeV (eMeth M_end (eCloC bd_clo 900 901 (eCall F__law_made [] (aCons (eVar 3) (aCons (e2 dSub (eC (.int 3992)) (eA bLen (aCons (eVar 4) (aNil)))) (aCons (eVar 4) (aCons (eC (.bl true)) (aCons (eVar 7) (aNil)))))))) aNil) (eC (.int 3992)))) (sRet (eC (.bl false))) (sNil))))))))))))))))))))
noncomputable def F_law : Fn := callF 12 1 (sSeq (sFor (iLst (e2 dAdd (eLst (aCons (eC (.int 0)) (aNil))) (eSlG dSl (eVar 0) (oNone) (oSome (eC (.int 12)))))) (gfName 1) (B_law_3)) (sRet (eC (.bl true))))
def lamO : Nat → List V → Addr → HO := fun | 900 => fun _ a => LamX.CodeO a (("_law_made" : Str) ++ ".<locals>." ++ "<lambda>") | 901 => CellO | 1000 => CloAt (("_law_made" : Str) ++ ".<locals>." ++ "<lambda>") (defScope s__law_made) ["_law_key_here", "_law_at", "_law_body_here", "_law_more", "_law_keep"] (lvEx ((defBody s__law_made).getD 0 (.Pass ⟨0, 0, 0, 0⟩))) | _ => fun _ _ => .own 0
structure Txt (K : PySem.W.Frag) (mg : Str → Option Value) (base : Heap) (cls : Nat → Addr) (oq : Nat → List V → Addr → HO) (tb : List (Addr × Str)) : Prop where
  cf : ∀ {w0 : Wd}, CF ⟨K, T0, cls, oq, tb, w0⟩
  kf : ∀ {w0 : Wd}, KitF ⟨K, T0, cls, oq, tb, w0⟩ tb0
  ef : ∀ {w0 : Wd}, ExF ⟨K, T0, cls, oq, tb, w0⟩ exs
  sf : ∀ {w0 : Wd}, SubF ⟨K, T0, cls, oq, tb, w0⟩ sb0
  ra_NoPiece : RaF K (cls 4)
  cl_WayError : ClF K (cls 2)
  oc__law_made : ∀ vs a, oq 900 vs a = LamX.CodeO a (("_law_made" : Str) ++ ".<locals>." ++ "<lambda>")
  okk__law_made : ∀ vs a, oq 901 vs a = CellO vs a
  oq_1000 : ∀ vs a, oq 1000 vs a = CloAt (("_law_made" : Str) ++ ".<locals>." ++ "<lambda>") (defScope s__law_made) ["_law_key_here", "_law_at", "_law_body_here", "_law_more", "_law_keep"] (lvEx ((defBody s__law_made).getD 0 (.Pass ⟨0, 0, 0, 0⟩))) vs a
  d_is_whole : ∃ f fd, Fun K "is_whole" "is_whole" s_is_whole f fd ∧ mg "is_whole" = some (.ref f)
  d_is_within : ∃ f fd, Fun K "is_within" "is_within" s_is_within f fd ∧ mg "is_within" = some (.ref f)
  d_is_name : ∃ f fd, Fun K "is_name" "is_name" s_is_name f fd ∧ mg "is_name" = some (.ref f)
  d_is_key : ∃ f fd, Fun K "is_key" "is_key" s_is_key f fd ∧ mg "is_key" = some (.ref f)
  d_is_body : ∃ f fd, Fun K "is_body" "is_body" s_is_body f fd ∧ mg "is_body" = some (.ref f)
  d_is_placed : ∃ f fd, Fun K "is_placed" "is_placed" s_is_placed f fd ∧ mg "is_placed" = some (.ref f)
  d__law_made : ∃ c PP f fd, FunC K "_law_made" "_law_made" s__law_made c f fd ∧ mg "_law_made" = some (.ref f) ∧ LamX.TabB base mg c PP ∧ (PP, ("_law_made" : Str) ++ ".<locals>." ++ "<lambda>") ∈ tb ∧ ∀ p ∈ tb, p.1 = PP → p.2 = ("_law_made" : Str) ++ ".<locals>." ++ "<lambda>"
  d__law_digit : ∃ f fd, Fun K "_law_digit" "_law_digit" s__law_digit f fd ∧ mg "_law_digit" = some (.ref f)
  d__law_name : ∃ f fd, Fun K "_law_name" "_law_name" s__law_name f fd ∧ mg "_law_name" = some (.ref f)
  d__law_key : ∃ f fd, Fun K "_law_key" "_law_key" s__law_key f fd ∧ mg "_law_key" = some (.ref f)
  d__law_body : ∃ f fd, Fun K "_law_body" "_law_body" s__law_body f fd ∧ mg "_law_body" = some (.ref f)
  d__law_odd_key : ∃ f fd, Fun K "_law_odd_key" "_law_odd_key" s__law_odd_key f fd ∧ mg "_law_odd_key" = some (.ref f)
  d__law_odd_at : ∃ f fd, Fun K "_law_odd_at" "_law_odd_at" s__law_odd_at f fd ∧ mg "_law_odd_at" = some (.ref f)
  d__law_odd_body : ∃ f fd, Fun K "_law_odd_body" "_law_odd_body" s__law_odd_body f fd ∧ mg "_law_odd_body" = some (.ref f)
  d__law_refusal : ∃ f fd, Fun K "_law_refusal" "_law_refusal" s__law_refusal f fd ∧ mg "_law_refusal" = some (.ref f)
  d_law : ∃ f fd, Fun K "law" "law" s_law f fd ∧ mg "law" = some (.ref f)
  i_Piece : ∃ f fd, FunD K "__init__" "Piece.__init__" (defArgs s_Piece_init) (defBody s_Piece_init) (defScope s_Piece_init) [.bl false] [] f fd ∧ mg "Piece" = some (.ref (cls 1)) ∧ Mk K (cls 1) f
  x_Keyed_init : ∃ f fd, Fun K "__init__" "Keyed.__init__" s_Keyed_init f fd ∧ mg "Keyed" = some (.ref (cls 0)) ∧ PySem.W.readsIn K (cls 0) (.type "type") = true ∧ PySem.W.findCls K (.ref (cls 0)) (.type "type") "__init__" = some (.val (.ref f)) ∧ PySem.W.keepIn K (.ref f) = true
  m_Piece_end : ∃ f fd, Fun K "end" "Piece.end" s_Piece_end f fd ∧ Meth K (cls 1) "end" f
  mc_NoKey : mg "NoKey" = some (.ref (cls 9))
  mc_NoLetter : mg "NoLetter" = some (.ref (cls 3))
  mc_NoPiece : mg "NoPiece" = some (.ref (cls 4))
  mc_NoRoad : mg "NoRoad" = some (.ref (cls 13))
  mc_NoRoom : mg "NoRoom" = some (.ref (cls 12))
  mc_NoRow : mg "NoRow" = some (.ref (cls 11))
  mc_NoRule : mg "NoRule" = some (.ref (cls 7))
  mc_NoText : mg "NoText" = some (.ref (cls 10))
  mc_NoTime : mg "NoTime" = some (.ref (cls 8))
  mc_NoWidth : mg "NoWidth" = some (.ref (cls 5))
  mc_TooWide : mg "TooWide" = some (.ref (cls 6))
  mc_WayError : mg "WayError" = some (.ref (cls 2))
  k_LETTERS : ∃ u, mg "LETTERS" = some u ∧ RelV (.str "abcdefghijklmnopqrstuvwxyz") u
  k_MOST_BYTES : ∃ u, mg "MOST_BYTES" = some u ∧ RelV (.int 4000) u
  b_ValueError : mg "ValueError" = none
  b_all : mg "all" = none
  b_bool : mg "bool" = none
  b_int : mg "int" = none
  b_isinstance : mg "isinstance" = none
  b_len : mg "len" = none
  b_list : mg "list" = none
  b_min : mg "min" = none
  b_range : mg "range" = none
  b_str : mg "str" = none
  b_tuple : mg "tuple" = none
section
variable {P : Program} {w : World} {K : PySem.W.Frag} {mg : Str → Option Value} {base : Heap} {cls : Nat → Addr} {oq : Nat → List V → Addr → HO} {tb : List (Addr × Str)} {w0 : Wd}
theorem sc_is_whole : FnScope ["thing"] ["thing"] (defScope s_is_whole) := ⟨rfl, rfl, rfl, by decide +kernel, rfl, by decide +kernel, by decide +kernel⟩
theorem fn_is_whole (T : Txt K mg base cls oq tb) {f : Addr} {fd : FuncData} (FF : Fun K "is_whole" "is_whole" s_is_whole f fd) : FnOk P w K mg base (L2.CX P w) 1 f fd ["thing"] (spD ⟨K, T0, cls, oq, tb, w0⟩ 1 F_is_whole) := by
  have sc := sc_is_whole
  refine fun_ok (G := ⟨K, T0, cls, oq, tb, w0⟩) (k := 0) FF sc rfl rfl fun cdv A outer s H E hr => ?_
  have hu : (A.deeper (envOfC "is_whole" (defScope s_is_whole) s.heap.objs.size f cdv)).units + 64 < cLine := hr.units
  have tk : Takes (cxOf (L2.CX P w) P w K mg base ["thing"] "is_whole" (defScope s_is_whole) f cdv A outer s H E) (fun c d _ H => E c d H) := takes_of rfl rfl rfl rfl
  have hp := passes_of (X := cxOf (L2.CX P w) P w K mg base ["thing"] "is_whole" (defScope s_is_whole) f cdv A outer s H E) rfl
  exact dss_one (ds_ret (de_and (de_isi (t := 2) rfl T.cf T.kf (.ty _) (pe_bltn rfl T.b_int (by decide +kernel) rfl) (dv 0) rfl T.b_isinstance) (de_one (de_not (de_isi (t := 1) rfl T.cf T.kf (.ty _) (pe_bltn rfl T.b_bool (by decide +kernel) rfl) (dv 0) rfl T.b_isinstance)))))
theorem ok_is_whole (T : Txt K mg base cls oq tb) : Callee P w ⟨K, T0, cls, oq, tb, w0⟩ mg base 1 "is_whole" 1 [] F_is_whole := by
  obtain ⟨f, fd, FF, m⟩ := T.d_is_whole
  exact ⟨arity_call, f, fd, ["thing"], [], [], rfl, fn_is_whole T FF, m, FF.kp, FF.binds fun _ _ _ _ _ _ us hl => match us, hl with | [_], _ => rfl, .nil, fun _ => .nil⟩
theorem sc_is_within : FnScope ["thing", "low", "high"] ["thing", "low", "high"] (defScope s_is_within) := ⟨rfl, rfl, rfl, by decide +kernel, rfl, by decide +kernel, by decide +kernel⟩
theorem fn_is_within (T : Txt K mg base cls oq tb) {f : Addr} {fd : FuncData} (FF : Fun K "is_within" "is_within" s_is_within f fd) : FnOk P w K mg base (L2.CX P w) 2 f fd ["thing", "low", "high"] (spD ⟨K, T0, cls, oq, tb, w0⟩ 3 F_is_within) := by
  have sc := sc_is_within
  refine fun_ok (G := ⟨K, T0, cls, oq, tb, w0⟩) (k := 1) FF sc rfl rfl fun cdv A outer s H E hr => ?_
  have hu : (A.deeper (envOfC "is_within" (defScope s_is_within) s.heap.objs.size f cdv)).units + 64 < cLine := hr.units
  have tk : Takes (cxOf (L2.CX P w) P w K mg base ["thing", "low", "high"] "is_within" (defScope s_is_within) f cdv A outer s H E) (fun c d _ H => E c d H) := takes_of rfl rfl rfl rfl
  have hp := passes_of (X := cxOf (L2.CX P w) P w K mg base ["thing", "low", "high"] "is_within" (defScope s_is_within) f cdv A outer s H E) rfl
  exact dss_one (ds_ret (de_and (de_call rfl (ok_is_whole T) (hr.mono (by decide)) rfl tk (da_cons (dv 0) (da_nil))) (de_one (de_chain op_le o2_le op_le o2_le (dv 1) (dv 0) (dv 2)))))
theorem ok_is_within (T : Txt K mg base cls oq tb) : Callee P w ⟨K, T0, cls, oq, tb, w0⟩ mg base 2 "is_within" 3 [] F_is_within := by
  obtain ⟨f, fd, FF, m⟩ := T.d_is_within
  exact ⟨arity_call, f, fd, ["thing", "low", "high"], [], [], rfl, fn_is_within T FF, m, FF.kp, FF.binds fun _ _ _ _ _ _ us hl => match us, hl with | [_, _, _], _ => rfl, .nil, fun _ => .nil⟩
theorem sc_is_name : FnScope ["thing", "sign"] ["thing"] (defScope s_is_name) := ⟨rfl, rfl, rfl, by decide +kernel, rfl, by decide +kernel, by decide +kernel⟩
theorem fn_is_name (T : Txt K mg base cls oq tb) {f : Addr} {fd : FuncData} (FF : Fun K "is_name" "is_name" s_is_name f fd) : FnOk P w K mg base (L2.CX P w) 1 f fd ["thing"] (spD ⟨K, T0, cls, oq, tb, w0⟩ 1 F_is_name) := by
  have sc := sc_is_name
  refine fun_ok (G := ⟨K, T0, cls, oq, tb, w0⟩) (k := 0) FF sc rfl rfl fun cdv A outer s H E hr => ?_
  have hu : (A.deeper (envOfC "is_name" (defScope s_is_name) s.heap.objs.size f cdv)).units + 64 < cLine := hr.units
  have tk : Takes (cxOf (L2.CX P w) P w K mg base ["thing", "sign"] "is_name" (defScope s_is_name) f cdv A outer s H E) (fun c d _ H => E c d H) := takes_of rfl rfl rfl rfl
  have hp := passes_of (X := cxOf (L2.CX P w) P w K mg base ["thing", "sign"] "is_name" (defScope s_is_name) f cdv A outer s H E) rfl
  exact dss_cons (ds_if (dw_pt (dw_or (dt_not (dt_val (de_isi (t := 3) rfl T.cf T.kf (.ty _) (pe_bltn rfl T.b_str (by decide +kernel) rfl) (dv 0) rfl T.b_isinstance))) (dw_or1 (dt_not (dt_chain op_le o2_le op_le o2_le (de_int) (de_callB c_len oa_len rfl T.b_len (by decide +kernel) (da_cons (dv 0) (da_nil))) (de_int))))))
      (dss_one (ds_ret (de_bl)))
      (dss_nil))
      (dss_one (ds_ret (de_callB (cr_all rfl) oa_all rfl T.b_all (by decide +kernel) (da_cons (de_lc (own := [("sign", 1)]) rfl sc.nd (pi_str (DE.pe (dv 0))) (io_str _) (blkOk_by (N := ["thing", "sign"]) (sc := defScope s_is_name) (by decide +kernel)) (g_name) (by decide) (fun _ _ _ _ _ => pg_name (i := 1) sc.nd rfl (Or.inl rfl)) (fun _ _ _ _ _ => dts_nil) (fun _ _ _ _ _ => de_cmp op_in2 o2_in rfl (dv 1) (de_kon rfl T.k_LETTERS (fun _ => .str)))) (da_nil)))))
theorem ok_is_name (T : Txt K mg base cls oq tb) : Callee P w ⟨K, T0, cls, oq, tb, w0⟩ mg base 1 "is_name" 1 [] F_is_name := by
  obtain ⟨f, fd, FF, m⟩ := T.d_is_name
  exact ⟨arity_call, f, fd, ["thing"], [], [], rfl, fn_is_name T FF, m, FF.kp, FF.binds fun _ _ _ _ _ _ us hl => match us, hl with | [_], _ => rfl, .nil, fun _ => .nil⟩
theorem sc_is_key : FnScope ["thing"] ["thing"] (defScope s_is_key) := ⟨rfl, rfl, rfl, by decide +kernel, rfl, by decide +kernel, by decide +kernel⟩
theorem fn_is_key (T : Txt K mg base cls oq tb) {f : Addr} {fd : FuncData} (FF : Fun K "is_key" "is_key" s_is_key f fd) : FnOk P w K mg base (L2.CX P w) 3 f fd ["thing"] (spD ⟨K, T0, cls, oq, tb, w0⟩ 1 F_is_key) := by
  have sc := sc_is_key
  refine fun_ok (G := ⟨K, T0, cls, oq, tb, w0⟩) (k := 2) FF sc rfl rfl fun cdv A outer s H E hr => ?_
  have hu : (A.deeper (envOfC "is_key" (defScope s_is_key) s.heap.objs.size f cdv)).units + 64 < cLine := hr.units
  have tk : Takes (cxOf (L2.CX P w) P w K mg base ["thing"] "is_key" (defScope s_is_key) f cdv A outer s H E) (fun c d _ H => E c d H) := takes_of rfl rfl rfl rfl
  have hp := passes_of (X := cxOf (L2.CX P w) P w K mg base ["thing"] "is_key" (defScope s_is_key) f cdv A outer s H E) rfl
  exact dss_cons (ds_if (dw_pt (dw_or (dt_not (dt_val (de_isi (t := 5) rfl T.cf T.kf (.ty _) (pe_bltn rfl T.b_tuple (by decide +kernel) rfl) (dv 0) rfl T.b_isinstance))) (dw_or1 (dt_cmp (op_neD hu) o2_neV (nomark _) (de_callB c_len oa_len rfl T.b_len (by decide +kernel) (da_cons (dv 0) (da_nil))) (de_int)))))
      (dss_one (ds_ret (de_bl)))
      (dss_nil))
      (dss_one (ds_ret (de_and (de_call rfl (ok_is_within T) (hr.mono (by decide)) rfl tk (da_cons (de_ix rfl (dv 0) (de_int)) (da_cons (de_int) (da_cons (de_int) (da_nil))))) (de_and (de_call rfl (ok_is_name T) (hr.mono (by decide)) rfl tk (da_cons (de_ix rfl (dv 0) (de_int)) (da_nil))) (de_one (de_call rfl (ok_is_name T) (hr.mono (by decide)) rfl tk (da_cons (de_ix rfl (dv 0) (de_int)) (da_nil))))))))
theorem ok_is_key (T : Txt K mg base cls oq tb) : Callee P w ⟨K, T0, cls, oq, tb, w0⟩ mg base 3 "is_key" 1 [] F_is_key := by
  obtain ⟨f, fd, FF, m⟩ := T.d_is_key
  exact ⟨arity_call, f, fd, ["thing"], [], [], rfl, fn_is_key T FF, m, FF.kp, FF.binds fun _ _ _ _ _ _ us hl => match us, hl with | [_], _ => rfl, .nil, fun _ => .nil⟩
theorem sc_is_body : FnScope ["thing", "byte"] ["thing"] (defScope s_is_body) := ⟨rfl, rfl, rfl, by decide +kernel, rfl, by decide +kernel, by decide +kernel⟩
theorem fn_is_body (T : Txt K mg base cls oq tb) {f : Addr} {fd : FuncData} (FF : Fun K "is_body" "is_body" s_is_body f fd) : FnOk P w K mg base (L2.CX P w) 3 f fd ["thing"] (spD ⟨K, T0, cls, oq, tb, w0⟩ 1 F_is_body) := by
  have sc := sc_is_body
  refine fun_ok (G := ⟨K, T0, cls, oq, tb, w0⟩) (k := 2) FF sc rfl rfl fun cdv A outer s H E hr => ?_
  have hu : (A.deeper (envOfC "is_body" (defScope s_is_body) s.heap.objs.size f cdv)).units + 64 < cLine := hr.units
  have tk : Takes (cxOf (L2.CX P w) P w K mg base ["thing", "byte"] "is_body" (defScope s_is_body) f cdv A outer s H E) (fun c d _ H => E c d H) := takes_of rfl rfl rfl rfl
  have hp := passes_of (X := cxOf (L2.CX P w) P w K mg base ["thing", "byte"] "is_body" (defScope s_is_body) f cdv A outer s H E) rfl
  exact dss_cons (ds_if (dw_pt (dw_or (dt_not (dt_val (de_isi (t := 4) rfl T.cf T.kf (.ty _) (pe_bltn rfl T.b_list (by decide +kernel) rfl) (dv 0) rfl T.b_isinstance))) (dw_or1 (dt_not (dt_chain op_le o2_le op_le o2_le (de_int) (de_callB c_len oa_len rfl T.b_len (by decide +kernel) (da_cons (dv 0) (da_nil))) (de_kon rfl T.k_MOST_BYTES (fun _ => .int)))))))
      (dss_one (ds_ret (de_bl)))
      (dss_nil))
      (dss_one (ds_ret (de_callB (cr_all rfl) oa_all rfl T.b_all (by decide +kernel) (da_cons (de_lcK (own := [("byte", 1)]) rfl sc.nd (pi_list (DE.pe (dv 0))) (io_cel _) (blkOk_by (N := ["thing", "byte"]) (sc := defScope s_is_body) (by decide +kernel)) (g_name) (by decide) (fun _ _ _ _ _ => pg_name (i := 1) sc.nd rfl (Or.inl rfl)) (fun _ _ _ _ _ => dts_nil) (fun _ _ _ _ _ => de_call rfl (ok_is_within T) (hr.mono (by decide)) rfl takes0 (da_cons (dv 1) (da_cons (de_int) (da_cons (de_int) (da_nil)))))) (da_nil)))))
theorem ok_is_body (T : Txt K mg base cls oq tb) : Callee P w ⟨K, T0, cls, oq, tb, w0⟩ mg base 3 "is_body" 1 [] F_is_body := by
  obtain ⟨f, fd, FF, m⟩ := T.d_is_body
  exact ⟨arity_call, f, fd, ["thing"], [], [], rfl, fn_is_body T FF, m, FF.kp, FF.binds fun _ _ _ _ _ _ us hl => match us, hl with | [_], _ => rfl, .nil, fun _ => .nil⟩
theorem sc_is_placed : FnScope ["at", "body", "more"] ["at", "body", "more"] (defScope s_is_placed) := ⟨rfl, rfl, rfl, by decide +kernel, rfl, by decide +kernel, by decide +kernel⟩
theorem fn_is_placed (T : Txt K mg base cls oq tb) {f : Addr} {fd : FuncData} (FF : Fun K "is_placed" "is_placed" s_is_placed f fd) : FnOk P w K mg base (L2.CX P w) 3 f fd ["at", "body", "more"] (spD ⟨K, T0, cls, oq, tb, w0⟩ 3 F_is_placed) := by
  have sc := sc_is_placed
  refine fun_ok (G := ⟨K, T0, cls, oq, tb, w0⟩) (k := 2) FF sc rfl rfl fun cdv A outer s H E hr => ?_
  have hu : (A.deeper (envOfC "is_placed" (defScope s_is_placed) s.heap.objs.size f cdv)).units + 64 < cLine := hr.units
  have tk : Takes (cxOf (L2.CX P w) P w K mg base ["at", "body", "more"] "is_placed" (defScope s_is_placed) f cdv A outer s H E) (fun c d _ H => E c d H) := takes_of rfl rfl rfl rfl
  have hp := passes_of (X := cxOf (L2.CX P w) P w K mg base ["at", "body", "more"] "is_placed" (defScope s_is_placed) f cdv A outer s H E) rfl
  exact dss_cons (ds_if (dw_pt (dw_or (dt_not (dt_val (de_call rfl (ok_is_within T) (hr.mono (by decide)) rfl tk (da_cons (dv 0) (da_cons (de_int) (da_cons (de_kon rfl T.k_MOST_BYTES (fun _ => .int)) (da_nil))))))) (dw_or (dt_cmp (op_neD hu) o2_neV (nomark _) (de_op op_mod o2_mod (dv 0) (de_int)) (de_int)) (dw_or1 (dt_not (dt_val (de_isi (t := 1) rfl T.cf T.kf (.ty _) (pe_bltn rfl T.b_bool (by decide +kernel) rfl) (dv 2) rfl T.b_isinstance)))))))
      (dss_one (ds_ret (de_bl)))
      (dss_nil))
      (dss_cons (ds_if (dt_val (dv 2))
      (dss_one (ds_ret (de_and (de_cmp (op_eqD hu) o2_eqV (nomark _) (de_op op_mod o2_mod (de_callB c_len oa_len rfl T.b_len (by decide +kernel) (da_cons (dv 1) (da_nil))) (de_int)) (de_int)) (de_one (de_cmp op_lt o2_lt (nomark _) (de_op op_add5 o2_add (dv 0) (de_callB c_len oa_len rfl T.b_len (by decide +kernel) (da_cons (dv 1) (da_nil)))) (de_kon rfl T.k_MOST_BYTES (fun _ => .int)))))))
      (dss_nil))
      (dss_one (ds_ret (de_cmp op_le o2_le (nomark _) (de_op op_add5 o2_add (dv 0) (de_callB c_len oa_len rfl T.b_len (by decide +kernel) (da_cons (dv 1) (da_nil)))) (de_kon rfl T.k_MOST_BYTES (fun _ => .int))))))
theorem ok_is_placed (T : Txt K mg base cls oq tb) : Callee P w ⟨K, T0, cls, oq, tb, w0⟩ mg base 3 "is_placed" 3 [] F_is_placed := by
  obtain ⟨f, fd, FF, m⟩ := T.d_is_placed
  exact ⟨arity_call, f, fd, ["at", "body", "more"], [], [], rfl, fn_is_placed T FF, m, FF.kp, FF.binds fun _ _ _ _ _ _ us hl => match us, hl with | [_, _, _], _ => rfl, .nil, fun _ => .nil⟩
theorem sc_Keyed_init : FnScope ["self", "number", "sender", "goal", "body", "keep"] ["self", "number", "sender", "goal", "body", "keep"] (defScope s_Keyed_init) := ⟨rfl, rfl, rfl, by decide +kernel, rfl, by decide +kernel, by decide +kernel⟩
theorem fn_Keyed_init (T : Txt K mg base cls oq tb) {f : Addr} {fd : FuncData} (FF : Fun K "__init__" "Keyed.__init__" s_Keyed_init f fd) : FnOk P w K mg base (L2.CX P w) 1 f fd ["self", "number", "sender", "goal", "body", "keep"] (spD ⟨K, T0, cls, oq, tb, w0⟩ 6 F_Keyed_init) := by
  have sc := sc_Keyed_init
  refine fun_ok (G := ⟨K, T0, cls, oq, tb, w0⟩) (k := 0) FF sc rfl rfl fun cdv A outer s H E hr => ?_
  have hu : (A.deeper (envOfC "Keyed.__init__" (defScope s_Keyed_init) s.heap.objs.size f cdv)).units + 64 < cLine := hr.units
  have tk : Takes (cxOf (L2.CX P w) P w K mg base ["self", "number", "sender", "goal", "body", "keep"] "Keyed.__init__" (defScope s_Keyed_init) f cdv A outer s H E) (fun c d _ H => E c d H) := takes_of rfl rfl rfl rfl
  have hp := passes_of (X := cxOf (L2.CX P w) P w K mg base ["self", "number", "sender", "goal", "body", "keep"] "Keyed.__init__" (defScope s_Keyed_init) f cdv A outer s H E) rfl
  exact dss_cons (ds_fld (k := 0) rfl T.cf rfl (dv 0) (dv 1))
      (dss_cons (ds_fld (k := 1) rfl T.cf rfl (dv 0) (dv 2))
      (dss_cons (ds_fld (k := 2) rfl T.cf rfl (dv 0) (dv 3))
      (dss_cons (ds_fld (k := 3) rfl T.cf rfl (dv 0) (de_callT call_list_of oa_list rfl T.b_list (by decide +kernel) (da_cons (dv 4) (da_nil))))
      (dss_one (ds_fld (k := 4) rfl T.cf rfl (dv 0) (dv 5))))))
theorem cm_Keyed_init (T : Txt K mg base cls oq tb) : ClsOk P w ⟨K, T0, cls, oq, tb, w0⟩ mg base 1 "Keyed" "__init__" 6 F_Keyed_init := by
  obtain ⟨f, fd, FF, h1, h2, h3, h4⟩ := T.x_Keyed_init
  exact ⟨arity_call, _, f, fd, ["self", "number", "sender", "goal", "body", "keep"], rfl, fn_Keyed_init T FF, h1, h2, h3, h4, FF.binds fun _ _ _ _ _ _ us hl => match us, hl with | [_, _, _, _, _, _], _ => rfl⟩
theorem sc_Piece_init : FnScope ["self", "number", "sender", "goal", "at", "body", "more", "keep"] ["self", "number", "sender", "goal", "at", "body", "more", "keep"] (defScope s_Piece_init) := ⟨rfl, rfl, rfl, by decide +kernel, rfl, by decide +kernel, by decide +kernel⟩
theorem fn_Piece_init (T : Txt K mg base cls oq tb) {f : Addr} {fd : FuncData} (FF : FunD K "__init__" "Piece.__init__" (defArgs s_Piece_init) (defBody s_Piece_init) (defScope s_Piece_init) [.bl false] [] f fd) : FnOk P w K mg base (L2.CX P w) 4 f fd ["self", "number", "sender", "goal", "at", "body", "more", "keep"] (spD ⟨K, T0, cls, oq, tb, w0⟩ 8 F_Piece_init) := by
  have sc := sc_Piece_init
  refine fun_okD (G := ⟨K, T0, cls, oq, tb, w0⟩) (k := 3) FF sc rfl rfl fun cdv A outer s H E hr => ?_
  have hu : (A.deeper (envOfC "Piece.__init__" (defScope s_Piece_init) s.heap.objs.size f cdv)).units + 64 < cLine := hr.units
  have tk : Takes (cxOf (L2.CX P w) P w K mg base ["self", "number", "sender", "goal", "at", "body", "more", "keep"] "Piece.__init__" (defScope s_Piece_init) f cdv A outer s H E) (fun c d _ H => E c d H) := takes_of rfl rfl rfl rfl
  have hp := passes_of (X := cxOf (L2.CX P w) P w K mg base ["self", "number", "sender", "goal", "at", "body", "more", "keep"] "Piece.__init__" (defScope s_Piece_init) f cdv A outer s H E) rfl
  exact dss_cons (ds_if (dw_pt (dw_or (dt_not (dt_val (de_call rfl (ok_is_key T) (hr.mono (by decide)) rfl tk (da_cons (de_tup (da_cons (dv 1) (da_cons (dv 2) (da_cons (dv 3) (da_nil))))) (da_nil))))) (dw_or (dt_not (dt_val (de_call rfl (ok_is_body T) (hr.mono (by decide)) rfl tk (da_cons (dv 5) (da_nil))))) (dw_or1 (dt_not (dt_val (de_isi (t := 1) rfl T.cf T.kf (.ty _) (pe_bltn rfl T.b_bool (by decide +kernel) rfl) (dv 7) rfl T.b_isinstance)))))))
      (dss_one (ds_raise rfl rfl tk T.ra_NoPiece T.mc_NoPiece rfl))
      (dss_nil))
      (dss_cons (ds_if (dt_not (dt_val (de_call rfl (ok_is_placed T) (hr.mono (by decide)) rfl tk (da_cons (dv 4) (da_cons (dv 5) (da_cons (dv 6) (da_nil)))))))
      (dss_one (ds_raise rfl rfl tk T.ra_NoPiece T.mc_NoPiece rfl))
      (dss_nil))
      (dss_cons (ds_expr (de_clsm rfl (cm_Keyed_init T) (hr.mono (by decide)) rfl tk (da_cons (dv 0) (da_cons (dv 1) (da_cons (dv 2) (da_cons (dv 3) (da_cons (dv 5) (da_cons (dv 7) (da_nil)))))))))
      (dss_cons (ds_fld (k := 5) rfl T.cf rfl (dv 0) (dv 4))
      (dss_one (ds_fld (k := 6) rfl T.cf rfl (dv 0) (dv 6))))))
theorem mk_Piece (T : Txt K mg base cls oq tb) : MakeOk P w ⟨K, T0, cls, oq, tb, w0⟩ mg base 4 "Piece" 1 8 [] F_Piece_init := by
  obtain ⟨f, fd, FF, m, M⟩ := T.i_Piece
  obtain ⟨ds, hv, hb⟩ := FunD.binds1 FF (ps := ["self", "number", "sender", "goal", "at", "body", "more", "keep"]) 8 1 (by simp) (by simp) fun _ _ _ _ _ _ _ us its h1 h2 => match us, its, h1, h2 with | [_, _, _, _, _, _, _, _], [_], _, _ => ⟨_, rfl, rfl⟩
  exact ⟨arity_call, f, fd, ["self", "number", "sender", "goal", "at", "body", "more", "keep"], ds, _, rfl, fn_Piece_init T FF, m, M, hb, hv, fun _ => .nil⟩
theorem sc__law_made : FnScope ["_law_key_here", "_law_at", "_law_body_here", "_law_more", "_law_keep"] ["_law_key_here", "_law_at", "_law_body_here", "_law_more", "_law_keep"] (defScope s__law_made) := ⟨rfl, rfl, rfl, by decide +kernel, rfl, by decide +kernel, by decide +kernel⟩
theorem lg_clo (T : Txt K mg base cls oq tb) : ∀ j fb, bd_clo j = some fb → LamG P w K mg base ["_law_key_here", "_law_at", "_law_body_here", "_law_more", "_law_keep"] "_law_made" (defScope s__law_made) 0 Value.none ⟨K, T0, cls, oq, tb, w0⟩ 5 (("_law_made" : Str) ++ ".<locals>." ++ "<lambda>") j fb := by
  have sc := sc__law_made
  intro j fb e
  unfold bd_clo at e
  split at e
  · cases e
    exact ⟨_, _, _, T.oq_1000, by decide +kernel, by decide +kernel, fun _ _ _ _ _ => rfl, fun w1 A0 outer0 sM HM EM A outer s H E f c hr hu tk => de_make (c := 1) rfl (mk_Piece T) (Or.inr rfl) (hr.mono (by decide)) rfl tk (da_cons (de_ix rfl (dv 0) (de_int)) (da_cons (de_ix rfl (dv 0) (de_int)) (da_cons (de_ix rfl (dv 0) (de_int)) (da_cons (dv 1) (da_cons (dv 2) (da_cons (dv 3) (da_cons (dv 4) (da_nil))))))))⟩
  · cases e
theorem fn__law_made (T : Txt K mg base cls oq tb) {c PP f : Addr} {fd : FuncData} (FF : FunC K "_law_made" "_law_made" s__law_made c f fd) (TB : LamX.TabB base mg c PP) (hmT : (PP, (("_law_made" : Str) ++ ".<locals>." ++ "<lambda>")) ∈ tb) (huT : ∀ p ∈ tb, p.1 = PP → p.2 = (("_law_made" : Str) ++ ".<locals>." ++ "<lambda>")) : FnOk P w K mg base (L2.CX P w) 8 f fd ["_law_key_here", "_law_at", "_law_body_here", "_law_more", "_law_keep"] (spD ⟨K, T0, cls, oq, tb, w0⟩ 5 F__law_made) :=
  fun_okG (G := ⟨K, T0, cls, oq, tb, w0⟩) (k := 7) FF sc__law_made rfl (by decide +kernel) rfl TB rfl hmT huT (fun _ => rfl) (by decide +kernel) T.oq_1000 T.oc__law_made T.okk__law_made
theorem ok__law_made (T : Txt K mg base cls oq tb) : Callee P w ⟨K, T0, cls, oq, tb, w0⟩ mg base 8 "_law_made" 5 [] F__law_made := by
  obtain ⟨c, PP, f, fd, FF, m, TB, hmT, huT⟩ := T.d__law_made
  exact ⟨arity_clo, f, fd, ["_law_key_here", "_law_at", "_law_body_here", "_law_more", "_law_keep"], [], [], rfl, fn__law_made T FF TB hmT huT, m, FF.kp, FF.fun.binds fun _ _ _ _ _ _ us hl => match us, hl with | [_, _, _, _, _], _ => rfl, .nil, fun _ => .nil⟩
theorem sc__law_digit : FnScope ["_law_state", "_law_base", "_law_number", "_law_found"] ["_law_state", "_law_base"] (defScope s__law_digit) := ⟨rfl, rfl, rfl, by decide +kernel, rfl, by decide +kernel, by decide +kernel⟩
theorem fn__law_digit (T : Txt K mg base cls oq tb) {f : Addr} {fd : FuncData} (FF : Fun K "_law_digit" "_law_digit" s__law_digit f fd) : FnOk P w K mg base (L2.CX P w) 1 f fd ["_law_state", "_law_base"] (spD ⟨K, T0, cls, oq, tb, w0⟩ 2 F__law_digit) := by
  have sc := sc__law_digit
  refine fun_ok (G := ⟨K, T0, cls, oq, tb, w0⟩) (k := 0) FF sc rfl rfl fun cdv A outer s H E hr => ?_
  have hu : (A.deeper (envOfC "_law_digit" (defScope s__law_digit) s.heap.objs.size f cdv)).units + 64 < cLine := hr.units
  have tk : Takes (cxOf (L2.CX P w) P w K mg base ["_law_state", "_law_base", "_law_number", "_law_found"] "_law_digit" (defScope s__law_digit) f cdv A outer s H E) (fun c d _ H => E c d H) := takes_of rfl rfl rfl rfl
  have hp := passes_of (X := cxOf (L2.CX P w) P w K mg base ["_law_state", "_law_base", "_law_number", "_law_found"] "_law_digit" (defScope s__law_digit) f cdv A outer s H E) rfl
  exact dss_cons (ds_if (dt_cmp (op_eqD hu) o2_eqV (nomark _) (de_callB c_len oa_len rfl T.b_len (by decide +kernel) (da_cons (dv 0) (da_nil))) (de_int))
      (dss_one (ds_expr (de_bm rfl PySem.F.plainAttrs_list PySem.F.slot_list_extend PySem.F.type_list_extend mt_extend om_extend tm_list (dv 0) (da_cons (de_lst (da_cons (de_op op_mod o2_mod (de_ix rfl (dv 0) (de_int)) (de_int)) (da_cons (de_int) (da_nil)))) (da_nil)))))
      (dss_nil))
      (dss_cons (ds_if (dt_cmp op_gt o2_gt (nomark _) (de_ix rfl (dv 0) (de_int)) (de_int))
      (dss_cons (ds_set (i := 3) sc.nd rfl (Or.inl rfl) (de_op op_mod o2_mod (de_ix rfl (dv 0) (de_int)) (dv 1)))
      (dss_cons (ds_setIx (dv 0) (de_int) (de_op op_fdiv o2_div (de_ix rfl (dv 0) (de_int)) (dv 1)))
      (dss_one (ds_ret (dv 3)))))
      (dss_nil))
      (dss_cons (ds_setIx (dv 0) (de_int) (de_op op_add5 o2_add (de_ix rfl (dv 0) (de_int)) (de_int)))
      (dss_cons (ds_set (i := 2) sc.nd rfl (Or.inl rfl) (de_op op_mod o2_mod (de_op op_mul2 o2_mul (de_op op_add5 o2_add (de_op op_add5 o2_add (de_ix rfl (dv 0) (de_int)) (de_op op_mul2 o2_mul (de_int) (de_ix rfl (dv 0) (de_int)))) (de_int)) (de_int)) (de_int)))
      (dss_cons (ds_set (i := 2) sc.nd rfl (Or.inl rfl) (de_op op_mod o2_mod (de_op op_mul2 o2_mul (dv 2) (de_op op_add5 o2_add (de_op op_fdiv o2_div (dv 2) (de_int)) (de_int))) (de_int)))
      (dss_one (ds_ret (de_op op_mod o2_mod (de_op op_mod o2_mod (de_op op_mul2 o2_mul (dv 2) (de_op op_add5 o2_add (de_op op_fdiv o2_div (dv 2) (de_int)) (de_int))) (de_int)) (dv 1))))))))
theorem ok__law_digit (T : Txt K mg base cls oq tb) : Callee P w ⟨K, T0, cls, oq, tb, w0⟩ mg base 1 "_law_digit" 2 [] F__law_digit := by
  obtain ⟨f, fd, FF, m⟩ := T.d__law_digit
  exact ⟨arity_call, f, fd, ["_law_state", "_law_base"], [], [], rfl, fn__law_digit T FF, m, FF.kp, FF.binds fun _ _ _ _ _ _ us hl => match us, hl with | [_, _], _ => rfl, .nil, fun _ => .nil⟩
theorem sc__law_name : FnScope ["_law_state", "_law_found", "_law_k"] ["_law_state"] (defScope s__law_name) := ⟨rfl, rfl, rfl, by decide +kernel, rfl, by decide +kernel, by decide +kernel⟩
theorem fn__law_name (T : Txt K mg base cls oq tb) {f : Addr} {fd : FuncData} (FF : Fun K "_law_name" "_law_name" s__law_name f fd) : FnOk P w K mg base (L2.CX P w) 2 f fd ["_law_state"] (spD ⟨K, T0, cls, oq, tb, w0⟩ 1 F__law_name) := by
  have sc := sc__law_name
  refine fun_ok (G := ⟨K, T0, cls, oq, tb, w0⟩) (k := 1) FF sc rfl rfl fun cdv A outer s H E hr => ?_
  have hu : (A.deeper (envOfC "_law_name" (defScope s__law_name) s.heap.objs.size f cdv)).units + 64 < cLine := hr.units
  have tk : Takes (cxOf (L2.CX P w) P w K mg base ["_law_state", "_law_found", "_law_k"] "_law_name" (defScope s__law_name) f cdv A outer s H E) (fun c d _ H => E c d H) := takes_of rfl rfl rfl rfl
  have hp := passes_of (X := cxOf (L2.CX P w) P w K mg base ["_law_state", "_law_found", "_law_k"] "_law_name" (defScope s__law_name) f cdv A outer s H E) rfl
  exact dss_cons (ds_set (i := 1) sc.nd rfl (Or.inl rfl) (de_str))
      (dss_cons (ds_for hp rfl (pi_range1 rfl T.b_range (DA.pa (da_cons (de_op op_add5 o2_add (de_int) (de_call rfl (ok__law_digit T) (hr.mono (by decide)) rfl tk (da_cons (dv 0) (da_cons (de_int) (da_nil))))) (da_nil)))) (io_rng1 _) (pg_name (i := 2) sc.nd rfl (Or.inl rfl)) (g_name)
      (dss_one (ds_set (i := 1) sc.nd rfl (Or.inl rfl) (de_op op_add5 o2_add (dv 1) (de_ix rfl (de_str) (de_call rfl (ok__law_digit T) (hr.mono (by decide)) rfl tk (da_cons (dv 0) (da_cons (de_int) (da_nil)))))))))
      (dss_one (ds_ret (dv 1))))
theorem ok__law_name (T : Txt K mg base cls oq tb) : Callee P w ⟨K, T0, cls, oq, tb, w0⟩ mg base 2 "_law_name" 1 [] F__law_name := by
  obtain ⟨f, fd, FF, m⟩ := T.d__law_name
  exact ⟨arity_call, f, fd, ["_law_state"], [], [], rfl, fn__law_name T FF, m, FF.kp, FF.binds fun _ _ _ _ _ _ us hl => match us, hl with | [_], _ => rfl, .nil, fun _ => .nil⟩
theorem sc__law_key : FnScope ["_law_state", "_law_number"] ["_law_state"] (defScope s__law_key) := ⟨rfl, rfl, rfl, by decide +kernel, rfl, by decide +kernel, by decide +kernel⟩
theorem fn__law_key (T : Txt K mg base cls oq tb) {f : Addr} {fd : FuncData} (FF : Fun K "_law_key" "_law_key" s__law_key f fd) : FnOk P w K mg base (L2.CX P w) 3 f fd ["_law_state"] (spD ⟨K, T0, cls, oq, tb, w0⟩ 1 F__law_key) := by
  have sc := sc__law_key
  refine fun_ok (G := ⟨K, T0, cls, oq, tb, w0⟩) (k := 2) FF sc rfl rfl fun cdv A outer s H E hr => ?_
  have hu : (A.deeper (envOfC "_law_key" (defScope s__law_key) s.heap.objs.size f cdv)).units + 64 < cLine := hr.units
  have tk : Takes (cxOf (L2.CX P w) P w K mg base ["_law_state", "_law_number"] "_law_key" (defScope s__law_key) f cdv A outer s H E) (fun c d _ H => E c d H) := takes_of rfl rfl rfl rfl
  have hp := passes_of (X := cxOf (L2.CX P w) P w K mg base ["_law_state", "_law_number"] "_law_key" (defScope s__law_key) f cdv A outer s H E) rfl
  exact dss_cons (ds_set (i := 1) sc.nd rfl (Or.inl rfl) (de_ix rfl (de_lst (da_cons (de_call rfl (ok__law_digit T) (hr.mono (by decide)) rfl tk (da_cons (dv 0) (da_cons (de_int) (da_nil)))) (da_cons (de_call rfl (ok__law_digit T) (hr.mono (by decide)) rfl tk (da_cons (dv 0) (da_cons (de_int) (da_nil)))) (da_cons (de_int) (da_nil))))) (de_call rfl (ok__law_digit T) (hr.mono (by decide)) rfl tk (da_cons (dv 0) (da_cons (de_int) (da_nil))))))
      (dss_one (ds_ret (de_tup (da_cons (dv 1) (da_cons (de_call rfl (ok__law_name T) (hr.mono (by decide)) rfl tk (da_cons (dv 0) (da_nil))) (da_cons (de_call rfl (ok__law_name T) (hr.mono (by decide)) rfl tk (da_cons (dv 0) (da_nil))) (da_nil)))))))
theorem ok__law_key (T : Txt K mg base cls oq tb) : Callee P w ⟨K, T0, cls, oq, tb, w0⟩ mg base 3 "_law_key" 1 [] F__law_key := by
  obtain ⟨f, fd, FF, m⟩ := T.d__law_key
  exact ⟨arity_call, f, fd, ["_law_state"], [], [], rfl, fn__law_key T FF, m, FF.kp, FF.binds fun _ _ _ _ _ _ us hl => match us, hl with | [_], _ => rfl, .nil, fun _ => .nil⟩
theorem sc__law_body : FnScope ["_law_state", "_law_amount_here", "_law_found", "_law_step", "_law_k"] ["_law_state", "_law_amount_here"] (defScope s__law_body) := ⟨rfl, rfl, rfl, by decide +kernel, rfl, by decide +kernel, by decide +kernel⟩
theorem fn__law_body (T : Txt K mg base cls oq tb) {f : Addr} {fd : FuncData} (FF : Fun K "_law_body" "_law_body" s__law_body f fd) : FnOk P w K mg base (L2.CX P w) 2 f fd ["_law_state", "_law_amount_here"] (spD ⟨K, T0, cls, oq, tb, w0⟩ 2 F__law_body) := by
  have sc := sc__law_body
  refine fun_ok (G := ⟨K, T0, cls, oq, tb, w0⟩) (k := 1) FF sc rfl rfl fun cdv A outer s H E hr => ?_
  have hu : (A.deeper (envOfC "_law_body" (defScope s__law_body) s.heap.objs.size f cdv)).units + 64 < cLine := hr.units
  have tk : Takes (cxOf (L2.CX P w) P w K mg base ["_law_state", "_law_amount_here", "_law_found", "_law_step", "_law_k"] "_law_body" (defScope s__law_body) f cdv A outer s H E) (fun c d _ H => E c d H) := takes_of rfl rfl rfl rfl
  have hp := passes_of (X := cxOf (L2.CX P w) P w K mg base ["_law_state", "_law_amount_here", "_law_found", "_law_step", "_law_k"] "_law_body" (defScope s__law_body) f cdv A outer s H E) rfl
  exact dss_cons (ds_setLcG (own := [("_law_k", 4)]) fin_cel (i := 2) rfl sc.nd rfl rfl (sw_true rfl rfl rfl (by decide +kernel)) (pi_range1 rfl T.b_range (DA.pa (da_cons (de_callB (call_min2 rfl) oa_min2 rfl T.b_min (by decide +kernel) (da_cons (dv 1) (da_cons (de_int) (da_nil)))) (da_nil)))) (io_rng1 _) (blkOk_by (N := ["_law_state", "_law_amount_here", "_law_found", "_law_step", "_law_k"]) (sc := defScope s__law_body) (by decide +kernel)) (g_name) (by decide) (fun _ _ _ _ _ => pg_name (i := 4) sc.nd rfl (Or.inl rfl)) (fun _ _ _ _ _ => dts_nil) (fun _ _ _ _ _ => de_call rfl (ok__law_digit T) (hr.mono (by decide)) rfl takes0 (da_cons (dv 0) (da_cons (de_int) (da_nil)))))
      (dss_cons (ds_set (i := 3) sc.nd rfl (Or.inl rfl) (de_op op_add5 o2_add (de_int) (de_call rfl (ok__law_digit T) (hr.mono (by decide)) rfl tk (da_cons (dv 0) (da_cons (de_int) (da_nil))))))
      (dss_cons (ds_while hp (dt_cmp op_lt o2_lt (nomark _) (de_callB c_len oa_len rfl T.b_len (by decide +kernel) (da_cons (dv 2) (da_nil))) (dv 1)) (dss_one (ds_expr (de_bm rfl PySem.F.plainAttrs_list PySem.F.slot_list_append PySem.F.type_list_append mt_append om_append tm_list (dv 2) (da_cons (de_op op_mod o2_mod (de_op op_add5 o2_add (de_ix rfl (dv 2) (de_op op_sub o2_sub (de_callB c_len oa_len rfl T.b_len (by decide +kernel) (da_cons (dv 2) (da_nil))) (de_int))) (dv 3)) (de_int)) (da_nil))))))
      (dss_one (ds_ret (de_frz (dv 2))))))
theorem ok__law_body (T : Txt K mg base cls oq tb) : Callee P w ⟨K, T0, cls, oq, tb, w0⟩ mg base 2 "_law_body" 2 [] F__law_body := by
  obtain ⟨f, fd, FF, m⟩ := T.d__law_body
  exact ⟨arity_call, f, fd, ["_law_state", "_law_amount_here"], [], [], rfl, fn__law_body T FF, m, FF.kp, FF.binds fun _ _ _ _ _ _ us hl => match us, hl with | [_, _], _ => rfl, .nil, fun _ => .nil⟩
theorem sc__law_odd_key : FnScope ["_law_state", "_law_key_here", "_law_number", "_law_name_here", "_law_some"] ["_law_state", "_law_key_here"] (defScope s__law_odd_key) := ⟨rfl, rfl, rfl, by decide +kernel, rfl, by decide +kernel, by decide +kernel⟩
theorem fn__law_odd_key (T : Txt K mg base cls oq tb) {f : Addr} {fd : FuncData} (FF : Fun K "_law_odd_key" "_law_odd_key" s__law_odd_key f fd) : FnOk P w K mg base (L2.CX P w) 2 f fd ["_law_state", "_law_key_here"] (spD ⟨K, T0, cls, oq, tb, w0⟩ 2 F__law_odd_key) := by
  have sc := sc__law_odd_key
  refine fun_ok (G := ⟨K, T0, cls, oq, tb, w0⟩) (k := 1) FF sc rfl rfl fun cdv A outer s H E hr => ?_
  have hu : (A.deeper (envOfC "_law_odd_key" (defScope s__law_odd_key) s.heap.objs.size f cdv)).units + 64 < cLine := hr.units
  have tk : Takes (cxOf (L2.CX P w) P w K mg base ["_law_state", "_law_key_here", "_law_number", "_law_name_here", "_law_some"] "_law_odd_key" (defScope s__law_odd_key) f cdv A outer s H E) (fun c d _ H => E c d H) := takes_of rfl rfl rfl rfl
  have hp := passes_of (X := cxOf (L2.CX P w) P w K mg base ["_law_state", "_law_key_here", "_law_number", "_law_name_here", "_law_some"] "_law_odd_key" (defScope s__law_odd_key) f cdv A outer s H E) rfl
  exact dss_cons (ds_set (i := 2) sc.nd rfl (Or.inl rfl) (de_ix rfl (de_lst (da_cons (de_neg (de_int)) (da_cons (de_int) (da_cons (de_bl) (da_cons (de_non) (da_cons (de_str) (da_cons (de_op op_pow o2_pow (de_int) (de_int)) (da_nil)))))))) (de_call rfl (ok__law_digit T) (hr.mono (by decide)) rfl tk (da_cons (dv 0) (da_cons (de_int) (da_nil))))))
      (dss_cons (ds_set (i := 3) sc.nd rfl (Or.inl rfl) (de_ix rfl (de_lst (da_cons (de_str) (da_cons (de_str) (da_cons (de_str) (da_cons (de_str) (da_cons (de_str) (da_cons (de_non) (da_cons (de_lst (da_cons (de_str) (da_nil))) (da_cons (de_int) (da_nil)))))))))) (de_call rfl (ok__law_digit T) (hr.mono (by decide)) rfl tk (da_cons (dv 0) (da_cons (de_int) (da_nil))))))
      (dss_cons (ds_set (i := 4) sc.nd rfl (Or.inl rfl) (de_lst (da_cons (de_tup (da_cons (dv 2) (da_cons (de_ix rfl (dv 1) (de_int)) (da_cons (de_ix rfl (dv 1) (de_int)) (da_nil))))) (da_cons (de_tup (da_cons (de_ix rfl (dv 1) (de_int)) (da_cons (dv 3) (da_cons (de_ix rfl (dv 1) (de_int)) (da_nil))))) (da_cons (de_tup (da_cons (de_ix rfl (dv 1) (de_int)) (da_cons (de_ix rfl (dv 1) (de_int)) (da_cons (dv 3) (da_nil))))) (da_cons (de_tup (da_cons (dv 2) (da_cons (dv 3) (da_cons (dv 3) (da_nil))))) (da_nil)))))))
      (dss_one (ds_ret (de_ix rfl (dv 4) (de_call rfl (ok__law_digit T) (hr.mono (by decide)) rfl tk (da_cons (dv 0) (da_cons (de_int) (da_nil)))))))))
theorem ok__law_odd_key (T : Txt K mg base cls oq tb) : Callee P w ⟨K, T0, cls, oq, tb, w0⟩ mg base 2 "_law_odd_key" 2 [] F__law_odd_key := by
  obtain ⟨f, fd, FF, m⟩ := T.d__law_odd_key
  exact ⟨arity_call, f, fd, ["_law_state", "_law_key_here"], [], [], rfl, fn__law_odd_key T FF, m, FF.kp, FF.binds fun _ _ _ _ _ _ us hl => match us, hl with | [_, _], _ => rfl, .nil, fun _ => .nil⟩
theorem sc__law_odd_at : FnScope ["_law_state", "_law_body_here", "_law_far", "_law_near"] ["_law_state", "_law_body_here"] (defScope s__law_odd_at) := ⟨rfl, rfl, rfl, by decide +kernel, rfl, by decide +kernel, by decide +kernel⟩
theorem fn__law_odd_at (T : Txt K mg base cls oq tb) {f : Addr} {fd : FuncData} (FF : Fun K "_law_odd_at" "_law_odd_at" s__law_odd_at f fd) : FnOk P w K mg base (L2.CX P w) 2 f fd ["_law_state", "_law_body_here"] (spD ⟨K, T0, cls, oq, tb, w0⟩ 2 F__law_odd_at) := by
  have sc := sc__law_odd_at
  refine fun_ok (G := ⟨K, T0, cls, oq, tb, w0⟩) (k := 1) FF sc rfl rfl fun cdv A outer s H E hr => ?_
  have hu : (A.deeper (envOfC "_law_odd_at" (defScope s__law_odd_at) s.heap.objs.size f cdv)).units + 64 < cLine := hr.units
  have tk : Takes (cxOf (L2.CX P w) P w K mg base ["_law_state", "_law_body_here", "_law_far", "_law_near"] "_law_odd_at" (defScope s__law_odd_at) f cdv A outer s H E) (fun c d _ H => E c d H) := takes_of rfl rfl rfl rfl
  have hp := passes_of (X := cxOf (L2.CX P w) P w K mg base ["_law_state", "_law_body_here", "_law_far", "_law_near"] "_law_odd_at" (defScope s__law_odd_at) f cdv A outer s H E) rfl
  exact dss_cons (ds_set (i := 2) sc.nd rfl (Or.inl rfl) (de_op op_add5 o2_add (de_op op_mul2 o2_mul (de_op op_fdiv o2_div (de_op op_sub o2_sub (de_int) (de_callB c_len oa_len rfl T.b_len (by decide +kernel) (da_cons (dv 1) (da_nil)))) (de_int)) (de_int)) (de_int)))
      (dss_cons (ds_set (i := 3) sc.nd rfl (Or.inl rfl) (de_op op_add5 o2_add (de_op op_add5 o2_add (de_op op_mul2 o2_mul (de_int) (de_call rfl (ok__law_digit T) (hr.mono (by decide)) rfl tk (da_cons (dv 0) (da_cons (de_int) (da_nil))))) (de_int)) (de_call rfl (ok__law_digit T) (hr.mono (by decide)) rfl tk (da_cons (dv 0) (da_cons (de_int) (da_nil))))))
      (dss_one (ds_ret (de_ix rfl (de_lst (da_cons (de_neg (de_int)) (da_cons (dv 3) (da_cons (dv 3) (da_cons (dv 2) (da_cons (dv 2) (da_cons (de_int) (da_cons (de_int) (da_cons (de_bl) (da_cons (de_bl) (da_cons (de_non) (da_cons (de_str) (da_cons (de_neg (de_int)) (da_cons (de_op op_mul2 o2_mul (de_int) (de_op op_pow o2_pow (de_int) (de_int))) (da_nil))))))))))))))) (de_call rfl (ok__law_digit T) (hr.mono (by decide)) rfl tk (da_cons (dv 0) (da_cons (de_int) (da_nil))))))))
theorem ok__law_odd_at (T : Txt K mg base cls oq tb) : Callee P w ⟨K, T0, cls, oq, tb, w0⟩ mg base 2 "_law_odd_at" 2 [] F__law_odd_at := by
  obtain ⟨f, fd, FF, m⟩ := T.d__law_odd_at
  exact ⟨arity_call, f, fd, ["_law_state", "_law_body_here"], [], [], rfl, fn__law_odd_at T FF, m, FF.kp, FF.binds fun _ _ _ _ _ _ us hl => match us, hl with | [_, _], _ => rfl, .nil, fun _ => .nil⟩
theorem sc__law_odd_body : FnScope ["_law_state", "_law_body_here", "_law_at", "_law_odd", "_law_some"] ["_law_state", "_law_body_here"] (defScope s__law_odd_body) := ⟨rfl, rfl, rfl, by decide +kernel, rfl, by decide +kernel, by decide +kernel⟩
theorem fn__law_odd_body (T : Txt K mg base cls oq tb) {f : Addr} {fd : FuncData} (FF : Fun K "_law_odd_body" "_law_odd_body" s__law_odd_body f fd) : FnOk P w K mg base (L2.CX P w) 2 f fd ["_law_state", "_law_body_here"] (spD ⟨K, T0, cls, oq, tb, w0⟩ 2 F__law_odd_body) := by
  have sc := sc__law_odd_body
  refine fun_ok (G := ⟨K, T0, cls, oq, tb, w0⟩) (k := 1) FF sc rfl rfl fun cdv A outer s H E hr => ?_
  have hu : (A.deeper (envOfC "_law_odd_body" (defScope s__law_odd_body) s.heap.objs.size f cdv)).units + 64 < cLine := hr.units
  have tk : Takes (cxOf (L2.CX P w) P w K mg base ["_law_state", "_law_body_here", "_law_at", "_law_odd", "_law_some"] "_law_odd_body" (defScope s__law_odd_body) f cdv A outer s H E) (fun c d _ H => E c d H) := takes_of rfl rfl rfl rfl
  have hp := passes_of (X := cxOf (L2.CX P w) P w K mg base ["_law_state", "_law_body_here", "_law_at", "_law_odd", "_law_some"] "_law_odd_body" (defScope s__law_odd_body) f cdv A outer s H E) rfl
  exact dss_cons (ds_set (i := 2) sc.nd rfl (Or.inl rfl) (de_call rfl (ok__law_digit T) (hr.mono (by decide)) rfl tk (da_cons (dv 0) (da_cons (de_callB c_len oa_len rfl T.b_len (by decide +kernel) (da_cons (dv 1) (da_nil))) (da_nil)))))
      (dss_cons (ds_set (i := 3) sc.nd rfl (Or.inl rfl) (de_ix rfl (de_lst (da_cons (de_neg (de_int)) (da_cons (de_int) (da_cons (de_bl) (da_cons (de_bl) (da_cons (de_non) (da_cons (de_str) (da_cons (de_lst (da_cons (de_int) (da_nil))) (da_nil))))))))) (de_call rfl (ok__law_digit T) (hr.mono (by decide)) rfl tk (da_cons (dv 0) (da_cons (de_int) (da_nil))))))
      (dss_cons (ds_set (i := 4) sc.nd rfl (Or.inl rfl) (de_lst (da_cons (de_lst (da_nil)) (da_cons (de_op op_mul2 o2_mul (de_sl rfl (dv 1) (do_none) (do_some (de_int))) (de_int)) (da_cons (de_callT call_tuple_of oa_tuple rfl T.b_tuple (by decide +kernel) (da_cons (dv 1) (da_nil))) (da_cons (de_non) (da_cons (de_str) (da_cons (de_int) (da_nil)))))))))
      (dss_cons (ds_set (i := 4) sc.nd rfl (Or.inl rfl) (de_op op_add5 o2_add (dv 4) (de_op op_mul2 o2_mul (de_lst (da_cons (de_op op_add5 o2_add (de_op op_add5 o2_add (de_sl rfl (dv 1) (do_none) (do_some (dv 2))) (de_lst (da_cons (dv 3) (da_nil)))) (de_sl rfl (dv 1) (do_some (de_op op_add5 o2_add (dv 2) (de_int))) (do_none))) (da_nil))) (de_int))))
      (dss_one (ds_ret (de_ix rfl (dv 4) (de_call rfl (ok__law_digit T) (hr.mono (by decide)) rfl tk (da_cons (dv 0) (da_cons (de_int) (da_nil))))))))))
theorem ok__law_odd_body (T : Txt K mg base cls oq tb) : Callee P w ⟨K, T0, cls, oq, tb, w0⟩ mg base 2 "_law_odd_body" 2 [] F__law_odd_body := by
  obtain ⟨f, fd, FF, m⟩ := T.d__law_odd_body
  exact ⟨arity_call, f, fd, ["_law_state", "_law_body_here"], [], [], rfl, fn__law_odd_body T FF, m, FF.kp, FF.binds fun _ _ _ _ _ _ us hl => match us, hl with | [_, _], _ => rfl, .nil, fun _ => .nil⟩
theorem sc__law_refusal : FnScope ["_law_ask", "_law_refusal_here", "e", "_law_kinds", "_law_words", "_law_found", "_law_k"] ["_law_ask"] (defScope s__law_refusal) := ⟨rfl, rfl, rfl, by decide +kernel, rfl, by decide +kernel, by decide +kernel⟩
theorem fn__law_refusal (T : Txt K mg base cls oq tb) {f : Addr} {fd : FuncData} (FF : Fun K "_law_refusal" "_law_refusal" s__law_refusal f fd) : FnOk P w K mg base (L2.CX P w) 10 f fd ["_law_ask"] (spD ⟨K, T0, cls, oq, tb, w0⟩ 1 F__law_refusal) := by
  have sc := sc__law_refusal
  refine fun_ok (G := ⟨K, T0, cls, oq, tb, w0⟩) (k := 9) FF sc rfl rfl fun cdv A outer s H E hr => ?_
  have hu : (A.deeper (envOfC "_law_refusal" (defScope s__law_refusal) s.heap.objs.size f cdv)).units + 64 < cLine := hr.units
  have tk : Takes (cxOf (L2.CX P w) P w K mg base ["_law_ask", "_law_refusal_here", "e", "_law_kinds", "_law_words", "_law_found", "_law_k"] "_law_refusal" (defScope s__law_refusal) f cdv A outer s H E) (fun c d _ H => E c d H) := takes_of rfl rfl rfl rfl
  have hp := passes_of (X := cxOf (L2.CX P w) P w K mg base ["_law_ask", "_law_refusal_here", "e", "_law_kinds", "_law_words", "_law_found", "_law_k"] "_law_refusal" (defScope s__law_refusal) f cdv A outer s H E) rfl
  exact dss_cons (ds_set (i := 1) sc.nd rfl (Or.inl rfl) (de_non))
      (dss_cons (ds_tryAs (i := 2) (j := 1) rfl rfl rfl rfl rfl sc.nd rfl rfl rfl (Or.inl rfl) T.ef T.sf T.cl_WayError rfl T.mc_WayError tk (fun W pn xe tk hp =>
      dss_one (ds_expr (de_cloC (N := ["_law_key_here", "_law_at", "_law_body_here", "_law_more", "_law_keep"]) (qual := "_law_made") (sc := defScope s__law_made) (fM := (0 : Nat)) (cdM := Value.none) rfl (hr.mono (by decide)) tk T.oc__law_made T.okk__law_made (dv 0) (lg_clo T)))))
      (dss_cons (ds_set (i := 3) sc.nd rfl (Or.inr rfl) (de_lst (da_cons (de_isiX (t := 13) rfl T.cf T.kf T.ef (.own _) (pe_glob rfl T.mc_NoLetter rfl) (dv 1) rfl T.b_isinstance) (da_cons (de_isiX (t := 14) rfl T.cf T.kf T.ef (.own _) (pe_glob rfl T.mc_NoPiece rfl) (dv 1) rfl T.b_isinstance) (da_cons (de_isiX (t := 15) rfl T.cf T.kf T.ef (.own _) (pe_glob rfl T.mc_NoWidth rfl) (dv 1) rfl T.b_isinstance) (da_nil))))))
      (dss_cons (ds_set (i := 3) sc.nd rfl (Or.inr rfl) (de_op op_add5 o2_add (dv 3) (de_lst (da_cons (de_isiX (t := 16) rfl T.cf T.kf T.ef (.own _) (pe_glob rfl T.mc_TooWide rfl) (dv 1) rfl T.b_isinstance) (da_cons (de_isiX (t := 17) rfl T.cf T.kf T.ef (.own _) (pe_glob rfl T.mc_NoRule rfl) (dv 1) rfl T.b_isinstance) (da_cons (de_isiX (t := 18) rfl T.cf T.kf T.ef (.own _) (pe_glob rfl T.mc_NoTime rfl) (dv 1) rfl T.b_isinstance) (da_nil)))))))
      (dss_cons (ds_set (i := 3) sc.nd rfl (Or.inr rfl) (de_op op_add5 o2_add (dv 3) (de_lst (da_cons (de_isiX (t := 19) rfl T.cf T.kf T.ef (.own _) (pe_glob rfl T.mc_NoKey rfl) (dv 1) rfl T.b_isinstance) (da_cons (de_isiX (t := 20) rfl T.cf T.kf T.ef (.own _) (pe_glob rfl T.mc_NoText rfl) (dv 1) rfl T.b_isinstance) (da_cons (de_isiX (t := 21) rfl T.cf T.kf T.ef (.own _) (pe_glob rfl T.mc_NoRow rfl) (dv 1) rfl T.b_isinstance) (da_nil)))))))
      (dss_cons (ds_set (i := 3) sc.nd rfl (Or.inr rfl) (de_op op_add5 o2_add (dv 3) (de_lst (da_cons (de_isiX (t := 22) rfl T.cf T.kf T.ef (.own _) (pe_glob rfl T.mc_NoRoom rfl) (dv 1) rfl T.b_isinstance) (da_cons (de_isiX (t := 23) rfl T.cf T.kf T.ef (.own _) (pe_glob rfl T.mc_NoRoad rfl) (dv 1) rfl T.b_isinstance) (da_nil))))))
      (dss_cons (ds_set (i := 4) sc.nd rfl (Or.inr rfl) (de_lst (da_cons (de_str) (da_cons (de_str) (da_cons (de_str) (da_cons (de_str) (da_cons (de_str) (da_cons (de_str) (da_cons (de_str) (da_cons (de_str) (da_cons (de_str) (da_cons (de_str) (da_cons (de_str) (da_nil))))))))))))))
      (dss_cons (ds_setLcG (own := [("_law_k", 6)]) fin_lst (i := 5) rfl sc.nd rfl rfl (sw_true rfl rfl rfl (by decide +kernel)) (pi_range1 rfl T.b_range (DA.pa (da_cons (de_int) (da_nil)))) (io_rng1 _) (blkOk_by (N := ["_law_ask", "_law_refusal_here", "e", "_law_kinds", "_law_words", "_law_found", "_law_k"]) (sc := defScope s__law_refusal) (by decide +kernel)) (g_name) (by decide) (fun _ _ _ _ _ => pg_name (i := 6) sc.nd rfl (Or.inl rfl)) (fun _ _ _ _ _ => dts_one (dt_val (de_ix rfl (dv 3) (dv 6)))) (fun _ _ _ _ _ => de_ix rfl (dv 4) (dv 6)))
      (dss_cons (ds_if (dw_pt (dw_or (dt_cmp (op_neD hu) o2_neV (nomark _) (de_callB c_len oa_len rfl T.b_len (by decide +kernel) (da_cons (dv 5) (da_nil))) (de_int)) (dw_or1 (dt_not (dt_val (de_isiX (t := 7) rfl T.cf T.kf T.ef (.ty _) (pe_bltn rfl T.b_ValueError (by decide +kernel) rfl) (dv 1) rfl T.b_isinstance))))))
      (dss_one (ds_ret (de_str)))
      (dss_nil))
      (dss_one (ds_ret (de_ix rfl (dv 5) (de_int))))))))))))
theorem ok__law_refusal (T : Txt K mg base cls oq tb) : Callee P w ⟨K, T0, cls, oq, tb, w0⟩ mg base 10 "_law_refusal" 1 [] F__law_refusal := by
  obtain ⟨f, fd, FF, m⟩ := T.d__law_refusal
  exact ⟨arity_call, f, fd, ["_law_ask"], [], [], rfl, fn__law_refusal T FF, m, FF.kp, FF.binds fun _ _ _ _ _ _ us hl => match us, hl with | [_], _ => rfl, .nil, fun _ => .nil⟩
theorem sc_Piece_end : FnScope ["self"] ["self"] (defScope s_Piece_end) := ⟨rfl, rfl, rfl, by decide +kernel, rfl, by decide +kernel, by decide +kernel⟩
theorem fn_Piece_end (T : Txt K mg base cls oq tb) {f : Addr} {fd : FuncData} (FF : Fun K "end" "Piece.end" s_Piece_end f fd) : FnOk P w K mg base (L2.CX P w) 1 f fd ["self"] (spD ⟨K, T0, cls, oq, tb, w0⟩ 1 F_Piece_end) := by
  have sc := sc_Piece_end
  refine fun_ok (G := ⟨K, T0, cls, oq, tb, w0⟩) (k := 0) FF sc rfl rfl fun cdv A outer s H E hr => ?_
  have hu : (A.deeper (envOfC "Piece.end" (defScope s_Piece_end) s.heap.objs.size f cdv)).units + 64 < cLine := hr.units
  have tk : Takes (cxOf (L2.CX P w) P w K mg base ["self"] "Piece.end" (defScope s_Piece_end) f cdv A outer s H E) (fun c d _ H => E c d H) := takes_of rfl rfl rfl rfl
  have hp := passes_of (X := cxOf (L2.CX P w) P w K mg base ["self"] "Piece.end" (defScope s_Piece_end) f cdv A outer s H E) rfl
  exact dss_one (ds_ret (de_op op_add5 o2_add (de_fld (k := 5) rfl T.cf rfl (dv 0)) (de_callB c_len oa_len rfl T.b_len (by decide +kernel) (da_cons (de_fld (k := 3) rfl T.cf rfl (dv 0)) (da_nil)))))
theorem mo_end (T : Txt K mg base cls oq tb) : MethOk P w ⟨K, T0, cls, oq, tb, w0⟩ mg base 1 "end" M_end := ⟨fun c np F h => by
  unfold M_end at h
  split at h
  · cases h
    obtain ⟨f, fd, FF, mm⟩ := T.m_Piece_end
    exact meth_ok T.cf (by show (1 : Nat) < T0.ncl; decide) (by show _ ∉ (T0.fl 1).map T0.nm; decide) arity_call (ps := ["self"]) rfl (fn_Piece_end T FF) mm (FF.binds fun _ _ _ _ _ _ us hl => match us, hl with | [_], _ => rfl)
  · cases h⟩
theorem sc_law : FnScope ["_law_script", "_law_cell", "_law_state", "_law_key_here", "_law_body_here", "_law_at", "_law_more", "_law_keep", "_law_odd", "_law_short", "_law_bad", "_law_ask"] ["_law_script"] (defScope s_law) := ⟨rfl, rfl, rfl, by decide +kernel, rfl, by decide +kernel, by decide +kernel⟩
theorem fn_law (T : Txt K mg base cls oq tb) {f : Addr} {fd : FuncData} (FF : Fun K "law" "law" s_law f fd) : FnOk P w K mg base (L2.CX P w) 11 f fd ["_law_script"] (spD ⟨K, T0, cls, oq, tb, w0⟩ 1 F_law) := by
  have sc := sc_law
  refine fun_ok (G := ⟨K, T0, cls, oq, tb, w0⟩) (k := 10) FF sc rfl rfl fun cdv A outer s H E hr => ?_
  have hu : (A.deeper (envOfC "law" (defScope s_law) s.heap.objs.size f cdv)).units + 64 < cLine := hr.units
  have tk : Takes (cxOf (L2.CX P w) P w K mg base ["_law_script", "_law_cell", "_law_state", "_law_key_here", "_law_body_here", "_law_at", "_law_more", "_law_keep", "_law_odd", "_law_short", "_law_bad", "_law_ask"] "law" (defScope s_law) f cdv A outer s H E) (fun c d _ H => E c d H) := takes_of rfl rfl rfl rfl
  have hp := passes_of (X := cxOf (L2.CX P w) P w K mg base ["_law_script", "_law_cell", "_law_state", "_law_key_here", "_law_body_here", "_law_at", "_law_more", "_law_keep", "_law_odd", "_law_short", "_law_bad", "_law_ask"] "law" (defScope s_law) f cdv A outer s H E) rfl
  exact dss_cons (ds_for hp rfl (pi_list (DE.pe (de_op op_add5 o2_add (de_lst (da_cons (de_int) (da_nil))) (de_sl rfl (dv 0) (do_none) (do_some (de_int)))))) (io_list _) (pg_name (i := 1) sc.nd rfl (Or.inl rfl)) (g_name)
      (dss_cons (ds_set (i := 2) sc.nd rfl (Or.inl rfl) (de_lstC (da_cons (dv 1) (da_nil))))
      (dss_cons (ds_set (i := 3) sc.nd rfl (Or.inl rfl) (de_call rfl (ok__law_key T) (hr.mono (by decide)) rfl tk (da_cons (dv 2) (da_nil))))
      (dss_cons (ds_set (i := 4) sc.nd rfl (Or.inl rfl) (de_call rfl (ok__law_body T) (hr.mono (by decide)) rfl tk (da_cons (dv 2) (da_cons (de_op op_mul2 o2_mul (de_int) (de_op op_add5 o2_add (de_int) (de_call rfl (ok__law_digit T) (hr.mono (by decide)) rfl tk (da_cons (dv 2) (da_cons (de_int) (da_nil)))))) (da_nil)))))
      (dss_cons (ds_set (i := 5) sc.nd rfl (Or.inl rfl) (de_op op_mul2 o2_mul (de_int) (de_call rfl (ok__law_digit T) (hr.mono (by decide)) rfl tk (da_cons (dv 2) (da_cons (de_int) (da_nil))))))
      (dss_cons (ds_set (i := 6) sc.nd rfl (Or.inl rfl) (de_cmp (op_eqD hu) o2_eqV (nomark _) (de_call rfl (ok__law_digit T) (hr.mono (by decide)) rfl tk (da_cons (dv 2) (da_cons (de_int) (da_nil)))) (de_int)))
      (dss_cons (ds_set (i := 7) sc.nd rfl (Or.inl rfl) (de_cmp (op_eqD hu) o2_eqV (nomark _) (de_call rfl (ok__law_digit T) (hr.mono (by decide)) rfl tk (da_cons (dv 2) (da_cons (de_int) (da_nil)))) (de_int)))
      (dss_cons (ds_set (i := 8) sc.nd rfl (Or.inl rfl) (de_ix rfl (de_lst (da_cons (de_int) (da_cons (de_int) (da_cons (de_non) (da_cons (de_str) (da_cons (de_str) (da_cons (de_lst (da_nil)) (da_nil)))))))) (de_call rfl (ok__law_digit T) (hr.mono (by decide)) rfl tk (da_cons (dv 2) (da_cons (de_int) (da_nil))))))
      (dss_cons (ds_set (i := 9) sc.nd rfl (Or.inl rfl) (de_sl rfl (dv 4) (do_none) (do_some (de_op op_sub o2_sub (de_op op_sub o2_sub (de_callB c_len oa_len rfl T.b_len (by decide +kernel) (da_cons (dv 4) (da_nil))) (de_int)) (de_call rfl (ok__law_digit T) (hr.mono (by decide)) rfl tk (da_cons (dv 2) (da_cons (de_int) (da_nil))))))))
      (dss_cons (ds_set (i := 10) sc.nd rfl (Or.inl rfl) (de_lstC (da_cons (de_call rfl (ok__law_made T) (hr.mono (by decide)) rfl tk (da_cons (de_call rfl (ok__law_odd_key T) (hr.mono (by decide)) rfl tk (da_cons (dv 2) (da_cons (dv 3) (da_nil)))) (da_cons (dv 5) (da_cons (dv 4) (da_cons (dv 6) (da_cons (dv 7) (da_nil))))))) (da_cons (de_call rfl (ok__law_made T) (hr.mono (by decide)) rfl tk (da_cons (dv 3) (da_cons (dv 5) (da_cons (dv 4) (da_cons (dv 8) (da_cons (dv 7) (da_nil))))))) (da_nil)))))
      (dss_cons (ds_expr (de_bm rfl PySem.F.plainAttrs_list PySem.F.slot_list_append PySem.F.type_list_append mt_append om_append tm_list (dv 10) (da_cons (de_call rfl (ok__law_made T) (hr.mono (by decide)) rfl tk (da_cons (dv 3) (da_cons (de_call rfl (ok__law_odd_at T) (hr.mono (by decide)) rfl tk (da_cons (dv 2) (da_cons (dv 4) (da_nil)))) (da_cons (dv 4) (da_cons (dv 6) (da_cons (dv 7) (da_nil))))))) (da_nil))))
      (dss_cons (ds_expr (de_bm rfl PySem.F.plainAttrs_list PySem.F.slot_list_append PySem.F.type_list_append mt_append om_append tm_list (dv 10) (da_cons (de_call rfl (ok__law_made T) (hr.mono (by decide)) rfl tk (da_cons (dv 3) (da_cons (dv 5) (da_cons (de_call rfl (ok__law_odd_body T) (hr.mono (by decide)) rfl tk (da_cons (dv 2) (da_cons (dv 4) (da_nil)))) (da_cons (dv 6) (da_cons (dv 7) (da_nil))))))) (da_nil))))
      (dss_cons (ds_expr (de_bm rfl PySem.F.plainAttrs_list PySem.F.slot_list_append PySem.F.type_list_append mt_append om_append tm_list (dv 10) (da_cons (de_call rfl (ok__law_made T) (hr.mono (by decide)) rfl tk (da_cons (dv 3) (da_cons (dv 5) (da_cons (dv 4) (da_cons (dv 6) (da_cons (dv 8) (da_nil))))))) (da_nil))))
      (dss_cons (ds_expr (de_bm rfl PySem.F.plainAttrs_list PySem.F.slot_list_append PySem.F.type_list_append mt_append om_append tm_list (dv 10) (da_cons (de_call rfl (ok__law_made T) (hr.mono (by decide)) rfl tk (da_cons (dv 3) (da_cons (dv 5) (da_cons (dv 9) (da_cons (de_bl) (da_cons (dv 7) (da_nil))))))) (da_nil))))
      (dss_cons (ds_expr (de_bm rfl PySem.F.plainAttrs_list PySem.F.slot_list_append PySem.F.type_list_append mt_append om_append tm_list (dv 10) (da_cons (de_call rfl (ok__law_made T) (hr.mono (by decide)) rfl tk (da_cons (dv 3) (da_cons (de_op op_sub o2_sub (de_int) (de_callB c_len oa_len rfl T.b_len (by decide +kernel) (da_cons (dv 4) (da_nil)))) (da_cons (dv 4) (da_cons (de_bl) (da_cons (dv 7) (da_nil))))))) (da_nil))))
      (dss_cons (ds_frz 10 (ds_expr (de_bm rfl PySem.F.plainAttrs_list PySem.F.slot_list_append PySem.F.type_list_append mt_append om_append tm_list (dv 10) (da_cons (de_call rfl (ok__law_made T) (hr.mono (by decide)) rfl tk (da_cons (de_call rfl (ok__law_odd_key T) (hr.mono (by decide)) rfl tk (da_cons (dv 2) (da_cons (dv 3) (da_nil)))) (da_cons (de_call rfl (ok__law_odd_at T) (hr.mono (by decide)) rfl tk (da_cons (dv 2) (da_cons (dv 4) (da_nil)))) (da_cons (de_non) (da_cons (dv 8) (da_cons (dv 8) (da_nil))))))) (da_nil)))))
      (dss_cons (ds_if (dt_cmp (op_neD hu) o2_neV (nomark _) (de_lc (own := [("_law_ask", 11)]) rfl sc.nd (pi_list (DE.pe (dv 10))) (io_list _) (blkOk_by (N := ["_law_script", "_law_cell", "_law_state", "_law_key_here", "_law_body_here", "_law_at", "_law_more", "_law_keep", "_law_odd", "_law_short", "_law_bad", "_law_ask"]) (sc := defScope s_law) (by decide +kernel)) (g_name) (by decide) (fun _ _ _ _ _ => pg_name (i := 11) sc.nd rfl (Or.inl rfl)) (fun _ _ _ _ _ => dts_one (dt_cmp (op_neD hu) o2_neV (nomark _) (de_call rfl (ok__law_refusal T) (hr.mono (by decide)) rfl takes0 (da_cons (dv 11) (da_nil))) (de_str))) (fun _ _ _ _ _ => dv 11)) (de_lst (da_nil)))
      (dss_one (ds_ret (de_bl)))
      (dss_nil))
      (dss_cons (ds_if (dt_cmp (op_neD hu) o2_neV (nomark _) (de_meth0 rfl (mo_end T) (hr.mono (by decide)) tk (de_cloC (N := ["_law_key_here", "_law_at", "_law_body_here", "_law_more", "_law_keep"]) (qual := "_law_made") (sc := defScope s__law_made) (fM := (0 : Nat)) (cdM := Value.none) rfl (hr.mono (by decide)) tk T.oc__law_made T.okk__law_made (de_call rfl (ok__law_made T) (hr.mono (by decide)) rfl tk (da_cons (dv 3) (da_cons (dv 5) (da_cons (dv 9) (da_cons (de_bl) (da_cons (dv 7) (da_nil))))))) (lg_clo T))) (de_op op_add5 o2_add (dv 5) (de_callB c_len oa_len rfl T.b_len (by decide +kernel) (da_cons (dv 9) (da_nil)))))
      (dss_one (ds_ret (de_bl)))
      (dss_nil))
      (dss_cons (ds_if (dt_cmp (op_neD hu) o2_neV (nomark _) (de_meth0 rfl (mo_end T) (hr.mono (by decide)) tk (de_cloC (N := ["_law_key_here", "_law_at", "_law_body_here", "_law_more", "_law_keep"]) (qual := "_law_made") (sc := defScope s__law_made) (fM := (0 : Nat)) (cdM := Value.none) rfl (hr.mono (by decide)) tk T.oc__law_made T.okk__law_made (de_call rfl (ok__law_made T) (hr.mono (by decide)) rfl tk (da_cons (dv 3) (da_cons (dv 5) (da_cons (dv 4) (da_cons (dv 6) (da_cons (dv 7) (da_nil))))))) (lg_clo T))) (de_op op_add5 o2_add (dv 5) (de_callB c_len oa_len rfl T.b_len (by decide +kernel) (da_cons (dv 4) (da_nil)))))
      (dss_one (ds_ret (de_bl)))
      (dss_nil))
      (dss_cons (ds_if (dt_cmp (op_neD hu) o2_neV (nomark _) (de_meth0 rfl (mo_end T) (hr.mono (by decide)) tk (de_cloC (N := ["_law_key_here", "_law_at", "_law_body_here", "_law_more", "_law_keep"]) (qual := "_law_made") (sc := defScope s__law_made) (fM := (0 : Nat)) (cdM := Value.none) rfl (hr.mono (by decide)) tk T.oc__law_made T.okk__law_made (de_call rfl (ok__law_made T) (hr.mono (by decide)) rfl tk (da_cons (dv 3) (da_cons (de_op op_sub o2_sub (de_int) (de_callB c_len oa_len rfl T.b_len (by decide +kernel) (da_cons (dv 4) (da_nil)))) (da_cons (dv 4) (da_cons (de_bl) (da_cons (dv 7) (da_nil))))))) (lg_clo T))) (de_int))
      (dss_one (ds_ret (de_bl)))
      (dss_nil))
      (dss_one (ds_if (dt_cmp (op_neD hu) o2_neV (nomark _) (de_meth0 rfl (mo_end T) (hr.mono (by decide)) tk (de_cloC (N := ["_law_key_here", "_law_at", "_law_body_here", "_law_more", "_law_keep"]) (qual := "_law_made") (sc := defScope s__law_made) (fM := (0 : Nat)) (cdM := Value.none) rfl (hr.mono (by decide)) tk T.oc__law_made T.okk__law_made (de_call rfl (ok__law_made T) (hr.mono (by decide)) rfl tk (da_cons (dv 3) (da_cons (de_op op_sub o2_sub (de_int) (de_callB c_len oa_len rfl T.b_len (by decide +kernel) (da_cons (dv 4) (da_nil)))) (da_cons (dv 4) (da_cons (de_bl) (da_cons (dv 7) (da_nil))))))) (lg_clo T))) (de_int))
      (dss_one (ds_ret (de_bl)))
      (dss_nil)))))))))))))))))))))))
      (dss_one (ds_ret (de_bl)))
end
end K04

set_option Elab.async false
set_option linter.all false
set_option maxRecDepth 100000
set_option maxHeartbeats 1000000
set_option autoImplicit false
namespace K04
open PySem PySem.Spec PyProof.Rows L2 DL
/-! the law's digits -/
theorem cmul_r {i j : Int} (h : -(2 ^ 64) < j ∧ j < 2 ^ 64) : CMul i j := .inr h
theorem cmul_l {i j : Int} (h : -(2 ^ 64) < i ∧ i < 2 ^ 64) : CMul i j := .inl h
/-- a state: new, or begun -/
def Stt (C : Cells) (n : Nat) : Prop := (∃ x : Int, C.get n = some (.lst [.int x])) ∨ ∃ x y z : Int, C.get n = some (.lst [.int x, .int y, .int z])
theorem digit3 {C : Cells} {n : Nat} {x y z : Int} (e : C.get n = some (.lst [.int x, .int y, .int z])) (b : Int) (hb : 0 < b ∧ b < 1073741824) : ∃ C' v, F__law_digit [.cel n, .int b] C = .ok (.int v) C' ∧ 0 ≤ v ∧ v < b ∧ Stt C' n ∧ Ext [n] C C' := by
  have i0 : dIx (.cel n) (.int 0) C = .ok (.int x) C := by simp [dIx, e, atI, ixN]
  have i1 : dIx (.cel n) (.int 1) C = .ok (.int y) C := by simp [dIx, e, atI, ixN]
  have i2 : dIx (.cel n) (.int 2) C = .ok (.int z) C := by simp [dIx, e, atI, ixN]
  have l3 : bLen [.cel n] C = .ok (.int 3) C := by simp [bLen, e]
  by_cases q : 0 < x
  · refine ⟨C.set n (.lst [.int (x / b), .int y, .int z]), x % b, ?_, Int.emod_nonneg _ (by omega), Int.emod_lt_of_pos _ hb.1, .inr ⟨_, _, _, get_set e⟩, Ext.refl.set (.inl (by simp))⟩
    simp [F__law_digit, l3, i0, q, dMod_i hb.1, dDiv_i hb, setIx, e, ixN]
  · have e2 : (C.set n (.lst [.int x, .int y, .int (z + 1)])).get n = some (.lst [.int x, .int y, .int (z + 1)]) := get_set e
    generalize hC : C.set n (.lst [.int x, .int y, .int (z + 1)]) = C1 at e2
    have ex : Ext [n] C C1 := hC ▸ Ext.refl.set (.inl (by simp))
    have j1 : dIx (.cel n) (.int 1) C1 = .ok (.int y) C1 := by simp [dIx, e2, atI, ixN]
    have j2 : dIx (.cel n) (.int 2) C1 = .ok (.int (z + 1)) C1 := by simp [dIx, e2, atI, ixN]
    have st : setIx (.cel n) (.int 2) (.int (z + 1)) C = some C1 := by simp [setIx, e, ixN, hC]
    have h1 : 0 ≤ (y + 7919 * (z + 1) + 1) * 48271 % 2147483647 ∧ (y + 7919 * (z + 1) + 1) * 48271 % 2147483647 < 2147483647 := ⟨Int.emod_nonneg _ (by decide), Int.emod_lt_of_pos _ (by decide)⟩
    generalize hu : (y + 7919 * (z + 1) + 1) * 48271 % 2147483647 = u at h1
    have h2 : 0 ≤ u * (u / 1009 + 69621) % 2147483647 ∧ u * (u / 1009 + 69621) % 2147483647 < 2147483647 := ⟨Int.emod_nonneg _ (by decide), Int.emod_lt_of_pos _ (by decide)⟩
    generalize hw : u * (u / 1009 + 69621) % 2147483647 = w at h2
    refine ⟨C1, w * (w / 2003 + 40692) % 2147483399 % b, ?_, Int.emod_nonneg _ (by omega), Int.emod_lt_of_pos _ hb.1, .inr ⟨_, _, _, e2⟩, ex⟩
    simp [F__law_digit, l3, i0, q, i2, st, j1, j2, dMul_i (cmul_l (i := 7919) (j := z + 1) (by decide)), dMul_i (cmul_r (i := y + 7919 * (z + 1) + 1) (j := 48271) (by decide)), dMod_i, hu, dDiv_i, dMul_i (cmul_l (i := u) (j := u / 1009 + 69621) (by omega)), hw,
      dMul_i (cmul_l (i := w) (j := w / 2003 + 40692) (by omega)), dMod_i hb.1]
theorem digit_ok {C : Cells} {n : Nat} (h : Stt C n) (b : Int) (hb : 0 < b ∧ b < 1073741824) : ∃ C' v, F__law_digit [.cel n, .int b] C = .ok (.int v) C' ∧ 0 ≤ v ∧ v < b ∧ Stt C' n ∧ Ext [n] C C' := by
  rcases h with ⟨x, e⟩ | ⟨x, y, z, e⟩
  · have e2 : (C.set n (.lst [.int x, .int (x % 2147483647), .int 0])).get n = some (.lst [.int x, .int (x % 2147483647), .int 0]) := get_set e
    have ex : Ext [n] C (C.set n (.lst [.int x, .int (x % 2147483647), .int 0])) := Ext.refl.set (.inl (by simp))
    have i0 : dIx (.cel n) (.int 0) C = .ok (.int x) C := by simp [dIx, e, atI, ixN]
    have l1 : bLen [.cel n] C = .ok (.int 1) C := by simp [bLen, e]
    have xt : mExtend (.cel n) [.lst [.int (x % 2147483647), .int 0]] C = .ok .non (C.set n (.lst [.int x, .int (x % 2147483647), .int 0])) := by simp [mExtend, atL, e]
    have ty : tyL C (.cel n) = true := tyL_cel e
    generalize C.set n (.lst [.int x, .int (x % 2147483647), .int 0]) = C1 at e2 ex xt
    obtain ⟨C', v, f, h1, h2, h3, h4⟩ := digit3 e2 b hb
    refine ⟨C', v, ?_, h1, h2, h3, ex.trans h4⟩
    rw [← f]
    have l3 : bLen [.cel n] C1 = .ok (.int 3) C1 := by simp [bLen, e2]
    simp [F__law_digit, l1, l3, i0, dMod_i, ty, xt]
  · exact digit3 e b hb
theorem Stt.keep {C C' : Cells} {n : Nat} {S : List Nat} (h : Stt C n) (x : Ext S C C') (k : n ∉ S) : Stt C' n := by
  rcases h with ⟨a, e⟩ | ⟨a, b, c, e⟩
  · exact .inl ⟨a, x.keep e k⟩
  · exact .inr ⟨a, b, c, x.keep e k⟩
theorem Stt.lt {C : Cells} {n : Nat} (h : Stt C n) : n < C.nx := by
  rcases h with ⟨a, e⟩ | ⟨a, b, c, e⟩ <;> exact lt_of_get e
/-! names, keys, bodies as the law draws them -/
def LT : Str := "abcdefghijklmnopqrstuvwxyz"
theorem lt_list : LT.cps.toList = (List.range 26).map (97 + ·) := by decide +kernel
theorem lt_at {v : Int} {C : Cells} (h : 0 ≤ v ∧ v < 26) : dIx (.str LT) (.int v) C = .ok (.str ⟨#[97 + v.toNat]⟩) C := by
  unfold dIx
  have hl : LT.length ≤ mxl := by decide +kernel
  simp only [if_pos hl, lt_list]
  rw [atI_get (x := 97 + v.toNat) h.1 (by rw [List.getElem?_map, List.getElem?_range (by omega)]; rfl)]
structure Nm (s : Str) : Prop where
  lo : 1 ≤ s.length
  hi : s.length ≤ 8
  al : ∀ c ∈ s.cps.toList, 97 ≤ c ∧ c < 123
theorem Nm.ok {s : Str} (h : Nm s) : PyData.strOk s = true := by
  unfold PyData.strOk
  rw [← Array.all_toList, List.all_eq_true]
  intro c m
  have := h.al c m
  simp; omega
theorem name_ok {C : Cells} {n : Nat} (h : Stt C n) : ∃ C' s, F__law_name [.cel n] C = .ok (.str s) C' ∧ Nm s ∧ Stt C' n ∧ Ext [n] C C' := by
  obtain ⟨C1, v, f1, a1, b1, s1, e1⟩ := digit_ok h 8 (by decide)
  have loop := forF_inv (tg := gfName 2) (b := B__law_name_1)
    (P := fun ds s C2 => ∃ (x : Str) (d2 : Option D), s = [some (.cel n), some (.str x), d2] ∧ x.length + ds.length = (1 + v).toNat ∧ (∀ c ∈ x.cps.toList, 97 ≤ c ∧ c < 123) ∧ Stt C2 n ∧ Ext [n] C1 C2)
    (hs := by
      rintro d r s C2 ⟨x, d2, rfl, hl, ha, st, ex⟩
      obtain ⟨C3, u, f2, a2, b2, s2, e2⟩ := digit_ok st 26 (by decide)
      refine ⟨_, rfl, [some (.cel n), some (.str (x ++ ⟨#[97 + u.toNat]⟩)), some d], C3, .inl ?_, x ++ ⟨#[97 + u.toNat]⟩, _, rfl, ?_, ?_, s2, ex.trans e2⟩
      · have hz : x.length + (⟨#[97 + u.toNat]⟩ : Str).length ≤ 16777216 := by
          have : (⟨#[97 + u.toNat]⟩ : Str).length = 1 := rfl
          simp at hl; omega
        have l := lt_at (C := C3) ⟨a2, b2⟩
        unfold LT at l
        simp [B__law_name_1, f2, l, dAdd, hz]
      · rw [PySem.Str.length_append]
        have : (⟨#[97 + u.toNat]⟩ : Str).length = 1 := rfl
        simp at hl; omega
      · intro c m
        have e : (x ++ (⟨#[97 + u.toNat]⟩ : Str)).cps.toList = x.cps.toList ++ [97 + u.toNat] := by
          rw [PySem.Str.cps_append]; simp
        rw [e, List.mem_append] at m
        rcases m with m | m
        · exact ha c m
        · rw [List.mem_singleton] at m; omega)
    (rngD 0 (1 + v).toNat) [some (.cel n), some (.str ""), none] C1 ⟨"", none, rfl, by rw [rngD_eq, List.length_map, rng_len]; show 0 + _ = _; omega, (by intro c m; cases m), s1, Ext.refl⟩
  obtain ⟨s', C2, f2, x, d2, rfl, hl, ha, st, ex⟩ := loop
  refine ⟨C2, x, ?_, ⟨?_, ?_, ha⟩, st, e1.trans ex⟩
  · have r1 : -4611686018427387904 ≤ 1 + v ∧ 1 + v < 4611686018427387904 := by omega
    simp [F__law_name, f1, r1, f2]
  · simp at hl; omega
  · simp at hl; omega
structure Ky (n : Int) (a b : Str) : Prop where
  n : 0 ≤ n ∧ n ≤ 65535
  a : Nm a
  b : Nm b
theorem pick3 (a b c v : Int) (C : Cells) (h : 0 ≤ v ∧ v < 3) : ∃ r, dIx (.lst [.int a, .int b, .int c]) (.int v) C = .ok (.int r) C ∧ (r = a ∨ r = b ∨ r = c) := by
  have : v = 0 ∨ v = 1 ∨ v = 2 := by omega
  rcases this with rfl | rfl | rfl
  · exact ⟨a, by simp [dIx, atI, ixN], .inl rfl⟩
  · exact ⟨b, by simp [dIx, atI, ixN], .inr (.inl rfl)⟩
  · exact ⟨c, by simp [dIx, atI, ixN], .inr (.inr rfl)⟩
theorem key_ok {C : Cells} {n : Nat} (h : Stt C n) : ∃ C' i a b, F__law_key [.cel n] C = .ok (.tup [.int i, .str a, .str b]) C' ∧ Ky i a b ∧ Stt C' n ∧ Ext [n] C C' := by
  obtain ⟨C1, v1, f1, a1, b1, s1, e1⟩ := digit_ok h 4 (by decide)
  obtain ⟨C2, v2, f2, a2, b2, s2, e2⟩ := digit_ok s1 65536 (by decide)
  obtain ⟨C3, v3, f3, a3, b3, s3, e3⟩ := digit_ok s2 3 (by decide)
  obtain ⟨i, p, hi⟩ := pick3 v1 v2 65535 v3 C3 ⟨a3, b3⟩
  obtain ⟨C4, x, f4, nx, s4, e4⟩ := name_ok s3
  obtain ⟨C5, y, f5, ny, s5, e5⟩ := name_ok s4
  refine ⟨C5, i, x, y, ?_, ⟨by omega, nx, ny⟩, s5, (((e1.trans e2).trans e3).trans e4).trans e5⟩
  simp [F__law_key, f1, f2, f3, p, f4, f5]
structure Bd (bs : List Int) : Prop where
  lo : 1 ≤ bs.length
  hi : bs.length ≤ 4000
  al : ∀ b ∈ bs, 0 ≤ b ∧ b ≤ 255
theorem body_ok {C : Cells} {n : Nat} (h : Stt C n) (m : Int) (hm : 1 ≤ m ∧ m ≤ 4000) : ∃ C' bs, F__law_body [.cel n, .int m] C = .ok (.lst (bs.map D.int)) C' ∧ Bd bs ∧ (bs.length : Int) = m ∧ Stt C' n ∧ Ext [n] C C' := by
  have hk : (if (60 : Int) < m then (60 : Int) else m) ≤ 60 ∧ 1 ≤ (if (60 : Int) < m then (60 : Int) else m) ∧ (m ≤ (if (60 : Int) < m then (60 : Int) else m) ∨ (if (60 : Int) < m then (60 : Int) else m) = 60) ∧ (if (60 : Int) < m then (60 : Int) else m) ≤ m := by split <;> omega
  have hc : (if (60 : Int) < m then (60 : Int) else m) = (if (60 : Int) < m then (60 : Int) else m) := rfl
  generalize hkk : (if (60 : Int) < m then (60 : Int) else m) = k at hk
  obtain ⟨ys, C1, f1, ⟨s1, e1⟩, l1, r1⟩ := lcF_all (tg := gfName 4) (f := Y__law_body_1) (vs := [4]) (s := [some (.cel n), some (.int m), none, none, none]) (fun C' => Stt C' n ∧ Ext [n] C C') (fun y => ∃ i, y = .int i ∧ (0 ≤ i ∧ i ≤ 255)) (rngD 0 k.toNat) C ⟨h, Ext.refl⟩ (by
    intro d _ C1 ⟨s1, e1⟩
    obtain ⟨C2, v, f2, a2, b2, s2, e2⟩ := digit_ok s1 256 (by decide)
    exact ⟨_, rfl, .int v, C2, by simp [Y__law_body_1, wipeD, f2], ⟨s2, e1.trans e2⟩, v, rfl, a2, by omega⟩)
  obtain ⟨bs, rfl, l2, r2⟩ := ints_of r1
  rw [List.length_map, rngD_eq, List.length_map, rng_len] at l1
  have hnC := h.lt
  have lt1 := s1.lt
  have g1 : (C1.new (.lst (bs.map D.int))).get C1.nx = some (.lst (bs.map D.int)) := get_new
  obtain ⟨C2, u, f2, a2, b2, s2, e2⟩ := digit_ok (s1.keep (S := []) (C' := C1.new (.lst (bs.map D.int))) Ext.refl.new (by simp)) 255 (by decide)
  have g2 : C2.get C1.nx = some (.lst (bs.map D.int)) := e2.keep g1 (by simp; omega)
  have loop := whileF_inv (t := W__law_body_2) (b := B__law_body_3)
    (P := fun j s C3 => ∃ cs : List Int, s = [some (.cel n), some (.int m), some (.cel C1.nx), some (.int (1 + u)), none] ∧ C3.get C1.nx = some (.lst (cs.map D.int)) ∧ (∀ b ∈ cs, 0 ≤ b ∧ b ≤ 255) ∧ j = (m - cs.length).toNat ∧ cs.length ≤ m ∧ (60 ≤ cs.length ∨ m ≤ cs.length) ∧ Ext [C1.nx] C2 C3)
    (Z := fun s C3 => ∃ cs : List Int, s = [some (.cel n), some (.int m), some (.cel C1.nx), some (.int (1 + u)), none] ∧ C3.get C1.nx = some (.lst (cs.map D.int)) ∧ (∀ b ∈ cs, 0 ≤ b ∧ b ≤ 255) ∧ (cs.length : Int) = m ∧ Ext [C1.nx] C2 C3)
    (hs := by
      rintro j s C3 ⟨cs, rfl, g3, r3, rfl, h1, h2, e3⟩
      have len : bLen [.cel C1.nx] C3 = .ok (.int cs.length) C3 := by simp [bLen, g3]
      by_cases q : (cs.length : Int) < m
      · right
        refine ⟨C3, by simp [W__law_body_2, len, q], ?_⟩
        obtain ⟨w, hw⟩ : ∃ w, cs[cs.length - 60]? = some w := ⟨_, List.getElem?_eq_getElem (by omega)⟩
        have ix : dIx (.cel C1.nx) (.int ((cs.length : Int) - 60)) C3 = .ok (.int w) C3 := by
          simp only [dIx, seqOf_cel, g3]
          rw [atI_get (x := D.int w) (by omega) (by rw [List.getElem?_map, show ((cs.length : Int) - 60).toNat = cs.length - 60 by omega, hw]; rfl)]
        have ap := append_cel g3 (.int ((w + (1 + u)) % 256)) (by simp; omega)
        refine ⟨[some (.cel n), some (.int m), some (.cel C1.nx), some (.int (1 + u)), none], C3.set C1.nx (.lst (cs.map D.int ++ [.int ((w + (1 + u)) % 256)])), .inr ⟨.inl ?_, (m - (cs.length + 1)).toNat, by omega, cs ++ [(w + (1 + u)) % 256], rfl, by rw [get_set g3]; simp, ?_, by simp, by simp; omega, by simp; omega, e3.set (.inl (by simp))⟩⟩
        · simp [B__law_body_3, len, ix, dMod_i, tyL, g3, ap]
        · intro b mb
          rw [List.mem_append, List.mem_singleton] at mb
          rcases mb with mb | rfl
          · exact r3 b mb
          · have := Int.emod_nonneg (w + (1 + u)) (show (256 : Int) ≠ 0 by decide)
            have := Int.emod_lt_of_pos (w + (1 + u)) (show (0 : Int) < 256 by decide)
            omega
      · left
        exact ⟨_, C3, by simp [W__law_body_2, len, q], rfl, cs, rfl, g3, r3, by omega, e3⟩)
    wFuel _ [some (.cel n), some (.int m), some (.cel C1.nx), some (.int (1 + u)), none] C2 ⟨bs, rfl, g2, r2, rfl, by omega, by omega, Ext.refl⟩ (by show _ < 1000000; omega)
  obtain ⟨s', C3, f3, cs, rfl, g3, r3, l3, e3⟩ := loop
  refine ⟨C3.del C1.nx, cs, ?_, ⟨by omega, by omega, r3⟩, l3, ?_, ?_⟩
  · have rr : -4611686018427387904 ≤ k ∧ k < 4611686018427387904 := by omega
    have r4 : (rngD 0 k.toNat).length ≤ 16777216 := by rw [rngD_eq, List.length_map, rng_len]; omega
    simp [F__law_body, hkk, rr, f1, r4, f2, f3, g3]
  · exact s2.keep (S := [C1.nx]) (e3.del (.inl (by simp))) (by simp; omega)
  · have x2 : Ext [n] C C2 := (e1.trans Ext.refl.new).trans e2
    exact ⟨Nat.le_trans x2.nx e3.nx, fun j hj hn => by
      have := e1.nx
      rw [(e3.del (.inl (by simp))).get j (Nat.lt_of_lt_of_le hj x2.nx) (by simp; omega), x2.get j hj hn]⟩
/-! what is a letter's key, a body -/
@[simp] theorem tn2 : T0.ncl = 2 := rfl
@[simp] theorem knd_int (i : Int) (C : Cells) : knd C (.int i) = some 2 := rfl
@[simp] theorem knd_bl (i : Bool) (C : Cells) : knd C (.bl i) = some 1 := rfl
@[simp] theorem knd_str (i : Str) (C : Cells) : knd C (.str i) = some 3 := rfl
@[simp] theorem knd_tup (l : List D) (C : Cells) : knd C (.tup l) = some 5 := rfl
theorem whole_ok (i : Int) (C : Cells) : F_is_whole [.int i] C = .ok (.bl true) C := by
  have h1 : isT tb0 2 2 = some true := rfl
  have h2 : isT tb0 1 2 = some false := rfl
  simp [F_is_whole, h1, h2]
theorem within_ok (i a b : Int) (C : Cells) (h : a ≤ i ∧ i ≤ b) : F_is_within [.int i, .int a, .int b] C = .ok (.bl true) C := by
  simp [F_is_within, whole_ok, h.1, h.2]
theorem isname_ok (s : Str) (C : Cells) (h : Nm s) : F_is_name [.str s] C = .ok (.bl true) C := by
  have h1 : isT tb0 3 3 = some true := rfl
  have hl : bLen [.str s] C = .ok (.int s.length) C := if_pos (Nat.le_trans h.hi (by decide))
  have l1 : (1 : Int) ≤ s.length := by have := h.lo; omega
  have l2 : (s.length : Int) ≤ 8 := by have := h.hi; omega
  have lc := lcF_pure (tg := gfName 1) (t := tYesF) (f := Y_is_name_1) (vs := [1]) (s := [some (.str s), none]) (C := C) (fun _ => true) (fun _ => .bl true) (s.cps.toList.map fun c => D.str ⟨#[c]⟩) (fun d m => by
    obtain ⟨c, hc, rfl⟩ := List.mem_map.1 m
    refine ⟨_, rfl, rfl, fun _ => ?_⟩
    have hb := h.al c hc
    have e : c ∈ LT.cps.toList := by
      rw [lt_list, List.mem_map]
      exact ⟨c - 97, List.mem_range.2 (by omega), by omega⟩
    unfold LT at e
    simp [Y_is_name_1, c_LETTERS, wipeD, dInG, sgn1] at e ⊢
    simp [e])
  have le : s.cps.size ≤ 16777216 := by have := h.hi; unfold PySem.Str.length at this; omega
  have al : bAll [.lst (List.map (fun _ => D.bl true) s.cps.toList)] C = .ok (.bl true) C := bAll_true fun x m => by
    obtain ⟨_, _, rfl⟩ := List.mem_map.1 m; rfl
  rw [List.filter_eq_self.2 (by simp), List.map_map] at lc
  simp [F_is_name, h1, hl, l1, l2, iSt, lc, le]
  simp [Function.comp_def, al]
theorem iskey_ok (n : Int) (a b : Str) (C : Cells) (h : Ky n a b) : F_is_key [.tup [.int n, .str a, .str b]] C = .ok (.bl true) C := by
  have h1 : isT tb0 5 5 = some true := rfl
  have hl : bLen [.tup [.int n, .str a, .str b]] C = .ok (.int 3) C := by simp [bLen]
  have i0 : dIx (.tup [.int n, .str a, .str b]) (.int 0) C = .ok (.int n) C := by simp [dIx, atI, ixN]
  have i1 : dIx (.tup [.int n, .str a, .str b]) (.int 1) C = .ok (.str a) C := by simp [dIx, atI, ixN]
  have i2 : dIx (.tup [.int n, .str a, .str b]) (.int 2) C = .ok (.str b) C := by simp [dIx, atI, ixN]
  simp [F_is_key, h1, hl, i0, i1, i2, within_ok _ _ _ _ h.n, isname_ok _ _ h.a, isname_ok _ _ h.b]
/-- a list, known or a cell's -/
def IsL (C : Cells) (x : D) (l : List D) : Prop := x = .lst l ∨ ∃ n, x = .cel n ∧ C.get n = some (.lst l)
theorem IsL.knd {C : Cells} {x : D} {l : List D} (h : IsL C x l) : knd C x = some 4 := by
  rcases h with rfl | ⟨n, rfl, e⟩
  · rfl
  · simp [e]
theorem IsL.lst {C : Cells} {x : D} {l : List D} (h : IsL C x l) : lstOf C x = some l := by
  rcases h with rfl | ⟨n, rfl, e⟩
  · rfl
  · simp [e]
theorem IsL.len {C : Cells} {x : D} {l : List D} (h : IsL C x l) : bLen [x] C = .ok (.int l.length) C := by
  rcases h with rfl | ⟨n, rfl, e⟩
  · simp [bLen]
  · simp [bLen, e]
theorem IsL.blist {C : Cells} {x : D} {l : List D} (h : IsL C x l) : bList [x] C = .ok (.lst l) C := by
  rcases h with rfl | ⟨n, rfl, e⟩
  · simp [bList]
  · simp [bList, e]
theorem IsL.ext {C C' : Cells} {x : D} {l : List D} {S : List Nat} (h : IsL C x l) (e : Ext S C C') (k : ∀ n, x = .cel n → n ∉ S) : IsL C' x l := by
  rcases h with rfl | ⟨n, rfl, g⟩
  · exact .inl rfl
  · exact .inr ⟨n, rfl, e.keep g (k n rfl)⟩
theorem IsL.celK {C : Cells} {x : D} {l : List D} (h : IsL C x l) : ∃ kp : Cells → Prop, celK x C = .ok (l, kp) C ∧ kp C := by
  rcases h with rfl | ⟨n, rfl, e⟩
  · exact ⟨_, rfl, trivial⟩
  · exact ⟨_, celK_cel e, e⟩
theorem isbody_ok (x : D) (bs : List Int) (C : Cells) (hx : IsL C x (bs.map D.int)) (h : Bd bs) : F_is_body [x] C = .ok (.bl true) C := by
  have h1 : isT tb0 4 4 = some true := rfl
  obtain ⟨kp, hk, hkp⟩ := hx.celK
  have l1 : (1 : Int) ≤ bs.length := by have := h.lo; omega
  have l2 : (bs.length : Int) ≤ 4000 := by have := h.hi; omega
  have lc := lcK_pure (tg := gfName 1) (t := tYesF) (f := Y_is_body_1) (vs := [1]) (s := [some x, none]) (C := C) (kp := kp) (fun _ => true) (fun _ => .bl true) hkp (bs.map D.int) (fun d m => by
    obtain ⟨c, hc, rfl⟩ := List.mem_map.1 m
    refine ⟨_, rfl, rfl, fun _ => ?_⟩
    simp [Y_is_body_1, wipeD, within_ok _ _ _ _ (h.al c hc)])
  have le : bs.length ≤ 16777216 := by have := h.hi; omega
  have al : bAll [.lst (List.map (fun _ => D.bl true) bs)] C = .ok (.bl true) C := bAll_true fun x m => by
    obtain ⟨_, _, rfl⟩ := List.mem_map.1 m; rfl
  rw [List.filter_eq_self.2 (by simp), List.map_map] at lc
  have hl := hx.len
  simp at hl
  simp [F_is_body, hx.knd, h1, hl, c_MOST_BYTES, l1, l2, hk, lc, le]
  simp [Function.comp_def, al]
theorem pl_key {n : Int} {a b : Str} (h : Ky n a b) : DL.plain 30 (.tup [.int n, .str a, .str b]) = true := by
  simp [DL.plain, h.a.ok, h.b.ok]
theorem pl_ints (bs : List Int) : DL.plain 30 (.lst (bs.map D.int)) = true := by
  show List.all _ (DL.plain 29) = true
  rw [List.all_eq_true]; intro x m
  obtain ⟨i, _, rfl⟩ := List.mem_map.1 m; rfl
/-! pieces -/
def pce (n : Int) (a b : Str) (bs : List Int) (k : Bool) (at_ : Int) (mo : Bool) : D := .obj 1 [.int n, .str a, .str b, .lst (bs.map D.int), .bl k, .int at_, .bl mo]
structure Pl (at_ len : Int) (mo : Bool) : Prop where
  a : 0 ≤ at_ ∧ at_ ≤ 4000
  m : at_ % 8 = 0
  e : if mo = true then len % 8 = 0 ∧ at_ + len < 4000 else at_ + len ≤ 4000
theorem placed_ok (at_ : Int) (x : D) (bs : List Int) (mo : Bool) (C : Cells) (hx : IsL C x (bs.map D.int)) (h : Pl at_ bs.length mo) : F_is_placed [.int at_, x, .bl mo] C = .ok (.bl true) C := by
  have h1 : isT tb0 1 1 = some true := rfl
  have hl := hx.len
  simp at hl
  have w := within_ok at_ 0 4000 C h.a
  have e := h.e
  cases mo with
  | true =>
    rw [if_pos rfl] at e
    simp [F_is_placed, c_MOST_BYTES, w, dMod_i, h.m, h1, hl, e.1, e.2]
  | false =>
    rw [if_neg (by decide)] at e
    simp [F_is_placed, c_MOST_BYTES, w, dMod_i, h.m, h1, hl, e]
theorem piece_ok (n : Int) (a b : Str) (x : D) (bs : List Int) (k : Bool) (at_ : Int) (mo : Bool) (C : Cells) (hk : Ky n a b) (hx : IsL C x (bs.map D.int)) (hb : Bd bs) (hp : Pl at_ bs.length mo) :
    mkF T0 1 F_Piece_init [.int n, .str a, .str b, .int at_, x, .bl mo, .bl k] C = .ok (pce n a b bs k at_ mo) (C.bump 1) := by
  have h1 : isT tb0 1 1 = some true := rfl
  have hc : ∀ l, IsL (C.new (.obj 1 l)) x (bs.map D.int) := fun l => hx.ext (S := []) Ext.refl.new (by simp)
  have b1 := isbody_ok x bs _ (hc []) hb
  have p1 := placed_ok at_ x bs mo _ (hc []) hp
  have k1 := iskey_ok n a b (C.new (.obj 1 [])) hk
  have st : ∀ (l : List D) (j : Nat) (d : D), j = l.length → j < 7 → setFld T0 j (.cel C.nx) d (C.new (.obj 1 l)) = some (C.new (.obj 1 (l ++ [d]))) := by
    intro l j d e hj
    have hm : 1 < T0.ncl ∧ j ∈ T0.fl 1 := by
      refine ⟨by decide, ?_⟩
      have : j = 0 ∨ j = 1 ∨ j = 2 ∨ j = 3 ∨ j = 4 ∨ j = 5 ∨ j = 6 := by omega
      rcases this with h | h | h | h | h | h | h <;> rw [h] <;> decide
    have hi : (T0.fl 1).idxOf j = l.length := by
      rw [← e]
      have : j = 0 ∨ j = 1 ∨ j = 2 ∨ j = 3 ∨ j = 4 ∨ j = 5 ∨ j = 6 := by omega
      rcases this with h | h | h | h | h | h | h <;> rw [h] <;> decide
    unfold setFld
    simp only [get_new, if_pos hm, hi, Nat.lt_irrefl, if_false, if_true, new_set]
  have i0 : F_Keyed_init [.cel C.nx, .int n, .str a, .str b, x, .bl k] (C.new (.obj 1 [])) = .ok .non (C.new (.obj 1 [.int n, .str a, .str b, .lst (bs.map D.int), .bl k])) := by
    have s0 := st [] 0 (.int n) rfl (by decide)
    have s1 := st [.int n] 1 (.str a) rfl (by decide)
    have s2 := st [.int n, .str a] 2 (.str b) rfl (by decide)
    have s3 := st [.int n, .str a, .str b] 3 (.lst (bs.map D.int)) rfl (by decide)
    have s4 := st [.int n, .str a, .str b, .lst (bs.map D.int)] 4 (.bl k) rfl (by decide)
    simp at s0 s1 s2 s3 s4
    simp [F_Keyed_init, s0, s1, s2, (hc _).blist, s3, s4]
  have i1 : F_Piece_init [.cel C.nx, .int n, .str a, .str b, .int at_, x, .bl mo, .bl k] (C.new (.obj 1 [])) = .ok .non (C.new (.obj 1 [.int n, .str a, .str b, .lst (bs.map D.int), .bl k, .int at_, .bl mo])) := by
    have s5 := st [.int n, .str a, .str b, .lst (bs.map D.int), .bl k] 5 (.int at_) rfl (by decide)
    have s6 := st [.int n, .str a, .str b, .lst (bs.map D.int), .bl k, .int at_] 6 (.bl mo) rfl (by decide)
    simp at s5 s6
    simp [F_Piece_init, k1, b1, h1, p1, i0, s5, s6]
  unfold mkF
  rw [i1]
  simp only [get_new]
  rw [if_pos ⟨trivial, rfl⟩, new_del]; rfl
theorem fld_pce {n : Int} {a b : Str} {bs : List Int} {k : Bool} {at_ : Int} {mo : Bool} {C : Cells} : fld T0 0 (pce n a b bs k at_ mo) C = .ok (.int n) C ∧ fld T0 1 (pce n a b bs k at_ mo) C = .ok (.str a) C ∧ fld T0 2 (pce n a b bs k at_ mo) C = .ok (.str b) C ∧
    fld T0 3 (pce n a b bs k at_ mo) C = .ok (.lst (bs.map D.int)) C ∧ fld T0 4 (pce n a b bs k at_ mo) C = .ok (.bl k) C ∧ fld T0 5 (pce n a b bs k at_ mo) C = .ok (.int at_) C ∧ fld T0 6 (pce n a b bs k at_ mo) C = .ok (.bl mo) C := ⟨rfl, rfl, rfl, rfl, rfl, rfl, rfl⟩
/-! what the checks say: of good parts and of bad ones -/
def NumV (d : D) (v : Bool) : Prop := ∀ C, F_is_within [d, .int 0, .int 65535] C = .ok (.bl v) C
def BytV (d : D) (v : Bool) : Prop := ∀ C, F_is_within [d, .int 0, .int 255] C = .ok (.bl v) C
def NamV (d : D) (v : Bool) : Prop := ∀ C, F_is_name [d] C = .ok (.bl v) C
def BodV (C : Cells) (d : D) (v : Bool) : Prop := ∀ C', Ext [] C C' → F_is_body [d] C' = .ok (.bl v) C'
def KepV (d : D) (v : Bool) : Prop := ∀ C, ∃ k, knd C d = some k ∧ k < 10 + T0.ncl ∧ isT tb0 1 k = some v
theorem BodV.ext {C C' : Cells} {d : D} {v : Bool} (h : BodV C d v) (e : Ext [] C C') : BodV C' d v := fun C2 e2 => h C2 (e.trans e2)
theorem whole_no (d : D) (C : Cells) {k : Nat} (h : knd C d = some k) (hk : k = 0 ∨ k = 1 ∨ k = 3 ∨ k = 4 ∨ k = 5 ∨ k = 6) : F_is_whole [d] C = .ok (.bl false) C := by
  have e : ∀ j, k = j → k < 10 + T0.ncl := fun j e => by show k < 10 + 2; omega
  rcases hk with rfl | rfl | rfl | rfl | rfl | rfl <;> simp [F_is_whole, h, isT, isB]
theorem within_no (d : D) (a b : Int) (C : Cells) {k : Nat} (h : knd C d = some k) (hk : k = 0 ∨ k = 1 ∨ k = 3 ∨ k = 4 ∨ k = 5 ∨ k = 6) : F_is_within [d, .int a, .int b] C = .ok (.bl false) C := by
  have w := whole_no d C h hk
  simp [F_is_within, w]
theorem within_out (i a b : Int) (C : Cells) (h : i < a ∨ b < i) : F_is_within [.int i, .int a, .int b] C = .ok (.bl false) C := by
  have w := whole_ok i C
  by_cases q : a ≤ i
  · have q2 : ¬ i ≤ b := by omega
    simp [F_is_within, w, q, q2]
  · simp [F_is_within, w, q]
theorem iskey_v {d0 d1 d2 : D} {v0 v1 v2 : Bool} (h0 : NumV d0 v0) (h1 : NamV d1 v1) (h2 : NamV d2 v2) (C : Cells) : F_is_key [.tup [d0, d1, d2]] C = .ok (.bl (v0 && v1 && v2)) C := by
  have t5 : isT tb0 5 5 = some true := rfl
  have i0 : dIx (.tup [d0, d1, d2]) (.int 0) C = .ok d0 C := by simp [dIx, atI, ixN]
  have i1 : dIx (.tup [d0, d1, d2]) (.int 1) C = .ok d1 C := by simp [dIx, atI, ixN]
  have i2 : dIx (.tup [d0, d1, d2]) (.int 2) C = .ok d2 C := by simp [dIx, atI, ixN]
  have l3 : bLen [.tup [d0, d1, d2]] C = .ok (.int 3) C := by simp [bLen]
  have e0 := h0 C
  have e1 := h1 C
  have e2 := h2 C
  cases v0 <;> cases v1 <;> cases v2 <;> simp [F_is_key, t5, i0, i1, i2, l3, e0, e1, e2]
theorem num_ok {i : Int} (h : 0 ≤ i ∧ i ≤ 65535) : NumV (.int i) true := fun C => within_ok i 0 65535 C h
theorem nam_ok {s : Str} (h : Nm s) : NamV (.str s) true := fun C => isname_ok s C h
theorem bod_ok {C : Cells} {bs : List Int} (h : Bd bs) : BodV C (.lst (bs.map D.int)) true := fun C' _ => isbody_ok _ bs C' (.inl rfl) h
theorem kep_ok (k : Bool) : KepV (.bl k) true := fun C => ⟨1, rfl, by decide, rfl⟩
theorem kep_no {d : D} {k : Nat} (h : ∀ C, knd C d = some k) (hk : k = 0 ∨ k = 2 ∨ k = 3 ∨ k = 4) : KepV d false := fun C => ⟨k, h C, by rw [tn2]; omega, by rcases hk with rfl | rfl | rfl | rfl <;> rfl⟩
theorem isname_no (d : D) (C : Cells) {k : Nat} (h : knd C d = some k) (hk : k = 0 ∨ k = 1 ∨ k = 2 ∨ k = 4 ∨ k = 5) : F_is_name [d] C = .ok (.bl false) C := by
  rcases hk with rfl | rfl | rfl | rfl | rfl <;> simp [F_is_name, h, isT, isB]
theorem isname_len (s : Str) (C : Cells) (h : s.length = 0 ∨ 8 < s.length) (hz : s.length ≤ 16777216) : F_is_name [.str s] C = .ok (.bl false) C := by
  have t3 : isT tb0 3 3 = some true := rfl
  have l : bLen [.str s] C = .ok (.int s.length) C := by simp [bLen, hz]
  by_cases q : (1 : Int) ≤ s.length
  · have q2 : ¬ (s.length : Int) ≤ 8 := by omega
    simp [F_is_name, t3, l, q, q2]
  · simp [F_is_name, t3, l, q]
theorem bAll_false {l : List D} {C : Cells} (h : ∀ x ∈ l, ∃ b, x = .bl b) (hf : D.bl false ∈ l) : bAll [.lst l] C = .ok (.bl false) C := by
  have : ∃ bs : List Bool, l = bs.map D.bl ∧ false ∈ bs := by
    induction l with
    | nil => cases hf
    | cons x r ih =>
      obtain ⟨b, rfl⟩ := h x (by simp)
      rcases List.mem_cons.1 hf with e | e
      · cases e
        have : ∃ bs : List Bool, r = bs.map D.bl := by
          clear ih hf
          have h' := fun y (m : y ∈ r) => h y (by simp [m])
          clear h
          induction r with
          | nil => exact ⟨[], rfl⟩
          | cons y r ih =>
            obtain ⟨c, rfl⟩ := h' y (by simp)
            obtain ⟨bs, rfl⟩ := ih fun z m => h' z (by simp [m])
            exact ⟨c :: bs, rfl⟩
        obtain ⟨bs, rfl⟩ := this
        exact ⟨false :: bs, rfl, by simp⟩
      · obtain ⟨bs, rfl, m⟩ := ih (fun y m => h y (by simp [m])) e
        exact ⟨b :: bs, rfl, by simp [m]⟩
  obtain ⟨bs, rfl, m⟩ := this
  have : bs.all id = false := by
    rw [List.all_eq_false]; exact ⟨false, m, by simp⟩
  simp [bAll, this]
/-- a text of one sign that is no letter, or more -/
theorem isname_sign (s : Str) (C : Cells) (h : 1 ≤ s.length ∧ s.length ≤ 8) (c : Nat) (hc : c ∈ s.cps.toList) (hn : LT.cps.toList.contains c = false) : F_is_name [.str s] C = .ok (.bl false) C := by
  have h1 : isT tb0 3 3 = some true := rfl
  have hl : bLen [.str s] C = .ok (.int s.length) C := if_pos (Nat.le_trans h.2 (by decide))
  have l1 : (1 : Int) ≤ s.length := by omega
  have l2 : (s.length : Int) ≤ 8 := by omega
  have lc := lcF_pure (tg := gfName 1) (t := tYesF) (f := Y_is_name_1) (vs := [1]) (s := [some (.str s), none]) (C := C) (fun _ => true) (fun d => match d with | .str z => (match sgn1 z with | some c => .bl (decide (c ∈ LT.cps.toList)) | none => .non) | _ => .non) (s.cps.toList.map fun c => D.str ⟨#[c]⟩) (fun d m => by
    obtain ⟨c, hc, rfl⟩ := List.mem_map.1 m
    refine ⟨_, rfl, rfl, fun _ => ?_⟩
    simp [Y_is_name_1, c_LETTERS, wipeD, dInG, sgn1, LT])
  have le : s.cps.size ≤ 16777216 := by have := h.2; unfold PySem.Str.length at this; omega
  have al : bAll [.lst (List.map (fun c => D.bl (decide (c ∈ LT.cps.toList))) s.cps.toList)] C = .ok (.bl false) C := bAll_false (fun x m => by
    obtain ⟨_, _, rfl⟩ := List.mem_map.1 m; exact ⟨_, rfl⟩) (List.mem_map.2 ⟨c, hc, by rw [decide_eq_false]; intro q; rw [List.contains_iff_mem.2 q] at hn; cases hn⟩)
  rw [List.filter_eq_self.2 (by simp), List.map_map] at lc
  simp [F_is_name, h1, hl, l1, l2, iSt, lc, le]
  simp [Function.comp_def, sgn1] at al ⊢
  rw [al]; rfl
theorem isbody_no (d : D) (C : Cells) {k : Nat} (h : knd C d = some k) (hk : k = 0 ∨ k = 2 ∨ k = 3 ∨ k = 5 ∨ k = 6) : F_is_body [d] C = .ok (.bl false) C := by
  rcases hk with rfl | rfl | rfl | rfl | rfl <;> simp [F_is_body, h, isT, isB]
theorem isbody_len (l : List D) (C : Cells) (h : l.length = 0 ∨ 4000 < l.length) : F_is_body [.lst l] C = .ok (.bl false) C := by
  have t4 : isT tb0 4 4 = some true := rfl
  by_cases q : (1 : Int) ≤ l.length
  · have q2 : ¬ (l.length : Int) ≤ 4000 := by omega
    simp [F_is_body, t4, bLen, c_MOST_BYTES, q, q2]
  · simp [F_is_body, t4, bLen, c_MOST_BYTES, q]
theorem isbody_byte (l : List D) (C : Cells) (hl : 1 ≤ l.length ∧ l.length ≤ 4000) (vs : D → Bool) (h : ∀ x ∈ l, BytV x (vs x)) (hf : ∃ x ∈ l, vs x = false) : F_is_body [.lst l] C = .ok (.bl false) C := by
  have t4 : isT tb0 4 4 = some true := rfl
  have l1 : (1 : Int) ≤ l.length := by omega
  have l2 : (l.length : Int) ≤ 4000 := by omega
  obtain ⟨kp, hk, hkp⟩ := (IsL.celK (C := C) (x := .lst l) (.inl rfl))
  have lc := lcK_pure (tg := gfName 1) (t := tYesF) (f := Y_is_body_1) (vs := [1]) (s := [some (.lst l), none]) (C := C) (kp := kp) (fun _ => true) (fun d => .bl (vs d)) hkp l (fun d m => by
    have := h d m C
    exact ⟨_, rfl, rfl, fun _ => by simp [Y_is_body_1, wipeD, this]⟩)
  rw [List.filter_eq_self.2 (by simp)] at lc
  obtain ⟨x, hx, ex⟩ := hf
  have al : bAll [.lst (l.map fun d => D.bl (vs d))] C = .ok (.bl false) C := bAll_false (fun y m => by
    obtain ⟨z, _, rfl⟩ := List.mem_map.1 m; exact ⟨_, rfl⟩) (List.mem_map.2 ⟨x, hx, by rw [ex]⟩)
  have lz : l.length ≤ 16777216 := by omega
  simp [F_is_body, t4, bLen, c_MOST_BYTES, l1, l2, hk, lc, lz, al]/-! the words of refusals -/
theorem addL (a b : List D) (h : a.length + b.length ≤ 16777216) (C : Cells) : dAdd (.lst a) (.lst b) C = .ok (.lst (a ++ b)) C := by simp [dAdd, dCatL, h]
section
theorem ref_t1 (c : Nat) (hc : c ∈ exs) (hs : sb0.lookup (12, 10 + c) = some true) {d : D} {C C2 : Cells} (ha : actG bd_clo 900 901 d C = .err c C2) {y3 y4 y5 y6 : Option D} : sTryAs sb0 exs 2 2 1 (sDrop (eCloC bd_clo 900 901 (eVar 0))) [some d, some .non, none, y3, y4, y5, y6] C = .nxt [some d, some (.opq c []), none, y3, y4, y5, y6] C2 := by
  have e : sDrop (eCloC bd_clo 900 901 (eVar 0)) [some d, some .non, none, y3, y4, y5, y6] C = .err c [some d, some .non, none, y3, y4, y5, y6] C2 := by
    simp [eCloC, ha]
  unfold sTryAs
  rw [e]
  show (if c ∈ exs then (match sb0.lookup (12, 10 + c) with | some true => _ | some false => _ | none => _) else _) = _
  rw [if_pos hc, hs]
  rfl
theorem isx (c : Nat) (hc : c ∈ exs) (t : Nat) (b : Bool) (hb : tb0.lookup (t, 10 + c) = some b) (C : Cells) (s : Sl) (hs : s[1]? = some (some (.opq c []))) : eIsiX T0 tb0 exs t (eVar 1) s C = .ok (.bl b) C := by
  unfold eIsiX
  simp only [eVar_ap, hs, bind_ok]
  rw [if_pos hc, hb]
theorem neqS {a : Str} (h : DL.plain 30 (.str a) = true) (C : Cells) : dNeV (.str a) (.str a) C = .ok (.bl false) C := neV_pl h
theorem ref_piece {d : D} {C C2 : Cells} (ha : actG bd_clo 900 901 d C = .err 4 C2) : F__law_refusal [d] C = .ok (.str "piece") C2 := by
  have t1 := ref_t1 4 (by decide) rfl ha (y3 := none) (y4 := none) (y5 := none) (y6 := none)
  have x0 := fun (y3 y4 y5 y6 : Option D) => isx 4 (by decide) 13 false rfl C2 [some d, some (.opq 4 []), none, y3, y4, y5, y6] rfl
  have x1 := fun (y3 y4 y5 y6 : Option D) => isx 4 (by decide) 14 true rfl C2 [some d, some (.opq 4 []), none, y3, y4, y5, y6] rfl
  have x2 := fun (y3 y4 y5 y6 : Option D) => isx 4 (by decide) 15 false rfl C2 [some d, some (.opq 4 []), none, y3, y4, y5, y6] rfl
  have x3 := fun (y3 y4 y5 y6 : Option D) => isx 4 (by decide) 16 false rfl C2 [some d, some (.opq 4 []), none, y3, y4, y5, y6] rfl
  have x4 := fun (y3 y4 y5 y6 : Option D) => isx 4 (by decide) 17 false rfl C2 [some d, some (.opq 4 []), none, y3, y4, y5, y6] rfl
  have x5 := fun (y3 y4 y5 y6 : Option D) => isx 4 (by decide) 18 false rfl C2 [some d, some (.opq 4 []), none, y3, y4, y5, y6] rfl
  have x6 := fun (y3 y4 y5 y6 : Option D) => isx 4 (by decide) 19 false rfl C2 [some d, some (.opq 4 []), none, y3, y4, y5, y6] rfl
  have x7 := fun (y3 y4 y5 y6 : Option D) => isx 4 (by decide) 20 false rfl C2 [some d, some (.opq 4 []), none, y3, y4, y5, y6] rfl
  have x8 := fun (y3 y4 y5 y6 : Option D) => isx 4 (by decide) 21 false rfl C2 [some d, some (.opq 4 []), none, y3, y4, y5, y6] rfl
  have x9 := fun (y3 y4 y5 y6 : Option D) => isx 4 (by decide) 22 false rfl C2 [some d, some (.opq 4 []), none, y3, y4, y5, y6] rfl
  have x10 := fun (y3 y4 y5 y6 : Option D) => isx 4 (by decide) 23 false rfl C2 [some d, some (.opq 4 []), none, y3, y4, y5, y6] rfl
  have xv := fun (y3 y4 y5 y6 : Option D) => isx 4 (by decide) 7 true rfl C2 [some d, some (.opq 4 []), none, y3, y4, y5, y6] rfl
  obtain ⟨KD, hKD⟩ : ∃ KD : D, KD = .lst [.bl false, .bl true, .bl false, .bl false, .bl false, .bl false, .bl false, .bl false, .bl false, .bl false, .bl false] := ⟨_, rfl⟩
  obtain ⟨WD, hWD⟩ : ∃ WD : D, WD = .lst [.str "letter", .str "piece", .str "width", .str "wide", .str "rule", .str "time", .str "key", .str "text", .str "row", .str "room", .str "road"] := ⟨_, rfl⟩
  have lc : eLc (iR1 (aCons (eC (.int 11)) (aNil))) (gfName 6) (I__law_refusal_1) (Y__law_refusal_2) [6] [some d, some (.opq 4 []), none, some KD, some WD, none, none] C2 = .ok (.lst [.str "piece"]) C2 := by rw [hKD, hWD]; rfl
  have l1 : bLen [.lst [.str "piece"]] C2 = .ok (.int 1) C2 := rfl
  have i0 : dIx (.lst [.str "piece"]) (.int 0) C2 = .ok (.str "piece") C2 := rfl
  have a0 : dAdd (.lst [.bl false, .bl true, .bl false]) (.lst [.bl false, .bl false, .bl false]) C2 = .ok (.lst [.bl false, .bl true, .bl false, .bl false, .bl false, .bl false]) C2 := addL _ _ (by decide) C2
  have a1 : dAdd (.lst [.bl false, .bl true, .bl false, .bl false, .bl false, .bl false]) (.lst [.bl false, .bl false, .bl false]) C2 = .ok (.lst [.bl false, .bl true, .bl false, .bl false, .bl false, .bl false, .bl false, .bl false, .bl false]) C2 := addL _ _ (by decide) C2
  have a2 : dAdd (.lst [.bl false, .bl true, .bl false, .bl false, .bl false, .bl false, .bl false, .bl false, .bl false]) (.lst [.bl false, .bl false]) C2 = .ok (.lst [.bl false, .bl true, .bl false, .bl false, .bl false, .bl false, .bl false, .bl false, .bl false, .bl false, .bl false]) C2 := addL _ _ (by decide) C2
  unfold F__law_refusal
  refine callF_r [some d, none, none, none, none, none, none] rfl rfl ?_
  rw [sq]
  conv => lhs; arg 1; simp []
  rw [sn]
  rw [sq, t1, sn]
  rw [sq]
  conv => lhs; arg 1; simp [x0, x1, x2]
  rw [sn]
  rw [sq]
  conv => lhs; arg 1; simp [x3, x4, x5, a0]
  rw [sn]
  rw [sq]
  conv => lhs; arg 1; simp [x6, x7, x8, a1]
  rw [sn]
  rw [sq]
  conv => lhs; arg 1; simp [x9, x10, a2]
  rw [sn]
  rw [sq]
  conv => lhs; arg 1; simp []
  rw [sn]
  rw [sq, sSet_ap, show eLc (iR1 (aCons (eC (.int 11)) (aNil))) (gfName 6) (I__law_refusal_1) (Y__law_refusal_2) [6] _ C2 = .ok (.lst [.str "piece"]) C2 by rw [← hKD, ← hWD]; exact lc]
  show sThen (SRes.nxt [some d, some (.opq 4 []), none, some (.lst [.bl false, .bl true, .bl false, .bl false, .bl false, .bl false, .bl false, .bl false, .bl false, .bl false, .bl false]), some (.lst [.str "letter", .str "piece", .str "width", .str "wide", .str "rule", .str "time", .str "key", .str "text", .str "row", .str "room", .str "road"]), some (.lst [.str "piece"]), none] C2) _ = _
  rw [sn, ← hKD, ← hWD]
  clear hKD hWD lc
  rw [sq]
  conv => lhs; arg 1; simp [l1, xv]
  rw [sn]
  simp [i0]
end
/-! what is no piece -/
section
variable {C C' : Cells} {n : Nat}
theorem cutI (l : List D) (v : Nat) (hv : v ≤ l.length) (C : Cells) : dSl (.lst l) none (some (v : Int)) C = .ok (.lst (l.take v)) C ∧ dSl (.lst l) (some (v : Int)) none C = .ok (.lst (l.drop v)) C := by
  simp [dSl, cutD_take, cutD_drop]
theorem dix_mem {l : List D} {v : Int} {C : Cells} (h : 0 ≤ v ∧ v < l.length) : ∃ d, dIx (.lst l) (.int v) C = .ok d C ∧ d ∈ l := by
  have hv : v.toNat < l.length := by omega
  refine ⟨l[v.toNat], ?_, List.getElem_mem hv⟩
  simp only [dIx, seqOf_lst]
  rw [atI_get (x := l[v.toNat]) h.1 (List.getElem?_eq_getElem hv)]
theorem pow30 (C : Cells) : dPow (.int 10) (.int 30) C = .ok (.int 1000000000000000000000000000000) C := by
  unfold dPow; dsimp only; rw [if_pos (by decide +kernel)]; rfl
theorem pow20 (C : Cells) : dPow (.int 10) (.int 20) C = .ok (.int 100000000000000000000) C := by
  unfold dPow; dsimp only; rw [if_pos (by decide +kernel)]; rfl
def BodG (d : D) (v : Bool) : Prop := ∀ C, F_is_body [d] C = .ok (.bl v) C
def PlcV (a b m : D) : Prop := ∀ C, F_is_placed [a, b, m] C = .ok (.bl false) C
theorem bodg_ok {bs : List Int} (h : Bd bs) : BodG (.lst (bs.map D.int)) true := fun C => isbody_ok _ bs C (.inl rfl) h
theorem piece_key {d0 d1 d2 da d3 dm d4 : D} {v0 v1 v2 : Bool} (h0 : NumV d0 v0) (h1 : NamV d1 v1) (h2 : NamV d2 v2) (hv : (v0 && v1 && v2) = false) (C : Cells) : mkF T0 1 F_Piece_init [d0, d1, d2, da, d3, dm, d4] C = .err 4 (C.new (.obj 1 [])) := by
  have k := iskey_v h0 h1 h2 (C.new (.obj 1 []))
  rw [hv] at k
  have f : F_Piece_init [.cel C.nx, d0, d1, d2, da, d3, dm, d4] (C.new (.obj 1 [])) = .err 4 (C.new (.obj 1 [])) := by
    simp [F_Piece_init, k, sRaise]
  unfold mkF
  rw [f]
theorem piece_body {d0 d1 d2 da d3 dm d4 : D} (h0 : NumV d0 true) (h1 : NamV d1 true) (h2 : NamV d2 true) (h3 : BodG d3 false) (C : Cells) : mkF T0 1 F_Piece_init [d0, d1, d2, da, d3, dm, d4] C = .err 4 (C.new (.obj 1 [])) := by
  have k := iskey_v h0 h1 h2 (C.new (.obj 1 []))
  have b := h3 (C.new (.obj 1 []))
  simp only [Bool.and_true] at k
  have f : F_Piece_init [.cel C.nx, d0, d1, d2, da, d3, dm, d4] (C.new (.obj 1 [])) = .err 4 (C.new (.obj 1 [])) := by
    simp [F_Piece_init, k, b, sRaise]
  unfold mkF
  rw [f]
theorem piece_keep {d0 d1 d2 da d3 dm d4 : D} (h0 : NumV d0 true) (h1 : NamV d1 true) (h2 : NamV d2 true) (h3 : BodG d3 true) (h4 : KepV d4 false) (C : Cells) : mkF T0 1 F_Piece_init [d0, d1, d2, da, d3, dm, d4] C = .err 4 (C.new (.obj 1 [])) := by
  have k := iskey_v h0 h1 h2 (C.new (.obj 1 []))
  have b := h3 (C.new (.obj 1 []))
  simp only [Bool.and_true] at k
  obtain ⟨j, e1, e2, e3⟩ := h4 (C.new (.obj 1 []))
  have ee : eIsi T0 tb0 1 (eVar 7) [some (.cel C.nx), some d0, some d1, some d2, some da, some d3, some dm, some d4] (C.new (.obj 1 [])) = .ok (.bl false) (C.new (.obj 1 [])) := by
    simp only [eIsi_ap, eVar_ap, List.getElem?_cons_succ, List.getElem?_cons_zero, bind_ok, e1, if_pos e2, e3]
  have f : F_Piece_init [.cel C.nx, d0, d1, d2, da, d3, dm, d4] (C.new (.obj 1 [])) = .err 4 (C.new (.obj 1 [])) := by
    simp [-eIsi_ap, F_Piece_init, k, b, ee, sRaise]
  unfold mkF
  rw [f]
theorem piece_place {d0 d1 d2 da d3 dm d4 : D} (h0 : NumV d0 true) (h1 : NamV d1 true) (h2 : NamV d2 true) (h3 : BodG d3 true) (h4 : KepV d4 true) (hp : PlcV da d3 dm) (C : Cells) : mkF T0 1 F_Piece_init [d0, d1, d2, da, d3, dm, d4] C = .err 4 (C.new (.obj 1 [])) := by
  have k := iskey_v h0 h1 h2 (C.new (.obj 1 []))
  have b := h3 (C.new (.obj 1 []))
  have p := hp (C.new (.obj 1 []))
  simp only [Bool.and_true] at k
  obtain ⟨j, e1, e2, e3⟩ := h4 (C.new (.obj 1 []))
  have ee : eIsi T0 tb0 1 (eVar 7) [some (.cel C.nx), some d0, some d1, some d2, some da, some d3, some dm, some d4] (C.new (.obj 1 [])) = .ok (.bl true) (C.new (.obj 1 [])) := by
    simp only [eIsi_ap, eVar_ap, List.getElem?_cons_succ, List.getElem?_cons_zero, bind_ok, e1, if_pos e2, e3]
  have f : F_Piece_init [.cel C.nx, d0, d1, d2, da, d3, dm, d4] (C.new (.obj 1 [])) = .err 4 (C.new (.obj 1 [])) := by
    simp [-eIsi_ap, F_Piece_init, k, b, ee, p, sRaise]
  unfold mkF
  rw [f]
/-! places -/
theorem plc_out {a b m : D} (h : ∀ C, F_is_within [a, .int 0, .int 4000] C = .ok (.bl false) C) : PlcV a b m := fun C => by
  have h := h C
  simp [F_is_placed, c_MOST_BYTES, h]
theorem plc_mod {i : Int} {b m : D} (h : 0 ≤ i ∧ i ≤ 4000) (h8 : i % 8 ≠ 0) : PlcV (.int i) b m := fun C => by
  have w := within_ok i 0 4000 C h
  have md : dMod (.int i) (.int 8) C = .ok (.int (i % 8)) C := dMod_i (by decide)
  simp [F_is_placed, c_MOST_BYTES, w, md, h8]
theorem plc_more {i : Int} {b m : D} (h : 0 ≤ i ∧ i ≤ 4000) (h8 : i % 8 = 0) (hm : KepV m false) : PlcV (.int i) b m := fun C => by
  have w := within_ok i 0 4000 C h
  have md : dMod (.int i) (.int 8) C = .ok (.int 0) C := by rw [← h8]; exact dMod_i (by decide)
  obtain ⟨j, e1, e2, e3⟩ := hm C
  have ee : eIsi T0 tb0 1 (eVar 2) [some (.int i), some b, some m] C = .ok (.bl false) C := by
    simp only [eIsi_ap, eVar_ap, List.getElem?_cons_succ, List.getElem?_cons_zero, bind_ok, e1, if_pos e2, e3]
  have ne : dNeV (.int 0) (.int 0) C = .ok (.bl false) C := neV_pl rfl
  simp [-eIsi_ap, F_is_placed, c_MOST_BYTES, w, md, ee, ne]
theorem plc_true {i : Int} {bs : List Int} (h : 0 ≤ i ∧ i ≤ 4000) (h8 : i % 8 = 0) (hb : (bs.length : Int) % 8 ≠ 0 ∨ 4000 ≤ i + bs.length) : PlcV (.int i) (.lst (bs.map D.int)) (.bl true) := fun C => by
  have w := within_ok i 0 4000 C h
  have t1 : isT tb0 1 1 = some true := rfl
  have bl : bLen [.lst (bs.map D.int)] C = .ok (.int bs.length) C := by simp [bLen]
  have md : dMod (.int i) (.int 8) C = .ok (.int 0) C := by rw [← h8]; exact dMod_i (by decide)
  have md2 : dMod (.int (bs.length : Int)) (.int 8) C = .ok (.int ((bs.length : Int) % 8)) C := dMod_i (by decide)
  have ne : dNeV (.int 0) (.int 0) C = .ok (.bl false) C := neV_pl rfl
  generalize D.lst (bs.map D.int) = BL at *
  by_cases q : (bs.length : Int) % 8 = 0
  · have lt : ¬ i + (bs.length : Int) < 4000 := by rcases hb with hb | hb <;> omega
    have ev : dEqV (.int ((bs.length : Int) % 8)) (.int 0) C = .ok (.bl true) C := by rw [q]; rfl
    simp [F_is_placed, c_MOST_BYTES, w, md, ne, t1, bl, md2, ev, lt, -eqV_i]
  · have ev : dEqV (.int ((bs.length : Int) % 8)) (.int 0) C = .ok (.bl false) C := by
      rw [eqV_i, show (((bs.length : Int) % 8) == 0) = false from by simpa using q]
    simp [F_is_placed, c_MOST_BYTES, w, md, ne, t1, bl, md2, ev, -eqV_i]
theorem plc_false {i : Int} {bs : List Int} (h : 0 ≤ i ∧ i ≤ 4000) (h8 : i % 8 = 0) (hb : 4000 < i + bs.length) : PlcV (.int i) (.lst (bs.map D.int)) (.bl false) := fun C => by
  have w := within_ok i 0 4000 C h
  have t1 : isT tb0 1 1 = some true := rfl
  have bl : bLen [.lst (bs.map D.int)] C = .ok (.int bs.length) C := by simp [bLen]
  have md : dMod (.int i) (.int 8) C = .ok (.int 0) C := by rw [← h8]; exact dMod_i (by decide)
  have ne : dNeV (.int 0) (.int 0) C = .ok (.bl false) C := neV_pl rfl
  have le : ¬ i + (bs.length : Int) ≤ 4000 := by omega
  generalize D.lst (bs.map D.int) = BL at *
  simp [F_is_placed, c_MOST_BYTES, w, md, ne, t1, bl, le]
theorem odd_at_ok (h : Stt C n) {bs : List Int} (hl : 8 ≤ bs.length ∧ bs.length ≤ 100) (h8 : (bs.length : Int) % 8 = 0) : ∃ C' d, F__law_odd_at [.cel n, .lst (bs.map D.int)] C = .ok d C' ∧ (∀ m, PlcV d (.lst (bs.map D.int)) (.bl m)) ∧ plainD 30 d = true ∧ Stt C' n ∧ Ext [n] C C' := by
  have bl : bLen [.lst (bs.map D.int)] C = .ok (.int bs.length) C := by simp [bLen]
  have sb : dSub (.int 4000) (.int (bs.length : Int)) C = .ok (.int (4000 - bs.length)) C := rfl
  have dv : dDiv (.int (4000 - (bs.length : Int))) (.int 8) C = .ok (.int ((4000 - (bs.length : Int)) / 8)) C := dDiv_i (by decide)
  have mu : dMul (.int ((4000 - (bs.length : Int)) / 8)) (.int 8) C = .ok (.int ((4000 - (bs.length : Int)) / 8 * 8)) C := dMul_i (cmul_r (by decide))
  obtain ⟨far, hfar⟩ : ∃ far, far = (4000 - (bs.length : Int)) / 8 * 8 + 8 := ⟨_, rfl⟩
  have ad : dAdd (.int ((4000 - (bs.length : Int)) / 8 * 8)) (.int 8) C = .ok (.int far) C := by rw [hfar]; rfl
  obtain ⟨C1, u, f1, a1, b1, s1, e1⟩ := digit_ok h 40 (by decide)
  obtain ⟨C2, v, f2, a2, b2, s2, e2⟩ := digit_ok s1 7 (by decide)
  have mu2 : dMul (.int 8) (.int u) C1 = .ok (.int (8 * u)) C1 := dMul_i (cmul_l (by decide))
  have ad2 : dAdd (.int (8 * u)) (.int 1) C1 = .ok (.int (8 * u + 1)) C1 := rfl
  obtain ⟨near, hnear⟩ : ∃ near, near = 8 * u + 1 + v := ⟨_, rfl⟩
  have ad3 : dAdd (.int (8 * u + 1)) (.int v) C2 = .ok (.int near) C2 := by rw [hnear]; rfl
  have p20 := pow20 C2
  have mu3 : dMul (.int 8) (.int 100000000000000000000) C2 = .ok (.int 800000000000000000000) C2 := dMul_i (cmul_l (by decide))
  obtain ⟨C3, x, f3, a3, b3, s3, e3⟩ := digit_ok s2 13 (by decide)
  obtain ⟨d, hd, md⟩ := dix_mem (l := [.int (-8), .int near, .int near, .int far, .int far, .int 4000, .int 4008, .bl true, .bl false, .non, .str "0", .int (-1), .int 800000000000000000000]) (v := x) (C := C3) (by show _ ∧ _ < (13 : Int); omega)
  refine ⟨C3, d, ?_, fun m => ?_, ?_, s3, (e1.trans e2).trans e3⟩
  · have n8 : ∀ C, eNeg (eC (.int 8)) [some (.cel n), some (.lst (bs.map D.int)), some (.int far), some (.int near)] C = .ok (.int (-8)) C := fun _ => rfl
    generalize D.lst (bs.map D.int) = BL at *
    unfold F__law_odd_at
    refine callF_r [some (.cel n), some BL, none, none] rfl rfl ?_
    rw [sq]
    conv => lhs; arg 1; simp [bl, sb, dv, mu, ad, -dSub_i]
    rw [sn]
    rw [sq]
    conv => lhs; arg 1; simp [f1, mu2, ad2, f2, ad3]
    rw [sn]
    generalize ("0" : Str) = Z0 at *
    simp [p20, mu3, f3, hd]
  · have far4 : 0 ≤ far ∧ far ≤ 4000 ∧ far % 8 = 0 ∧ 4000 < far + bs.length := by omega
    have near4 : 0 ≤ near ∧ near ≤ 4000 ∧ near % 8 ≠ 0 := by omega
    simp only [List.mem_cons, List.not_mem_nil, or_false] at md
    have two : ∀ i : Int, 0 ≤ i ∧ i ≤ 4000 → i % 8 = 0 → 4000 < i + bs.length → PlcV (.int i) (.lst (bs.map D.int)) (.bl m) := fun i h1 h2 h3 => by
      cases m
      · exact plc_false h1 h2 h3
      · exact plc_true h1 h2 (.inr (by omega))
    rcases md with rfl | rfl | rfl | rfl | rfl | rfl | rfl | rfl | rfl | rfl | rfl | rfl | rfl
    · exact plc_out fun C => within_out _ _ _ _ (.inl (by decide))
    · exact plc_mod ⟨near4.1, near4.2.1⟩ near4.2.2
    · exact plc_mod ⟨near4.1, near4.2.1⟩ near4.2.2
    · exact two far ⟨far4.1, far4.2.1⟩ far4.2.2.1 far4.2.2.2
    · exact two far ⟨far4.1, far4.2.1⟩ far4.2.2.1 far4.2.2.2
    · exact two 4000 (by decide) (by decide) (by omega)
    · exact plc_out fun C => within_out _ _ _ _ (.inr (by decide))
    · exact plc_out fun C => within_no _ _ _ C rfl (by decide)
    · exact plc_out fun C => within_no _ _ _ C rfl (by decide)
    · exact plc_out fun C => within_no _ _ _ C rfl (by decide)
    · exact plc_out fun C => within_no _ _ _ C rfl (by decide)
    · exact plc_out fun C => within_out _ _ _ _ (.inl (by decide))
    · exact plc_out fun C => within_out _ _ _ _ (.inr (by decide))
  · simp only [List.mem_cons, List.not_mem_nil, or_false] at md
    rcases md with rfl | rfl | rfl | rfl | rfl | rfl | rfl | rfl | rfl | rfl | rfl | rfl | rfl <;> rfl
/-- a key that is none -/
theorem odd_key_ok (h : Stt C n) {i : Int} {a b : Str} (ky : Ky i a b) : ∃ C' d0 d1 d2 v0 v1 v2, F__law_odd_key [.cel n, .tup [.int i, .str a, .str b]] C = .ok (.tup [d0, d1, d2]) C' ∧ NumV d0 v0 ∧ NamV d1 v1 ∧ NamV d2 v2 ∧ (v0 && v1 && v2) = false ∧ plainD 30 (.tup [d0, d1, d2]) = true ∧ Stt C' n ∧ Ext [n] C C' := by
  have p30 := pow30 C
  obtain ⟨C1, u, f1, a1, b1, s1, e1⟩ := digit_ok h 6 (by decide)
  obtain ⟨N, hN, mN⟩ := dix_mem (l := [.int (-1), .int 65536, .bl true, .non, .str "5", .int 1000000000000000000000000000000]) (v := u) (C := C1) (by show _ ∧ _ < (6 : Int); omega)
  have vN : NumV N false ∧ plainD 29 N = true := by
    simp only [List.mem_cons, List.not_mem_nil, or_false] at mN
    rcases mN with rfl | rfl | rfl | rfl | rfl | rfl
    · exact ⟨fun C => within_out _ _ _ _ (by decide), rfl⟩
    · exact ⟨fun C => within_out _ _ _ _ (by decide), rfl⟩
    · exact ⟨fun C => within_no _ _ _ _ rfl (by decide), rfl⟩
    · exact ⟨fun C => within_no _ _ _ _ rfl (by decide), rfl⟩
    · exact ⟨fun C => within_no _ _ _ _ rfl (by decide), rfl⟩
    · exact ⟨fun C => within_out _ _ _ _ (by decide), rfl⟩
  obtain ⟨C2, v, f2, a2, b2, s2, e2⟩ := digit_ok s1 8 (by decide)
  obtain ⟨M, hM, mM⟩ := dix_mem (l := [.str "", .str "abcdefghi", .str "A", .str "a1", .str "a b", .non, .lst [.str "a"], .int 5]) (v := v) (C := C2) (by show _ ∧ _ < (8 : Int); omega)
  have vM : NamV M false ∧ plainD 29 M = true := by
    simp only [List.mem_cons, List.not_mem_nil, or_false] at mM
    rcases mM with rfl | rfl | rfl | rfl | rfl | rfl | rfl | rfl
    · exact ⟨fun C => isname_len _ C (.inl (by decide +kernel)) (by decide +kernel), rfl⟩
    · exact ⟨fun C => isname_len _ C (.inr (by decide +kernel)) (by decide +kernel), rfl⟩
    · exact ⟨fun C => isname_sign _ C (by decide +kernel) 65 (by decide +kernel) (by decide +kernel), rfl⟩
    · exact ⟨fun C => isname_sign _ C (by decide +kernel) 49 (by decide +kernel) (by decide +kernel), rfl⟩
    · exact ⟨fun C => isname_sign _ C (by decide +kernel) 32 (by decide +kernel) (by decide +kernel), rfl⟩
    · exact ⟨fun C => isname_no _ C rfl (by decide), rfl⟩
    · exact ⟨fun C => isname_no _ C rfl (by decide), rfl⟩
    · exact ⟨fun C => isname_no _ C rfl (by decide), rfl⟩
  obtain ⟨C3, w, f3, a3, b3, s3, e3⟩ := digit_ok s2 4 (by decide)
  have k0 : ∀ C, dIx (.tup [.int i, .str a, .str b]) (.int 0) C = .ok (.int i) C := fun _ => rfl
  have k1 : ∀ C, dIx (.tup [.int i, .str a, .str b]) (.int 1) C = .ok (.str a) C := fun _ => rfl
  have k2 : ∀ C, dIx (.tup [.int i, .str a, .str b]) (.int 2) C = .ok (.str b) C := fun _ => rfl
  obtain ⟨K, hK, mK⟩ := dix_mem (l := [.tup [N, .str a, .str b], .tup [.int i, M, .str b], .tup [.int i, .str a, M], .tup [N, M, M]]) (v := w) (C := C3) (by show _ ∧ _ < (4 : Int); omega)
  have g0 := num_ok ky.n
  have g1 := nam_ok ky.a
  have g2 := nam_ok ky.b
  have pl : ∀ x y z : D, plainD 29 x = true → plainD 29 y = true → plainD 29 z = true → plainD 30 (.tup [x, y, z]) = true := fun x y z h1 h2 h3 => by
    show [x, y, z].all (plainD 29) = true
    simp [h1, h2, h3]
  have fe : F__law_odd_key [.cel n, .tup [.int i, .str a, .str b]] C = .ok K C3 := by
    generalize hKT : D.tup [.int i, .str a, .str b] = KT at *
    unfold F__law_odd_key
    refine callF_r [some (.cel n), some KT, none, none, none] rfl rfl ?_
    have st2 : sSet 2 (DL.e2 dIx (eLst (aCons (eNeg (eC (.int 1))) (aCons (eC (.int 65536)) (aCons (eC (.bl true)) (aCons (eC .non) (aCons (eC (.str "5")) (aCons (DL.e2 dPow (eC (.int 10)) (eC (.int 30))) (aNil)))))))) (eCall F__law_digit [] (aCons (eVar 0) (aCons (eC (.int 6)) (aNil))))) [some (.cel n), some KT, none, none, none] C = .nxt [some (.cel n), some KT, some N, none, none] C1 := by
      generalize ("5" : Str) = Z5 at *
      simp [p30, f1, hN]
    rw [sq, st2, sn]
    have st3 : sSet 3 (DL.e2 dIx (eLst (aCons (eC (.str "")) (aCons (eC (.str "abcdefghi")) (aCons (eC (.str "A")) (aCons (eC (.str "a1")) (aCons (eC (.str "a b")) (aCons (eC .non) (aCons (eLst (aCons (eC (.str "a")) (aNil))) (aCons (eC (.int 5)) (aNil)))))))))) (eCall F__law_digit [] (aCons (eVar 0) (aCons (eC (.int 8)) (aNil))))) [some (.cel n), some KT, some N, none, none] C1 = .nxt [some (.cel n), some KT, some N, some M, none] C2 := by
      generalize ("" : Str) = Z1 at *
      generalize ("abcdefghi" : Str) = Z2 at *
      generalize ("A" : Str) = Z3 at *
      generalize ("a1" : Str) = Z4 at *
      generalize ("a b" : Str) = Z5 at *
      generalize ("a" : Str) = Z6 at *
      simp [f2, hM]
    rw [sq, st3, sn]
    rw [sq]
    conv => lhs; arg 1; simp [k0, k1, k2]
    rw [sn]
    simp [f3, hK]
  simp only [List.mem_cons, List.not_mem_nil, or_false] at mK
  rcases mK with rfl | rfl | rfl | rfl
  · exact ⟨C3, _, _, _, _, _, _, fe, vN.1, g1, g2, rfl, pl _ _ _ vN.2 rfl rfl, s3, (e1.trans e2).trans e3⟩
  · exact ⟨C3, _, _, _, _, _, _, fe, g0, vM.1, g2, rfl, pl _ _ _ rfl vM.2 rfl, s3, (e1.trans e2).trans e3⟩
  · exact ⟨C3, _, _, _, _, _, _, fe, g0, g1, vM.1, rfl, pl _ _ _ rfl rfl vM.2, s3, (e1.trans e2).trans e3⟩
  · exact ⟨C3, _, _, _, _, _, _, fe, vN.1, vM.1, vM.1, rfl, pl _ _ _ vN.2 vM.2 vM.2, s3, (e1.trans e2).trans e3⟩
end
/-! bodies that are none -/
section
variable {C C' : Cells} {n : Nat}
theorem plain_ints (bs : List Int) : plainD 30 (.lst (bs.map D.int)) = true := by
  show (bs.map D.int).all (plainD 29) = true
  rw [List.all_map, List.all_eq_true]
  intro x _; rfl
theorem odd_body_ok (h : Stt C n) {bs : List Int} (hb : Bd bs) (hl : bs.length ≤ 100) : ∃ C' d, F__law_odd_body [.cel n, .lst (bs.map D.int)] C = .ok d C' ∧ BodG d false ∧ plainD 30 d = true ∧ Stt C' n ∧ Ext [n] C C' := by
  have lo := hb.lo
  have bl : bLen [.lst (bs.map D.int)] C = .ok (.int bs.length) C := by simp [bLen]
  obtain ⟨C1, v, f1, a1, b1, s1, e1⟩ := digit_ok h bs.length (by omega)
  obtain ⟨C2, u, f2, a2, b2, s2, e2⟩ := digit_ok s1 7 (by decide)
  obtain ⟨o, ho, mo⟩ := dix_mem (l := ([.int (-1), .int 256, .bl true, .bl false, .non, .str "7", .lst [.int 7]] : List D)) (v := u) (C := C2) (by show _ ∧ _ < (7 : Int); omega)
  have vo : BytV o false ∧ plainD 29 o = true := by
    simp only [List.mem_cons, List.not_mem_nil, or_false] at mo
    rcases mo with rfl | rfl | rfl | rfl | rfl | rfl | rfl
    · exact ⟨fun C => within_out _ _ _ _ (by decide), rfl⟩
    · exact ⟨fun C => within_out _ _ _ _ (by decide), rfl⟩
    · exact ⟨fun C => within_no _ _ _ _ rfl (by decide), rfl⟩
    · exact ⟨fun C => within_no _ _ _ _ rfl (by decide), rfl⟩
    · exact ⟨fun C => within_no _ _ _ _ rfl (by decide), rfl⟩
    · exact ⟨fun C => within_no _ _ _ _ rfl (by decide), rfl⟩
    · exact ⟨fun C => within_no _ _ _ _ rfl (by decide), rfl⟩
  obtain ⟨C4, w, f4, a4, b4, s4, e4⟩ := digit_ok s2 12 (by decide)
  have hv : v.toNat ≤ bs.length := by omega
  obtain ⟨l, hbl⟩ : ∃ l, l = bs.map D.int := ⟨_, rfl⟩
  have ll : l.length = bs.length := by rw [hbl]; simp
  have c1 : ∀ C, dSl (.lst l) none (some (1 : Int)) C = .ok (.lst (l.take 1)) C := fun C => (cutI l 1 (by omega) C).1
  have c2 := fun C => (cutI l v.toNat (by omega) C).1
  have c3 := fun C => (cutI l (v.toNat + 1) (by omega) C).2
  have ev : ((v.toNat : Nat) : Int) = v := by omega
  have ev1 : (((v.toNat + 1 : Nat)) : Int) = v + 1 := by omega
  rw [ev] at c2
  rw [ev1] at c3
  have t1 : (l.take 1).length = 1 := by simp; omega
  obtain ⟨many, hmany0⟩ : ∃ many, many = D.lst (List.replicate 4001 (l.take 1)).flatten := ⟨_, rfl⟩
  obtain ⟨bad, hbad0⟩ : ∃ bad, bad = D.lst (l.take v.toNat ++ [o] ++ l.drop (v.toNat + 1)) := ⟨_, rfl⟩
  have hm : ∀ C, dMul (.lst (l.take 1)) (.int 4001) C = .ok many C := fun C => by
    have hz : (l.take 1).length * (4001 : Int).toNat ≤ mxl := by rw [t1]; decide
    unfold dMul
    simp only [trkOf_lst]
    rw [if_pos ⟨by decide, by decide, hz⟩, hmany0]
    rfl
  have h6 : ∀ C, dMul (.lst [bad]) (.int 6) C = .ok (.lst [bad, bad, bad, bad, bad, bad]) C := fun C => by
    unfold dMul
    simp only [trkOf_lst]
    rw [if_pos ⟨by decide, by decide, by simp⟩]
    rfl
  obtain ⟨T1, hT1⟩ : ∃ T1, T1 = l.take 1 := ⟨_, rfl⟩
  obtain ⟨T2, hT2⟩ : ∃ T2, T2 = l.take v.toNat := ⟨_, rfl⟩
  obtain ⟨T3, hT3⟩ : ∃ T3, T3 = l.drop (v.toNat + 1) := ⟨_, rfl⟩
  have l2 : T2.length ≤ 100 := by rw [hT2, List.length_take]; omega
  have l3 : T3.length ≤ 100 := by rw [hT3, List.length_drop]; omega
  rw [← hT2, ← hT3] at hbad0
  have ha : ∀ C, dAdd (.lst T2) (.lst [o]) C = .ok (.lst (T2 ++ [o])) C := fun C => addL _ _ (by simp; omega) C
  have ha2 : ∀ C, dAdd (.lst (T2 ++ [o])) (.lst T3) C = .ok bad C := fun C => by rw [hbad0]; exact addL _ _ (by simp; omega) C
  have ha3 : ∀ C, dAdd (.lst [.lst [], many, .tup l, .non, .str "abc", .int 5]) (.lst [bad, bad, bad, bad, bad, bad]) C = .ok (.lst ([.lst [], many, .tup l, .non, .str "abc", .int 5] ++ [bad, bad, bad, bad, bad, bad])) C := fun C => addL _ _ (by simp) C
  obtain ⟨d, hd, m⟩ := dix_mem (l := ([.lst [], many, .tup l, .non, .str "abc", .int 5] ++ [bad, bad, bad, bad, bad, bad])) (v := w) (C := C4) (by show _ ∧ _ < (12 : Int); omega)
  have tu : ∀ C, bTuple [.lst l] C = .ok (.tup l) C := fun C => by simp [bTuple]
  have pli : ∀ x ∈ l, plainD 29 x = true := fun x hx => by
    rw [hbl] at hx
    obtain ⟨i, _, rfl⟩ := List.mem_map.1 hx
    rfl
  have hmany : BodG many false ∧ plainD 30 many = true := by
    rw [hmany0]
    refine ⟨fun C => isbody_len _ C (.inr (by simp [t1])), ?_⟩
    show (List.replicate 4001 (l.take 1)).flatten.all (plainD 29) = true
    rw [List.all_eq_true]
    intro x hx
    obtain ⟨t, mt, mx⟩ := List.mem_flatten.1 hx
    rw [(List.mem_replicate.1 mt).2] at mx
    exact pli x (List.mem_of_mem_take mx)
  have hbad : BodG bad false ∧ plainD 30 bad = true := by
    refine ⟨fun C5 => ?_, ?_⟩
    · rw [hbad0, hT2, hT3]
      have hlen : (l.take v.toNat ++ [o] ++ l.drop (v.toNat + 1)).length = l.length := by simp; omega
      have hi := hb.hi
      refine isbody_byte _ C5 (by rw [hlen]; omega) (fun x => match x with | .int i => decide (0 ≤ i ∧ i ≤ 255) | _ => false) (fun x hx => ?_) ⟨o, by simp, ?_⟩
      · have good : ∀ i ∈ bs, BytV (D.int i) (match D.int i with | .int i => decide (0 ≤ i ∧ i ≤ 255) | _ => false) := fun i hi C => by
          rw [show (match D.int i with | .int i => decide (0 ≤ i ∧ i ≤ 255) | _ => false) = true from by simpa using hb.al i hi]
          exact within_ok _ _ _ _ (hb.al i hi)
        rcases List.mem_append.1 hx with hx | hx
        · rcases List.mem_append.1 hx with hx | hx
          · have := List.mem_of_mem_take hx
            rw [hbl] at this
            obtain ⟨i, hi, rfl⟩ := List.mem_map.1 this
            exact good i hi
          · rw [List.mem_singleton] at hx
            subst hx
            intro C
            have := vo.1 C
            simp only [List.mem_cons, List.not_mem_nil, or_false] at mo
            rcases mo with rfl | rfl | rfl | rfl | rfl | rfl | rfl <;> exact this
        · have := List.mem_of_mem_drop hx
          rw [hbl] at this
          obtain ⟨i, hi, rfl⟩ := List.mem_map.1 this
          exact good i hi
      · simp only [List.mem_cons, List.not_mem_nil, or_false] at mo
        rcases mo with rfl | rfl | rfl | rfl | rfl | rfl | rfl <;> rfl
    · rw [hbad0, hT2, hT3]
      show (l.take v.toNat ++ [o] ++ l.drop (v.toNat + 1)).all (plainD 29) = true
      rw [List.all_eq_true]
      intro x hx
      rcases List.mem_append.1 hx with hx | hx
      · rcases List.mem_append.1 hx with hx | hx
        · exact pli x (List.mem_of_mem_take hx)
        · rw [List.mem_singleton.1 hx]; exact vo.2
      · exact pli x (List.mem_of_mem_drop hx)
  refine ⟨C4, d, ?_, ?_, ?_, s4, (e1.trans e2).trans e4⟩
  · rw [← hbl] at bl ⊢
    rw [← hT2] at c2
    rw [← hT3] at c3
    rw [← hT1] at c1 hm
    have bl := bl
    have a1v : ∀ C, dAdd (.int v) (.int 1) C = .ok (.int (v + 1)) C := fun _ => rfl
    generalize hLL : D.lst l = LL at *
    unfold F__law_odd_body
    refine callF_r [some (.cel n), some LL, none, none, none] rfl rfl ?_
    rw [sq]
    conv => lhs; arg 1; simp [bl, f1]
    rw [sn]
    rw [sq, show sSet 3 (DL.e2 dIx (eLst (aCons (eNeg (eC (.int 1))) (aCons (eC (.int 256)) (aCons (eC (.bl true)) (aCons (eC (.bl false)) (aCons (eC .non) (aCons (eC (.str "7")) (aCons (eLst (aCons (eC (.int 7)) (aNil))) (aNil))))))))) (eCall F__law_digit [] (aCons (eVar 0) (aCons (eC (.int 7)) (aNil))))) [some (.cel n), some LL, some (.int v), none, none] C1 = .nxt [some (.cel n), some LL, some (.int v), some o, none] C2 by
      generalize ("7" : Str) = Z7 at *
      simp [f2, ho], sn]
    generalize ("abc" : Str) = ZA at *
    rw [sq]
    conv => lhs; arg 1; simp [c1, hm, tu]
    rw [sn]
    rw [sq]
    conv => lhs; arg 1; simp [c2, ha, a1v, c3, ha2, h6, ha3, -dAdd_i]
    rw [sn]
    simp at hd
    simp [f4, hd]
  · simp only [List.cons_append, List.nil_append, List.mem_cons, List.not_mem_nil, or_false] at m
    rcases m with rfl | rfl | rfl | rfl | rfl | rfl | rfl | rfl | rfl | rfl | rfl | rfl
    · exact fun C => isbody_len _ C (.inl rfl)
    · exact hmany.1
    · exact fun C => isbody_no _ C rfl (by decide)
    · exact fun C => isbody_no _ C rfl (by decide)
    · exact fun C => isbody_no _ C rfl (by decide)
    · exact fun C => isbody_no _ C rfl (by decide)
    all_goals exact hbad.1
  · simp only [List.cons_append, List.nil_append, List.mem_cons, List.not_mem_nil, or_false] at m
    rcases m with rfl | rfl | rfl | rfl | rfl | rfl | rfl | rfl | rfl | rfl | rfl | rfl
    · rfl
    · exact hmany.2
    · show l.all (plainD 29) = true
      rw [List.all_eq_true]; exact pli
    · rfl
    · rfl
    · rfl
    all_goals exact hbad.2
/-! closures -/
def clo (k a b m e : D) : D := .opq 1000 (.opq 900 [] :: [.opq 901 [k], .opq 901 [a], .opq 901 [b], .opq 901 [m], .opq 901 [e]])
theorem made_ok (k a b m e : D) (C : Cells) : F__law_made [k, a, b, m, e] C = .ok (clo k a b m e) (C.bump 1) := rfl
theorem cap_ok {k a b m e : D} (hk : plainD 30 k = true) (ha : plainD 30 a = true) (hb : plainD 30 b = true) (hm : plainD 30 m = true) (he : plainD 30 e = true) : capD 901 [.opq 901 [k], .opq 901 [a], .opq 901 [b], .opq 901 [m], .opq 901 [e]] = some [k, a, b, m, e] := by
  simp [capD, hk, ha, hb, hm, he]
theorem ext_join (C C' : Cells) : Ext [] C (joinC C C') := ⟨Nat.le_max_left _ _, fun n h _ => if_pos h⟩
/-- what a closure is worth -/
theorem clo_val {k0 k1 k2 a b m e : D} (hk : plainD 30 (.tup [k0, k1, k2]) = true) (ha : plainD 30 a = true) (hb : plainD 30 b = true) (hm : plainD 30 m = true) (he : plainD 30 e = true) (C : Cells) :
    actG bd_clo 900 901 (clo (.tup [k0, k1, k2]) a b m e) C = joinR C (mkF T0 1 F_Piece_init [k0, k1, k2, a, b, m, e] (subC C)) := by
  have c := cap_ok hk ha hb hm he
  have b0 : bd_clo 1000 = some L__law_made_1 := rfl
  unfold clo actG
  simp only [if_true, c, b0]
  have i0 : dIx (.tup [k0, k1, k2]) (.int 0) (subC C) = .ok k0 (subC C) := rfl
  have i1 : dIx (.tup [k0, k1, k2]) (.int 1) (subC C) = .ok k1 (subC C) := rfl
  have i2 : dIx (.tup [k0, k1, k2]) (.int 2) (subC C) = .ok k2 (subC C) := rfl
  have ev : L__law_made_1 ([.tup [k0, k1, k2], a, b, m, e].map some) (subC C) = mkF T0 1 F_Piece_init [k0, k1, k2, a, b, m, e] (subC C) := by
    generalize hK : D.tup [k0, k1, k2] = K at *
    simp [L__law_made_1, i0, i1, i2]
  rw [ev]
theorem clo_bad {k0 k1 k2 a b m e : D} (hk : plainD 30 (.tup [k0, k1, k2]) = true) (ha : plainD 30 a = true) (hb : plainD 30 b = true) (hm : plainD 30 m = true) (he : plainD 30 e = true)
    (h : ∀ C, mkF T0 1 F_Piece_init [k0, k1, k2, a, b, m, e] C = .err 4 (C.new (.obj 1 []))) (C : Cells) : ∃ C', F__law_refusal [clo (.tup [k0, k1, k2]) a b m e] C = .ok (.str "piece") C' ∧ Ext [] C C' := by
  refine ⟨joinC C ((subC C).new (.obj 1 [])), ref_piece ?_, ext_join _ _⟩
  rw [clo_val hk ha hb hm he, h]
  rfl
theorem clo_good {i : Int} {a b : Str} (ky : Ky i a b) {bs : List Int} (bd : Bd bs) {at_ : Int} {mo k : Bool} (hp : Pl at_ bs.length mo) (C : Cells) : ∃ C', actG bd_clo 900 901 (clo (.tup [.int i, .str a, .str b]) (.int at_) (.lst (bs.map D.int)) (.bl mo) (.bl k)) C = .ok (pce i a b bs k at_ mo) C' ∧ Ext [] C C' := by
  refine ⟨joinC C ((subC C).bump 1), ?_, ext_join _ _⟩
  rw [clo_val rfl rfl (plain_ints bs) rfl rfl, piece_ok i a b _ bs k at_ mo (subC C) ky (.inl rfl) bd hp]
  rfl
theorem end_ok {n : Int} {a b : Str} {bs : List Int} {k : Bool} {at_ : Int} {mo : Bool} {C : Cells} : F_Piece_end [pce n a b bs k at_ mo] C = .ok (.int (at_ + bs.length)) C := by
  obtain ⟨f0, f1, f2, f3, f4, f5, _⟩ := fld_pce (n := n) (a := a) (b := b) (bs := bs) (k := k) (at_ := at_) (mo := mo) (C := C)
  simp [F_Piece_end, f5, f3, bLen]
end
/-! the law -/
theorem lcF_none {α : Type} {tg : GF} {t : TF} {f : EF} {vs : List Nat} {s : Sl} (enc : α → D) (I : Cells → Prop) : ∀ (l : List α) (C : Cells), I C → (∀ a ∈ l, ∀ C, I C → ∃ s' C1, tg (enc a) (wipeD s vs) C = some s' ∧ t s' C = .ok false C1 ∧ I C1) → ∃ C', lcF tg t f vs (l.map enc) s C = .ok [] C' ∧ I C'
  | [], C, i, _ => ⟨C, rfl, i⟩
  | a :: l, C, i, h => by
    obtain ⟨s', C1, h1, h2, i1⟩ := h a (by simp) C i
    obtain ⟨C', h3, i'⟩ := lcF_none enc I l C1 i1 fun b m => h b (by simp [m])
    refine ⟨C', ?_, i'⟩
    rw [List.map_cons]
    unfold lcF
    simp only [h1, h2]
    simpa using h3
theorem grow04 {q : Nat} {Cx : Cells} {l : List D} (g : Cx.get q = some (.lst l)) (hl : l.length < 100) (d : D) : ∃ C', mAppend (.cel q) [d] Cx = .ok .non C' ∧ C'.get q = some (.lst (l ++ [d])) ∧ Ext [q] Cx C' ∧ tyL Cx (.cel q) = true :=
  ⟨_, append_cel g d (by omega), get_set g, Ext.refl.set (.inl (by simp)), tyL_cel g⟩
section
variable {C C' : Cells} {n : Nat}
theorem odd_keep : ∀ d ∈ ([.int 0, .int 1, .non, .str "", .str "True", .lst []] : List D), KepV d false ∧ plainD 30 d = true := by
  intro d m
  simp only [List.mem_cons, List.not_mem_nil, or_false] at m
  rcases m with rfl | rfl | rfl | rfl | rfl | rfl
  · exact ⟨kep_no (k := 2) (fun _ => rfl) (by decide), rfl⟩
  · exact ⟨kep_no (k := 2) (fun _ => rfl) (by decide), rfl⟩
  · exact ⟨kep_no (k := 0) (fun _ => rfl) (by decide), rfl⟩
  · exact ⟨kep_no (k := 3) (fun _ => rfl) (by decide), rfl⟩
  · exact ⟨kep_no (k := 3) (fun _ => rfl) (by decide), rfl⟩
  · exact ⟨kep_no (k := 4) (fun _ => rfl) (by decide), rfl⟩
/-- all told to be no piece -/
theorem bads_ok {LL : List D} (h : ∀ d ∈ LL, ∀ C, ∃ C', F__law_refusal [d] C = .ok (.str "piece") C') (hl : LL.length ≤ 100) {x0 x1 x2 x3 x4 x5 x6 x7 x8 x9 : Option D} (C : Cells) :
    ∃ C', eLc (iLst (eVar 10)) (gfName 11) (I_law_1) (Y_law_2) [11] [x0, x1, x2, x3, x4, x5, x6, x7, x8, x9, some (.lst LL), none] C = .ok (.lst []) C' := by
  obtain ⟨C', f, _⟩ := lcF_none (tg := gfName 11) (t := I_law_1) (f := Y_law_2) (vs := [11]) (s := [x0, x1, x2, x3, x4, x5, x6, x7, x8, x9, some (.lst LL), none]) id (fun _ => True) LL C trivial (by
    intro d md A _
    obtain ⟨A1, fr⟩ := h d md A
    refine ⟨[x0, x1, x2, x3, x4, x5, x6, x7, x8, x9, some (.lst LL), some d], A1, rfl, ?_, trivial⟩
    have ne := neqS (a := "piece") (by decide +kernel) A1
    unfold I_law_1
    generalize ("piece" : Str) = PI at *
    simp [fr, ne])
  rw [List.map_id] at f
  refine ⟨C', ?_⟩
  rw [eLc_ap, lcG_ap, show iLst (eVar 10) [x0, x1, x2, x3, x4, x5, x6, x7, x8, x9, some (.lst LL), none] C = .ok LL C by simp, bind_ok, f]
  have ll : LL.length ≤ mxl := by show _ ≤ 16777216; omega
  simp only [if_pos ll, bind_ok]
theorem mend : M_end 1 = some (1, F_Piece_end) := rfl
theorem ends_ok {i : Int} {a b : Str} (ky : Ky i a b) {bs : List Int} (bd : Bd bs) {at_ : Int} {mo k : Bool} (hp : Pl at_ bs.length mo) {fk fa fb fm fe : EF} {s : Sl} {C C5 : Cells}
    (e : aCons fk (aCons fa (aCons fb (aCons fm (aCons fe (aNil))))) s C = .ok [.tup [.int i, .str a, .str b], .int at_, .lst (bs.map D.int), .bl mo, .bl k] C5) :
    ∃ C', eMeth M_end (eCloC bd_clo 900 901 (eCall F__law_made [] (aCons fk (aCons fa (aCons fb (aCons fm (aCons fe (aNil)))))))) aNil s C = .ok (.int (at_ + bs.length)) C' := by
  obtain ⟨C', f, _⟩ := clo_good ky bd hp (k := k) (C5.bump 1)
  have m := made_ok (.tup [.int i, .str a, .str b]) (.int at_) (.lst (bs.map D.int)) (.bl mo) (.bl k) C5
  have en := end_ok (n := i) (a := a) (b := b) (bs := bs) (k := k) (at_ := at_) (mo := mo) (C := C')
  have ob : objOf C' (pce i a b bs k at_ mo) = some (1, [.int i, .str a, .str b, .lst (bs.map D.int), .bl k, .int at_, .bl mo]) := rfl
  have me := mend
  refine ⟨C', ?_⟩
  have ec : eCloC bd_clo 900 901 (eCall F__law_made [] (aCons fk (aCons fa (aCons fb (aCons fm (aCons fe (aNil))))))) s C = .ok (pce i a b bs k at_ mo) C' := by
    unfold eCloC
    rw [show eCall F__law_made [] (aCons fk (aCons fa (aCons fb (aCons fm (aCons fe (aNil)))))) s C = .ok (clo (.tup [.int i, .str a, .str b]) (.int at_) (.lst (bs.map D.int)) (.bl mo) (.bl k)) (C5.bump 1) by rw [eCall_ap, e]; exact m, bind_ok, f]
  generalize eCloC bd_clo 900 901 (eCall F__law_made [] (aCons fk (aCons fa (aCons fb (aCons fm (aCons fe (aNil))))))) = EC at *
  generalize pce i a b bs k at_ mo = PP at *
  simp [ec, ob, me, en]
theorem turn04 (c : Int) {x0 x2 x3 x4 x5 x6 x7 x8 x9 x10 : Option D} : ∃ C' y2 y3 y4 y5 y6 y7 y8 y9 y10, B_law_3 [x0, some (.int c), x2, x3, x4, x5, x6, x7, x8, x9, x10, none] C = .nxt [x0, some (.int c), y2, y3, y4, y5, y6, y7, y8, y9, y10, none] C' := by
  have s0 : Stt (C.new (.lst [.int c])) C.nx := .inl ⟨_, get_new⟩
  generalize hn : C.nx = n at s0
  generalize hCa : C.new (.lst [.int c]) = Ca at s0
  obtain ⟨C1, i, a, b, f1, ky, s1, e1⟩ := key_ok s0
  obtain ⟨C2, v, f2, l2, h2, s2, e2⟩ := digit_ok s1 6 (by decide)
  have a1 : dAdd (.int 1) (.int v) C2 = .ok (.int (1 + v)) C2 := rfl
  have m8 : dMul (.int 8) (.int (1 + v)) C2 = .ok (.int (8 * (1 + v))) C2 := dMul_i (cmul_l (by decide))
  obtain ⟨C3, bs, f3, bd, lb, s3, e3⟩ := body_ok s2 (8 * (1 + v)) (by omega)
  obtain ⟨C4, w, f4, l4, h4, s4, e4⟩ := digit_ok s3 40 (by decide)
  obtain ⟨at_, hat⟩ : ∃ at_, at_ = 8 * w := ⟨_, rfl⟩
  have m4 : dMul (.int 8) (.int w) C4 = .ok (.int at_) C4 := by rw [hat]; exact dMul_i (cmul_l (by decide))
  obtain ⟨C5, x5', f5, l5, h5, s5, e5⟩ := digit_ok s4 2 (by decide)
  obtain ⟨mo, hmo⟩ : ∃ mo : Bool, mo = (x5' == 1) := ⟨_, rfl⟩
  have q5 : dEqV (.int x5') (.int 1) C5 = .ok (.bl mo) C5 := by rw [hmo]; rfl
  obtain ⟨C6, x6', f6, l6, h6, s6, e6⟩ := digit_ok s5 2 (by decide)
  obtain ⟨kp, hkp⟩ : ∃ kp : Bool, kp = (x6' == 1) := ⟨_, rfl⟩
  have q6 : dEqV (.int x6') (.int 1) C6 = .ok (.bl kp) C6 := by rw [hkp]; rfl
  obtain ⟨C7, x7', f7, l7, h7, s7, e7⟩ := digit_ok s6 6 (by decide)
  obtain ⟨od, hod, mod_⟩ := dix_mem (l := ([.int 0, .int 1, .non, .str "", .str "True", .lst []] : List D)) (v := x7') (C := C7) (by show _ ∧ _ < (6 : Int); omega)
  obtain ⟨ko, po⟩ := odd_keep od mod_
  have bl : ∀ C, bLen [.lst (bs.map D.int)] C = .ok (.int bs.length) C := fun C => by simp [bLen]
  have sb1 : ∀ C, dSub (.int (bs.length : Int)) (.int 1) C = .ok (.int ((bs.length : Int) - 1)) C := fun _ => rfl
  obtain ⟨C8, x8', f8, l8, h8, s8, e8⟩ := digit_ok s7 7 (by decide)
  obtain ⟨j, hj⟩ : ∃ j : Nat, j = ((bs.length : Int) - 1 - x8').toNat := ⟨_, rfl⟩
  have hj2 : (j : Int) = (bs.length : Int) - 1 - x8' := by rw [hj, Int.toNat_of_nonneg (by omega)]
  have sb2 : dSub (.int ((bs.length : Int) - 1)) (.int x8') C8 = .ok (.int (j : Int)) C8 := by rw [hj2]; rfl
  obtain ⟨sh, hsh⟩ : ∃ sh, sh = bs.take j := ⟨_, rfl⟩
  have shl : sh.length = j := by rw [hsh, List.length_take]; omega
  have cu : dSl (.lst (bs.map D.int)) none (some (j : Int)) C8 = .ok (.lst (sh.map D.int)) C8 := by
    have := (cutI (bs.map D.int) j (by rw [List.length_map]; omega) C8).1
    rw [this, hsh, List.map_take]
  have bsh : Bd sh := ⟨by omega, by have := bd.hi; omega, fun z m => bd.al z (List.mem_of_mem_take (hsh ▸ m))⟩
  -- the bad ones
  obtain ⟨C9, d0, d1, d2, v0, v1, v2, f9, g0, g1, g2, gv, gp, s9, e9⟩ := odd_key_ok s8 ky
  obtain ⟨KT, hKT⟩ : ∃ KT, KT = D.tup [.int i, .str a, .str b] := ⟨_, rfl⟩
  obtain ⟨BS, hBS⟩ : ∃ BS, BS = D.lst (bs.map D.int) := ⟨_, rfl⟩
  obtain ⟨SH, hSH⟩ : ∃ SH, SH = D.lst (sh.map D.int) := ⟨_, rfl⟩
  obtain ⟨K1, hK1⟩ : ∃ K1, K1 = D.tup [d0, d1, d2] := ⟨_, rfl⟩
  obtain ⟨cl1, hc1⟩ : ∃ cl, cl = clo K1 (.int at_) BS (.bl mo) (.bl kp) := ⟨_, rfl⟩
  obtain ⟨cl2, hc2⟩ : ∃ cl, cl = clo KT (.int at_) BS od (.bl kp) := ⟨_, rfl⟩
  have p1 : F__law_made [K1, .int at_, BS, .bl mo, .bl kp] C9 = .ok cl1 (C9.bump 1) := by rw [hc1]; rfl
  have p2 : F__law_made [KT, .int at_, BS, od, .bl kp] (C9.bump 1) = .ok cl2 ((C9.bump 1).bump 1) := by rw [hc2]; rfl
  obtain ⟨q, hq⟩ : ∃ q, q = ((C9.bump 1).bump 1).nx := ⟨_, rfl⟩
  obtain ⟨D1, hD1⟩ : ∃ D1, D1 = ((C9.bump 1).bump 1).new (.lst [cl1, cl2]) := ⟨_, rfl⟩
  have t1 : Stt D1 n := s9.keep (S := []) (hD1 ▸ ((Ext.refl.bump 1).bump 1).new) (by simp)
  have r1 : D1.get q = some (.lst [cl1, cl2]) := by rw [hD1, hq]; exact get_new
  have nq : n ≠ q := by have := s9.lt; rw [hq]; show n ≠ C9.nx + 1 + 1; omega
  -- the third
  obtain ⟨D2, oa, f10, ha, pa, t2, w2⟩ := odd_at_ok t1 (bs := bs) (by omega) (by omega)
  rw [← hBS] at f10
  obtain ⟨cl3, hc3⟩ : ∃ cl, cl = clo KT oa BS (.bl mo) (.bl kp) := ⟨_, rfl⟩
  have p3 : F__law_made [KT, oa, BS, .bl mo, .bl kp] D2 = .ok cl3 (D2.bump 1) := by rw [hc3]; rfl
  have r2 : (D2.bump 1).get q = some (.lst [cl1, cl2]) := w2.keep r1 (by simp; exact fun z => nq z.symm)
  obtain ⟨D3, u3, r3, w3, y3'⟩ := grow04 r2 (by simp) cl3
  have t3 : Stt D3 n := t2.keep (S := [q]) ((Ext.refl.bump 1).trans w3) (by simp; exact nq)
  -- the fourth
  obtain ⟨D4, ob, f11, hb, pb, t4, w4⟩ := odd_body_ok t3 bd (by omega)
  rw [← hBS] at f11
  obtain ⟨cl4, hc4⟩ : ∃ cl, cl = clo KT (.int at_) ob (.bl mo) (.bl kp) := ⟨_, rfl⟩
  have p4 : F__law_made [KT, .int at_, ob, .bl mo, .bl kp] D4 = .ok cl4 (D4.bump 1) := by rw [hc4]; rfl
  have r4 : (D4.bump 1).get q = some (.lst ([cl1, cl2] ++ [cl3])) := w4.keep r3 (by simp; exact fun z => nq z.symm)
  obtain ⟨D5, u5, r5, w5, y5'⟩ := grow04 r4 (by simp) cl4
  have t5 : Stt D5 n := t4.keep (S := [q]) ((Ext.refl.bump 1).trans w5) (by simp; exact nq)
  -- the fifth, sixth, seventh
  obtain ⟨cl5, hc5⟩ : ∃ cl, cl = clo KT (.int at_) BS (.bl mo) od := ⟨_, rfl⟩
  have p5 : F__law_made [KT, .int at_, BS, .bl mo, od] D5 = .ok cl5 (D5.bump 1) := by rw [hc5]; rfl
  obtain ⟨D6, u6, r6, w6, y6'⟩ := grow04 (Cx := D5.bump 1) (q := q) (l := [cl1, cl2] ++ [cl3] ++ [cl4]) r5 (by simp) cl5
  have t6 : Stt D6 n := t5.keep (S := [q]) ((Ext.refl.bump 1).trans w6) (by simp; exact nq)
  obtain ⟨cl6, hc6⟩ : ∃ cl, cl = clo KT (.int at_) SH (.bl true) (.bl kp) := ⟨_, rfl⟩
  have p6 : F__law_made [KT, .int at_, SH, .bl true, .bl kp] D6 = .ok cl6 (D6.bump 1) := by rw [hc6]; rfl
  obtain ⟨D7, u7, r7, w7, y7'⟩ := grow04 (Cx := D6.bump 1) (q := q) (l := [cl1, cl2] ++ [cl3] ++ [cl4] ++ [cl5]) r6 (by simp) cl6
  have t7 : Stt D7 n := t6.keep (S := [q]) ((Ext.refl.bump 1).trans w7) (by simp; exact nq)
  have sb4 : ∀ C, dSub (.int 4000) (.int (bs.length : Int)) C = .ok (.int (4000 - bs.length)) C := fun _ => rfl
  have sb39 : ∀ C, dSub (.int 3992) (.int (bs.length : Int)) C = .ok (.int (3992 - bs.length)) C := fun _ => rfl
  obtain ⟨cl7, hc7⟩ : ∃ cl, cl = clo KT (.int (4000 - bs.length)) BS (.bl true) (.bl kp) := ⟨_, rfl⟩
  have p7 : F__law_made [KT, .int (4000 - (bs.length : Int)), BS, .bl true, .bl kp] D7 = .ok cl7 (D7.bump 1) := by rw [hc7]; rfl
  obtain ⟨D8, u8, r8, w8, y8'⟩ := grow04 (Cx := D7.bump 1) (q := q) (l := [cl1, cl2] ++ [cl3] ++ [cl4] ++ [cl5] ++ [cl6]) r7 (by simp) cl7
  have t8 : Stt D8 n := t7.keep (S := [q]) ((Ext.refl.bump 1).trans w8) (by simp; exact nq)
  -- the last
  obtain ⟨D9, k0, k1, k2, z0, z1, z2, f12, j0, j1, j2, jv, jp, t9, w9⟩ := odd_key_ok t8 ky
  obtain ⟨E1, oa2, f13, _, pa2, t10, w10⟩ := odd_at_ok t9 (bs := bs) (by omega) (by omega)
  rw [← hBS] at f13
  obtain ⟨K2, hK2⟩ : ∃ K2, K2 = D.tup [k0, k1, k2] := ⟨_, rfl⟩
  obtain ⟨cl8, hc8⟩ : ∃ cl, cl = clo K2 oa2 .non od od := ⟨_, rfl⟩
  have p8 : F__law_made [K2, oa2, .non, od, od] E1 = .ok cl8 (E1.bump 1) := by rw [hc8]; rfl
  have r9 : (E1.bump 1).get q = some (.lst ([cl1, cl2] ++ [cl3] ++ [cl4] ++ [cl5] ++ [cl6] ++ [cl7])) := (w9.trans w10).keep r8 (by simp; exact fun z => nq z.symm)
  obtain ⟨E2, u9, r10, w11, y9'⟩ := grow04 r9 (by simp) cl8
  obtain ⟨E3, hE3⟩ : ∃ E3, E3 = E2.del q := ⟨_, rfl⟩
  obtain ⟨LL, hLL⟩ : ∃ LL, LL = [cl1, cl2, cl3, cl4, cl5, cl6, cl7, cl8] := ⟨_, rfl⟩
  have hL : [cl1, cl2] ++ [cl3] ++ [cl4] ++ [cl5] ++ [cl6] ++ [cl7] ++ [cl8] = LL := hLL ▸ rfl
  rw [hL] at r10
  -- each is refused
  have gk0 := num_ok ky.n
  have gk1 := nam_ok ky.a
  have gk2 := nam_ok ky.b
  have pk : plainD 30 (.tup [.int i, .str a, .str b]) = true := rfl
  have pb0 := plain_ints bs
  have bg := bodg_ok bd
  have al : ∀ d ∈ LL, ∀ C, ∃ C', F__law_refusal [d] C = .ok (.str "piece") C' := by
    intro d md A
    rw [hLL] at md
    simp only [List.mem_cons, List.not_mem_nil, or_false] at md
    rcases md with rfl | rfl | rfl | rfl | rfl | rfl | rfl | rfl
    · obtain ⟨A1, f, _⟩ := clo_bad (a := .int at_) (b := .lst (bs.map D.int)) (m := .bl mo) (e := .bl kp) gp rfl pb0 rfl rfl (fun C => piece_key g0 g1 g2 gv C) A
      exact ⟨A1, by rw [hc1, hK1, hBS]; exact f⟩
    · obtain ⟨A1, f, _⟩ := clo_bad (a := .int at_) (b := .lst (bs.map D.int)) (m := od) (e := .bl kp) pk rfl pb0 po rfl (fun C => piece_place gk0 gk1 gk2 bg (kep_ok kp) (plc_more (by omega) (by omega) ko) C) A
      exact ⟨A1, by rw [hc2, hKT, hBS]; exact f⟩
    · obtain ⟨A1, f, _⟩ := clo_bad (a := oa) (b := .lst (bs.map D.int)) (m := .bl mo) (e := .bl kp) pk pa pb0 rfl rfl (fun C => piece_place gk0 gk1 gk2 bg (kep_ok kp) (ha mo) C) A
      exact ⟨A1, by rw [hc3, hKT, hBS]; exact f⟩
    · obtain ⟨A1, f, _⟩ := clo_bad (a := .int at_) (b := ob) (m := .bl mo) (e := .bl kp) pk rfl pb rfl rfl (fun C => piece_body gk0 gk1 gk2 hb C) A
      exact ⟨A1, by rw [hc4, hKT]; exact f⟩
    · obtain ⟨A1, f, _⟩ := clo_bad (a := .int at_) (b := .lst (bs.map D.int)) (m := .bl mo) (e := od) pk rfl pb0 rfl po (fun C => piece_keep gk0 gk1 gk2 bg ko C) A
      exact ⟨A1, by rw [hc5, hKT, hBS]; exact f⟩
    · obtain ⟨A1, f, _⟩ := clo_bad (a := .int at_) (b := .lst (sh.map D.int)) (m := .bl true) (e := .bl kp) pk rfl (plain_ints sh) rfl rfl (fun C => piece_place gk0 gk1 gk2 (bodg_ok bsh) (kep_ok kp) (plc_true (by omega) (by omega) (.inl (by omega))) C) A
      exact ⟨A1, by rw [hc6, hKT, hSH]; exact f⟩
    · obtain ⟨A1, f, _⟩ := clo_bad (a := .int (4000 - bs.length)) (b := .lst (bs.map D.int)) (m := .bl true) (e := .bl kp) pk rfl pb0 rfl rfl (fun C => piece_place gk0 gk1 gk2 bg (kep_ok kp) (plc_true (by omega) (by omega) (.inr (by omega))) C) A
      exact ⟨A1, by rw [hc7, hKT, hBS]; exact f⟩
    · obtain ⟨A1, f, _⟩ := clo_bad (a := oa2) (b := .non) (m := od) (e := od) jp pa2 rfl po po (fun C => piece_key j0 j1 j2 jv C) A
      exact ⟨A1, by rw [hc8, hK2]; exact f⟩
  have plS : Pl at_ sh.length false := ⟨by omega, by omega, by simp; omega⟩
  have plB : Pl at_ bs.length mo := ⟨by omega, by omega, by cases mo <;> simp <;> omega⟩
  have pl4 : Pl (4000 - (bs.length : Int)) bs.length false := ⟨by omega, by omega, by simp⟩
  have pl39 : Pl (3992 - (bs.length : Int)) bs.length true := ⟨by omega, by omega, by simp; omega⟩
  obtain ⟨sl, hsl⟩ : ∃ sl : Sl, sl = [x0, some (.int c), some (.cel n), some KT, some BS, some (.int at_), some (.bl mo), some (.bl kp), some od, some SH, some (.lst LL), none] := ⟨_, rfl⟩
  obtain ⟨E4, hbads⟩ := bads_ok al (by rw [hLL]; simp) E3 (x0 := x0) (x1 := some (.int c)) (x2 := some (.cel n)) (x3 := some KT) (x4 := some BS) (x5 := some (.int at_)) (x6 := some (.bl mo)) (x7 := some (.bl kp)) (x8 := some od) (x9 := some SH)
  rw [← hsl] at hbads
  have bS : ∀ C, bLen [SH] C = .ok (.int (sh.length : Nat)) C := fun C => by rw [hSH]; simp [bLen]
  have bB : ∀ C, bLen [BS] C = .ok (.int (bs.length : Nat)) C := fun C => by rw [hBS]; simp [bLen]
  have v3 : ∀ C, eVar 3 sl C = .ok KT C := fun C => by rw [hsl]; rfl
  have v4 : ∀ C, eVar 4 sl C = .ok BS C := fun C => by rw [hsl]; rfl
  have v5 : ∀ C, eVar 5 sl C = .ok (.int at_) C := fun C => by rw [hsl]; rfl
  have v6 : ∀ C, eVar 6 sl C = .ok (.bl mo) C := fun C => by rw [hsl]; rfl
  have v7 : ∀ C, eVar 7 sl C = .ok (.bl kp) C := fun C => by rw [hsl]; rfl
  have v9 : ∀ C, eVar 9 sl C = .ok SH C := fun C => by rw [hsl]; rfl
  obtain ⟨E5, g5⟩ := ends_ok ky bsh plS (k := kp) (fk := eVar 3) (fa := eVar 5) (fb := eVar 9) (fm := eC (.bl false)) (fe := eVar 7) (s := sl) (C := E4) (C5 := E4) (by simp [-eVar_ap, v3, v5, v9, v7, hKT, hSH])
  obtain ⟨E6, g6⟩ := ends_ok ky bd plB (k := kp) (fk := eVar 3) (fa := eVar 5) (fb := eVar 4) (fm := eVar 6) (fe := eVar 7) (s := sl) (C := E5) (C5 := E5) (by simp [-eVar_ap, v3, v5, v4, v6, v7, hKT, hBS])
  have s4 : ∀ C, DL.e2 dSub (eC (.int 4000)) (eA bLen (aCons (eVar 4) (aNil))) sl C = .ok (.int (4000 - bs.length)) C := fun C => by simp [-eVar_ap, v4, bB, sb4, -dSub_i]
  have s39 : ∀ C, DL.e2 dSub (eC (.int 3992)) (eA bLen (aCons (eVar 4) (aNil))) sl C = .ok (.int (3992 - bs.length)) C := fun C => by simp [-eVar_ap, v4, bB, sb39, -dSub_i]
  obtain ⟨E7, g7⟩ := ends_ok ky bd pl4 (k := kp) (fk := eVar 3) (fa := DL.e2 dSub (eC (.int 4000)) (eA bLen (aCons (eVar 4) (aNil)))) (fb := eVar 4) (fm := eC (.bl false)) (fe := eVar 7) (s := sl) (C := E6) (C5 := E6) (by
    have s4 := s4 E6
    generalize DL.e2 dSub (eC (.int 4000)) (eA bLen (aCons (eVar 4) (aNil))) = XX at *
    simp [-eVar_ap, v3, v4, v7, s4, hKT, hBS])
  obtain ⟨E8, g8⟩ := ends_ok ky bd pl39 (k := kp) (fk := eVar 3) (fa := DL.e2 dSub (eC (.int 3992)) (eA bLen (aCons (eVar 4) (aNil)))) (fb := eVar 4) (fm := eC (.bl true)) (fe := eVar 7) (s := sl) (C := E7) (C5 := E7) (by
    have s39 := s39 E7
    generalize DL.e2 dSub (eC (.int 3992)) (eA bLen (aCons (eVar 4) (aNil))) = XX at *
    simp [-eVar_ap, v3, v4, v7, s39, hKT, hBS])
  rw [show (4000 - (bs.length : Int)) + bs.length = 4000 by omega] at g7
  rw [show (3992 - (bs.length : Int)) + bs.length = 3992 by omega] at g8
  refine ⟨E8, some (.cel n), some KT, some BS, some (.int at_), some (.bl mo), some (.bl kp), some od, some SH, some (.lst LL), ?_⟩
  rw [← hBS] at bl cu f3
  rw [← hSH] at cu
  rw [← hKT] at f1 f9 f12
  rw [← hK1] at f9
  rw [← hK2] at f12
  have nf : ∀ (C : Cells) (x : Int), dNeV (.int x) (.int x) C = .ok (.bl false) C := fun C x => neV_pl rfl
  clear al hLL hL bd bsh plS plB pl4 pl39 ky gk0 gk1 gk2 bg pb0 pk hc1 hc2 hc3 hc4 hc5 hc6 hc7 hc8 ha hb ko
  unfold B_law_3
  rw [sq, show sSet 2 (eLstC (aCons (eVar 1) (aNil))) [x0, some (.int c), x2, x3, x4, x5, x6, x7, x8, x9, x10, none] C = .nxt [x0, some (.int c), some (.cel n), x3, x4, x5, x6, x7, x8, x9, x10, none] Ca by rw [← hn, ← hCa]; rfl, sn]
  rw [sq, show sSet 3 (eCall F__law_key [] (aCons (eVar 2) (aNil))) [x0, some (.int c), some (.cel n), x3, x4, x5, x6, x7, x8, x9, x10, none] Ca = .nxt [x0, some (.int c), some (.cel n), some KT, x4, x5, x6, x7, x8, x9, x10, none] C1 by simp [f1], sn]
  rw [sq, show sSet 4 (eCall F__law_body [] (aCons (eVar 2) (aCons (DL.e2 dMul (eC (.int 8)) (DL.e2 dAdd (eC (.int 1)) (eCall F__law_digit [] (aCons (eVar 2) (aCons (eC (.int 6)) (aNil)))))) (aNil)))) [x0, some (.int c), some (.cel n), some KT, x4, x5, x6, x7, x8, x9, x10, none] C1 = .nxt [x0, some (.int c), some (.cel n), some KT, some BS, x5, x6, x7, x8, x9, x10, none] C3 by simp [f2, a1, -dAdd_i, m8, f3], sn]
  rw [sq, show sSet 5 (DL.e2 dMul (eC (.int 8)) (eCall F__law_digit [] (aCons (eVar 2) (aCons (eC (.int 40)) (aNil))))) [x0, some (.int c), some (.cel n), some KT, some BS, x5, x6, x7, x8, x9, x10, none] C3 = .nxt [x0, some (.int c), some (.cel n), some KT, some BS, some (.int at_), x6, x7, x8, x9, x10, none] C4 by simp [f4, m4], sn]
  rw [sq, show sSet 6 (DL.e2 dEqV (eCall F__law_digit [] (aCons (eVar 2) (aCons (eC (.int 2)) (aNil)))) (eC (.int 1))) [x0, some (.int c), some (.cel n), some KT, some BS, some (.int at_), x6, x7, x8, x9, x10, none] C4 = .nxt [x0, some (.int c), some (.cel n), some KT, some BS, some (.int at_), some (.bl mo), x7, x8, x9, x10, none] C5 by simp [f5, q5, -eqV_i], sn]
  rw [sq, show sSet 7 (DL.e2 dEqV (eCall F__law_digit [] (aCons (eVar 2) (aCons (eC (.int 2)) (aNil)))) (eC (.int 1))) [x0, some (.int c), some (.cel n), some KT, some BS, some (.int at_), some (.bl mo), x7, x8, x9, x10, none] C5 = .nxt [x0, some (.int c), some (.cel n), some KT, some BS, some (.int at_), some (.bl mo), some (.bl kp), x8, x9, x10, none] C6 by simp [f6, q6, -eqV_i], sn]
  rw [sq, show sSet 8 (DL.e2 dIx (eLst (aCons (eC (.int 0)) (aCons (eC (.int 1)) (aCons (eC .non) (aCons (eC (.str "")) (aCons (eC (.str "True")) (aCons (eLst (aNil)) (aNil)))))))) (eCall F__law_digit [] (aCons (eVar 2) (aCons (eC (.int 6)) (aNil))))) [x0, some (.int c), some (.cel n), some KT, some BS, some (.int at_), some (.bl mo), some (.bl kp), x8, x9, x10, none] C6 = .nxt [x0, some (.int c), some (.cel n), some KT, some BS, some (.int at_), some (.bl mo), some (.bl kp), some od, x9, x10, none] C7 by
    generalize ("" : Str) = Z1 at *
    generalize ("True" : Str) = Z2 at *
    simp [f7, hod], sn]
  rw [sq, show sSet 9 (eSlG dSl (eVar 4) (oNone) (oSome (DL.e2 dSub (DL.e2 dSub (eA bLen (aCons (eVar 4) (aNil))) (eC (.int 1))) (eCall F__law_digit [] (aCons (eVar 2) (aCons (eC (.int 7)) (aNil))))))) [x0, some (.int c), some (.cel n), some KT, some BS, some (.int at_), some (.bl mo), some (.bl kp), some od, x9, x10, none] C7 = .nxt [x0, some (.int c), some (.cel n), some KT, some BS, some (.int at_), some (.bl mo), some (.bl kp), some od, some SH, x10, none] C8 by simp [bl, sb1, f8, sb2, -dSub_i, cu], sn]
  rw [sq, show sSet 10 (eLstC (aCons (eCall F__law_made [] (aCons (eCall F__law_odd_key [] (aCons (eVar 2) (aCons (eVar 3) (aNil)))) (aCons (eVar 5) (aCons (eVar 4) (aCons (eVar 6) (aCons (eVar 7) (aNil))))))) (aCons (eCall F__law_made [] (aCons (eVar 3) (aCons (eVar 5) (aCons (eVar 4) (aCons (eVar 8) (aCons (eVar 7) (aNil))))))) (aNil)))) [x0, some (.int c), some (.cel n), some KT, some BS, some (.int at_), some (.bl mo), some (.bl kp), some od, some SH, x10, none] C8 = .nxt [x0, some (.int c), some (.cel n), some KT, some BS, some (.int at_), some (.bl mo), some (.bl kp), some od, some SH, some (.cel q), none] D1 by
    rw [hD1, hq]
    simp [f9, p1, p2], sn]
  rw [sq, show sDrop (eBm tyL mAppend (eVar 10) (aCons (eCall F__law_made [] (aCons (eVar 3) (aCons (eCall F__law_odd_at [] (aCons (eVar 2) (aCons (eVar 4) (aNil)))) (aCons (eVar 4) (aCons (eVar 6) (aCons (eVar 7) (aNil))))))) (aNil))) [x0, some (.int c), some (.cel n), some KT, some BS, some (.int at_), some (.bl mo), some (.bl kp), some od, some SH, some (.cel q), none] D1 = .nxt [x0, some (.int c), some (.cel n), some KT, some BS, some (.int at_), some (.bl mo), some (.bl kp), some od, some SH, some (.cel q), none] D3 by simp [tyL_cel r1, f10, p3, y3', u3], sn]
  rw [sq, show sDrop (eBm tyL mAppend (eVar 10) (aCons (eCall F__law_made [] (aCons (eVar 3) (aCons (eVar 5) (aCons (eCall F__law_odd_body [] (aCons (eVar 2) (aCons (eVar 4) (aNil)))) (aCons (eVar 6) (aCons (eVar 7) (aNil))))))) (aNil))) [x0, some (.int c), some (.cel n), some KT, some BS, some (.int at_), some (.bl mo), some (.bl kp), some od, some SH, some (.cel q), none] D3 = .nxt [x0, some (.int c), some (.cel n), some KT, some BS, some (.int at_), some (.bl mo), some (.bl kp), some od, some SH, some (.cel q), none] D5 by simp [tyL_cel r3, f11, p4, y5', u5], sn]
  rw [sq, show sDrop (eBm tyL mAppend (eVar 10) (aCons (eCall F__law_made [] (aCons (eVar 3) (aCons (eVar 5) (aCons (eVar 4) (aCons (eVar 6) (aCons (eVar 8) (aNil))))))) (aNil))) [x0, some (.int c), some (.cel n), some KT, some BS, some (.int at_), some (.bl mo), some (.bl kp), some od, some SH, some (.cel q), none] D5 = .nxt [x0, some (.int c), some (.cel n), some KT, some BS, some (.int at_), some (.bl mo), some (.bl kp), some od, some SH, some (.cel q), none] D6 by simp [tyL_cel r5, p5, y6', u6], sn]
  rw [sq, show sDrop (eBm tyL mAppend (eVar 10) (aCons (eCall F__law_made [] (aCons (eVar 3) (aCons (eVar 5) (aCons (eVar 9) (aCons (eC (.bl true)) (aCons (eVar 7) (aNil))))))) (aNil))) [x0, some (.int c), some (.cel n), some KT, some BS, some (.int at_), some (.bl mo), some (.bl kp), some od, some SH, some (.cel q), none] D6 = .nxt [x0, some (.int c), some (.cel n), some KT, some BS, some (.int at_), some (.bl mo), some (.bl kp), some od, some SH, some (.cel q), none] D7 by simp [tyL_cel r6, p6, y7', u7], sn]
  rw [sq, show sDrop (eBm tyL mAppend (eVar 10) (aCons (eCall F__law_made [] (aCons (eVar 3) (aCons (DL.e2 dSub (eC (.int 4000)) (eA bLen (aCons (eVar 4) (aNil)))) (aCons (eVar 4) (aCons (eC (.bl true)) (aCons (eVar 7) (aNil))))))) (aNil))) [x0, some (.int c), some (.cel n), some KT, some BS, some (.int at_), some (.bl mo), some (.bl kp), some od, some SH, some (.cel q), none] D7 = .nxt [x0, some (.int c), some (.cel n), some KT, some BS, some (.int at_), some (.bl mo), some (.bl kp), some od, some SH, some (.cel q), none] D8 by simp [tyL_cel r7, bB, sb4, -dSub_i, p7, y8', u8], sn]
  rw [sq, show sFrz 10 (sDrop (eBm tyL mAppend (eVar 10) (aCons (eCall F__law_made [] (aCons (eCall F__law_odd_key [] (aCons (eVar 2) (aCons (eVar 3) (aNil)))) (aCons (eCall F__law_odd_at [] (aCons (eVar 2) (aCons (eVar 4) (aNil)))) (aCons (eC .non) (aCons (eVar 8) (aCons (eVar 8) (aNil))))))) (aNil)))) [x0, some (.int c), some (.cel n), some KT, some BS, some (.int at_), some (.bl mo), some (.bl kp), some od, some SH, some (.cel q), none] D8 = .nxt sl E3 by
    have st : sDrop (eBm tyL mAppend (eVar 10) (aCons (eCall F__law_made [] (aCons (eCall F__law_odd_key [] (aCons (eVar 2) (aCons (eVar 3) (aNil)))) (aCons (eCall F__law_odd_at [] (aCons (eVar 2) (aCons (eVar 4) (aNil)))) (aCons (eC .non) (aCons (eVar 8) (aCons (eVar 8) (aNil))))))) (aNil))) [x0, some (.int c), some (.cel n), some KT, some BS, some (.int at_), some (.bl mo), some (.bl kp), some od, some SH, some (.cel q), none] D8 = .nxt [x0, some (.int c), some (.cel n), some KT, some BS, some (.int at_), some (.bl mo), some (.bl kp), some od, some SH, some (.cel q), none] E2 := by simp [tyL_cel r8, f12, f13, p8, y9', u9]
    unfold sFrz
    rw [st]
    simp [r10, hE3, hsl], sn]
  have en : ∀ C, eLst (aNil) sl C = .ok (.lst []) C := fun _ => rfl
  have ne0 : dNeV (.lst []) (.lst []) E4 = .ok (.bl false) E4 := neV_pl rfl
  rw [sq, show sIf (asB (DL.e2 dNeV (eLc (iLst (eVar 10)) (gfName 11) (I_law_1) (Y_law_2) [11]) (eLst (aNil)))) (sRet (eC (.bl false))) (sNil) sl E3 = .nxt sl E4 by
    rw [sIf_ap, asB_ap, e2_ap, hbads, bind_ok, en, bind_ok, ne0]; rfl, sn]
  have ad5 : ∀ C, DL.e2 dAdd (eVar 5) (eA bLen (aCons (eVar 9) (aNil))) sl C = .ok (.int (at_ + sh.length)) C := fun C => by
    have : dAdd (.int at_) (.int (sh.length : Nat)) C = .ok (.int (at_ + sh.length)) C := rfl
    simp [-eVar_ap, v5, v9, bS, this, -dAdd_i]
  have ad6 : ∀ C, DL.e2 dAdd (eVar 5) (eA bLen (aCons (eVar 4) (aNil))) sl C = .ok (.int (at_ + bs.length)) C := fun C => by
    have : dAdd (.int at_) (.int (bs.length : Nat)) C = .ok (.int (at_ + bs.length)) C := rfl
    simp [-eVar_ap, v5, v4, bB, this, -dAdd_i]
  have fin : ∀ {f g : EF} {A B : Cells} {x : Int}, f sl A = .ok (.int x) B → g sl B = .ok (.int x) B → sIf (asB (DL.e2 dNeV f g)) (sRet (eC (.bl false))) (sNil) sl A = .nxt sl B := fun {f g A B x} h1 h2 => by
    rw [sIf_ap, asB_ap, e2_ap, h1, bind_ok, h2, bind_ok, nf]; rfl
  rw [sq, fin g5 (ad5 E5), sn]
  rw [sq, fin g6 (ad6 E6), sn]
  rw [sq, fin g7 (eC_ap ..), sn]
  rw [fin g8 (eC_ap ..), hsl]
theorem law_true : ∀ ns : List Int, ns.length ≤ 63 → ∃ C', F_law [.scr (ns.map D.int)] C0 = .ok (.bl true) C' := by
  intro ns hn
  obtain ⟨hs, hcs, hl⟩ : ∃ hs : List Int, DL.cutD (ns.map D.int) none (some 12) = hs.map D.int ∧ hs.length ≤ ns.length := by
    unfold DL.cutD
    rw [← List.map_drop, ← List.map_take]
    exact ⟨_, rfl, by simp; omega⟩
  have sl : dSl (.scr (ns.map D.int)) none (some 12) C0 = .ok (.lst (hs.map D.int)) C0 := by
    simp only [dSl, lstOf_scr]
    rw [hcs]
  have loop := forF_inv (tg := gfName 1) (b := B_law_3)
    (P := fun ds s C1 => ∃ (cs : List Int) (x1 x2 x3 x4 x5 x6 x7 x8 x9 x10 : Option D), ds = cs.map D.int ∧ s = [some (.scr (ns.map D.int)), x1, x2, x3, x4, x5, x6, x7, x8, x9, x10, none])
    (hs := by
      rintro d r s C1 ⟨cs, x1, x2, x3, x4, x5, x6, x7, x8, x9, x10, e1, rfl⟩
      cases cs with
      | nil => cases e1
      | cons c cs =>
        cases e1
        obtain ⟨C', y2, y3, y4, y5, y6, y7, y8, y9, y10, f⟩ := turn04 c (C := C1) (x0 := some (.scr (ns.map D.int))) (x2 := x2) (x3 := x3) (x4 := x4) (x5 := x5) (x6 := x6) (x7 := x7) (x8 := x8) (x9 := x9) (x10 := x10)
        exact ⟨_, rfl, _, C', .inl f, cs, _, y2, y3, y4, y5, y6, y7, y8, y9, y10, rfl, rfl⟩)
    ((0 :: hs).map D.int) [some (.scr (ns.map D.int)), none, none, none, none, none, none, none, none, none, none, none] C0
    ⟨0 :: hs, none, none, none, none, none, none, none, none, none, none, rfl, rfl⟩
  obtain ⟨s', C', f, _⟩ := loop
  refine ⟨C', ?_⟩
  have ad : dAdd (.lst [.int 0]) (.lst (hs.map D.int)) C0 = .ok (.lst ((0 :: hs).map D.int)) C0 := addL _ _ (by rw [List.length_map]; simp; omega) C0
  simp only [List.map_cons] at ad f
  simp [F_law, sl, ad, f]
end
end K04

set_option Elab.async false
set_option linter.all false
set_option maxRecDepth 100000
set_option maxHeartbeats 4000000
namespace K04
open PySem L2 DL
theorem all_mk {l : PySem.W.OpenLaw} {w : World} {K : PySem.W.Frag} {h : Heap} {mg : Str → Option Value} {fa : Addr} {C_Keyed C_Piece C_WayError C_NoLetter C_NoPiece C_NoWidth C_TooWide C_NoRule C_NoTime C_NoKey C_NoText C_NoRow C_NoRoom C_NoRoad cc9 PP9 f1 f2 f3 f4 f5 f6 f7 f8 t8 f9 f10 f11 f12 f13 f14 f15 f16 f17 f18 f19 : Addr} {cod9 od1 an1 od2 an2 od3 an3 od4 an4 od5 an5 od6 an6 od7 an7 od8 an8 tod8 od9 an9 od10 an10 od11 an11 od12 an12 od13 an13 od14 an14 od15 an15 od16 an16 od17 an17 od18 an18 od19 an19 : Option Addr} {cosl9 sl1 sl2 sl3 sl4 sl5 sl6 sl7 sl8 tsl8 sl9 sl10 sl11 sl12 sl13 sl14 sl15 sl16 sl17 sl18 sl19 : Array (Option Value)} {coc9 oc1 kV1 dc1 pm1 cd1 ct1 oc2 kV2 dc2 pm2 cd2 ct2 oc3 kV3 dc3 pm3 cd3 ct3 oc4 kV4 dc4 pm4 cd4 ct4 oc5 kV5 dc5 pm5 cd5 ct5 oc6 kV6 dc6 pm6 cd6 ct6 oc7 kV7 dc7 pm7 cd7 ct7 oc8 kV8 dc8 pm8 cd8 ct8 toc8 oc9 kV9 dc9 pm9 ct9 oc10 kV10 dc10 pm10 cd10 ct10 oc11 kV11 dc11 pm11 cd11 ct11 oc12 kV12 dc12 pm12 cd12 ct12 oc13 kV13 dc13 pm13 cd13 ct13 oc14 kV14 dc14 pm14 cd14 ct14 oc15 kV15 dc15 pm15 cd15 ct15 oc16 kV16 dc16 pm16 cd16 ct16 oc17 kV17 dc17 pm17 cd17 ct17 oc18 kV18 dc18 pm18 cd18 ct18 oc19 kV19 dc19 pm19 cd19 ct19 : Value} {cvs9 : Array Value} {tn8 : Nat} {tk_LETTERS tk_MOST_BYTES : Tok} (X : K.In h) (G : h.Ns mainGlobals mg) (hfa : mg "law" = some (.ref fa))
    (x_Keyed : PySem.W.nsIn K mainGlobals "Keyed" = some (some (.ref C_Keyed)))
    (pg_Keyed : PySem.W.plainGet K C_Keyed Str.empty = true)
    (hd_Keyed : PySem.W.hasDictIn K C_Keyed = true)
    (po_Keyed : PySem.W.plainOver K C_Keyed = true)
    (sa_Keyed : PySem.W.findIn K (.ref C_Keyed) "__setattr__" = some (some (.builtin "object.__setattr__")))
    (ha_Keyed : PySem.W.findIn K (.ref C_Keyed) "__class__" = some (some (.builtin "object.__class__")))
    (hm_Keyed : PySem.W.mroIn K C_Keyed (.type "object") = some true)
    (n_Keyed_number : PySem.W.findIn K (.ref C_Keyed) "number" = some none)
    (n_Keyed_sender : PySem.W.findIn K (.ref C_Keyed) "sender" = some none)
    (n_Keyed_goal : PySem.W.findIn K (.ref C_Keyed) "goal" = some none)
    (n_Keyed_body : PySem.W.findIn K (.ref C_Keyed) "body" = some none)
    (n_Keyed_keep : PySem.W.findIn K (.ref C_Keyed) "keep" = some none)
    (x_Piece : PySem.W.nsIn K mainGlobals "Piece" = some (some (.ref C_Piece)))
    (pg_Piece : PySem.W.plainGet K C_Piece Str.empty = true)
    (hd_Piece : PySem.W.hasDictIn K C_Piece = true)
    (po_Piece : PySem.W.plainOver K C_Piece = true)
    (sa_Piece : PySem.W.findIn K (.ref C_Piece) "__setattr__" = some (some (.builtin "object.__setattr__")))
    (ha_Piece : PySem.W.findIn K (.ref C_Piece) "__class__" = some (some (.builtin "object.__class__")))
    (hm_Piece : PySem.W.mroIn K C_Piece (.type "object") = some true)
    (n_Piece_number : PySem.W.findIn K (.ref C_Piece) "number" = some none)
    (n_Piece_sender : PySem.W.findIn K (.ref C_Piece) "sender" = some none)
    (n_Piece_goal : PySem.W.findIn K (.ref C_Piece) "goal" = some none)
    (n_Piece_body : PySem.W.findIn K (.ref C_Piece) "body" = some none)
    (n_Piece_keep : PySem.W.findIn K (.ref C_Piece) "keep" = some none)
    (n_Piece_at : PySem.W.findIn K (.ref C_Piece) "at" = some none)
    (n_Piece_more : PySem.W.findIn K (.ref C_Piece) "more" = some none)
    (hn : PySem.W.specialIn K (.builtin "object.__class__") "__get__" = some (some (.builtin "getset_descriptor.__get__")))
    (ht : PySem.W.takesIn K (.builtin "object.__class__") = some true)
    (x_WayError : PySem.W.nsIn K mainGlobals "WayError" = some (some (.ref C_WayError)))
    (xb_WayError : PySem.W.subIn K (.ref C_WayError) (.type "BaseException") = some true)
    (xt_WayError : PySem.W.typeIn K (.ref C_WayError) = some (.type "type"))
    (xd_WayError : PySem.W.hasDictIn K C_WayError = true)
    (x_NoLetter : PySem.W.nsIn K mainGlobals "NoLetter" = some (some (.ref C_NoLetter)))
    (xb_NoLetter : PySem.W.subIn K (.ref C_NoLetter) (.type "BaseException") = some true)
    (xt_NoLetter : PySem.W.typeIn K (.ref C_NoLetter) = some (.type "type"))
    (x_NoPiece : PySem.W.nsIn K mainGlobals "NoPiece" = some (some (.ref C_NoPiece)))
    (xb_NoPiece : PySem.W.subIn K (.ref C_NoPiece) (.type "BaseException") = some true)
    (xt_NoPiece : PySem.W.typeIn K (.ref C_NoPiece) = some (.type "type"))
    (xe_NoPiece : PySem.W.excIn K C_NoPiece [.type "ValueError", .type "Exception", .type "BaseException", .type "object"] "ValueError.__new__" = true)
    (xk_NoPiece : PySem.W.keepIn K (.ref C_NoPiece) = true)
    (xg_NoPiece : PySem.W.findIn K (.ref C_NoPiece) "__getattribute__" = some (some (.builtin "BaseException.__getattribute__")))
    (xr_NoPiece : PySem.W.findIn K (.ref C_NoPiece) "__getattr__" = some none)
    (xa_NoPiece : PySem.W.findIn K (.ref C_NoPiece) "__class__" = some (some (.builtin "object.__class__")))
    (xm_NoPiece : PySem.W.mroIn K C_NoPiece (.type "object") = some true)
    (xd_NoPiece : PySem.W.hasDictIn K C_NoPiece = true)
    (x_NoWidth : PySem.W.nsIn K mainGlobals "NoWidth" = some (some (.ref C_NoWidth)))
    (xb_NoWidth : PySem.W.subIn K (.ref C_NoWidth) (.type "BaseException") = some true)
    (xt_NoWidth : PySem.W.typeIn K (.ref C_NoWidth) = some (.type "type"))
    (x_TooWide : PySem.W.nsIn K mainGlobals "TooWide" = some (some (.ref C_TooWide)))
    (xb_TooWide : PySem.W.subIn K (.ref C_TooWide) (.type "BaseException") = some true)
    (xt_TooWide : PySem.W.typeIn K (.ref C_TooWide) = some (.type "type"))
    (x_NoRule : PySem.W.nsIn K mainGlobals "NoRule" = some (some (.ref C_NoRule)))
    (xb_NoRule : PySem.W.subIn K (.ref C_NoRule) (.type "BaseException") = some true)
    (xt_NoRule : PySem.W.typeIn K (.ref C_NoRule) = some (.type "type"))
    (x_NoTime : PySem.W.nsIn K mainGlobals "NoTime" = some (some (.ref C_NoTime)))
    (xb_NoTime : PySem.W.subIn K (.ref C_NoTime) (.type "BaseException") = some true)
    (xt_NoTime : PySem.W.typeIn K (.ref C_NoTime) = some (.type "type"))
    (x_NoKey : PySem.W.nsIn K mainGlobals "NoKey" = some (some (.ref C_NoKey)))
    (xb_NoKey : PySem.W.subIn K (.ref C_NoKey) (.type "BaseException") = some true)
    (xt_NoKey : PySem.W.typeIn K (.ref C_NoKey) = some (.type "type"))
    (x_NoText : PySem.W.nsIn K mainGlobals "NoText" = some (some (.ref C_NoText)))
    (xb_NoText : PySem.W.subIn K (.ref C_NoText) (.type "BaseException") = some true)
    (xt_NoText : PySem.W.typeIn K (.ref C_NoText) = some (.type "type"))
    (x_NoRow : PySem.W.nsIn K mainGlobals "NoRow" = some (some (.ref C_NoRow)))
    (xb_NoRow : PySem.W.subIn K (.ref C_NoRow) (.type "BaseException") = some true)
    (xt_NoRow : PySem.W.typeIn K (.ref C_NoRow) = some (.type "type"))
    (x_NoRoom : PySem.W.nsIn K mainGlobals "NoRoom" = some (some (.ref C_NoRoom)))
    (xb_NoRoom : PySem.W.subIn K (.ref C_NoRoom) (.type "BaseException") = some true)
    (xt_NoRoom : PySem.W.typeIn K (.ref C_NoRoom) = some (.type "type"))
    (x_NoRoad : PySem.W.nsIn K mainGlobals "NoRoad" = some (some (.ref C_NoRoad)))
    (xb_NoRoad : PySem.W.subIn K (.ref C_NoRoad) (.type "BaseException") = some true)
    (xt_NoRoad : PySem.W.typeIn K (.ref C_NoRoad) = some (.type "type"))
    (ksb0 : PySem.W.subIn K (.ref C_NoPiece) (.ref C_WayError) = some true)
    (mk_Piece : PySem.W.makesIn K C_Piece = true)
    (in_Piece : PySem.W.findIn K (.ref C_Piece) "__init__" = some (some (.ref f8)))
    (if_Piece : PySem.W.isFn K (.ref f8) = true)
    (kc_Piece : PySem.W.keepIn K (.ref C_Piece) = true)
    (rd_Keyed : PySem.W.readsIn K C_Keyed (.type "type") = true)
    (fc_Keyed_init : PySem.W.findCls K (.ref C_Keyed) (.type "type") "__init__" = some (.val (.ref f7)))
    (ma_Piece_end : PySem.W.findIn K (.ref C_Piece) "end" = some (some (.ref f18)))
    (mf_Piece_end : PySem.W.isFn K (.ref f18) = true)
    (a1 : PySem.W.nsIn K mainGlobals "is_whole" = some (some (.ref f1)))
    (l1 : K.lookup f1 = some ⟨oc1, od1, .func (PySem.W.fnOf "is_whole" "is_whole" (defArgs s_is_whole) (defBody s_is_whole) (defScope s_is_whole) .none kV1 dc1 pm1 an1 cd1 ct1), sl1⟩)
    (c1 : PySem.W.codeIn K cd1 "is_whole" = true)
    (k1 : PySem.W.keepIn K (.ref f1) = true)
    (a2 : PySem.W.nsIn K mainGlobals "is_within" = some (some (.ref f2)))
    (l2 : K.lookup f2 = some ⟨oc2, od2, .func (PySem.W.fnOf "is_within" "is_within" (defArgs s_is_within) (defBody s_is_within) (defScope s_is_within) .none kV2 dc2 pm2 an2 cd2 ct2), sl2⟩)
    (c2 : PySem.W.codeIn K cd2 "is_within" = true)
    (k2 : PySem.W.keepIn K (.ref f2) = true)
    (a3 : PySem.W.nsIn K mainGlobals "is_name" = some (some (.ref f3)))
    (l3 : K.lookup f3 = some ⟨oc3, od3, .func (PySem.W.fnOf "is_name" "is_name" (defArgs s_is_name) (defBody s_is_name) (defScope s_is_name) .none kV3 dc3 pm3 an3 cd3 ct3), sl3⟩)
    (c3 : PySem.W.codeIn K cd3 "is_name" = true)
    (k3 : PySem.W.keepIn K (.ref f3) = true)
    (a4 : PySem.W.nsIn K mainGlobals "is_key" = some (some (.ref f4)))
    (l4 : K.lookup f4 = some ⟨oc4, od4, .func (PySem.W.fnOf "is_key" "is_key" (defArgs s_is_key) (defBody s_is_key) (defScope s_is_key) .none kV4 dc4 pm4 an4 cd4 ct4), sl4⟩)
    (c4 : PySem.W.codeIn K cd4 "is_key" = true)
    (k4 : PySem.W.keepIn K (.ref f4) = true)
    (a5 : PySem.W.nsIn K mainGlobals "is_body" = some (some (.ref f5)))
    (l5 : K.lookup f5 = some ⟨oc5, od5, .func (PySem.W.fnOf "is_body" "is_body" (defArgs s_is_body) (defBody s_is_body) (defScope s_is_body) .none kV5 dc5 pm5 an5 cd5 ct5), sl5⟩)
    (c5 : PySem.W.codeIn K cd5 "is_body" = true)
    (k5 : PySem.W.keepIn K (.ref f5) = true)
    (a6 : PySem.W.nsIn K mainGlobals "is_placed" = some (some (.ref f6)))
    (l6 : K.lookup f6 = some ⟨oc6, od6, .func (PySem.W.fnOf "is_placed" "is_placed" (defArgs s_is_placed) (defBody s_is_placed) (defScope s_is_placed) .none kV6 dc6 pm6 an6 cd6 ct6), sl6⟩)
    (c6 : PySem.W.codeIn K cd6 "is_placed" = true)
    (k6 : PySem.W.keepIn K (.ref f6) = true)
    (l7 : K.lookup f7 = some ⟨oc7, od7, .func (PySem.W.fnOf "__init__" "Keyed.__init__" (defArgs s_Keyed_init) (defBody s_Keyed_init) (defScope s_Keyed_init) .none kV7 dc7 pm7 an7 cd7 ct7), sl7⟩)
    (c7 : PySem.W.codeIn K cd7 "Keyed.__init__" = true)
    (k7 : PySem.W.keepIn K (.ref f7) = true)
    (l8 : K.lookup f8 = some ⟨oc8, od8, .func (PySem.W.fnOf "__init__" "Piece.__init__" (defArgs s_Piece_init) (defBody s_Piece_init) (defScope s_Piece_init) (.ref t8) kV8 dc8 pm8 an8 cd8 ct8), sl8⟩)
    (c8 : PySem.W.codeIn K cd8 "Piece.__init__" = true)
    (k8 : PySem.W.keepIn K (.ref f8) = true)
    (lt8 : K.lookup t8 = some ⟨toc8, tod8, .seq [.bool false].toArray tn8, tsl8⟩)
    (a9 : PySem.W.nsIn K mainGlobals "_law_made" = some (some (.ref f9)))
    (l9 : K.lookup f9 = some ⟨oc9, od9, .func (PySem.W.fnOf "_law_made" "_law_made" (defArgs s__law_made) (defBody s__law_made) (defScope s__law_made) .none kV9 dc9 pm9 an9 (.ref cc9) ct9), sl9⟩)
    (c9 : PySem.W.codeIn K (.ref cc9) "_law_made" = true)
    (lc9 : K.lookup cc9 = some ⟨coc9, cod9, .fields cvs9, cosl9⟩)
    (pp9 : (cvs9[11]? : Option Value) = some (.ref PP9))
    (hc9 : PySem.W.codeHdIn K cc9 PP9 = true)
    (np9 : K.lookup PP9 = none)
    (ht9 : h.get? PP9 = some (PySem.W.tabObj #[]))
    (k9 : PySem.W.keepIn K (.ref f9) = true)
    (a10 : PySem.W.nsIn K mainGlobals "_law_digit" = some (some (.ref f10)))
    (l10 : K.lookup f10 = some ⟨oc10, od10, .func (PySem.W.fnOf "_law_digit" "_law_digit" (defArgs s__law_digit) (defBody s__law_digit) (defScope s__law_digit) .none kV10 dc10 pm10 an10 cd10 ct10), sl10⟩)
    (c10 : PySem.W.codeIn K cd10 "_law_digit" = true)
    (k10 : PySem.W.keepIn K (.ref f10) = true)
    (a11 : PySem.W.nsIn K mainGlobals "_law_name" = some (some (.ref f11)))
    (l11 : K.lookup f11 = some ⟨oc11, od11, .func (PySem.W.fnOf "_law_name" "_law_name" (defArgs s__law_name) (defBody s__law_name) (defScope s__law_name) .none kV11 dc11 pm11 an11 cd11 ct11), sl11⟩)
    (c11 : PySem.W.codeIn K cd11 "_law_name" = true)
    (k11 : PySem.W.keepIn K (.ref f11) = true)
    (a12 : PySem.W.nsIn K mainGlobals "_law_key" = some (some (.ref f12)))
    (l12 : K.lookup f12 = some ⟨oc12, od12, .func (PySem.W.fnOf "_law_key" "_law_key" (defArgs s__law_key) (defBody s__law_key) (defScope s__law_key) .none kV12 dc12 pm12 an12 cd12 ct12), sl12⟩)
    (c12 : PySem.W.codeIn K cd12 "_law_key" = true)
    (k12 : PySem.W.keepIn K (.ref f12) = true)
    (a13 : PySem.W.nsIn K mainGlobals "_law_body" = some (some (.ref f13)))
    (l13 : K.lookup f13 = some ⟨oc13, od13, .func (PySem.W.fnOf "_law_body" "_law_body" (defArgs s__law_body) (defBody s__law_body) (defScope s__law_body) .none kV13 dc13 pm13 an13 cd13 ct13), sl13⟩)
    (c13 : PySem.W.codeIn K cd13 "_law_body" = true)
    (k13 : PySem.W.keepIn K (.ref f13) = true)
    (a14 : PySem.W.nsIn K mainGlobals "_law_odd_key" = some (some (.ref f14)))
    (l14 : K.lookup f14 = some ⟨oc14, od14, .func (PySem.W.fnOf "_law_odd_key" "_law_odd_key" (defArgs s__law_odd_key) (defBody s__law_odd_key) (defScope s__law_odd_key) .none kV14 dc14 pm14 an14 cd14 ct14), sl14⟩)
    (c14 : PySem.W.codeIn K cd14 "_law_odd_key" = true)
    (k14 : PySem.W.keepIn K (.ref f14) = true)
    (a15 : PySem.W.nsIn K mainGlobals "_law_odd_at" = some (some (.ref f15)))
    (l15 : K.lookup f15 = some ⟨oc15, od15, .func (PySem.W.fnOf "_law_odd_at" "_law_odd_at" (defArgs s__law_odd_at) (defBody s__law_odd_at) (defScope s__law_odd_at) .none kV15 dc15 pm15 an15 cd15 ct15), sl15⟩)
    (c15 : PySem.W.codeIn K cd15 "_law_odd_at" = true)
    (k15 : PySem.W.keepIn K (.ref f15) = true)
    (a16 : PySem.W.nsIn K mainGlobals "_law_odd_body" = some (some (.ref f16)))
    (l16 : K.lookup f16 = some ⟨oc16, od16, .func (PySem.W.fnOf "_law_odd_body" "_law_odd_body" (defArgs s__law_odd_body) (defBody s__law_odd_body) (defScope s__law_odd_body) .none kV16 dc16 pm16 an16 cd16 ct16), sl16⟩)
    (c16 : PySem.W.codeIn K cd16 "_law_odd_body" = true)
    (k16 : PySem.W.keepIn K (.ref f16) = true)
    (a17 : PySem.W.nsIn K mainGlobals "_law_refusal" = some (some (.ref f17)))
    (l17 : K.lookup f17 = some ⟨oc17, od17, .func (PySem.W.fnOf "_law_refusal" "_law_refusal" (defArgs s__law_refusal) (defBody s__law_refusal) (defScope s__law_refusal) .none kV17 dc17 pm17 an17 cd17 ct17), sl17⟩)
    (c17 : PySem.W.codeIn K cd17 "_law_refusal" = true)
    (k17 : PySem.W.keepIn K (.ref f17) = true)
    (l18 : K.lookup f18 = some ⟨oc18, od18, .func (PySem.W.fnOf "end" "Piece.end" (defArgs s_Piece_end) (defBody s_Piece_end) (defScope s_Piece_end) .none kV18 dc18 pm18 an18 cd18 ct18), sl18⟩)
    (c18 : PySem.W.codeIn K cd18 "Piece.end" = true)
    (k18 : PySem.W.keepIn K (.ref f18) = true)
    (a19 : PySem.W.nsIn K mainGlobals "law" = some (some (.ref f19)))
    (l19 : K.lookup f19 = some ⟨oc19, od19, .func (PySem.W.fnOf "law" "law" (defArgs s_law) (defBody s_law) (defScope s_law) .none kV19 dc19 pm19 an19 cd19 ct19), sl19⟩)
    (c19 : PySem.W.codeIn K cd19 "law" = true)
    (k19 : PySem.W.keepIn K (.ref f19) = true)
    (kc13 : PySem.W.isClsIn K C_NoLetter = true)
    (ky13 : PySem.W.typeIn K (.ref C_NoLetter) = some (.type "type"))
    (ks13 : PySem.W.subIn K (.ref C_NoLetter) (.ref C_NoLetter) = some true)
    (kc14 : PySem.W.isClsIn K C_NoPiece = true)
    (ky14 : PySem.W.typeIn K (.ref C_NoPiece) = some (.type "type"))
    (ks14 : PySem.W.subIn K (.ref C_NoPiece) (.ref C_NoPiece) = some true)
    (kc15 : PySem.W.isClsIn K C_NoWidth = true)
    (ky15 : PySem.W.typeIn K (.ref C_NoWidth) = some (.type "type"))
    (ks15 : PySem.W.subIn K (.ref C_NoWidth) (.ref C_NoWidth) = some true)
    (kc16 : PySem.W.isClsIn K C_TooWide = true)
    (ky16 : PySem.W.typeIn K (.ref C_TooWide) = some (.type "type"))
    (ks16 : PySem.W.subIn K (.ref C_TooWide) (.ref C_TooWide) = some true)
    (kc17 : PySem.W.isClsIn K C_NoRule = true)
    (ky17 : PySem.W.typeIn K (.ref C_NoRule) = some (.type "type"))
    (ks17 : PySem.W.subIn K (.ref C_NoRule) (.ref C_NoRule) = some true)
    (kc18 : PySem.W.isClsIn K C_NoTime = true)
    (ky18 : PySem.W.typeIn K (.ref C_NoTime) = some (.type "type"))
    (ks18 : PySem.W.subIn K (.ref C_NoTime) (.ref C_NoTime) = some true)
    (kc19 : PySem.W.isClsIn K C_NoKey = true)
    (ky19 : PySem.W.typeIn K (.ref C_NoKey) = some (.type "type"))
    (ks19 : PySem.W.subIn K (.ref C_NoKey) (.ref C_NoKey) = some true)
    (kc20 : PySem.W.isClsIn K C_NoText = true)
    (ky20 : PySem.W.typeIn K (.ref C_NoText) = some (.type "type"))
    (ks20 : PySem.W.subIn K (.ref C_NoText) (.ref C_NoText) = some true)
    (kc21 : PySem.W.isClsIn K C_NoRow = true)
    (ky21 : PySem.W.typeIn K (.ref C_NoRow) = some (.type "type"))
    (ks21 : PySem.W.subIn K (.ref C_NoRow) (.ref C_NoRow) = some true)
    (kc22 : PySem.W.isClsIn K C_NoRoom = true)
    (ky22 : PySem.W.typeIn K (.ref C_NoRoom) = some (.type "type"))
    (ks22 : PySem.W.subIn K (.ref C_NoRoom) (.ref C_NoRoom) = some true)
    (kc23 : PySem.W.isClsIn K C_NoRoad = true)
    (ky23 : PySem.W.typeIn K (.ref C_NoRoad) = some (.type "type"))
    (ks23 : PySem.W.subIn K (.ref C_NoRoad) (.ref C_NoRoad) = some true)
    (kt0 : PySem.W.subIn K (.type "NoneType") (.ref C_NoKey) = some false)
    (kt1 : PySem.W.subIn K (.ref C_NoPiece) (.ref C_NoKey) = some false)
    (kt2 : PySem.W.subIn K (.type "NoneType") (.ref C_NoLetter) = some false)
    (kt3 : PySem.W.subIn K (.ref C_NoPiece) (.ref C_NoLetter) = some false)
    (kt4 : PySem.W.subIn K (.type "NoneType") (.ref C_NoPiece) = some false)
    (kt5 : PySem.W.subIn K (.ref C_NoPiece) (.ref C_NoPiece) = some true)
    (kt6 : PySem.W.subIn K (.type "NoneType") (.ref C_NoRoad) = some false)
    (kt7 : PySem.W.subIn K (.ref C_NoPiece) (.ref C_NoRoad) = some false)
    (kt8 : PySem.W.subIn K (.type "NoneType") (.ref C_NoRoom) = some false)
    (kt9 : PySem.W.subIn K (.ref C_NoPiece) (.ref C_NoRoom) = some false)
    (kt10 : PySem.W.subIn K (.type "NoneType") (.ref C_NoRow) = some false)
    (kt11 : PySem.W.subIn K (.ref C_NoPiece) (.ref C_NoRow) = some false)
    (kt12 : PySem.W.subIn K (.type "NoneType") (.ref C_NoRule) = some false)
    (kt13 : PySem.W.subIn K (.ref C_NoPiece) (.ref C_NoRule) = some false)
    (kt14 : PySem.W.subIn K (.type "NoneType") (.ref C_NoText) = some false)
    (kt15 : PySem.W.subIn K (.ref C_NoPiece) (.ref C_NoText) = some false)
    (kt16 : PySem.W.subIn K (.type "NoneType") (.ref C_NoTime) = some false)
    (kt17 : PySem.W.subIn K (.ref C_NoPiece) (.ref C_NoTime) = some false)
    (kt18 : PySem.W.subIn K (.type "NoneType") (.ref C_NoWidth) = some false)
    (kt19 : PySem.W.subIn K (.ref C_NoPiece) (.ref C_NoWidth) = some false)
    (kt20 : PySem.W.subIn K (.type "NoneType") (.ref C_TooWide) = some false)
    (kt21 : PySem.W.subIn K (.ref C_NoPiece) (.ref C_TooWide) = some false)
    (kt22 : PySem.W.subIn K (.ref C_NoPiece) (.type "ValueError") = some true)
    (q_LETTERS : PySem.W.nsIn K mainGlobals "LETTERS" = some (some (.str "abcdefghijklmnopqrstuvwxyz" tk_LETTERS)))
    (q_MOST_BYTES : PySem.W.nsIn K mainGlobals "MOST_BYTES" = some (some (.int 4000 tk_MOST_BYTES)))
    (b_ValueError : PySem.W.nsIn K mainGlobals "ValueError" = some none)
    (b_all : PySem.W.nsIn K mainGlobals "all" = some none)
    (b_bool : PySem.W.nsIn K mainGlobals "bool" = some none)
    (b_int : PySem.W.nsIn K mainGlobals "int" = some none)
    (b_isinstance : PySem.W.nsIn K mainGlobals "isinstance" = some none)
    (b_len : PySem.W.nsIn K mainGlobals "len" = some none)
    (b_list : PySem.W.nsIn K mainGlobals "list" = some none)
    (b_min : PySem.W.nsIn K mainGlobals "min" = some none)
    (b_range : PySem.W.nsIn K mainGlobals "range" = some none)
    (b_str : PySem.W.nsIn K mainGlobals "str" = some none)
    (b_tuple : PySem.W.nsIn K mainGlobals "tuple" = some none)
    : ∃ (fd : FuncData) (cs : List (Addr × Addr × Str)), (∀ p ∈ cs, h.get? p.2.1 = some (PySem.W.tabObj #[])) ∧ (∀ p ∈ cs, K.lookup p.2.1 = none) ∧ (∀ p ∈ cs, PySem.W.codeHdIn K p.1 p.2.1 = true) ∧ (∀ (s : Shared) (u : Value), BindsTo s fd ⟨[u], []⟩ [("_law_script", u)]) ∧
      ∀ base : Heap, K.In base → base.Ns mainGlobals mg → (∀ p ∈ cs, LamX.TabB base mg p.1 p.2.1) → FnOk l.prog w K mg base (L2.CX l.prog w) 11 fa fd ["_law_script"] (spLaw K (cs.map (·.2))) := by
  have e := hfa.symm.trans (PySem.W.mg_of X G a19)
  cases e
  have na : ∀ c k, c < T0.ncl → k ∈ T0.fl c → NoAttr K ((fun | 0 => C_Keyed | 1 => C_Piece | 2 => C_WayError | 3 => C_NoLetter | 4 => C_NoPiece | 5 => C_NoWidth | 6 => C_TooWide | 7 => C_NoRule | 8 => C_NoTime | 9 => C_NoKey | 10 => C_NoText | 11 => C_NoRow | 12 => C_NoRoom | 13 => C_NoRoad | _ => 0 : Nat → Addr) c) (T0.nm k) := fun c k h m => by
    match c, h, m with
    | 0, _, m =>
      simp [T0] at m
      rcases m with rfl | rfl | rfl | rfl | rfl
      · exact n_Keyed_number
      · exact n_Keyed_sender
      · exact n_Keyed_goal
      · exact n_Keyed_body
      · exact n_Keyed_keep
    | 1, _, m =>
      simp [T0] at m
      rcases m with rfl | rfl | rfl | rfl | rfl | rfl | rfl
      · exact n_Piece_number
      · exact n_Piece_sender
      · exact n_Piece_goal
      · exact n_Piece_body
      · exact n_Piece_keep
      · exact n_Piece_at
      · exact n_Piece_more
  have T : ∀ base : Heap, (∀ p ∈ ([(cc9, PP9, ("_law_made" : Str) ++ ".<locals>." ++ "<lambda>")] : List (Addr × Addr × Str)), LamX.TabB base mg p.1 p.2.1) → Txt K mg base (fun | 0 => C_Keyed | 1 => C_Piece | 2 => C_WayError | 3 => C_NoLetter | 4 => C_NoPiece | 5 => C_NoWidth | 6 => C_TooWide | 7 => C_NoRule | 8 => C_NoTime | 9 => C_NoKey | 10 => C_NoText | 11 => C_NoRow | 12 => C_NoRoom | 13 => C_NoRoad | _ => 0) (fun c vs a => if c < 900 then ExcV a (.ref ((fun | 0 => C_Keyed | 1 => C_Piece | 2 => C_WayError | 3 => C_NoLetter | 4 => C_NoPiece | 5 => C_NoWidth | 6 => C_TooWide | 7 => C_NoRule | 8 => C_NoTime | 9 => C_NoKey | 10 => C_NoText | 11 => C_NoRow | 12 => C_NoRoom | 13 => C_NoRoad | _ => 0 : Nat → Addr) c)) none else lamO c vs a) [(PP9, ("_law_made" : Str) ++ ".<locals>." ++ "<lambda>")] := fun base hTB => {
    cf := ⟨fun c h => match c, h with | 0, _ => ⟨⟨pg_Keyed, hd_Keyed, po_Keyed, sa_Keyed⟩, ha_Keyed, hn, ht, hm_Keyed⟩ | 1, _ => ⟨⟨pg_Piece, hd_Piece, po_Piece, sa_Piece⟩, ha_Piece, hn, ht, hm_Piece⟩, na, fun c h => match c, h with | 0, _ => by show ((T0.fl 0).map T0.nm).Nodup; decide | 1, _ => by show ((T0.fl 1).map T0.nm).Nodup; decide, fun c h => match c, h with | 0, _ => by show (T0.fl 0).length < 900; decide | 1, _ => by show (T0.fl 1).length < 900; decide⟩
    kf := ⟨kit_own kc19 ky19 ks19 kt0, ⟨kit_own kc19 ky19 ks19 kt1, ⟨kit_own kc13 ky13 ks13 kt2, ⟨kit_own kc13 ky13 ks13 kt3, ⟨kit_own kc14 ky14 ks14 kt4, ⟨kit_own kc14 ky14 ks14 kt5, ⟨kit_own kc23 ky23 ks23 kt6, ⟨kit_own kc23 ky23 ks23 kt7, ⟨kit_own kc22 ky22 ks22 kt8, ⟨kit_own kc22 ky22 ks22 kt9, ⟨kit_own kc21 ky21 ks21 kt10, ⟨kit_own kc21 ky21 ks21 kt11, ⟨kit_own kc17 ky17 ks17 kt12, ⟨kit_own kc17 ky17 ks17 kt13, ⟨kit_own kc20 ky20 ks20 kt14, ⟨kit_own kc20 ky20 ks20 kt15, ⟨kit_own kc18 ky18 ks18 kt16, ⟨kit_own kc18 ky18 ks18 kt17, ⟨kit_own kc15 ky15 ks15 kt18, ⟨kit_own kc15 ky15 ks15 kt19, ⟨kit_own kc16 ky16 ks16 kt20, ⟨kit_own kc16 ky16 ks16 kt21, ⟨kit_bty (by decide +kernel) kt22, trivial⟩⟩⟩⟩⟩⟩⟩⟩⟩⟩⟩⟩⟩⟩⟩⟩⟩⟩⟩⟩⟩⟩⟩
    ef := ⟨fun c hc => by
      simp only [exs, List.mem_cons, List.not_mem_nil, or_false] at hc
      rcases hc with rfl
      exact ⟨xg_NoPiece, xr_NoPiece, xb_NoPiece, xd_NoPiece, xa_NoPiece, hn, ht, xm_NoPiece⟩
      , fun c hc _ _ => if_pos (by simp only [exs, List.mem_cons, List.not_mem_nil, or_false] at hc; omega)⟩
    sf := ⟨ksb0, trivial⟩
    ra_NoPiece := ⟨xe_NoPiece, xk_NoPiece, xb_NoPiece, xt_NoPiece⟩
    cl_WayError := ⟨xb_WayError, xd_WayError, xt_WayError⟩
    oc__law_made := fun _ _ => rfl
    okk__law_made := fun _ _ => rfl
    oq_1000 := fun _ _ => rfl
    d_is_whole := ⟨_, _, fun_mk l1 c1 k1, PySem.W.mg_of X G a1⟩
    d_is_within := ⟨_, _, fun_mk l2 c2 k2, PySem.W.mg_of X G a2⟩
    d_is_name := ⟨_, _, fun_mk l3 c3 k3, PySem.W.mg_of X G a3⟩
    d_is_key := ⟨_, _, fun_mk l4 c4 k4, PySem.W.mg_of X G a4⟩
    d_is_body := ⟨_, _, fun_mk l5 c5 k5, PySem.W.mg_of X G a5⟩
    d_is_placed := ⟨_, _, fun_mk l6 c6 k6, PySem.W.mg_of X G a6⟩
    d__law_made := ⟨_, _, _, _, func_mk l9 c9 k9, PySem.W.mg_of X G a9, hTB (cc9, PP9, ("_law_made" : Str) ++ ".<locals>." ++ "<lambda>") (by simp), by simp, fun p hp e => by
      simp only [List.mem_cons, List.not_mem_nil, or_false] at hp
      rcases hp with rfl
      rfl
      ⟩
    d__law_digit := ⟨_, _, fun_mk l10 c10 k10, PySem.W.mg_of X G a10⟩
    d__law_name := ⟨_, _, fun_mk l11 c11 k11, PySem.W.mg_of X G a11⟩
    d__law_key := ⟨_, _, fun_mk l12 c12 k12, PySem.W.mg_of X G a12⟩
    d__law_body := ⟨_, _, fun_mk l13 c13 k13, PySem.W.mg_of X G a13⟩
    d__law_odd_key := ⟨_, _, fun_mk l14 c14 k14, PySem.W.mg_of X G a14⟩
    d__law_odd_at := ⟨_, _, fun_mk l15 c15 k15, PySem.W.mg_of X G a15⟩
    d__law_odd_body := ⟨_, _, fun_mk l16 c16 k16, PySem.W.mg_of X G a16⟩
    d__law_refusal := ⟨_, _, fun_mk l17 c17 k17, PySem.W.mg_of X G a17⟩
    d_law := ⟨_, _, fun_mk l19 c19 k19, PySem.W.mg_of X G a19⟩
    i_Piece := ⟨_, _, fund_mk l8 c8 k8 lt8 (.cons rfl (.nil)) (by simp), PySem.W.mg_of X G x_Piece, ⟨mk_Piece, in_Piece, if_Piece, kc_Piece⟩⟩
    x_Keyed_init := ⟨_, _, fun_mk l7 c7 k7, PySem.W.mg_of X G x_Keyed, rd_Keyed, fc_Keyed_init, k7⟩
    m_Piece_end := ⟨_, _, fun_mk l18 c18 k18, ⟨ma_Piece_end, mf_Piece_end, k18⟩⟩
    mc_NoKey := PySem.W.mg_of X G x_NoKey
    mc_NoLetter := PySem.W.mg_of X G x_NoLetter
    mc_NoPiece := PySem.W.mg_of X G x_NoPiece
    mc_NoRoad := PySem.W.mg_of X G x_NoRoad
    mc_NoRoom := PySem.W.mg_of X G x_NoRoom
    mc_NoRow := PySem.W.mg_of X G x_NoRow
    mc_NoRule := PySem.W.mg_of X G x_NoRule
    mc_NoText := PySem.W.mg_of X G x_NoText
    mc_NoTime := PySem.W.mg_of X G x_NoTime
    mc_NoWidth := PySem.W.mg_of X G x_NoWidth
    mc_TooWide := PySem.W.mg_of X G x_TooWide
    mc_WayError := PySem.W.mg_of X G x_WayError
    k_LETTERS := ⟨_, PySem.W.mg_of X G q_LETTERS, ⟨_, rfl⟩⟩
    k_MOST_BYTES := ⟨_, PySem.W.mg_of X G q_MOST_BYTES, ⟨_, rfl⟩⟩
    b_ValueError := PySem.W.mg_none_of X G b_ValueError
    b_all := PySem.W.mg_none_of X G b_all
    b_bool := PySem.W.mg_none_of X G b_bool
    b_int := PySem.W.mg_none_of X G b_int
    b_isinstance := PySem.W.mg_none_of X G b_isinstance
    b_len := PySem.W.mg_none_of X G b_len
    b_list := PySem.W.mg_none_of X G b_list
    b_min := PySem.W.mg_none_of X G b_min
    b_range := PySem.W.mg_none_of X G b_range
    b_str := PySem.W.mg_none_of X G b_str
    b_tuple := PySem.W.mg_none_of X G b_tuple
  }
  exact ⟨PySem.W.fnOf "law" "law" (defArgs s_law) (defBody s_law) (defScope s_law) .none kV19 dc19 pm19 an19 cd19 ct19, [(cc9, PP9, ("_law_made" : Str) ++ ".<locals>." ++ "<lambda>")], (fun p hp => by
      simp only [List.mem_cons, List.not_mem_nil, or_false] at hp
      rcases hp with rfl
      · exact ht9
      ), (fun p hp => by
      simp only [List.mem_cons, List.not_mem_nil, or_false] at hp
      rcases hp with rfl
      · exact np9
      ), (fun p hp => by
      simp only [List.mem_cons, List.not_mem_nil, or_false] at hp
      rcases hp with rfl
      · exact hc9
      ), fun s v => .of_eq rfl, fun base _ _ hTB => law_fn (G := ⟨K, T0, _, _, [(PP9, ("_law_made" : Str) ++ ".<locals>." ++ "<lambda>")], Wd0⟩) (fn_law (T base hTB) (fun_mk (st := s_law) l19 c19 k19)) rfl law_true⟩
theorem walk {l : PySem.W.OpenLaw} {q : Program} {loose : List Str} {XP : (Str → Option Value) → Heap → Prop} {YP : World → Heap → Prop} {d : DefRec} {K : Params → PySem.W.Frag} (hn : l.most = some 63) (hdf : d.params.defaults = [])
    (hY : ∀ (w : World) (h : Heap), YP w h → (K w.params).In h)
    (F : ∀ (w : World) (mg : Str → Option Value) (fa : Addr) (h : Heap), YP w h → (K w.params).In h → h.Ns mainGlobals mg → mg d.name = some (.ref fa) →
      ∃ (fd : FuncData) (cs : List (Addr × Addr × Str)), (∀ p ∈ cs, h.get? p.2.1 = some (PySem.W.tabObj #[])) ∧ (∀ p ∈ cs, (K w.params).lookup p.2.1 = none) ∧ (∀ p ∈ cs, PySem.W.codeHdIn (K w.params) p.1 p.2.1 = true) ∧ (∀ (s : Shared) (u : Value), BindsTo s fd ⟨[u], []⟩ [("_law_script", u)]) ∧
      ∀ base : Heap, (K w.params).In base → base.Ns mainGlobals mg → (∀ p ∈ cs, LamX.TabB base mg p.1 p.2.1) → FnOk l.prog w (K w.params) mg base (L2.CX l.prog w) 11 fa fd ["_law_script"] (spLaw (K w.params) (cs.map (·.2)))) :
    PySem.W.WalkO q loose XP YP l.row.toRowW d [] (fun f vs => PySem.call f vs) := law_walkT (k := 11) (x := "_law_script") hn hdf ⟨rfl, by decide, by decide⟩ hY F
end K04

open PySem PySem.W PyProof.Rows in
set_option maxRecDepth 100000 in
set_option maxHeartbeats 0 in
theorem PySem.Challenge.cw_pieceways_k04_what_is_no_piece_holds : PySem.Challenge.rw_pieceways_k04_what_is_no_piece.Holds := by
  w_on; o_law; k_head; (case hw => w_witness2)
  k_fill
  refine K04.walk (l := PySem.Challenge.rw_pieceways_k04_what_is_no_piece) rfl rfl (fun w h Y => PySem.W.km_in_of Y) ?F
  case F =>
    intro w mg fa h Y KX G hmg
    refine' K04.all_mk KX G hmg ?x_Keyed ?pg_Keyed ?hd_Keyed ?po_Keyed ?sa_Keyed ?ha_Keyed ?hm_Keyed ?n_Keyed_number ?n_Keyed_sender ?n_Keyed_goal ?n_Keyed_body ?n_Keyed_keep ?x_Piece ?pg_Piece ?hd_Piece ?po_Piece ?sa_Piece ?ha_Piece ?hm_Piece ?n_Piece_number ?n_Piece_sender ?n_Piece_goal ?n_Piece_body ?n_Piece_keep ?n_Piece_at ?n_Piece_more ?hn ?ht ?x_WayError ?xb_WayError ?xt_WayError ?xd_WayError ?x_NoLetter ?xb_NoLetter ?xt_NoLetter ?x_NoPiece ?xb_NoPiece ?xt_NoPiece ?xe_NoPiece ?xk_NoPiece ?xg_NoPiece ?xr_NoPiece ?xa_NoPiece ?xm_NoPiece ?xd_NoPiece ?x_NoWidth ?xb_NoWidth ?xt_NoWidth ?x_TooWide ?xb_TooWide ?xt_TooWide ?x_NoRule ?xb_NoRule ?xt_NoRule ?x_NoTime ?xb_NoTime ?xt_NoTime ?x_NoKey ?xb_NoKey ?xt_NoKey ?x_NoText ?xb_NoText ?xt_NoText ?x_NoRow ?xb_NoRow ?xt_NoRow ?x_NoRoom ?xb_NoRoom ?xt_NoRoom ?x_NoRoad ?xb_NoRoad ?xt_NoRoad ?ksb0 ?mk_Piece ?in_Piece ?if_Piece ?kc_Piece ?rd_Keyed ?fc_Keyed_init ?ma_Piece_end ?mf_Piece_end ?a1 ?l1 ?c1 ?k1 ?a2 ?l2 ?c2 ?k2 ?a3 ?l3 ?c3 ?k3 ?a4 ?l4 ?c4 ?k4 ?a5 ?l5 ?c5 ?k5 ?a6 ?l6 ?c6 ?k6 ?l7 ?c7 ?k7 ?l8 ?c8 ?k8 ?lt8 ?a9 ?l9 ?c9 ?lc9 ?pp9 ?hc9 ?np9 ?ht9 ?k9 ?a10 ?l10 ?c10 ?k10 ?a11 ?l11 ?c11 ?k11 ?a12 ?l12 ?c12 ?k12 ?a13 ?l13 ?c13 ?k13 ?a14 ?l14 ?c14 ?k14 ?a15 ?l15 ?c15 ?k15 ?a16 ?l16 ?c16 ?k16 ?a17 ?l17 ?c17 ?k17 ?l18 ?c18 ?k18 ?a19 ?l19 ?c19 ?k19 ?kc13 ?ky13 ?ks13 ?kc14 ?ky14 ?ks14 ?kc15 ?ky15 ?ks15 ?kc16 ?ky16 ?ks16 ?kc17 ?ky17 ?ks17 ?kc18 ?ky18 ?ks18 ?kc19 ?ky19 ?ks19 ?kc20 ?ky20 ?ks20 ?kc21 ?ky21 ?ks21 ?kc22 ?ky22 ?ks22 ?kc23 ?ky23 ?ks23 ?kt0 ?kt1 ?kt2 ?kt3 ?kt4 ?kt5 ?kt6 ?kt7 ?kt8 ?kt9 ?kt10 ?kt11 ?kt12 ?kt13 ?kt14 ?kt15 ?kt16 ?kt17 ?kt18 ?kt19 ?kt20 ?kt21 ?kt22 ?q_LETTERS ?q_MOST_BYTES ?b_ValueError ?b_all ?b_bool ?b_int ?b_isinstance ?b_len ?b_list ?b_min ?b_range ?b_str ?b_tuple
    (case x_Keyed => k_is)
    (case pg_Keyed => k_is)
    (case hd_Keyed => k_is)
    (case po_Keyed => k_is)
    (case sa_Keyed => k_is)
    (case ha_Keyed => k_is)
    (case hm_Keyed => k_is)
    (case n_Keyed_number => k_is)
    (case n_Keyed_sender => k_is)
    (case n_Keyed_goal => k_is)
    (case n_Keyed_body => k_is)
    (case n_Keyed_keep => k_is)
    (case x_Piece => k_is)
    (case pg_Piece => k_is)
    (case hd_Piece => k_is)
    (case po_Piece => k_is)
    (case sa_Piece => k_is)
    (case ha_Piece => k_is)
    (case hm_Piece => k_is)
    (case n_Piece_number => k_is)
    (case n_Piece_sender => k_is)
    (case n_Piece_goal => k_is)
    (case n_Piece_body => k_is)
    (case n_Piece_keep => k_is)
    (case n_Piece_at => k_is)
    (case n_Piece_more => k_is)
    (case hn => k_is)
    (case ht => k_is)
    (case x_WayError => k_is)
    (case xb_WayError => k_is)
    (case xt_WayError => k_is)
    (case xd_WayError => k_is)
    (case x_NoLetter => k_is)
    (case xb_NoLetter => k_is)
    (case xt_NoLetter => k_is)
    (case x_NoPiece => k_is)
    (case xb_NoPiece => k_is)
    (case xt_NoPiece => k_is)
    (case xe_NoPiece => kernel_rfl)
    (case xk_NoPiece => k_is)
    (case xg_NoPiece => k_is)
    (case xr_NoPiece => k_is)
    (case xa_NoPiece => k_is)
    (case xm_NoPiece => k_is)
    (case xd_NoPiece => k_is)
    (case x_NoWidth => k_is)
    (case xb_NoWidth => k_is)
    (case xt_NoWidth => k_is)
    (case x_TooWide => k_is)
    (case xb_TooWide => k_is)
    (case xt_TooWide => k_is)
    (case x_NoRule => k_is)
    (case xb_NoRule => k_is)
    (case xt_NoRule => k_is)
    (case x_NoTime => k_is)
    (case xb_NoTime => k_is)
    (case xt_NoTime => k_is)
    (case x_NoKey => k_is)
    (case xb_NoKey => k_is)
    (case xt_NoKey => k_is)
    (case x_NoText => k_is)
    (case xb_NoText => k_is)
    (case xt_NoText => k_is)
    (case x_NoRow => k_is)
    (case xb_NoRow => k_is)
    (case xt_NoRow => k_is)
    (case x_NoRoom => k_is)
    (case xb_NoRoom => k_is)
    (case xt_NoRoom => k_is)
    (case x_NoRoad => k_is)
    (case xb_NoRoad => k_is)
    (case xt_NoRoad => k_is)
    (case ksb0 => k_is)
    (case mk_Piece => k_is)
    (case in_Piece => k_is)
    (case if_Piece => k_is)
    (case kc_Piece => k_is)
    (case rd_Keyed => k_is)
    (case fc_Keyed_init => k_is)
    (case ma_Piece_end => k_is)
    (case mf_Piece_end => k_is)
    (case a1 => k_is)
    (case l1 => k_is)
    (case c1 => k_is)
    (case k1 => k_is)
    (case a2 => k_is)
    (case l2 => k_is)
    (case c2 => k_is)
    (case k2 => k_is)
    (case a3 => k_is)
    (case l3 => k_is)
    (case c3 => k_is)
    (case k3 => k_is)
    (case a4 => k_is)
    (case l4 => k_is)
    (case c4 => k_is)
    (case k4 => k_is)
    (case a5 => k_is)
    (case l5 => k_is)
    (case c5 => k_is)
    (case k5 => k_is)
    (case a6 => k_is)
    (case l6 => k_is)
    (case c6 => k_is)
    (case k6 => k_is)
    (case l7 => k_is)
    (case c7 => k_is)
    (case k7 => k_is)
    (case l8 => k_is)
    (case c8 => k_is)
    (case k8 => k_is)
    (case lt8 => k_is)
    (case a9 => k_is)
    (case l9 => k_is)
    (case c9 => k_is)
    (case lc9 => k_is)
    (case pp9 => rfl)
    (case hc9 => kernel_rfl)
    (case np9 => kernel_rfl)
    (case ht9 => exact PySem.W.km_tabs_of Y _ (by simp))
    (case k9 => k_is)
    (case a10 => k_is)
    (case l10 => k_is)
    (case c10 => k_is)
    (case k10 => k_is)
    (case a11 => k_is)
    (case l11 => k_is)
    (case c11 => k_is)
    (case k11 => k_is)
    (case a12 => k_is)
    (case l12 => k_is)
    (case c12 => k_is)
    (case k12 => k_is)
    (case a13 => k_is)
    (case l13 => k_is)
    (case c13 => k_is)
    (case k13 => k_is)
    (case a14 => k_is)
    (case l14 => k_is)
    (case c14 => k_is)
    (case k14 => k_is)
    (case a15 => k_is)
    (case l15 => k_is)
    (case c15 => k_is)
    (case k15 => k_is)
    (case a16 => k_is)
    (case l16 => k_is)
    (case c16 => k_is)
    (case k16 => k_is)
    (case a17 => k_is)
    (case l17 => k_is)
    (case c17 => k_is)
    (case k17 => k_is)
    (case l18 => k_is)
    (case c18 => k_is)
    (case k18 => k_is)
    (case a19 => k_is)
    (case l19 => k_is)
    (case c19 => k_is)
    (case k19 => k_is)
    (case kc13 => k_is)
    (case ky13 => k_is)
    (case ks13 => k_is)
    (case kc14 => k_is)
    (case ky14 => k_is)
    (case ks14 => k_is)
    (case kc15 => k_is)
    (case ky15 => k_is)
    (case ks15 => k_is)
    (case kc16 => k_is)
    (case ky16 => k_is)
    (case ks16 => k_is)
    (case kc17 => k_is)
    (case ky17 => k_is)
    (case ks17 => k_is)
    (case kc18 => k_is)
    (case ky18 => k_is)
    (case ks18 => k_is)
    (case kc19 => k_is)
    (case ky19 => k_is)
    (case ks19 => k_is)
    (case kc20 => k_is)
    (case ky20 => k_is)
    (case ks20 => k_is)
    (case kc21 => k_is)
    (case ky21 => k_is)
    (case ks21 => k_is)
    (case kc22 => k_is)
    (case ky22 => k_is)
    (case ks22 => k_is)
    (case kc23 => k_is)
    (case ky23 => k_is)
    (case ks23 => k_is)
    (case kt0 => k_is)
    (case kt1 => k_is)
    (case kt2 => k_is)
    (case kt3 => k_is)
    (case kt4 => k_is)
    (case kt5 => k_is)
    (case kt6 => k_is)
    (case kt7 => k_is)
    (case kt8 => k_is)
    (case kt9 => k_is)
    (case kt10 => k_is)
    (case kt11 => k_is)
    (case kt12 => k_is)
    (case kt13 => k_is)
    (case kt14 => k_is)
    (case kt15 => k_is)
    (case kt16 => k_is)
    (case kt17 => k_is)
    (case kt18 => k_is)
    (case kt19 => k_is)
    (case kt20 => k_is)
    (case kt21 => k_is)
    (case kt22 => k_is)
    (case q_LETTERS => k_is)
    (case q_MOST_BYTES => k_is)
    (case b_ValueError => k_is)
    (case b_all => k_is)
    (case b_bool => k_is)
    (case b_int => k_is)
    (case b_isinstance => k_is)
    (case b_len => k_is)
    (case b_list => k_is)
    (case b_min => k_is)
    (case b_range => k_is)
    (case b_str => k_is)
    (case b_tuple => k_is)

