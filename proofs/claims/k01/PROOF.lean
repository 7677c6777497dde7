import PyProof.Rows.All
import Wide.All
import OpenK.AllK
import Wide.FinOn
import HandS.ForMost
import HandS.ExcInit
import HandS.Wide
import HandS.TupLe
import PyProof.Rows.SeqMore
import HandS.Text
import HandS.Dict
import HandS.Style
import HandS.Iter
import HandS.Comp
import HandS.IsInst
import HandS.CallRecv
import HandS.SortInts
import HandS.WordsDict
import HandS.ExcField
import HandS.ExcIs
import HandS.ExcOwn
import HandS.ExcValue
import KE.KExcIs
import HandS.OwnEq
import PyProof.NeKinds
import HandS.FStr
import HandS.Zip
import PyProof.Draws
import HandS.EndBits
import PySem.Challenge.RW_lastheap_k01_errors_of_the_package
set_option Elab.async false
set_option linter.all false
set_option maxRecDepth 100000
/-! E1: values by data, the store by labels, and how they stand in the abstract heap. -/
namespace Eng
open PySem L2

/-- the built-in classes that are asked for -/
inductive BT where
  | int | bool | str | list | tuple | dict | none
  deriving DecidableEq
def BT.name : BT → String
  | .int => "int"
  | .bool => "bool"
  | .str => "str"
  | .list => "list"
  | .tuple => "tuple"
  | .dict => "dict"
  | .none => "NoneType"
/-- a value: tuples by their items, mutable objects by labels -/
inductive D where
  | non | bl (b : Bool) | int (i : Int) | str (x : Str) | ty (b : BT)
  | tup (xs : List D) | ref (n : Nat) | rol (xs : List D) | cls (c : Nat)

/-- an object of the store -/
inductive O where
  | lst (xs : List D)
  | ins (c : Nat) (fs : List (Nat × D))
  | dK (kvs : List (Key × D))
  | dT (kvs : List (List Key × D))
  | exc (c : Nat) (m : Option Nat)
  | xds (fs : List (Nat × D))

/-- classes by numbers, the names of attributes by numbers -/
structure TabI where
  ca : Nat → Option Addr
  xa : Nat → Option Addr
  nm : Nat → Str
  nf : Nat
/-- the written part and the module's names -/
structure Gd where
  K : PySem.W.Frag
  mg : Str → Option Value
  T : TabI

/-- a list that nobody changes: frozen, or of the written part -/
def SqF (K : PySem.W.Frag) (H : Hp) (a : Addr) (xs : List V) : Prop :=
  (∃ o, H a = some (.frz o (.lst xs))) ∨
    ∃ (o : Obj) (its : Array Value) (n : Nat), K.lookup a = some o ∧ o.cls = .type "list" ∧ o.dict = none ∧ o.data = .seq its n ∧ its.size ≤ sizeLine ∧ Vals xs its.toList
theorem SqF.sqL {K : PySem.W.Frag} {H : Hp} {a : Addr} {xs : List V} (h : SqF K H a xs) : SqL K H a xs := by
  rcases h with ⟨o, h⟩ | h
  · exact .inl (.inr ⟨o, h⟩)
  · exact .inr h

mutual
inductive RelD (G : Gd) (H : Hp) (ι : List Addr) : D → V → Prop where
  | non : RelD G H ι .non .non
  | bl (b : Bool) : RelD G H ι (.bl b) (.bl b)
  | int (i : Int) : RelD G H ι (.int i) (.int i)
  | str (x : Str) : RelD G H ι (.str x) (.str x)
  | ty (b : BT) : RelD G H ι (.ty b) (.ty b.name)
  | tup {a : Addr} {xs : List D} {ys : List V} (h : SqT G.K H a ys) (r : RelDs G H ι xs ys) : RelD G H ι (.tup xs) (.ref a)
  | ref {n : Nat} {a : Addr} (h : ι[n]? = some a) : RelD G H ι (.ref n) (.ref a)
  | rol {a : Addr} {xs : List D} {ys : List V} (h : SqF G.K H a ys) (r : RelDs G H ι xs ys) : RelD G H ι (.rol xs) (.ref a)
  | cls {c : Nat} {a : Addr} (h : G.T.ca c = some a) : RelD G H ι (.cls c) (.ref a)
inductive RelDs (G : Gd) (H : Hp) (ι : List Addr) : List D → List V → Prop where
  | nil : RelDs G H ι [] []
  | cons {d : D} {v : V} {ds : List D} {vs : List V} (r : RelD G H ι d v) (t : RelDs G H ι ds vs) : RelDs G H ι (d :: ds) (v :: vs)
end

/-- what never changes is kept -/
structure Keep (K : PySem.W.Frag) (H H' : Hp) : Prop where
  tup : ∀ a xs, SqT K H a xs → SqT K H' a xs
  rol : ∀ a xs, SqF K H a xs → SqF K H' a xs
theorem Keep.refl {K : PySem.W.Frag} {H : Hp} : Keep K H H := ⟨fun _ _ h => h, fun _ _ h => h⟩
theorem Keep.trans {K : PySem.W.Frag} {H H1 H2 : Hp} (a : Keep K H H1) (b : Keep K H1 H2) : Keep K H H2 :=
  ⟨fun c xs h => b.tup c xs (a.tup c xs h), fun c xs h => b.rol c xs (a.rol c xs h)⟩

def isM : HO → Bool
  | .lst _ => true
  | .dK _ => true
  | .dT _ => true
  | .ins _ _ _ => true
  | .ext _ => true
  | _ => false
def mutO : Option HO → Bool
  | none => true
  | some o => isM o
theorem Keep.upd {K : PySem.W.Frag} {H : Hp} {p : Addr} {o : HO} (h : mutO (H p) = true) : Keep K H (L2.upd H p o) := by
  have key : ∀ a u, H a = some u → isM u = false → L2.upd H p o a = some u := fun a u e m => by
    rw [upd_ne]
    · exact e
    · intro z
      subst z
      rw [e] at h
      have h : isM u = true := h
      rw [m] at h
      cases h
  refine ⟨fun a xs q => ?_, fun a xs q => ?_⟩
  · rcases q with (q | ⟨ob, q⟩) | q
    · exact .inl (.inl (key a _ q rfl))
    · exact .inl (.inr ⟨ob, key a _ q rfl⟩)
    · exact .inr q
  · rcases q with ⟨ob, q⟩ | q
    · exact .inl ⟨ob, key a _ q rfl⟩
    · exact .inr q
theorem Keep.new {K : PySem.W.Frag} {H : Hp} {p : Addr} {o : HO} (h : H p = none) : Keep K H (L2.upd H p o) := Keep.upd (by rw [h]; rfl)

theorem pre_get {α : Type} {l l' : List α} (h : l <+: l') {n : Nat} {a : α} (e : l[n]? = some a) : l'[n]? = some a := by
  obtain ⟨t, rfl⟩ := h
  obtain ⟨hn, _⟩ := List.getElem?_eq_some_iff.mp e
  rw [List.getElem?_append_left hn]
  exact e

mutual
theorem RelD.mono {G : Gd} {H H' : Hp} {ι ι' : List Addr} (p : ι <+: ι') (k : Keep G.K H H') : ∀ {d : D} {v : V}, RelD G H ι d v → RelD G H' ι' d v
  | _, _, .non => .non
  | _, _, .bl b => .bl b
  | _, _, .int i => .int i
  | _, _, .str x => .str x
  | _, _, .ty n => .ty n
  | _, _, .tup h r => .tup (k.tup _ _ h) (RelDs.mono p k r)
  | _, _, .ref h => .ref (pre_get p h)
  | _, _, .rol h r => .rol (k.rol _ _ h) (RelDs.mono p k r)
  | _, _, .cls h => .cls h
theorem RelDs.mono {G : Gd} {H H' : Hp} {ι ι' : List Addr} (p : ι <+: ι') (k : Keep G.K H H') : ∀ {ds : List D} {vs : List V}, RelDs G H ι ds vs → RelDs G H' ι' ds vs
  | _, _, .nil => .nil
  | _, _, .cons r t => .cons (RelD.mono p k r) (RelDs.mono p k t)
end
section
variable {G : Gd} {H : Hp} {ι : List Addr}
theorem RelDs.length : ∀ {ds : List D} {vs : List V}, RelDs G H ι ds vs → ds.length = vs.length
  | _, _, .nil => rfl
  | _, _, .cons _ t => congrArg (· + 1) (RelDs.length t)
theorem RelDs.get : ∀ {ds : List D} {vs : List V} {i : Nat} {d : D}, RelDs G H ι ds vs → ds[i]? = some d → ∃ v, vs[i]? = some v ∧ RelD G H ι d v
  | _, _, _, _, .nil, e => by simp at e
  | _, _, 0, _, .cons r _, e => by simp at e; subst e; exact ⟨_, rfl, r⟩
  | _, _, i + 1, d, .cons _ t, e => by
    obtain ⟨v, h1, h2⟩ := RelDs.get (i := i) (d := d) t (by simpa using e)
    exact ⟨v, by simpa using h1, h2⟩
theorem RelDs.get' : ∀ {ds : List D} {vs : List V} {i : Nat} {v : V}, RelDs G H ι ds vs → vs[i]? = some v → ∃ d, ds[i]? = some d ∧ RelD G H ι d v
  | _, _, _, _, .nil, e => by simp at e
  | _, _, 0, _, .cons r _, e => by simp at e; subst e; exact ⟨_, rfl, r⟩
  | _, _, i + 1, v, .cons _ t, e => by
    obtain ⟨d, h1, h2⟩ := RelDs.get' (i := i) (v := v) t (by simpa using e)
    exact ⟨d, by simpa using h1, h2⟩
theorem RelDs.append : ∀ {ds es : List D} {vs ws : List V}, RelDs G H ι ds vs → RelDs G H ι es ws → RelDs G H ι (ds ++ es) (vs ++ ws)
  | _, _, _, _, .nil, s => s
  | _, _, _, _, .cons r t, s => .cons r (RelDs.append t s)
theorem RelDs.set {d : D} {v : V} (r : RelD G H ι d v) : ∀ {ds : List D} {vs : List V} (i : Nat), RelDs G H ι ds vs → RelDs G H ι (ds.set i d) (vs.set i v)
  | _, _, _, .nil => .nil
  | _, _, 0, .cons _ t => .cons r t
  | _, _, i + 1, .cons q t => .cons q (RelDs.set r i t)
theorem RelDs.take : ∀ {ds : List D} {vs : List V} (n : Nat), RelDs G H ι ds vs → RelDs G H ι (ds.take n) (vs.take n)
  | _, _, 0, _ => by simp; exact .nil
  | _, _, _ + 1, .nil => .nil
  | _, _, n + 1, .cons r t => .cons r (RelDs.take n t)
theorem RelDs.drop : ∀ {ds : List D} {vs : List V} (n : Nat), RelDs G H ι ds vs → RelDs G H ι (ds.drop n) (vs.drop n)
  | _, _, 0, r => r
  | _, _, _ + 1, .nil => .nil
  | _, _, n + 1, .cons _ t => RelDs.drop n t
theorem RelDs.eraseIdx : ∀ {ds : List D} {vs : List V} (n : Nat), RelDs G H ι ds vs → RelDs G H ι (ds.eraseIdx n) (vs.eraseIdx n)
  | _, _, _, .nil => .nil
  | _, _, 0, .cons _ t => t
  | _, _, n + 1, .cons r t => .cons r (RelDs.eraseIdx n t)
theorem RelDs.reverse {ds : List D} {vs : List V} (r : RelDs G H ι ds vs) : RelDs G H ι ds.reverse vs.reverse := by
  induction ds generalizing vs with
  | nil => cases r; exact .nil
  | cons d ds ih =>
    cases r with
    | cons q t =>
      rw [List.reverse_cons, List.reverse_cons]
      exact (ih t).append (.cons q .nil)
theorem RelDs.one {d : D} {v : V} (r : RelD G H ι d v) : RelDs G H ι [d] [v] := .cons r .nil
end

/-! ### named things: fields, dicts -/
def RelF {κ : Type} (G : Gd) (H : Hp) (ι : List Addr) : List (κ × D) → List (κ × V) → Prop
  | [], [] => True
  | (f, d) :: r, (g, v) :: s => f = g ∧ RelD G H ι d v ∧ RelF G H ι r s
  | _, _ => False
section
variable {κ : Type} {G : Gd} {H H' : Hp} {ι ι' : List Addr}
theorem RelF.mono (p : ι <+: ι') (k : Keep G.K H H') : ∀ {fs : List (κ × D)} {gs : List (κ × V)}, RelF G H ι fs gs → RelF G H' ι' fs gs
  | [], [], _ => True.intro
  | (_, _) :: _, (_, _) :: _, h => ⟨h.1, h.2.1.mono p k, RelF.mono p k h.2.2⟩
  | [], _ :: _, h => h
  | _ :: _, [], h => h
theorem RelF.length : ∀ {fs : List (κ × D)} {gs : List (κ × V)}, RelF G H ι fs gs → fs.length = gs.length
  | [], [], _ => rfl
  | (_, _) :: _, (_, _) :: _, h => congrArg (· + 1) (RelF.length h.2.2)
  | [], _ :: _, h => h.elim
  | _ :: _, [], h => h.elim
end
/-! ### the attributes of an instance -/
def RelI (G : Gd) (H : Hp) (ι : List Addr) : List (Nat × D) → List (Str × V) → Prop
  | [], [] => True
  | (i, d) :: r, (g, v) :: s => (i < G.T.nf ∧ G.T.nm i = g) ∧ RelD G H ι d v ∧ RelI G H ι r s
  | _, _ => False
/-- the names are told apart -/
def NmOk (T : TabI) : Prop := ∀ i j, i < T.nf → j < T.nf → T.nm i = T.nm j → i = j
def getI {α : Type} : List (Nat × α) → Nat → Option α
  | [], _ => none
  | (j, v) :: r, i => if j = i then some v else getI r i
def putI {α : Type} (i : Nat) (v : α) : List (Nat × α) → List (Nat × α)
  | [] => [(i, v)]
  | (j, u) :: r => if j = i then (j, v) :: r else (j, u) :: putI i v r
section
variable {G : Gd} {H H' : Hp} {ι ι' : List Addr}
theorem RelI.mono (p : ι <+: ι') (k : Keep G.K H H') : ∀ {fs : List (Nat × D)} {gs : List (Str × V)}, RelI G H ι fs gs → RelI G H' ι' fs gs
  | [], [], _ => True.intro
  | (_, _) :: _, (_, _) :: _, h => ⟨h.1, h.2.1.mono p k, RelI.mono p k h.2.2⟩
  | [], _ :: _, h => h
  | _ :: _, [], h => h
theorem RelI.length : ∀ {fs : List (Nat × D)} {gs : List (Str × V)}, RelI G H ι fs gs → fs.length = gs.length
  | [], [], _ => rfl
  | (_, _) :: _, (_, _) :: _, h => congrArg (· + 1) (RelI.length h.2.2)
  | [], _ :: _, h => h.elim
  | _ :: _, [], h => h.elim
theorem RelI.lookup {i : Nat} (N : NmOk G.T) (hi : i < G.T.nf) : ∀ {fs : List (Nat × D)} {gs : List (Str × V)}, RelI G H ι fs gs →
    (getI fs i = none ∧ gs.lookup (G.T.nm i) = none) ∨ ∃ d v, getI fs i = some d ∧ gs.lookup (G.T.nm i) = some v ∧ RelD G H ι d v
  | [], [], _ => .inl ⟨rfl, rfl⟩
  | (a, d) :: r, (b, v) :: s, h => by
    obtain ⟨⟨ha, rfl⟩, h1, h2⟩ := h
    by_cases e : a = i
    · subst e
      exact .inr ⟨d, v, by simp [getI], by simp [List.lookup], h1⟩
    · have e' : (G.T.nm i == G.T.nm a) = false := by
        rw [beq_eq_false_iff_ne]
        exact fun q => e (N a i ha hi q.symm)
      rcases RelI.lookup N hi h2 with ⟨x, y⟩ | ⟨d', v', x, y, z⟩
      · exact .inl ⟨by simp only [getI, if_neg e]; exact x, by simp only [List.lookup, e']; exact y⟩
      · exact .inr ⟨d', v', by simp only [getI, if_neg e]; exact x, by simp only [List.lookup, e']; exact y, z⟩
  | [], _ :: _, h => h.elim
  | _ :: _, [], h => h.elim
theorem RelI.put {i : Nat} (N : NmOk G.T) (hi : i < G.T.nf) {d : D} {v : V} (r : RelD G H ι d v) : ∀ {fs : List (Nat × D)} {gs : List (Str × V)}, RelI G H ι fs gs → RelI G H ι (putI i d fs) (putF (G.T.nm i) v gs)
  | [], [], _ => ⟨⟨hi, rfl⟩, r, True.intro⟩
  | (a, d') :: r', (b, v') :: s, h => by
    obtain ⟨⟨ha, rfl⟩, h1, h2⟩ := h
    by_cases e : a = i
    · subst e
      simp only [putI, putF, if_true]
      exact ⟨⟨ha, rfl⟩, r, h2⟩
    · have e' : ¬ G.T.nm a = G.T.nm i := fun q => e (N a i ha hi q)
      simp only [putI, putF, if_neg e, if_neg e']
      exact ⟨⟨ha, rfl⟩, h1, RelI.put N hi r h2⟩
  | [], _ :: _, h => h.elim
  | _ :: _, [], h => h.elim
end
end Eng
set_option Elab.async false
set_option linter.all false
set_option maxRecDepth 100000
set_option autoImplicit false
/-! E2: the store in the abstract heap; what a simulated piece is worth. -/
namespace Eng
open PySem L2
def ObjD (G : Gd) (H : Hp) (ι : List Addr) (a : Addr) : O → Prop
  | .lst xs => ∃ ys, H a = some (.lst ys) ∧ RelDs G H ι xs ys
  | .ins c fs => ∃ C dx gs, G.T.ca c = some C ∧ H a = some (.ins C dx gs) ∧ RelI G H ι fs gs
  | .dK kvs => ∃ gs, H a = some (.dK gs) ∧ RelF G H ι kvs gs
  | .dT kvs => ∃ gs, H a = some (.dT gs) ∧ RelF G H ι kvs gs
  | .exc c none => ∃ C, G.T.xa c = some C ∧ H a = some (exo a C none)
  | .exc c (some m) => ∃ C d, G.T.xa c = some C ∧ ι[m]? = some d ∧ H a = some (exo a C (some d))
  | .xds fs => ∃ gs, H a = some (exd a gs) ∧ RelI G H ι fs gs
section
variable {G : Gd} {H H' : Hp} {ι ι' : List Addr} {a : Addr} {o : O}
theorem ObjD.mono (p : ι <+: ι') (k : Keep G.K H H') (e : H' a = H a) (h : ObjD G H ι a o) : ObjD G H' ι' a o := by
  cases o with
  | lst xs => obtain ⟨ys, h1, h2⟩ := h; exact ⟨ys, e.trans h1, h2.mono p k⟩
  | ins c fs => obtain ⟨C, dx, gs, h0, h1, h2⟩ := h; exact ⟨C, dx, gs, h0, e.trans h1, h2.mono p k⟩
  | dK kvs => obtain ⟨ys, h1, h2⟩ := h; exact ⟨ys, e.trans h1, h2.mono p k⟩
  | dT kvs => obtain ⟨ys, h1, h2⟩ := h; exact ⟨ys, e.trans h1, h2.mono p k⟩
  | exc c m =>
    cases m with
    | none => obtain ⟨C, h0, h1⟩ := h; exact ⟨C, h0, e.trans h1⟩
    | some m => obtain ⟨C, d, h0, h1, h2⟩ := h; exact ⟨C, d, h0, pre_get p h1, e.trans h2⟩
  | xds fs => obtain ⟨gs, h1, h2⟩ := h; exact ⟨gs, e.trans h1, h2.mono p k⟩
theorem ObjD.isM (h : ObjD G H ι a o) : ∃ u, H a = some u ∧ Eng.isM u = true := by
  cases o with
  | lst xs => obtain ⟨ys, h1, h2⟩ := h; exact ⟨_, h1, rfl⟩
  | ins c fs => obtain ⟨C, dx, gs, h0, h1, h2⟩ := h; exact ⟨_, h1, rfl⟩
  | dK kvs => obtain ⟨ys, h1, h2⟩ := h; exact ⟨_, h1, rfl⟩
  | dT kvs => obtain ⟨ys, h1, h2⟩ := h; exact ⟨_, h1, rfl⟩
  | exc c m =>
    cases m with
    | none => obtain ⟨C, h0, h1⟩ := h; exact ⟨_, h1, rfl⟩
    | some m => obtain ⟨C, d, h0, h1, h2⟩ := h; exact ⟨_, h2, rfl⟩
  | xds fs => obtain ⟨gs, h1, h2⟩ := h; exact ⟨_, h1, rfl⟩
end
structure StOk (G : Gd) (H : Hp) (ι : List Addr) (st : List O) : Prop where
  len : ι.length = st.length
  nd : ι.Nodup
  obj : ∀ (n : Nat) (a : Addr) (o : O), ι[n]? = some a → st[n]? = some o → ObjD G H ι a o
section
variable {G : Gd} {H H' : Hp} {ι : List Addr} {st : List O}
theorem StOk.at (S : StOk G H ι st) {n : Nat} {a : Addr} (h : ι[n]? = some a) : ∃ o, st[n]? = some o ∧ ObjD G H ι a o := by
  obtain ⟨hn, _⟩ := List.getElem?_eq_some_iff.mp h
  have hn' : n < st.length := by rw [← S.len]; exact hn
  exact ⟨st[n], by simp [hn'], S.obj n a _ h (by simp [hn'])⟩
theorem StOk.to (S : StOk G H ι st) {n : Nat} {o : O} (h : st[n]? = some o) : ∃ a, ι[n]? = some a ∧ ObjD G H ι a o := by
  obtain ⟨hn, _⟩ := List.getElem?_eq_some_iff.mp h
  have hn' : n < ι.length := by rw [S.len]; exact hn
  exact ⟨ι[n], by simp [hn'], S.obj n _ o (by simp [hn']) h⟩
theorem StOk.mem (S : StOk G H ι st) {a : Addr} (h : a ∈ ι) : ∃ u, H a = some u ∧ Eng.isM u = true := by
  obtain ⟨n, hn, e⟩ := List.getElem_of_mem h
  obtain ⟨o, _, q⟩ := S.at (n := n) (a := a) (by simp [hn, e])
  exact q.isM
theorem StOk.notin (S : StOk G H ι st) {a : Addr} (h : ∀ u, H a = some u → Eng.isM u = false) : a ∉ ι := fun m => by
  obtain ⟨u, e, q⟩ := S.mem m
  rw [h u e] at q
  cases q
/-- an address that is no label's has changed, or come -/
theorem StOk.other (S : StOk G H ι st) {p : Addr} {u : HO} (hp : p ∉ ι) (hm : mutO (H p) = true) : StOk G (upd H p u) ι st := by
  refine ⟨S.len, S.nd, fun n a o h1 h2 => (S.obj n a o h1 h2).mono List.prefix_rfl (Keep.upd hm) ?_⟩
  rw [upd_ne]
  intro e
  subst e
  exact hp (List.mem_of_getElem? h1)
theorem StOk.notnew (S : StOk G H ι st) {p : Addr} (hp : H p = none) : p ∉ ι := S.notin fun u e => by rw [hp] at e; cases e
/-- a new thing without a label -/
theorem StOk.side (S : StOk G H ι st) {p : Addr} {u : HO} (hp : H p = none) : StOk G (upd H p u) ι st :=
  S.other (S.notnew hp) (by rw [hp]; rfl)
/-- a new object with a label, at an address that no label has -/
theorem StOk.laid (S : StOk G H ι st) {p : Addr} {o : O} (hp : p ∉ ι) (ob : ObjD G H (ι ++ [p]) p o) : StOk G H (ι ++ [p]) (st ++ [o]) := by
  refine ⟨by simp [S.len], ?_, fun n a x h1 h2 => ?_⟩
  · rw [List.nodup_append]
    refine ⟨S.nd, by simp, fun x hx y hy e => ?_⟩
    simp at hy
    subst hy
    subst e
    exact hp hx
  · by_cases hn : n < ι.length
    · rw [List.getElem?_append_left hn] at h1
      rw [List.getElem?_append_left (by rw [← S.len]; exact hn)] at h2
      exact (S.obj n a x h1 h2).mono (List.prefix_append _ _) Keep.refl rfl
    · have hn2 : n < (ι ++ [p]).length := (List.getElem?_eq_some_iff.mp h1).1
      have e : n = ι.length := by simp at hn2; omega
      subst e
      rw [List.getElem?_append_right (Nat.le_refl _)] at h1
      rw [S.len, List.getElem?_append_right (Nat.le_refl _)] at h2
      simp at h1 h2
      subst h1
      subst h2
      exact ob
/-- a new object with a label -/
theorem StOk.new (S : StOk G H ι st) {p : Addr} {u : HO} {o : O} (hp : H p = none) (ob : ObjD G (upd H p u) (ι ++ [p]) p o) : StOk G (upd H p u) (ι ++ [p]) (st ++ [o]) :=
  (S.side hp).laid (S.notnew hp) ob
/-- an object has changed -/
theorem StOk.set (S : StOk G H ι st) {n : Nat} {a : Addr} {u : HO} {o : O} (h : ι[n]? = some a) (ob : ObjD G (upd H a u) ι a o) : StOk G (upd H a u) ι (st.set n o) ∧ Keep G.K H (upd H a u) := by
  have hm : mutO (H a) = true := by
    obtain ⟨v, e, q⟩ := S.mem (List.mem_of_getElem? h)
    rw [e]
    exact q
  refine ⟨⟨by simp [S.len], S.nd, fun m b x h1 h2 => ?_⟩, Keep.upd hm⟩
  by_cases e : m = n
  · subst e
    rw [h] at h1
    cases h1
    have hl : m < st.length := by
      have := (List.getElem?_eq_some_iff.mp h).1
      rw [S.len] at this
      exact this
    rw [List.getElem?_set_self hl] at h2
    cases h2
    exact ob
  · rw [List.getElem?_set_ne (Ne.symm e)] at h2
    refine (S.obj m b x h1 h2).mono List.prefix_rfl (Keep.upd hm) (upd_ne ?_)
    intro z
    subst z
    obtain ⟨i1, j1⟩ := List.getElem?_eq_some_iff.mp h
    obtain ⟨i2, j2⟩ := List.getElem?_eq_some_iff.mp h1
    exact e ((List.getElem_inj S.nd).mp (j2.trans j1.symm))
end
abbrev Sl := List (Option D)
structure EnvOk (G : Gd) (H : Hp) (ι : List Addr) (env : Sl) (σ : St) : Prop where
  len : env.length = σ.length
  get : ∀ (i : Nat) (d : D), env[i]? = some (some d) → ∃ x, σ[i]? = some (some x) ∧ RelD G H ι d x
section
variable {G : Gd} {H H' : Hp} {ι ι' : List Addr} {env : Sl} {σ : St}
theorem EnvOk.mono (h : EnvOk G H ι env σ) (p : ι <+: ι') (k : Keep G.K H H') : EnvOk G H' ι' env σ :=
  ⟨h.len, fun i d e => let ⟨x, e1, r⟩ := h.get i d e; ⟨x, e1, r.mono p k⟩⟩
theorem EnvOk.set (h : EnvOk G H ι env σ) {i : Nat} {d : D} {x : V} (r : RelD G H ι d x) : EnvOk G H ι (env.set i (some d)) (σ.set i (some x)) := by
  refine ⟨by simp [h.len], fun j e q => ?_⟩
  by_cases hj : i = j
  · subst hj
    have hl : i < (env.set i (some d)).length := (List.getElem?_eq_some_iff.mp q).1
    rw [List.length_set] at hl
    rw [List.getElem?_set_self hl] at q
    cases q
    exact ⟨x, List.getElem?_set_self (by rw [← h.len]; exact hl), r⟩
  · rw [List.getElem?_set_ne hj] at q
    obtain ⟨y, e1, r1⟩ := h.get j e q
    exact ⟨y, by rw [List.getElem?_set_ne hj]; exact e1, r1⟩
theorem EnvOk.wipe (h : EnvOk G H ι env σ) {i : Nat} : EnvOk G H ι (env.set i none) (σ.set i none) := by
  refine ⟨by simp [h.len], fun j e q => ?_⟩
  by_cases hj : i = j
  · subst hj
    have hl : i < (env.set i none).length := (List.getElem?_eq_some_iff.mp q).1
    rw [List.length_set] at hl
    rw [List.getElem?_set_self hl] at q
    cases q
  · rw [List.getElem?_set_ne hj] at q
    obtain ⟨y, e1, r1⟩ := h.get j e q
    exact ⟨y, by rw [List.getElem?_set_ne hj]; exact e1, r1⟩
end
/-! ### what a simulated piece is worth -/
abbrev Rs (α : Type) := Option (α × List O)
/-- one after the other -/
def bnd {α β : Type} (r : Rs α) (f : α → List O → Rs β) : Rs β := match r with
  | none => none
  | some (a, s) => f a s
@[simp] theorem bnd_none {α β : Type} (f : α → List O → Rs β) : bnd none f = none := rfl
@[simp] theorem bnd_some {α β : Type} (a : α) (s : List O) (f : α → List O → Rs β) : bnd (some (a, s)) f = f a s := rfl
theorem bnd_of {α β : Type} {r : Rs α} {f : α → List O → Rs β} {z : β × List O} (h : bnd r f = some z) : ∃ a s, r = some (a, s) ∧ f a s = some z := by
  cases r with
  | none => cases h
  | some p => exact ⟨p.1, p.2, rfl, h⟩
abbrev Ev := Sl → List O → Rs D
abbrev Et := Sl → List O → Rs Bool
abbrev Ea := Sl → List O → Rs (List D)
inductive Fl where
  | nx (env : Sl) | rt (d : D) | bk (env : Sl) | ct (env : Sl)
abbrev Es := Sl → List O → Rs Fl
/-- where one stands -/
structure At (G : Gd) (H : Hp) (ι : List Addr) (st : List O) (env : Sl) (σ : St) : Prop where
  s : StOk G H ι st
  e : EnvOk G H ι env σ
/-- what follows a value: wherever the store and the value stand -/
def After (G : Gd) (ι : List Addr) (H : Hp) (d : D) (st' : List O) (Q : VK) : Prop :=
  ∀ ι' H' x, ι <+: ι' → Keep G.K H H' → StOk G H' ι' st' → RelD G H' ι' d x → Q x H'
def tE (G : Gd) (f : Ev) : TE := fun σ H Q => ∃ ι st env d st', At G H ι st env σ ∧ f env st = some (d, st') ∧ After G ι H d st' Q
def tT (G : Gd) (f : Et) : TT := fun σ H Q => ∃ ι st env b st', At G H ι st env σ ∧ f env st = some (b, st') ∧ ∀ ι' H', ι <+: ι' → Keep G.K H H' → StOk G H' ι' st' → Q b H'
def tA (G : Gd) (f : Ea) : TA := fun σ H Q => ∃ ι st env ds st', At G H ι st env σ ∧ f env st = some (ds, st') ∧ ∀ ι' H' xs, ι <+: ι' → Keep G.K H H' → StOk G H' ι' st' → RelDs G H' ι' ds xs → Q xs H'
def EndsAt (G : Gd) (ι : List Addr) (H : Hp) (n : Nat) (fl : Fl) (st' : List O) (D : Ends) : Prop := match fl with
  | .nx env' => ∀ ι' H' σ', ι <+: ι' → Keep G.K H H' → StOk G H' ι' st' → EnvOk G H' ι' env' σ' → σ'.length = n → D.nx σ' H'
  | .bk env' => ∀ ι' H' σ', ι <+: ι' → Keep G.K H H' → StOk G H' ι' st' → EnvOk G H' ι' env' σ' → σ'.length = n → D.bk σ' H'
  | .ct env' => ∀ ι' H' σ', ι <+: ι' → Keep G.K H H' → StOk G H' ι' st' → EnvOk G H' ι' env' σ' → σ'.length = n → D.ct σ' H'
  | .rt d => After G ι H d st' D.rt
def tS (G : Gd) (f : Es) : TS := fun D σ H => ∃ ι st env fl st', At G H ι st env σ ∧ f env st = some (fl, st') ∧ EndsAt G ι H σ.length fl st' D
section
variable {G : Gd} {H H1 : Hp} {ι ι1 : List Addr} {d : D} {st : List O} {Q : VK}
theorem After.mono (h : After G ι H d st Q) (p : ι <+: ι1) (k : Keep G.K H H1) : After G ι1 H1 d st Q := fun ι' H' x p' k' S r => h ι' H' x (p.trans p') (k.trans k') S r
theorem At.mono {st1 : List O} {env : Sl} {σ : St} (a : At G H ι st env σ) (p : ι <+: ι1) (k : Keep G.K H H1) (S : StOk G H1 ι1 st1) : At G H1 ι1 st1 env σ := ⟨S, a.e.mono p k⟩
theorem EndsAt.mono {n : Nat} {fl : Fl} {D : Ends} (h : EndsAt G ι H n fl st D) (p : ι <+: ι1) (k : Keep G.K H H1) : EndsAt G ι1 H1 n fl st D := by
  cases fl with
  | nx env => exact fun ι' H' σ' p' k' S e l => h ι' H' σ' (p.trans p') (k.trans k') S e l
  | bk env => exact fun ι' H' σ' p' k' S e l => h ι' H' σ' (p.trans p') (k.trans k') S e l
  | ct env => exact fun ι' H' σ' p' k' S e l => h ι' H' σ' (p.trans p') (k.trans k') S e l
  | rt d => exact After.mono h p k
/-- the end is here -/
theorem After.here (h : After G ι H d st Q) (S : StOk G H ι st) {x : V} (r : RelD G H ι d x) : Q x H := h ι H x List.prefix_rfl Keep.refl S r
end
/-- another reading -/
theorem pe_imp {X : Cx} {e : Expr} {t t' : TE} (h : PE X e t) (i : ∀ σ H Q, t' σ H Q → t σ H Q) : PE X e t' := ⟨fun pins s σ H Q I q => h.run pins s σ H Q I (i σ H Q q)⟩
theorem pt_imp {X : Cx} {e : Expr} {t t' : TT} (h : PT X e t) (i : ∀ σ H Q, t' σ H Q → t σ H Q) : PT X e t' := ⟨fun pins s σ H Q I q => h.run pins s σ H Q I (i σ H Q q)⟩
theorem pw_imp {X : Cx} {e : Expr} {t t' : TT} (h : PW X e t) (i : ∀ σ H Q, t' σ H Q → t σ H Q) : PW X e t' := ⟨fun wh pins s σ H Q I q => h.run wh pins s σ H Q I (i σ H Q q)⟩
theorem pa_imp {X : Cx} {e : List Expr} {t t' : TA} (h : PA X e t) (i : ∀ σ H Q, t' σ H Q → t σ H Q) : PA X e t' := ⟨fun pos pins s σ H Q I q => h.run pos pins s σ H Q I (i σ H Q q)⟩
theorem ps_imp {X : Cx} {e : Stmt} {t t' : TS} (h : PS X e t) (i : ∀ D σ H, t' D σ H → t D σ H) : PS X e t' := ⟨fun pins s σ H D I q => h.run pins s σ H D I (i D σ H q)⟩
theorem pss_imp {X : Cx} {e : List Stmt} {t t' : TS} (h : PSs X e t) (i : ∀ D σ H, t' D σ H → t D σ H) : PSs X e t' := ⟨fun pins s σ H D I q => h.run pins s σ H D I (i D σ H q)⟩
end Eng
set_option Elab.async false
set_option linter.all false
set_option maxRecDepth 100000
set_option autoImplicit false
/-! E3: names, constants, operators. -/
namespace Eng
open PySem PySem.Spec PyProof.Rows L2

abbrev gd (T : TabI) (X : Cx) : Gd := ⟨X.K, X.mg, T⟩
/-! ### names and constants -/
def eSlot (i : Nat) : Ev := fun env st => match env[i]? with
  | some (some d) => some (d, st)
  | _ => none
def eC (d : D) : Ev := fun _ st => some (d, st)
section
variable {X : Cx} {T : TabI} {G : Gd}
theorem sim_slot {i : Nat} {x : Str} {pos : Pos} (hN : X.N[i]? = some x) (hv : Vis X.env.scope x) (hd : (x == ("__debug__" : Str)) = false) (hcd : (x == ("__classdict__" : Str)) = false) : PE X (.Name x pos) (tE G (eSlot i)) := by
  refine pe_imp (pe_var hN hv hd hcd) fun σ H Q h => ?_
  obtain ⟨ι, st, env, d, st', a, e, aft⟩ := h
  unfold eSlot at e
  cases q : env[i]? with
  | none => rw [q] at e; cases e
  | some o =>
    cases o with
    | none => rw [q] at e; cases e
    | some z =>
      rw [q] at e
      have e : some (z, st) = some (d, st') := e
      cases e
      obtain ⟨x, hx, r⟩ := a.e.get i _ q
      exact ⟨x, hx, aft.here a.s r⟩
theorem tC_of {d : D} {v : V} (r : ∀ H ι, RelD G H ι d v) : ∀ σ H Q, tE G (eC d) σ H Q → tC v σ H Q := fun σ H Q h => by
  obtain ⟨ι, st, env, d', st', a, e, aft⟩ := h
  cases e
  exact aft.here a.s (r H ι)
theorem sim_int {i : Int} {j pos} : PE X (.Constant (.int i) j pos) (tE G (eC (.int i))) := pe_imp pe_int (tC_of fun _ _ => .int i)
theorem sim_bl {b : Bool} {j pos} : PE X (.Constant (.bool b) j pos) (tE G (eC (.bl b))) := pe_imp pe_bl (tC_of fun _ _ => .bl b)
theorem sim_non {j pos} : PE X (.Constant .none j pos) (tE G (eC .non)) := pe_imp pe_non (tC_of fun _ _ => .non)
theorem sim_str {x : Str} {j pos} : PE X (.Constant (.str x) j pos) (tE G (eC (.str x))) := pe_imp pe_str (tC_of fun _ _ => .str x)
theorem sim_glob {x : Str} {d : D} {v : V} {u : Value} {pos : Pos} (hg : Gl X x) (hm : X.mg x = some u) (r : RelV v u) (rd : ∀ H ι, RelD G H ι d v) (hd : (x == ("__debug__" : Str)) = false) : PE X (.Name x pos) (tE G (eC d)) :=
  pe_imp (pe_glob hg hm r hd) (tC_of rd)
theorem sim_bltn {x : Str} {n : BT} {pos : Pos} (hg : Gl X x) (hm : X.mg x = none) (hv : bootBuiltins x = some (.type n.name)) (hn : x ≠ "__name__") (hd : (x == ("__debug__" : Str)) = false) : PE X (.Name x pos) (tE G (eC (.ty n))) :=
  pe_imp (pe_bltn hg hm hv (v := .ty n.name) rfl hn hd) (tC_of fun _ _ => .ty n)
end
/-! ### two values -/
abbrev F2 := D → D → List O → Rs D
def rD (G : Gd) (f : F2) : R2 := fun x y H Q => ∃ ι st d e v st', StOk G H ι st ∧ RelD G H ι d x ∧ RelD G H ι e y ∧ f d e st = some (v, st') ∧ After G ι H v st' Q
def eB (f : F2) (a b : Ev) : Ev := fun env st => bnd (a env st) fun x st => bnd (b env st) fun y st => f x y st
theorem tOp_of {G : Gd} {f : F2} {a b : Ev} : ∀ σ H Q, tE G (eB f a b) σ H Q → tOp (rD G f) (tE G a) (tE G b) σ H Q := fun σ H Q h => by
  obtain ⟨ι, st, env, d, st', at0, e, aft⟩ := h
  obtain ⟨x, st1, e1, e⟩ := bnd_of e
  obtain ⟨y, st2, e2, e⟩ := bnd_of e
  exact ⟨ι, st, env, x, st1, at0, e1, fun ι1 H1 xv p k S r => ⟨ι1, st1, env, y, st2, at0.mono p k S, e2, fun ι2 H2 yv p2 k2 S2 r2 =>
    ⟨ι2, st2, x, y, d, st', S2, r.mono p2 k2, r2, e, aft.mono (p.trans p2) (k.trans k2)⟩⟩⟩
section
variable {X : Cx} {T : TabI} {a b : Expr} {fa fb : Ev} {pos : Pos} {f : F2} {G : Gd}
theorem sim_bin {op : Operator} (ho : OpR X (binaryOp op) (rD G f)) (ha : PE X a (tE G fa)) (hb : PE X b (tE G fb)) : PE X (.BinOp a op b pos) (tE G (eB f fa fb)) := pe_imp (pe_op ho ha hb) tOp_of
theorem sim_cmp {op : CmpOp} (ho : OpR X (compareOp op) (rD G f)) (ha : PE X a (tE G fa)) (hb : PE X b (tE G fb)) (hm : behindInMarks op b = false) : PE X (.Compare a [op] [b] pos) (tE G (eB f fa fb)) := pe_imp (pe_cmpR ho ha hb hm) tOp_of
theorem sim_ix (ho : IxR X (rD G f)) (ha : PE X a (tE G fa)) (hb : PE X b (tE G fb)) (hs : PlainIx b) : PE X (.Subscript a b pos) (tE G (eB f fa fb)) := pe_imp (pe_ix ho ha hb hs) tOp_of
end
/-! ### the operators -/
def mulOk (i j : Int) : Bool := decide (i.natAbs < 2 ^ 64) || decide (j.natAbs < 2 ^ 64) || decide (i.natAbs.log2 + j.natAbs.log2 < 1000000)
def lstOf (st : List O) : D → Option (List D)
  | .ref n => match st[n]? with
    | some (.lst xs) => some xs
    | _ => none
  | .rol xs => some xs
  | _ => none
def fAdd : F2 := fun x y st => match x, y with
  | .int i, .int j => some (.int (i + j), st)
  | .str i, .str j => if i.length + j.length ≤ sizeLine then some (.str (i ++ j), st) else none
  | .tup xs, .tup ys => if xs.length + ys.length ≤ sizeLine then some (.tup (xs ++ ys), st) else none
  | a, b => match lstOf st a, lstOf st b with
    | some xs, some ys => if xs.length + ys.length ≤ sizeLine then some (.ref st.length, st ++ [.lst (xs ++ ys)]) else none
    | _, _ => none
def fSub : F2 := fun x y st => match x, y with
  | .int i, .int j => some (.int (i - j), st)
  | _, _ => none
def fMul : F2 := fun x y st => match x, y with
  | .int i, .int j => if mulOk i j then some (.int (i * j), st) else none
  | .ref n, .int k => match st[n]? with
    | some (.lst xs) => if -(2 ^ 63) ≤ k ∧ k < 2 ^ 63 ∧ xs.length * k.toNat ≤ sizeLine then some (.ref st.length, st ++ [.lst (List.replicate k.toNat xs).flatten]) else none
    | _ => none
  | _, _ => none
def fDiv : F2 := fun x y st => match x, y with
  | .int i, .int j => if 0 < j ∧ j.natAbs.log2 < 9000 then some (.int (i / j), st) else if j < 0 ∧ j.natAbs < 1073741824 then some (.int (i.fdiv j), st) else none
  | _, _ => none
def fMod : F2 := fun x y st => match x, y with
  | .int i, .int j => if 0 < j then some (.int (i % j), st) else if j < 0 then some (.int (i.fmod j), st) else none
  | _, _ => none
def fPow : F2 := fun x y st => match x, y with
  | .int i, .int j => if 0 ≤ j ∧ j ≤ 1000000 ∧ i.natAbs < 2 ^ 64 then some (.int (i ^ j.toNat), st) else none
  | _, _ => none
section
variable {X : Cx} {T : TabI}
theorem lstOf_rel {G : Gd} {H : Hp} {ι : List Addr} {st : List O} {d : D} {x : V} {xs : List D} (S : StOk G H ι st) (r : RelD G H ι d x) (e : lstOf st d = some xs) :
    ∃ a ys, x = .ref a ∧ SqL G.K H a ys ∧ RelDs G H ι xs ys := by
  cases r with
  | ref h =>
    rename_i n a
    obtain ⟨o, e1, ob⟩ := S.at h
    have e : (match st[n]? with | some (.lst xs) => some xs | _ => none) = some xs := e
    rw [e1] at e
    cases o with
    | lst zs =>
      have e : some zs = some xs := e
      cases e
      obtain ⟨ys, h1, h2⟩ := ob
      exact ⟨a, ys, rfl, .of h1, h2⟩
    | _ => cases e
  | rol h r =>
    cases e
    exact ⟨_, _, rfl, h.sqL, r⟩
  | _ => cases e
theorem op_catL : OpR X (binaryOp .Add) (fun x y H Q => ∃ l b xs zs, x = .ref l ∧ y = .ref b ∧ SqL X.K H l xs ∧ SqL X.K H b zs ∧ xs.length + zs.length ≤ sizeLine ∧ ∀ p, H p = none → Q (.ref p) (upd H p (.lst (xs ++ zs)))) := by
  intro pins s σ H x y v u Q I rx ry h
  obtain ⟨l, b, xs, zs, rfl, rfl, hH, hB, hz, q⟩ := h
  cases rx
  cases ry
  obtain ⟨its, r, pl, _⟩ := I.list hH
  obtain ⟨its2, r2, pl2, _⟩ := I.list hB
  obtain ⟨⟨cls, dd, data, sl⟩, n, ho, hc, _, hd⟩ := pl
  obtain ⟨⟨cls2, dd2, data2, sl2⟩, n2, ho2, hc2, _, hd2⟩ := pl2
  simp only at hc hd hc2 hd2
  subst hc hd hc2 hd2
  have hl1 := r.length
  have hl2 := r2.length
  refine concat_meets ⟨_, ho, rfl⟩ ⟨_, ho2, rfl⟩ noFill_list_add seq_list_add PySem.F.slot_list_add PySem.F.entry_list_add (PySem.F.args_list_add_2 _ _) (list_addW l b its.toArray its2.toArray n n2 dd dd2 sl sl2 (by rw [List.size_toArray, List.size_toArray]; omega)) ⟨ho, ho2, ?_⟩
  have ea : its.toArray ++ its2.toArray = (its ++ its2).toArray := by simp
  rw [ea]
  exact ⟨.ref _, _, I.lnew (t' := s.toks) (r.append r2) (by rw [List.length_append]; omega), rfl, q _ I.fresh⟩
theorem op_catT2 : OpR X (binaryOp .Add) (fun x y H Q => ∃ l b xs ys, x = .ref l ∧ y = .ref b ∧ SqT X.K H l xs ∧ SqT X.K H b ys ∧ xs.length + ys.length ≤ sizeLine ∧
    (xs = [] → Q (.ref b) H) ∧ (xs ≠ [] → ys = [] → Q (.ref l) H) ∧ (xs ≠ [] → ys ≠ [] → ∀ p, H p = none → Q (.ref p) (upd H p (.tup (xs ++ ys))))) := by
  intro pins s σ H x y v u Q I rx ry h
  obtain ⟨l, b, xs, ys, rfl, rfl, ha, hb, hz, q0, q1, q2⟩ := h
  by_cases hx : xs = []
  · cases rx
    cases ry
    obtain ⟨its, r, pl, _⟩ := I.tuple ha
    obtain ⟨its2, r2, pl2, _⟩ := I.tuple hb
    obtain ⟨⟨cls, dd, data, sl⟩, ho, hc, n, hd⟩ := pl
    obtain ⟨⟨cls2, dd2, data2, sl2⟩, ho2, hc2, n2, hd2⟩ := pl2
    simp only at hc hd hc2 hd2
    subst hc hd hc2 hd2
    refine concat_meets ⟨_, ho, rfl⟩ ⟨_, ho2, rfl⟩ noFill_tuple_add seq_tuple_add PySem.F.slot_tuple_add PySem.F.entry_tuple_add (PySem.F.args_tuple_add_2 _ _) (tuple_addW0 l b its.toArray its2.toArray n n2 dd dd2 sl sl2 (by have := r.nil_iff.mpr hx; rw [this]; rfl)) ⟨ho, ho2, ?_⟩
    exact ⟨.ref _, _, I, rfl, q0 hx⟩
  · exact op_catT pins s σ H _ _ v u Q I rx ry ⟨l, b, xs, ys, rfl, rfl, ha, hb, hx, hz, q1 hx, q2 hx⟩
theorem RelDs.nil_iff {G : Gd} {H : Hp} {ι : List Addr} {ds : List D} {vs : List V} (r : RelDs G H ι ds vs) : ds = [] ↔ vs = [] := by
  cases r <;> simp
theorem o_add : OpR X (binaryOp .Add) (rD (gd T X) fAdd) := by
  intro pins s σ H x y v u Q I rx ry h
  obtain ⟨ι, st, d, e, r, st', S, r1, r2, hf, aft⟩ := h
  unfold fAdd at hf
  split at hf
  · cases hf
    cases r1
    cases r2
    exact op_add pins s σ H _ _ v u Q I rx ry ⟨_, _, rfl, rfl, aft.here S (.int _)⟩
  · split at hf
    · cases hf
      cases r1
      cases r2
      exact op_add_str pins s σ H _ _ v u Q I rx ry ⟨_, _, rfl, rfl, by assumption, aft.here S (.str _)⟩
    · cases hf
  · rename_i xs ys
    split at hf
    · rename_i hz
      cases hf
      cases r1 with
      | tup h1 q1 =>
        cases r2 with
        | tup h2 q2 =>
          refine op_catT2 pins s σ H _ _ v u Q I rx ry ⟨_, _, _, _, rfl, rfl, h1, h2, by rw [← q1.length, ← q2.length]; exact hz, fun e => ?_, fun e1 e2 => ?_, fun e1 e2 p hp => ?_⟩
          · have := q1.nil_iff.mpr e
            subst this
            exact aft.here S (.tup h2 q2)
          · have := q2.nil_iff.mpr e2
            subst this
            rw [List.append_nil] at aft
            exact aft.here S (.tup h1 q1)
          · exact aft ι _ _ List.prefix_rfl (Keep.new hp) (S.side hp) (.tup (.of upd_same) ((q1.append q2).mono List.prefix_rfl (Keep.new hp)))
    · cases hf
  · split at hf
    · rename_i xs ys ex ey
      split at hf
      · rename_i hz
        cases hf
        obtain ⟨a, us, rfl, h1, q1⟩ := lstOf_rel S r1 ex
        obtain ⟨b, ws, rfl, h2, q2⟩ := lstOf_rel S r2 ey
        refine op_catL pins s σ H _ _ v u Q I rx ry ⟨_, _, _, _, rfl, rfl, h1, h2, by rw [← q1.length, ← q2.length]; exact hz, fun p hp => ?_⟩
        refine aft (ι ++ [p]) _ _ (List.prefix_append _ _) (Keep.new hp) (S.new hp ⟨_, upd_same, (q1.append q2).mono (List.prefix_append _ _) (Keep.new hp)⟩) (.ref ?_)
        rw [← S.len]
        simp
      · cases hf
    · cases hf
theorem o_sub : OpR X (binaryOp .Sub) (rD (gd T X) fSub) := by
  intro pins s σ H x y v u Q I rx ry h
  obtain ⟨ι, st, d, e, r, st', S, r1, r2, hf, aft⟩ := h
  unfold fSub at hf
  split at hf
  · cases hf
    cases r1
    cases r2
    exact op_sub pins s σ H _ _ v u Q I rx ry ⟨_, _, rfl, rfl, aft.here S (.int _)⟩
  · cases hf
theorem rep_rel {G : Gd} {H : Hp} {ι : List Addr} {xs : List D} {ys : List V} (q : RelDs G H ι xs ys) : ∀ n : Nat, RelDs G H ι (List.replicate n xs).flatten (List.replicate n ys).flatten := by
  intro n
  induction n with
  | zero => exact .nil
  | succ n ih =>
    rw [List.replicate_succ, List.replicate_succ, List.flatten_cons, List.flatten_cons]
    exact q.append ih
theorem o_mul : OpR X (binaryOp .Mult) (rD (gd T X) fMul) := by
  intro pins s σ H x y v u Q I rx ry h
  obtain ⟨ι, st, d, e, r, st', S, r1, r2, hf, aft⟩ := h
  unfold fMul at hf
  split at hf
  · split at hf
    · rename_i hm
      cases hf
      cases r1
      cases r2
      unfold mulOk at hm
      simp only [Bool.or_eq_true, decide_eq_true_eq] at hm
      rcases hm with (hm | hm) | hm
      · exact op_mul pins s σ H _ _ v u Q I rx ry ⟨_, _, rfl, rfl, .inl ⟨by omega, by omega⟩, aft.here S (.int _)⟩
      · exact op_mul pins s σ H _ _ v u Q I rx ry ⟨_, _, rfl, rfl, .inr ⟨by omega, by omega⟩, aft.here S (.int _)⟩
      · exact op_mulW pins s σ H _ _ v u Q I rx ry ⟨_, _, rfl, rfl, hm, aft.here S (.int _)⟩
    · cases hf
  · split at hf
    · rename_i xs ex
      split at hf
      · rename_i hz
        cases hf
        cases r1 with
        | ref hn =>
          cases r2
          obtain ⟨o, e1, ob⟩ := S.at hn
          rw [ex] at e1
          cases e1
          obtain ⟨ys, h1, h2⟩ := ob
          refine op_rep pins s σ H _ _ v u Q I rx ry ⟨_, _, _, rfl, rfl, h1, hz.1, hz.2.1, by rw [← h2.length]; exact hz.2.2, fun p hp => ?_⟩
          refine aft (ι ++ [p]) _ _ (List.prefix_append _ _) (Keep.new hp) (S.new hp ⟨_, upd_same, ?_⟩) (.ref ?_)
          · exact rep_rel (h2.mono (List.prefix_append _ _) (Keep.new hp)) _
          · rw [← S.len]
            simp
      · cases hf
    · cases hf
  · cases hf
theorem o_div : OpR X (binaryOp .FloorDiv) (rD (gd T X) fDiv) := by
  intro pins s σ H x y v u Q I rx ry h
  obtain ⟨ι, st, d, e, r, st', S, r1, r2, hf, aft⟩ := h
  unfold fDiv at hf
  split at hf
  · split at hf
    · rename_i hc
      cases hf
      cases r1
      cases r2
      exact op_fdivW pins s σ H _ _ v u Q I rx ry ⟨_, _, rfl, rfl, hc, aft.here S (.int _)⟩
    · split at hf
      · rename_i hc
        cases hf
        cases r1
        cases r2
        exact op_fdivN pins s σ H _ _ v u Q I rx ry ⟨_, _, rfl, rfl, ⟨by omega, hc.2⟩, aft.here S (.int _)⟩
      · cases hf
  · cases hf
theorem o_mod : OpR X (binaryOp .Mod) (rD (gd T X) fMod) := by
  intro pins s σ H x y v u Q I rx ry h
  obtain ⟨ι, st, d, e, r, st', S, r1, r2, hf, aft⟩ := h
  unfold fMod at hf
  split at hf
  · split at hf
    · rename_i hc
      cases hf
      cases r1
      cases r2
      exact op_mod pins s σ H _ _ v u Q I rx ry ⟨_, _, rfl, rfl, hc, aft.here S (.int _)⟩
    · split at hf
      · rename_i hc
        cases hf
        cases r1
        cases r2
        exact op_modN pins s σ H _ _ v u Q I rx ry ⟨_, _, rfl, rfl, by omega, aft.here S (.int _)⟩
      · cases hf
  · cases hf
theorem o_pow : OpR X (binaryOp .Pow) (rD (gd T X) fPow) := by
  intro pins s σ H x y v u Q I rx ry h
  obtain ⟨ι, st, d, e, r, st', S, r1, r2, hf, aft⟩ := h
  unfold fPow at hf
  split at hf
  · split at hf
    · rename_i hc
      cases hf
      cases r1
      cases r2
      exact op_pow pins s σ H _ _ v u Q I rx ry ⟨_, _, rfl, rfl, hc, aft.here S (.int _)⟩
    · cases hf
  · cases hf
/-- the operators that are served -/
def binF : Operator → Option F2
  | .Add => some fAdd
  | .Sub => some fSub
  | .Mult => some fMul
  | .FloorDiv => some fDiv
  | .Mod => some fMod
  | .Pow => some fPow
  | _ => none
theorem binF_ok {op : Operator} {f : F2} (h : binF op = some f) : OpR X (binaryOp op) (rD (gd T X) f) := by
  cases op <;> first
    | (cases h; exact o_add)
    | (cases h; exact o_sub)
    | (cases h; exact o_mul)
    | (cases h; exact o_div)
    | (cases h; exact o_mod)
    | (cases h; exact o_pow)
    | cases h
end
/-! ### one value -/
abbrev F1 := D → List O → Rs D
def eU (f : F1) (a : Ev) : Ev := fun env st => bnd (a env st) fun x st => f x st
def rD1 (G : Gd) (f : F1) : V → Hp → VK → Prop := fun x H Q => ∃ ι st d v st', StOk G H ι st ∧ RelD G H ι d x ∧ f d st = some (v, st') ∧ After G ι H v st' Q
theorem tU_of {G : Gd} {f : F1} {a : Ev} : ∀ σ H Q, tE G (eU f a) σ H Q → tE G a σ H (fun x H1 => rD1 G f x H1 Q) := fun σ H Q h => by
  obtain ⟨ι, st, env, d, st', at0, e, aft⟩ := h
  obtain ⟨x, st1, e1, e⟩ := bnd_of e
  exact ⟨ι, st, env, x, st1, at0, e1, fun ι1 H1 xv p k S r => ⟨ι1, st1, x, d, st', S, r, e, aft.mono p k⟩⟩
def fNeg : F1 := fun x st => match x with
  | .int i => some (.int (-i), st)
  | _ => none
section
variable {X : Cx} {T : TabI} {a : Expr} {fa : Ev} {pos : Pos}
theorem sim_neg (ha : PE X a (tE (gd T X) fa)) : PE X (.UnaryOp .USub a pos) (tE (gd T X) (eU fNeg fa)) := by
  refine pe_imp (pe_un un_neg ha) fun σ H Q h => ?_
  obtain ⟨ι, st, env, d, st', at0, e, aft⟩ := tU_of σ H Q h
  refine ⟨ι, st, env, d, st', at0, e, fun ι1 H1 xv p k S r => ?_⟩
  obtain ⟨ι2, st2, d2, v2, st3, S2, r2, hf, aft2⟩ := aft ι1 H1 xv p k S r
  unfold fNeg at hf
  split at hf
  · cases hf
    cases r2
    exact ⟨_, rfl, aft2.here S2 (.int _)⟩
  · cases hf
end
end Eng
set_option Elab.async false
set_option linter.all false
set_option maxRecDepth 100000
set_option autoImplicit false
/-! E4: comparisons, tests, displays, subscripts, slices. -/
namespace Eng
open PySem PySem.Spec PyProof.Rows L2

/-! ### order -/
def fOrd (p : Int → Int → Bool) : F2 := fun x y st => match x, y with
  | .int i, .int j => some (.bl (p i j), st)
  | _, _ => none
def fLt : F2 := fOrd fun i j => decide (i < j)
def fLe : F2 := fOrd fun i j => decide (i ≤ j)
def fGt : F2 := fOrd fun i j => decide (j < i)
def fGe : F2 := fOrd fun i j => decide (j ≤ i)
section
variable {X : Cx} {T : TabI}
theorem o_ord {op : CmpOp} {p : Int → Int → Bool} (h : OpR X (compareOp op) (rI0 fun i j => .bl (p i j))) : OpR X (compareOp op) (rD (gd T X) (fOrd p)) := by
  intro pins s σ H x y v u Q I rx ry q
  obtain ⟨ι, st, d, e, r, st', S, r1, r2, hf, aft⟩ := q
  unfold fOrd at hf
  split at hf
  · cases hf
    cases r1
    cases r2
    exact h pins s σ H _ _ v u Q I rx ry ⟨_, _, rfl, rfl, aft.here S (.bl _)⟩
  · cases hf
end
/-! ### is None -/
def isNon : D → Bool
  | .non => true
  | _ => false
def fIs : F2 := fun x y st => match y with
  | .non => some (.bl (isNon x), st)
  | _ => none
def fIsNot : F2 := fun x y st => match y with
  | .non => some (.bl (!isNon x), st)
  | _ => none
theorem RelD.isNon {G : Gd} {H : Hp} {ι : List Addr} {d : D} {x : V} (r : RelD G H ι d x) : decide (x = .non) = Eng.isNon d := by
  cases r <;> rfl
section
variable {X : Cx} {T : TabI}
theorem o_is : OpR X (compareOp .Is) (rD (gd T X) fIs) := by
  intro pins s σ H x y v u Q I rx ry q
  obtain ⟨ι, st, d, e, r, st', S, r1, r2, hf, aft⟩ := q
  unfold fIs at hf
  split at hf
  · cases hf
    cases r2
    exact op_isN pins s σ H _ _ v u Q I rx ry ⟨rfl, by rw [r1.isNon]; exact aft.here S (.bl _)⟩
  · cases hf
theorem o_isnot : OpR X (compareOp .IsNot) (rD (gd T X) fIsNot) := by
  intro pins s σ H x y v u Q I rx ry q
  obtain ⟨ι, st, d, e, r, st', S, r1, r2, hf, aft⟩ := q
  unfold fIsNot at hf
  split at hf
  · cases hf
    cases r2
    exact op_notN pins s σ H _ _ v u Q I rx ry ⟨rfl, by rw [r1.isNon]; exact aft.here S (.bl _)⟩
  · cases hf
end
/-! ### in -/
def flatD : D → Bool
  | .non => true
  | .bl _ => true
  | .int _ => true
  | .str _ => true
  | _ => false
def eqF : D → D → Bool
  | .non, .non => true
  | .bl a, .bl b => a == b
  | .bl a, .int b => (if a then 1 else 0) == b
  | .int a, .bl b => a == (if b then 1 else 0)
  | .int a, .int b => a == b
  | .str a, .str b => a == b
  | _, _ => false
def inF (x : D) (xs : List D) : Bool := xs.any fun y => eqF y x
section
variable {G : Gd} {H : Hp} {ι : List Addr}
theorem RelD.flat {d : D} {v : V} (r : RelD G H ι d v) (h : flatD d = true) : flatV v = true := by
  cases r <;> first | rfl | cases h
theorem RelD.eqF {d e : D} {x y : V} (r : RelD G H ι d x) (q : RelD G H ι e y) (h : flatD d = true) (h' : flatD e = true) : eqV x y = Eng.eqF d e := by
  cases r <;> first | (cases h; done) | (cases q <;> first | (cases h'; done) | rfl)
theorem RelDs.flat {ds : List D} {vs : List V} (r : RelDs G H ι ds vs) (h : ds.all flatD = true) : vs.all flatV = true := by
  induction ds generalizing vs with
  | nil => cases r; rfl
  | cons d ds ih =>
    cases r with
    | cons q t =>
      rw [List.all_cons, Bool.and_eq_true] at h ⊢
      exact ⟨q.flat h.1, ih t h.2⟩
theorem RelDs.inF {ds : List D} {vs : List V} {d : D} {v : V} (r : RelDs G H ι ds vs) (q : RelD G H ι d v) (h : ds.all flatD = true) (hd : flatD d = true) : inV v vs = Eng.inF d ds := by
  unfold inV Eng.inF
  induction ds generalizing vs with
  | nil => cases r; rfl
  | cons e ds ih =>
    cases r with
    | cons q' t =>
      rw [List.all_cons, Bool.and_eq_true] at h
      rw [List.any_cons, List.any_cons, q'.eqF q h.1 hd, ih t h.2]
end
/-- a list or tuple that is read -/
def seqOf (st : List O) : D → Option (List D)
  | .tup xs => some xs
  | d => lstOf st d
theorem seqOf_rel {G : Gd} {H : Hp} {ι : List Addr} {st : List O} {d : D} {x : V} {xs : List D} (S : StOk G H ι st) (r : RelD G H ι d x) (e : seqOf st d = some xs) :
    ∃ a ys, x = .ref a ∧ (SqL G.K H a ys ∨ SqT G.K H a ys) ∧ RelDs G H ι xs ys := by
  cases d with
  | tup zs =>
    cases e
    cases r with
    | tup h q => exact ⟨_, _, rfl, .inr h, q⟩
  | _ =>
    obtain ⟨a, ys, h1, h2, h3⟩ := lstOf_rel S r e
    exact ⟨a, ys, h1, .inl h2, h3⟩
def keyD : D → Option Key
  | .int i => some (.inl i)
  | .str x => some (.inr x)
  | _ => none
def kD : Key → D
  | .inl i => .int i
  | .inr x => .str x
def keysD : List D → Option (List Key)
  | [] => some []
  | d :: r => match keyD d, keysD r with
    | some k, some ks => some (k :: ks)
    | _, _ => none
def valK {κ : Type} [DecidableEq κ] {α : Type} : List (κ × α) → κ → Option α
  | [], _ => none
  | (a, v) :: r, k => if a = k then some v else valK r k
def ng : Bool → Bool → Bool
  | true, b => !b
  | false, b => b
def fIn (neg : Bool) : F2 := fun x y st => match x, y with
  | .str i, .str j => match i.cps.toList with
    | [c] => some (.bl (ng neg (decide (c ∈ j.cps.toList))), st)
    | _ => some (.bl (ng neg (!(Builtin.Str.occurrences j i 0 j.length 1).isEmpty)), st)
  | x, .ref n => match st[n]? with
    | some (.lst xs) => if flatD x && xs.all flatD then some (.bl (ng neg (inF x xs)), st) else none
    | some (.dK kvs) => match keyD x with
      | some k => some (.bl (ng neg ((valK kvs k).isSome)), st)
      | none => none
    | _ => none
  | x, .tup xs => if flatD x && xs.all flatD then some (.bl (ng neg (inF x xs)), st) else none
  | x, .rol xs => if flatD x && xs.all flatD then some (.bl (ng neg (inF x xs)), st) else none
  | _, _ => none
section
variable {G : Gd} {H : Hp} {ι : List Addr}
theorem RelD.key {d : D} {x : V} {k : Key} (r : RelD G H ι d x) (h : keyD d = some k) : x = kV k := by
  cases r <;> first | (cases h; rfl) | cases h
theorem valK_rel {κ : Type} [DecidableEq κ] {k : κ} : ∀ {fs : List (κ × D)} {gs : List (κ × V)}, RelF G H ι fs gs →
    (valK fs k = none ∧ valV gs k = none) ∨ ∃ d v, valK fs k = some d ∧ valV gs k = some v ∧ RelD G H ι d v
  | [], [], _ => .inl ⟨rfl, rfl⟩
  | (a, d) :: r, (b, v) :: s, h => by
    obtain ⟨rfl, h1, h2⟩ := h
    by_cases e : a = k
    · exact .inr ⟨d, v, by simp [valK, e], valV_pos e, h1⟩
    · rw [valV_neg (p := (a, v)) e]
      have : valK ((a, d) :: r) k = valK r k := by simp [valK, e]
      rw [this]
      exact valK_rel h2
  | [], _ :: _, h => h.elim
  | _ :: _, [], h => h.elim
theorem valK_some {κ : Type} [DecidableEq κ] {k : κ} {fs : List (κ × D)} {gs : List (κ × V)} (h : RelF G H ι fs gs) : (valV gs k).isSome = (valK fs k).isSome := by
  rcases valK_rel (k := k) h with ⟨e1, e2⟩ | ⟨d, v, e1, e2, _⟩ <;> rw [e1, e2] <;> rfl
end
section
variable {X : Cx} {T : TabI}
theorem o_in (neg : Bool) (hu : X.A.units + 1 < cLine) : OpR X (compareOp (if neg then .NotIn else .In)) (rD (gd T X) (fIn neg)) := by
  intro pins s σ H x y v u Q I rx ry q
  obtain ⟨ι, st, d, e, r, st', S, r1, r2, hf, aft⟩ := q
  have seq : ∀ {xs : List D}, seqOf st e = some xs → (if flatD d && xs.all flatD then some ((D.bl (ng neg (inF d xs)), st) : D × List O) else none) = some (r, st') → wpAny (model X.prog X.w) X.A (compareOp (if neg then .NotIn else .In) v u) (EP X pins σ Q) X.xe s := by
    intro xs ex hf
    split at hf
    · rename_i hc
      cases hf
      rw [Bool.and_eq_true] at hc
      obtain ⟨a, ys, rfl, h1, h2⟩ := seqOf_rel S r2 ex
      have fl := r1.flat hc.1
      have fls := h2.flat hc.2
      have ei := h2.inF r1 hc.2 hc.1
      cases neg with
      | true => exact op_notIn_seq pins s σ H _ _ v u Q I rx ry ⟨a, ys, rfl, h1, fl, fls, by rw [ei]; exact aft.here S (.bl _)⟩
      | false => exact op_in_seq pins s σ H _ _ v u Q I rx ry ⟨a, ys, rfl, h1, fl, fls, by rw [ei]; exact aft.here S (.bl _)⟩
    · cases hf
  unfold fIn at hf
  split at hf
  · rename_i i j
    split at hf
    · rename_i c ec
      cases hf
      cases r1
      cases r2
      have ei : i = ⟨#[c]⟩ := by
        obtain ⟨cps⟩ := i
        congr
        simpa using congrArg List.toArray ec
      subst ei
      cases neg with
      | true => exact op_notIn_sign pins s σ H _ _ v u Q I rx ry ⟨c, j, rfl, rfl, aft.here S (.bl _)⟩
      | false => exact op_in_sign pins s σ H _ _ v u Q I rx ry ⟨c, j, rfl, rfl, aft.here S (.bl _)⟩
    · cases hf
      cases r1
      cases r2
      cases neg with
      | true => exact op_notin_str pins s σ H _ _ v u Q I rx ry ⟨_, _, rfl, rfl, aft.here S (.bl _)⟩
      | false => exact op_in_str pins s σ H _ _ v u Q I rx ry ⟨_, _, rfl, rfl, aft.here S (.bl _)⟩
  · rename_i n
    cases q : st[n]? with
    | none => rw [q] at hf; cases hf
    | some o =>
      rw [q] at hf
      cases o with
      | lst xs => exact seq (xs := xs) (by simp only [seqOf, lstOf]; rw [q]) hf
      | dK kvs =>
        dsimp only at hf
        split at hf
        · rename_i k ek
          cases hf
          cases r2 with
          | ref hn =>
            obtain ⟨o, e1, ob⟩ := S.at hn
            rw [q] at e1
            cases e1
            obtain ⟨gs, h1, h2⟩ := ob
            cases r1.key ek
            cases ry
            have es := valK_some (k := k) h2
            cases neg with
            | true => exact d_notIn hu I (DGet.k h1) rx fun s' I' => ⟨.bl _, H, I', rfl, by rw [es]; exact aft.here S (.bl _)⟩
            | false => exact d_in hu I (DGet.k h1) rx fun s' I' => ⟨.bl _, H, I', rfl, by rw [es]; exact aft.here S (.bl _)⟩
        · cases hf
      | _ => cases hf
  · exact seq (xs := _) rfl hf
  · exact seq (xs := _) rfl hf
  · cases hf
def cmpF (feq : F2) (fne : F2) : CmpOp → Option F2
  | .Eq => some feq
  | .NotEq => some fne
  | .Lt => some fLt
  | .LtE => some fLe
  | .Gt => some fGt
  | .GtE => some fGe
  | .Is => some fIs
  | .IsNot => some fIsNot
  | .In => some (fIn false)
  | .NotIn => some (fIn true)
theorem cmpF_ok {feq fne : F2} (heq : OpR X (compareOp .Eq) (rD (gd T X) feq)) (hne : OpR X (compareOp .NotEq) (rD (gd T X) fne)) (hu : X.A.units + 1 < cLine) {op : CmpOp} {f : F2} (h : cmpF feq fne op = some f) : OpR X (compareOp op) (rD (gd T X) f) := by
  cases op with
  | Eq => cases h; exact heq
  | NotEq => cases h; exact hne
  | Lt => cases h; exact o_ord op_lt
  | LtE => cases h; exact o_ord op_le
  | Gt => cases h; exact o_ord op_gt
  | GtE => cases h; exact o_ord op_ge
  | Is => cases h; exact o_is
  | IsNot => cases h; exact o_isnot
  | In => cases h; exact o_in false hu
  | NotIn => cases h; exact o_in true hu
end
end Eng
set_option Elab.async false
set_option linter.all false
set_option maxRecDepth 100000
set_option autoImplicit false
/-! E5: chains, tests, displays, arguments, subscripts, slices. -/
namespace Eng
open PySem PySem.Spec PyProof.Rows L2

/-! ### chains -/
def eCh (f g : F2) (a b c : Ev) : Ev := fun env st => bnd (a env st) fun x st => bnd (b env st) fun y st => bnd (f x y st) fun z st => match z with
  | .bl true => bnd (c env st) fun w st => g y w st
  | .bl false => some (.bl false, st)
  | _ => none
theorem tCh_of {G : Gd} {f g : F2} {a b c : Ev} : ∀ σ H Q, tE G (eCh f g a b c) σ H Q → tChain (rD G f) (rD G g) (tE G a) (tE G b) (tE G c) σ H Q := fun σ H Q h => by
  obtain ⟨ι, st, env, d, st', at0, e, aft⟩ := h
  obtain ⟨x, st1, e1, e⟩ := bnd_of e
  obtain ⟨y, st2, e2, e⟩ := bnd_of e
  obtain ⟨z, st3, e3, e⟩ := bnd_of e
  refine ⟨ι, st, env, x, st1, at0, e1, fun ι1 H1 xv p k S r => ⟨ι1, st1, env, y, st2, at0.mono p k S, e2, fun ι2 H2 yv p2 k2 S2 r2 =>
    ⟨ι2, st2, x, y, z, st3, S2, r.mono p2 k2, r2, e3, fun ι3 H3 zv p3 k3 S3 r3 => ?_⟩⟩⟩
  have P := p.trans (p2.trans p3)
  have Kp := k.trans (k2.trans k3)
  cases z with
  | bl bb =>
    cases r3
    refine ⟨bb, rfl, ?_⟩
    cases bb with
    | true =>
      obtain ⟨w, st4, e4, e⟩ := bnd_of e
      rw [if_pos rfl]
      exact ⟨ι3, st3, env, w, st4, at0.mono P Kp S3, e4, fun ι4 H4 wv p4 k4 S4 r4 => ⟨ι4, st4, y, w, d, st', S4, r2.mono (p3.trans p4) (k3.trans k4), r4, e, aft.mono (P.trans p4) (Kp.trans k4)⟩⟩
    | false =>
      cases e
      rw [if_neg Bool.false_ne_true]
      exact aft ι3 H3 _ P Kp S3 (.bl _)
  | _ => cases e
section
variable {X : Cx} {G : Gd} {a b c : Expr} {fa fb fc : Ev} {f g : F2} {pos : Pos}
theorem sim_chain {op op' : CmpOp} (ho : OpR X (compareOp op) (rD G f)) (ho' : OpR X (compareOp op') (rD G g)) (ha : PE X a (tE G fa)) (hb : PE X b (tE G fb)) (hc : PE X c (tE G fc)) (hm : lastMarks [op, op'] [b, c] = false) :
    PE X (.Compare a [op, op'] [b, c] pos) (tE G (eCh f g fa fb fc)) := pe_imp (pe_chain ho ho' ha hb hc hm) tCh_of
end
/-! ### tests -/
def tB (f : Ev) : Et := fun env st => bnd (f env st) fun d st => match d with
  | .bl b => some (b, st)
  | _ => none
theorem tB_of {G : Gd} {f : Ev} : ∀ σ H (Q : Bool → Hp → Prop), tT G (tB f) σ H Q → tE G f σ H (fun x H1 => ∃ k, x = .bl k ∧ Q k H1) := fun σ H Q h => by
  obtain ⟨ι, st, env, b, st', at0, e, aft⟩ := h
  obtain ⟨d, st1, e1, e⟩ := bnd_of e
  cases d with
  | bl bb =>
    cases e
    refine ⟨ι, st, env, _, st', at0, e1, fun ι' H' x p k S r => ?_⟩
    cases r
    exact ⟨_, rfl, aft ι' H' p k S⟩
  | _ => cases e
def tNo (t : Et) : Et := fun env st => bnd (t env st) fun b st => some (!b, st)
def tAn (t u : Et) : Et := fun env st => bnd (t env st) fun b st => match b with
  | true => u env st
  | false => some (false, st)
def tOr (t u : Et) : Et := fun env st => bnd (t env st) fun b st => match b with
  | true => some (true, st)
  | false => u env st
/-- a value's truth -/
def truth (st : List O) : D → Option Bool
  | .non => some false
  | .bl b => some b
  | .int i => some (i != 0)
  | .str y => if y.length ≤ sizeLine then some ((y.length : Int) != 0) else none
  | .tup xs => some !xs.isEmpty
  | .rol xs => some !xs.isEmpty
  | .ref n => match st[n]? with
    | some (.lst xs) => some !xs.isEmpty
    | some (.dK kvs) => some !kvs.isEmpty
    | _ => none
  | _ => none
def tV (f : Ev) : Et := fun env st => bnd (f env st) fun d st => match truth st d with
  | some b => some (b, st)
  | none => none
theorem isEmpty_rel {G : Gd} {H : Hp} {ι : List Addr} {ds : List D} {vs : List V} (r : RelDs G H ι ds vs) : ds.isEmpty = vs.isEmpty := by cases r <;> rfl
theorem isEmpty_relF {κ : Type} {G : Gd} {H : Hp} {ι : List Addr} : ∀ {ds : List (κ × D)} {vs : List (κ × V)}, RelF G H ι ds vs → ds.isEmpty = vs.isEmpty
  | [], [], _ => rfl
  | _ :: _, _ :: _, _ => rfl
  | [], _ :: _, h => h.elim
  | _ :: _, [], h => h.elim
theorem truth_rel {G : Gd} {H : Hp} {ι : List Addr} {st : List O} {d : D} {x : V} {b : Bool} (S : StOk G H ι st) (r : RelD G H ι d x) (e : truth st d = some b) : TruV G.K x H b := by
  cases r with
  | non => cases e; exact rfl
  | bl c => cases e; exact rfl
  | int i => cases e; exact rfl
  | str y =>
    unfold truth at e
    dsimp only at e
    split at e
    · rename_i hz
      cases e
      exact ⟨hz, rfl⟩
    · cases e
  | ty n => cases e
  | tup h q =>
    cases e
    exact .inr (.inl ⟨_, h, by rw [isEmpty_rel q]⟩)
  | rol h q =>
    cases e
    exact .inl ⟨_, h.sqL, by rw [isEmpty_rel q]⟩
  | cls h => cases e
  | ref h =>
    obtain ⟨o, e1, ob⟩ := S.at h
    unfold truth at e
    dsimp only at e
    rw [e1] at e
    cases o with
    | lst xs =>
      cases e
      obtain ⟨ys, h1, h2⟩ := ob
      exact .inl ⟨ys, .of h1, by rw [isEmpty_rel h2]⟩
    | dK kvs =>
      cases e
      obtain ⟨gs, h1, h2⟩ := ob
      exact .inr (.inr ⟨gs, h1, by rw [isEmpty_relF h2]⟩)
    | _ => cases e
def plainTest : Expr → Bool
  | .Name _ _ => true
  | .Call _ _ _ _ => true
  | .Attribute _ _ _ => true
  | .Subscript _ _ _ => true
  | .Constant _ _ _ => true
  | _ => false
section
variable {X : Cx} {T : TabI} {a b c : Expr} {fa fb fc : Ev} {f g : F2} {pos : Pos} {ta tb : Et} {rest : List Expr}
theorem simT_cmp {G : Gd} {op : CmpOp} (ho : OpR X (compareOp op) (rD G f)) (ha : PE X a (tE G fa)) (hb : PE X b (tE G fb)) (hm : behindInMarks op b = false) : PT X (.Compare a [op] [b] pos) (tT G (tB (eB f fa fb))) :=
  pt_imp (pt_cmpR ho ha hb hm) fun σ H Q h => tOp_of σ H _ (tB_of σ H Q h)
theorem simT_chain {G : Gd} {op op' : CmpOp} (ho : OpR X (compareOp op) (rD G f)) (ho' : OpR X (compareOp op') (rD G g)) (ha : PE X a (tE G fa)) (hb : PE X b (tE G fb)) (hc : PE X c (tE G fc)) (hm : lastMarks [op, op'] [b, c] = false) :
    PT X (.Compare a [op, op'] [b, c] pos) (tT G (tB (eCh f g fa fb fc))) := pt_imp (pt_chain ho ho' ha hb hc hm) fun σ H Q h => tCh_of σ H _ (tB_of σ H Q h)
theorem simT_not {G : Gd} (h : PT X a (tT G ta)) : PT X (.UnaryOp .Not a pos) (tT G (tNo ta)) := by
  refine pt_imp (pt_not h) fun σ H Q q => ?_
  obtain ⟨ι, st, env, b, st', at0, e, aft⟩ := q
  obtain ⟨d, st1, e1, e⟩ := bnd_of e
  cases e
  exact ⟨ι, st, env, d, _, at0, e1, aft⟩
theorem tAn_of {G : Gd} : ∀ σ H Q, tT G (tAn ta tb) σ H Q → tAnd (tT G ta) (tT G tb) σ H Q := fun σ H Q q => by
  obtain ⟨ι, st, env, b, st', at0, e, aft⟩ := q
  obtain ⟨d, st1, e1, e⟩ := bnd_of e
  refine ⟨ι, st, env, d, st1, at0, e1, fun ι1 H1 p k S => ?_⟩
  cases d with
  | true =>
    rw [if_pos rfl]
    exact ⟨ι1, st1, env, b, st', at0.mono p k S, e, fun ι2 H2 p2 k2 S2 => aft ι2 H2 (p.trans p2) (k.trans k2) S2⟩
  | false =>
    cases e
    rw [if_neg Bool.false_ne_true]
    exact aft ι1 H1 p k S
theorem tOr_of {G : Gd} : ∀ σ H Q, tT G (tOr ta tb) σ H Q → L2.tOr (tT G ta) (tT G tb) σ H Q := fun σ H Q q => by
  obtain ⟨ι, st, env, b, st', at0, e, aft⟩ := q
  obtain ⟨d, st1, e1, e⟩ := bnd_of e
  refine ⟨ι, st, env, d, st1, at0, e1, fun ι1 H1 p k S => ?_⟩
  cases d with
  | false =>
    rw [if_neg Bool.false_ne_true]
    exact ⟨ι1, st1, env, b, st', at0.mono p k S, e, fun ι2 H2 p2 k2 S2 => aft ι2 H2 (p.trans p2) (k.trans k2) S2⟩
  | true =>
    cases e
    rw [if_pos rfl]
    exact aft ι1 H1 p k S
theorem simW_and {G : Gd} (ha : PT X a (tT G ta)) (hb : PW X (.BoolOp .And (b :: rest) pos) (tT G tb)) : PW X (.BoolOp .And (a :: b :: rest) pos) (tT G (tAn ta tb)) := pw_imp (pw_and ha hb) tAn_of
theorem simW_or {G : Gd} (ha : PT X a (tT G ta)) (hb : PW X (.BoolOp .Or (b :: rest) pos) (tT G tb)) : PW X (.BoolOp .Or (a :: b :: rest) pos) (tT G (tOr ta tb)) := pw_imp (pw_or ha hb) tOr_of
theorem simT_val (ha : PE X a (tE (gd T X) fa)) (hp : plainTest a = true) : PT X a (tT (gd T X) (tV fa)) := by
  have he : ∀ whole, isTrue a X.env whole = (do let v ← whole; standAt a.pos; holding [v] (truthy v)) := by
    intro whole
    cases a <;> first | rfl | cases hp
  refine pt_imp (pt_truth ha he) fun σ H Q q => ?_
  obtain ⟨ι, st, env, b, st', at0, e, aft⟩ := q
  obtain ⟨d, st1, e1, e⟩ := bnd_of e
  refine ⟨ι, st, env, d, st1, at0, e1, fun ι1 H1 x p k S r => ?_⟩
  cases q : truth st1 d with
  | none => rw [q] at e; cases e
  | some bb =>
    rw [q] at e
    have e : some (bb, st1) = some (b, st') := e
    cases e
    exact ⟨_, truth_rel S r q, aft ι1 H1 p k S⟩
end
/-! ### and, or, not as values; a if t else b -/
def eAnd (a b : Ev) : Ev := fun env st => bnd (a env st) fun x st => match x with
  | .bl true => b env st
  | .bl false => some (.bl false, st)
  | _ => none
def eOr (a b : Ev) : Ev := fun env st => bnd (a env st) fun x st => match x with
  | .bl false => b env st
  | .bl true => some (.bl true, st)
  | _ => none
def eNot (a : Ev) : Ev := fun env st => bnd (a env st) fun x st => match x with
  | .bl b => some (.bl !b, st)
  | _ => none
def eIf (t : Et) (a b : Ev) : Ev := fun env st => bnd (t env st) fun k st => match k with
  | true => a env st
  | false => b env st
section
variable {X : Cx} {G : Gd} {a b c : Expr} {fa fb : Ev} {pos : Pos} {ta : Et} {rest : List Expr}
theorem sim_and (ha : PE X a (tE G fa)) (hb : PE X (.BoolOp .And (b :: rest) pos) (tE G fb)) : PE X (.BoolOp .And (a :: b :: rest) pos) (tE G (eAnd fa fb)) := by
  refine pe_imp (pe_and ha hb) fun σ H Q q => ?_
  obtain ⟨ι, st, env, v, st', at0, e, aft⟩ := q
  obtain ⟨d, st1, e1, e⟩ := bnd_of e
  refine ⟨ι, st, env, d, st1, at0, e1, fun ι1 H1 x p k S r => ?_⟩
  cases d with
  | bl bb =>
    cases r
    refine ⟨bb, rfl, ?_⟩
    cases bb with
    | true =>
      rw [if_pos rfl]
      exact ⟨ι1, st1, env, v, st', at0.mono p k S, e, aft.mono p k⟩
    | false =>
      cases e
      rw [if_neg Bool.false_ne_true]
      exact aft ι1 H1 _ p k S (.bl _)
  | _ => cases e
theorem sim_or (ha : PE X a (tE G fa)) (hb : PE X (.BoolOp .Or (b :: rest) pos) (tE G fb)) : PE X (.BoolOp .Or (a :: b :: rest) pos) (tE G (eOr fa fb)) := by
  refine pe_imp (pe_or ha hb) fun σ H Q q => ?_
  obtain ⟨ι, st, env, v, st', at0, e, aft⟩ := q
  obtain ⟨d, st1, e1, e⟩ := bnd_of e
  refine ⟨ι, st, env, d, st1, at0, e1, fun ι1 H1 x p k S r => ?_⟩
  cases d with
  | bl bb =>
    cases r
    refine ⟨bb, rfl, ?_⟩
    cases bb with
    | false =>
      rw [if_neg Bool.false_ne_true]
      exact ⟨ι1, st1, env, v, st', at0.mono p k S, e, aft.mono p k⟩
    | true =>
      cases e
      rw [if_pos rfl]
      exact aft ι1 H1 _ p k S (.bl _)
  | _ => cases e
theorem sim_not (ha : PE X a (tE G fa)) : PE X (.UnaryOp .Not a pos) (tE G (eNot fa)) := by
  refine pe_imp (pe_not ha) fun σ H Q q => ?_
  obtain ⟨ι, st, env, v, st', at0, e, aft⟩ := q
  obtain ⟨d, st1, e1, e⟩ := bnd_of e
  refine ⟨ι, st, env, d, st1, at0, e1, fun ι1 H1 x p k S r => ?_⟩
  cases d with
  | bl bb =>
    cases r
    cases e
    exact ⟨bb, rfl, aft ι1 H1 _ p k S (.bl _)⟩
  | _ => cases e
theorem sim_if (hc : PT X c (tT G ta)) (ha : PE X a (tE G fa)) (hb : PE X b (tE G fb)) : PE X (.IfExp c a b pos) (tE G (eIf ta fa fb)) := by
  refine pe_imp (pe_ifExp hc ha hb) fun σ H Q q => ?_
  obtain ⟨ι, st, env, v, st', at0, e, aft⟩ := q
  obtain ⟨d, st1, e1, e⟩ := bnd_of e
  refine ⟨ι, st, env, d, st1, at0, e1, fun ι1 H1 p k S => ?_⟩
  cases d with
  | true =>
    rw [if_pos rfl]
    exact ⟨ι1, st1, env, v, st', at0.mono p k S, e, aft.mono p k⟩
  | false =>
    rw [if_neg Bool.false_ne_true]
    exact ⟨ι1, st1, env, v, st', at0.mono p k S, e, aft.mono p k⟩
end
/-! ### arguments, displays -/
def aNil : Ea := fun _ st => some ([], st)
def aCons (a : Ev) (r : Ea) : Ea := fun env st => bnd (a env st) fun x st => bnd (r env st) fun xs st => some (x :: xs, st)
def eTup (as : Ea) : Ev := fun env st => bnd (as env st) fun xs st => if xs.length ≤ sizeLine then some (.tup xs, st) else none
def eLst (as : Ea) : Ev := fun env st => bnd (as env st) fun xs st => if xs.length ≤ sizeLine then some (.ref st.length, st ++ [.lst xs]) else none
def notStar : Expr → Bool
  | .Starred _ _ => false
  | _ => true
theorem starEach_cons {e : Expr} {es : List Expr} {env : Env} (h : notStar e = true) : starEach (e :: es) env = (false, eval e env) :: starEach es env := by
  cases e <;> first | rfl | cases h
section
variable {X : Cx} {G : Gd} {e : Expr} {es : List Expr} {fa : Ev} {as : Ea} {pos : Pos}
theorem simA_nil : PA X [] (tA G aNil) := by
  refine pa_imp pa_nil fun σ H Q q => ?_
  obtain ⟨ι, st, env, v, st', at0, e, aft⟩ := q
  cases e
  exact aft ι H [] List.prefix_rfl Keep.refl at0.s .nil
theorem tCons_of : ∀ σ H Q, tA G (aCons fa as) σ H Q → tCons (tE G fa) (tA G as) σ H Q := fun σ H Q q => by
  obtain ⟨ι, st, env, v, st', at0, e, aft⟩ := q
  obtain ⟨x, st1, e1, e⟩ := bnd_of e
  obtain ⟨xs, st2, e2, e⟩ := bnd_of e
  cases e
  exact ⟨ι, st, env, x, st1, at0, e1, fun ι1 H1 xv p k S r => ⟨ι1, st1, env, xs, _, at0.mono p k S, e2, fun ι2 H2 xvs p2 k2 S2 r2 => aft ι2 H2 _ (p.trans p2) (k.trans k2) S2 (.cons (r.mono p2 k2) r2)⟩⟩
theorem simA_cons (ha : PE X e (tE G fa)) (hr : PA X es (tA G as)) (hs : notStar e = true) : PA X (e :: es) (tA G (aCons fa as)) :=
  pa_imp (pa_cons ha hr (starEach_cons hs)) tCons_of
theorem sim_tup {k : Nat} (h : PA X es (tA G as)) : PE X (.Tuple es k pos) (tE G (eTup as)) := by
  refine pe_imp (pe_tup h) fun σ H Q q => ?_
  obtain ⟨ι, st, env, v, st', at0, e, aft⟩ := q
  obtain ⟨xs, st1, e1, e⟩ := bnd_of e
  split at e
  · rename_i hz
    cases e
    refine ⟨ι, st, env, xs, _, at0, e1, fun ι1 H1 ys p k S r => ⟨by rw [← r.length]; exact hz, fun q hq => ?_⟩⟩
    exact aft ι1 _ _ p (k.trans (Keep.new hq)) (S.side hq) (.tup (.of upd_same) (r.mono List.prefix_rfl (Keep.new hq)))
  · cases e
theorem sim_lst (h : PA X es (tA G as)) : PE X (.List es pos) (tE G (eLst as)) := by
  refine pe_imp (pe_lst h) fun σ H Q q => ?_
  obtain ⟨ι, st, env, v, st', at0, e, aft⟩ := q
  obtain ⟨xs, st1, e1, e⟩ := bnd_of e
  split at e
  · rename_i hz
    cases e
    refine ⟨ι, st, env, xs, _, at0, e1, fun ι1 H1 ys p k S r => ⟨by rw [← r.length]; exact hz, fun q hq => ?_⟩⟩
    refine aft (ι1 ++ [q]) _ _ (p.trans (List.prefix_append _ _)) (k.trans (Keep.new hq)) (S.new hq ⟨_, upd_same, r.mono (List.prefix_append _ _) (Keep.new hq)⟩) (.ref ?_)
    rw [← S.len]
    simp
  · cases e
end
/-! ### subscripts -/
def fIx : F2 := fun x y st => match x, y with
  | .str z, .int k => if z.length ≤ sizeLine then match atI z.cps.toList k with
      | some c => some (.str ⟨#[c]⟩, st)
      | none => none
    else none
  | .tup xs, .int k => match atI xs k with
    | some d => some (d, st)
    | none => none
  | .rol xs, .int k => match atI xs k with
    | some d => some (d, st)
    | none => none
  | .ref n, y => match st[n]? with
    | some (.lst xs) => match y with
      | .int k => match atI xs k with
        | some d => some (d, st)
        | none => none
      | _ => none
    | some (.dK kvs) => match keyD y with
      | some k => match valK kvs k with
        | some d => some (d, st)
        | none => none
      | none => none
    | _ => none
  | _, _ => none
theorem RelDs.atI {G : Gd} {H : Hp} {ι : List Addr} {ds : List D} {vs : List V} {k : Int} {d : D} (r : RelDs G H ι ds vs) (h : L2.atI ds k = some d) : ∃ v, L2.atI vs k = some v ∧ RelD G H ι d v := by
  unfold L2.atI at h ⊢
  rw [← r.length]
  cases q : ixN ds.length k with
  | none => rw [q] at h; cases h
  | some j =>
    rw [q] at h
    exact r.get h
section
variable {X : Cx} {T : TabI}
theorem ix_dict (hu : X.A.units + 1 < cLine) : IxR X (fun x y H Q => ∃ a v, x = .ref a ∧ DGet H a y (some v) ∧ Q v H) := by
  intro value slice pins s σ H x y v u Q I rx ry h hs
  obtain ⟨a, z, rfl, g, q⟩ := h
  cases rx
  exact tail_any (dict_typeIs I g) PySem.F.slot_dict_getitem.lookup (d_getItem hu I g ry fun w' s3 I3 rw' => ⟨z, H, I3, rw', q⟩) hs
theorem o_ix (hu : X.A.units + 1 < cLine) : IxR X (rD (gd T X) fIx) := by
  intro value slice pins s σ H x y v u Q I rx ry h hs
  obtain ⟨ι, st, d, e, r, st', S, r1, r2, hf, aft⟩ := h
  unfold fIx at hf
  split at hf
  · split at hf
    · rename_i hz
      split at hf
      · rename_i c ec
        cases hf
        cases r1
        cases r2
        exact ix_str value slice pins s σ H _ _ v u Q I rx ry ⟨_, _, _, rfl, rfl, hz, ec, aft.here S (.str _)⟩ hs
      · cases hf
    · cases hf
  · split at hf
    · rename_i d ed
      cases hf
      cases r2
      cases r1 with
      | tup h q =>
        obtain ⟨w, ew, rw'⟩ := q.atI ed
        exact ix_tup value slice pins s σ H _ _ v u Q I rx ry ⟨_, _, _, _, rfl, rfl, h, ew, aft.here S rw'⟩ hs
    · cases hf
  · split at hf
    · rename_i d ed
      cases hf
      cases r2
      cases r1 with
      | rol h q =>
        obtain ⟨w, ew, rw'⟩ := q.atI ed
        exact ix_list value slice pins s σ H _ _ v u Q I rx ry ⟨_, _, _, _, rfl, rfl, h.sqL, ew, aft.here S rw'⟩ hs
    · cases hf
  · rename_i n _
    cases r1 with
    | ref hn =>
      obtain ⟨o, e1, ob⟩ := S.at hn
      rw [e1] at hf
      cases o with
      | lst xs =>
        dsimp only at hf
        split at hf
        · split at hf
          · rename_i d ed
            cases hf
            cases r2
            obtain ⟨ys, h1, h2⟩ := ob
            obtain ⟨w, ew, rw'⟩ := h2.atI ed
            exact ix_list value slice pins s σ H _ _ v u Q I rx ry ⟨_, _, _, _, rfl, rfl, .of h1, ew, aft.here S rw'⟩ hs
          · cases hf
        · cases hf
      | dK kvs =>
        dsimp only at hf
        split at hf
        · rename_i k ek
          obtain ⟨gs, h1, h2⟩ := ob
          cases r2.key ek
          rcases valK_rel (k := k) h2 with ⟨q1, q2⟩ | ⟨d, w, q1, q2, rw'⟩
          · rw [q1] at hf
            cases hf
          · rw [q1] at hf
            cases hf
            exact ix_dict hu value slice pins s σ H _ _ v u Q I rx ry ⟨_, _, rfl, q2 ▸ DGet.k h1, aft.here S rw'⟩ hs
        · cases hf
      | _ => cases hf
  · cases hf
end
/-! ### slices -/
abbrev Eo := Sl → List O → Rs (Option Int)
def tO (G : Gd) (f : Eo) : TO := fun σ H Q => ∃ ι st env o st', At G H ι st env σ ∧ f env st = some (o, st') ∧ ∀ ι' H', ι <+: ι' → Keep G.K H H' → StOk G H' ι' st' → Q o H'
def oNone : Eo := fun _ st => some (none, st)
def oSome (a : Ev) : Eo := fun env st => bnd (a env st) fun d st => match d with
  | .int i => some (some i, st)
  | _ => none
theorem po_imp {X : Cx} {e : Option Expr} {t t' : TO} (h : PO X e t) (i : ∀ σ H Q, t' σ H Q → t σ H Q) : PO X e t' := ⟨fun pins s σ H Q I q => h.run pins s σ H Q I (i σ H Q q)⟩
def cutD (xs : List D) (lo hi : Option Int) : List D := (xs.drop (HT.sIx xs.length 0 lo)).take (HT.sIx xs.length xs.length hi - HT.sIx xs.length 0 lo)
def fSl (x : D) (lo hi : Option Int) (st : List O) : Rs D := match x with
  | .str z => if z.length ≤ sizeLine then some (.str (cutS z lo hi), st) else none
  | .tup xs => if HT.sIx xs.length 0 lo = 0 ∧ HT.sIx xs.length xs.length hi = xs.length then none else some (.tup (cutD xs lo hi), st)
  | x => match lstOf st x with
    | some xs => some (.ref st.length, st ++ [.lst (cutD xs lo hi)])
    | none => none
def eSl (a : Ev) (lo hi : Eo) : Ev := fun env st => bnd (a env st) fun x st => bnd (lo env st) fun l st => bnd (hi env st) fun h st => fSl x l h st
theorem RelDs.cut {G : Gd} {H : Hp} {ι : List Addr} {ds : List D} {vs : List V} {lo hi : Option Int} (r : RelDs G H ι ds vs) : RelDs G H ι (cutD ds lo hi) (cutV vs lo hi) := by
  unfold cutD cutV
  rw [← r.length]
  exact (r.drop _).take _
section
variable {X : Cx} {T : TabI} {G : Gd} {e : Expr} {fa : Ev} {lo hi : Option Expr} {fl fh : Eo} {pos p2 : Pos}
theorem simO_none : PO X none (tO G oNone) := by
  refine po_imp po_none fun σ H Q q => ?_
  obtain ⟨ι, st, env, v, st', at0, e, aft⟩ := q
  cases e
  exact aft ι H List.prefix_rfl Keep.refl at0.s
theorem simO_some (h : PE X e (tE G fa)) : PO X (some e) (tO G (oSome fa)) := by
  refine po_imp (po_some h) fun σ H Q q => ?_
  obtain ⟨ι, st, env, v, st', at0, e, aft⟩ := q
  obtain ⟨x, st1, e1, e⟩ := bnd_of e
  cases x with
  | int i =>
    cases e
    refine ⟨ι, st, env, _, _, at0, e1, fun ι1 H1 xv p k S r => ?_⟩
    cases r
    exact ⟨i, rfl, aft ι1 H1 p k S⟩
  | _ => cases e
def rSl (G : Gd) : V → Option Int → Option Int → Hp → VK → Prop := fun x lo hi H Q => ∃ ι st d v st', StOk G H ι st ∧ RelD G H ι d x ∧ fSl d lo hi st = some (v, st') ∧ After G ι H v st' Q
theorem o_sl : SlR X (rSl (gd T X)) := by
  intro pins s σ H x v vl vu lo hi sl Q I rx hs pl pu h
  obtain ⟨ι, st, d, r, st', S, r1, hf, aft⟩ := h
  unfold fSl at hf
  split at hf
  · split at hf
    · rename_i hz
      cases hf
      cases r1
      exact sl_str pins s σ H _ v vl vu lo hi sl Q I rx hs pl pu ⟨_, rfl, hz, aft.here S (.str _)⟩
    · cases hf
  · split at hf
    · cases hf
    · rename_i hw
      cases hf
      cases r1 with
      | tup h q =>
        refine sl_tup pins s σ H _ v vl vu lo hi sl Q I rx hs pl pu ⟨_, _, rfl, h, by rw [← q.length]; exact hw, fun p hp => ?_⟩
        exact aft ι _ _ List.prefix_rfl (Keep.new hp) (S.side hp) (.tup (.of upd_same) (q.cut.mono List.prefix_rfl (Keep.new hp)))
  · split at hf
    · rename_i xs ex
      cases hf
      obtain ⟨a, ys, rfl, h1, h2⟩ := lstOf_rel S r1 ex
      refine sl_list pins s σ H _ v vl vu lo hi sl Q I rx hs pl pu ⟨_, _, rfl, h1, fun p hp => ?_⟩
      refine aft (ι ++ [p]) _ _ (List.prefix_append _ _) (Keep.new hp) (S.new hp ⟨_, upd_same, h2.cut.mono (List.prefix_append _ _) (Keep.new hp)⟩) (.ref ?_)
      rw [← S.len]
      simp
    · cases hf
theorem sim_slice (he : PE X e (tE (gd T X) fa)) (hl : PO X lo (tO (gd T X) fl)) (hh : PO X hi (tO (gd T X) fh)) : PE X (.Subscript e (.Slice lo hi none p2) pos) (tE (gd T X) (eSl fa fl fh)) := by
  refine pe_imp (pe_slice (o_sl (T := T)) he hl hh) fun σ H Q q => ?_
  obtain ⟨ι, st, env, v, st', at0, e, aft⟩ := q
  obtain ⟨x, st1, e1, e⟩ := bnd_of e
  obtain ⟨l, st2, e2, e⟩ := bnd_of e
  obtain ⟨h, st3, e3, e⟩ := bnd_of e
  exact ⟨ι, st, env, x, st1, at0, e1, fun ι1 H1 xv p k S r => ⟨ι1, st1, env, l, st2, at0.mono p k S, e2, fun ι2 H2 p2 k2 S2 => ⟨ι2, st2, env, h, st3, at0.mono (p.trans p2) (k.trans k2) S2, e3, fun ι3 H3 p3 k3 S3 =>
    ⟨ι3, st3, x, v, st', S3, r.mono (p2.trans p3) (k2.trans k3), e, aft.mono (p.trans (p2.trans p3)) (k.trans (k2.trans k3))⟩⟩⟩⟩
end
end Eng
set_option Elab.async false
set_option linter.all false
set_option maxRecDepth 100000
set_option autoImplicit false
/-! E6: targets and statements. -/
namespace Eng
open PySem PySem.Spec PyProof.Rows L2

/-! ### targets -/
abbrev Eg := D → Sl → List O → Rs Sl
abbrev Egs := List D → Sl → List O → Rs Sl
def Kpt (ws : List Nat) (σ σ' : L2.St) : Prop := σ'.length = σ.length ∧ ∀ j, j ∉ ws → σ'[j]? = σ[j]?
theorem Kpt.refl {ws : List Nat} {σ : L2.St} : Kpt ws σ σ := ⟨rfl, fun _ _ => rfl⟩
theorem Kpt.trans {ws : List Nat} {σ σ1 σ2 : L2.St} (a : Kpt ws σ σ1) (b : Kpt ws σ1 σ2) : Kpt ws σ σ2 := ⟨b.1.trans a.1, fun j h => (b.2 j h).trans (a.2 j h)⟩
theorem Kpt.mono {ws us : List Nat} {σ σ' : L2.St} (a : Kpt ws σ σ') (h : ∀ j ∈ ws, j ∈ us) : Kpt us σ σ' := ⟨a.1, fun j hj => a.2 j fun z => hj (h j z)⟩
def tG (G : Gd) (g : Eg) (ws : List Nat) : TG := fun v σ H Q => ∃ ι st env d env' st', At G H ι st env σ ∧ RelD G H ι d v ∧ g d env st = some (env', st') ∧
  ∀ ι' H' σ', ι <+: ι' → Keep G.K H H' → StOk G H' ι' st' → EnvOk G H' ι' env' σ' → Kpt ws σ σ' → Q σ' H'
def tGs (G : Gd) (g : Egs) (ws : List Nat) : TGs := fun vs σ H Q => ∃ ι st env ds env' st', At G H ι st env σ ∧ RelDs G H ι ds vs ∧ g ds env st = some (env', st') ∧
  ∀ ι' H' σ', ι <+: ι' → Keep G.K H H' → StOk G H' ι' st' → EnvOk G H' ι' env' σ' → Kpt ws σ σ' → Q σ' H'
theorem pg_imp {X : Cx} {e : Expr} {t t' : TG} (h : PG X e t) (i : ∀ v σ H Q, t' v σ H Q → t v σ H Q) : PG X e t' := ⟨fun pins s σ H v u Q I r q => h.run pins s σ H v u Q I r (i v σ H Q q)⟩
theorem pgs_imp {X : Cx} {e : List Expr} {t t' : TGs} (h : PGs X e t) (i : ∀ v σ H Q, t' v σ H Q → t v σ H Q) : PGs X e t' := ⟨fun pins s σ H v u Q I r q => h.run pins s σ H v u Q I r (i v σ H Q q)⟩
def gNm (i : Nat) : Eg := fun d env st => some (env.set i (some d), st)
def gsNil : Egs := fun ds env st => match ds with
  | [] => some (env, st)
  | _ => none
def gsCons (g : Eg) (gs : Egs) : Egs := fun ds env st => match ds with
  | d :: r => bnd (g d env st) fun env st => gs r env st
  | [] => none
def gTp (gs : Egs) : Eg := fun d env st => match d with
  | .tup xs => gs xs env st
  | _ => none
theorem assignEach_length {env : Env} : ∀ es : List Expr, (assignEach es env).length = es.length
  | [] => rfl
  | e :: es => by
    have := assignEach_length (env := env) es
    cases e <;> simp [assignEach, this]
theorem assignEach_plain {env : Env} : ∀ es : List Expr, es.all notStar = true → (assignEach es env).findIdx? (·.1) = none
  | [], _ => rfl
  | e :: es, h => by
    rw [List.all_cons, Bool.and_eq_true] at h
    have ih := assignEach_plain (env := env) es h.2
    cases e <;> first | (cases h.1; done) | (simp only [assignEach, List.findIdx?_cons, ih]; rfl)
theorem assignEach_cons {env : Env} {e : Expr} {es : List Expr} (h : notStar e = true) : (assignEach (e :: es) env).map (·.2) = assign e env :: (assignEach es env).map (·.2) := by
  cases e <;> first | rfl | cases h
section
variable {X : Cx} {G : Gd} {T : TabI} {pos : Pos}
theorem simG_name {i : Nat} {x : Str} (hN : X.N.Nodup) (hi : X.N[i]? = some x) (hx : Loc X.env.scope x) (hf : X.fn x = true ∨ X.env.scope.names.lookup x = some .local) : PG X (.Name x pos) (tG G (gNm i) [i]) := by
  refine pg_imp (pg_name hN hi hx hf) fun v σ H Q q => ?_
  obtain ⟨ι, st, env, d, env', st', at0, r, e, aft⟩ := q
  cases e
  refine aft ι H _ List.prefix_rfl Keep.refl at0.s (at0.e.set r) ⟨by simp, fun j hj => ?_⟩
  rw [List.getElem?_set_ne]
  intro z
  exact hj (by simp [z])
theorem simGs_nil : PGs X [] (tGs G gsNil []) := by
  refine pgs_imp pgs_nil fun v σ H Q q => ?_
  obtain ⟨ι, st, env, ds, env', st', at0, r, e, aft⟩ := q
  cases r with
  | nil =>
    cases e
    exact ⟨rfl, aft ι H _ List.prefix_rfl Keep.refl at0.s at0.e .refl⟩
  | cons _ _ => cases e
theorem simGs_cons {e : Expr} {es : List Expr} {g : Eg} {gs : Egs} {w1 w2 : List Nat} (h1 : PG X e (tG G g w1)) (h2 : PGs X es (tGs G gs w2)) (hs : notStar e = true) : PGs X (e :: es) (tGs G (gsCons g gs) (w1 ++ w2)) := by
  refine pgs_imp (pgs_cons h1 h2 (assignEach_cons hs)) fun v σ H Q q => ?_
  obtain ⟨ι, st, env, ds, env', st', at0, r, e, aft⟩ := q
  cases r with
  | nil => cases e
  | cons r rr =>
    obtain ⟨env1, st1, e1, e⟩ := bnd_of e
    refine ⟨_, _, rfl, ι, st, env, _, env1, st1, at0, r, e1, fun ι1 H1 σ1 p k S E kp => ?_⟩
    refine ⟨ι1, st1, env1, _, env', st', ⟨S, E⟩, rr.mono p k, e, fun ι2 H2 σ2 p2 k2 S2 E2 kp2 => ?_⟩
    exact aft ι2 H2 σ2 (p.trans p2) (k.trans k2) S2 E2 ((kp.mono fun j hj => List.mem_append_left _ hj).trans (kp2.mono fun j hj => List.mem_append_right _ hj))
theorem RelDs_len {G : Gd} {H : Hp} {ι : List Addr} {ds : List D} {vs : List V} (r : RelDs G H ι ds vs) : vs.length = ds.length := r.length.symm
/-- how many a row of targets takes -/
def gsLen : Egs → Nat → Prop := fun gs n => ∀ ds env st z, gs ds env st = some z → ds.length = n
theorem gsLen_nil : gsLen gsNil 0 := fun ds env st z h => by
  cases ds with
  | nil => rfl
  | cons _ _ => cases h
theorem gsLen_cons {g : Eg} {gs : Egs} {n : Nat} (h : gsLen gs n) : gsLen (gsCons g gs) (n + 1) := fun ds env st z e => by
  cases ds with
  | nil => cases e
  | cons d r =>
    obtain ⟨env1, st1, e1, e⟩ := bnd_of e
    exact congrArg (· + 1) (h _ _ _ _ e)
theorem simG_tup {es : List Expr} {k : Nat} {gs : Egs} {ws : List Nat} (hc : X.calm = true) (h : PGs X es (tGs (gd T X) gs ws)) (hs : es.all notStar = true) (hl : gsLen gs es.length) : PG X (.Tuple es k pos) (tG (gd T X) (gTp gs) ws) := by
  refine pg_imp (pg_tup hc h (assignEach_length es) (assignEach_plain es hs)) fun v σ H Q q => ?_
  obtain ⟨ι, st, env, d, env', st', at0, r, e, aft⟩ := q
  cases r with
  | tup h1 r1 => exact ⟨_, _, rfl, h1, by rw [← r1.length]; exact hl _ _ _ _ e, ι, st, env, _, env', st', at0, r1, e, aft⟩
  | _ => cases e
end
/-! ### stores -/
abbrev F3 := D → D → D → List O → Option (List O)
def rSet (G : Gd) (f : F3) : TSet := fun o i v H Q => ∃ ι st d e w st', StOk G H ι st ∧ RelD G H ι d o ∧ RelD G H ι e i ∧ RelD G H ι w v ∧ f d e w st = some st' ∧ ∀ ι' H', ι <+: ι' → Keep G.K H H' → StOk G H' ι' st' → Q H'
def putKD {κ : Type} [DecidableEq κ] {α : Type} (kvs : List (κ × α)) (k : κ) (v : α) : List (κ × α) :=
  if (kvs.any fun kv => decide (kv.1 = k)) = true then kvs.map (fun kv => if kv.1 = k then (kv.1, v) else kv) else kvs ++ [(k, v)]
def fSet : F3 := fun o i v st => match o with
  | .ref n => match st[n]? with
    | some (.lst xs) => match i with
      | .int k => match ixN xs.length k with
        | some j => some (st.set n (.lst (xs.set j v)))
        | none => none
      | _ => none
    | some (.dK kvs) => match keyD i with
      | some k => if kvs.length < sizeLine then some (st.set n (.dK (putKD kvs k v))) else none
      | none => none
    | _ => none
  | _ => none
section
variable {κ : Type} [DecidableEq κ] {G : Gd} {H : Hp} {ι : List Addr} {k : κ}
theorem relF_any : ∀ {fs : List (κ × D)} {gs : List (κ × V)}, RelF G H ι fs gs → (fs.any fun kv => decide (kv.1 = k)) = (gs.any fun kv => decide (kv.1 = k))
  | [], [], _ => rfl
  | (_, _) :: _, (_, _) :: _, h => by
    obtain ⟨rfl, _, h2⟩ := h
    rw [List.any_cons, List.any_cons, relF_any h2]
  | [], _ :: _, h => h.elim
  | _ :: _, [], h => h.elim
theorem relF_append : ∀ {fs fs' : List (κ × D)} {gs gs' : List (κ × V)}, RelF G H ι fs gs → RelF G H ι fs' gs' → RelF G H ι (fs ++ fs') (gs ++ gs')
  | [], _, [], _, _, h => h
  | (_, _) :: _, _, (_, _) :: _, _, h, h' => ⟨h.1, h.2.1, relF_append h.2.2 h'⟩
  | [], _, _ :: _, _, h, _ => h.elim
  | _ :: _, _, [], _, h, _ => h.elim
theorem relF_map {d : D} {v : V} (r : RelD G H ι d v) : ∀ {fs : List (κ × D)} {gs : List (κ × V)}, RelF G H ι fs gs → RelF G H ι (fs.map fun kv => if kv.1 = k then (kv.1, d) else kv) (gs.map fun kv => if kv.1 = k then (kv.1, v) else kv)
  | [], [], _ => True.intro
  | (a, x) :: fr, (b, y) :: gr, h => by
    obtain ⟨rfl, h1, h2⟩ := h
    have ih := relF_map r h2
    rw [List.map_cons, List.map_cons]
    by_cases e : a = k
    · simp only [e, if_true]
      exact ⟨rfl, r, ih⟩
    · simp only [if_neg e]
      exact ⟨rfl, h1, ih⟩
  | [], _ :: _, h => h.elim
  | _ :: _, [], h => h.elim
theorem relF_put {d : D} {v : V} (r : RelD G H ι d v) {fs : List (κ × D)} {gs : List (κ × V)} (h : RelF G H ι fs gs) : RelF G H ι (putKD fs k d) (putK gs k v) := by
  unfold putKD putK
  rw [relF_any h]
  split
  · exact relF_map r h
  · exact relF_append h ⟨rfl, r, True.intro⟩
end
section
variable {X : Cx} {T : TabI} {G : Gd} {pos : Pos}
theorem o_set (hu : X.A.units + 1 < cLine) : PSet X (rSet (gd T X) fSet) := by
  intro pins s σ H o i v ov iv u Q I ro ri rv h
  obtain ⟨ι, st, d, e, w, st', S, r1, r2, r3, hf, aft⟩ := h
  unfold fSet at hf
  split at hf
  · rename_i n
    cases r1 with
    | ref hn =>
      obtain ⟨ob, e1, q⟩ := S.at hn
      rw [e1] at hf
      cases ob with
      | lst xs =>
        dsimp only at hf
        split at hf
        · split at hf
          · rename_i j ej
            cases hf
            cases r2
            obtain ⟨ys, h1, h2⟩ := q
            refine set_list pins s σ H _ _ _ ov iv u Q I ro ri rv ⟨_, _, _, _, rfl, rfl, h1, by rw [← h2.length]; exact ej, ?_⟩
            have := S.set hn (u := .lst (ys.set j v)) (o := .lst (xs.set j w)) ⟨_, upd_same, ((h2.mono List.prefix_rfl (Keep.upd (by rw [h1]; rfl))).set (r3.mono List.prefix_rfl (Keep.upd (by rw [h1]; rfl))) j)⟩
            exact aft ι _ List.prefix_rfl this.2 this.1
          · cases hf
        · cases hf
      | dK kvs =>
        dsimp only at hf
        split at hf
        · rename_i k ek
          split at hf
          · rename_i hz
            cases hf
            obtain ⟨gs, h1, h2⟩ := q
            cases r2.key ek
            cases ro
            refine d_setItem hu I (DPut.k h1 (by rw [← h2.length]; exact hz)) ri rv fun s' I' => ⟨_, I', ?_⟩
            have := S.set hn (u := .dK (putK gs k v)) (o := .dK (putKD kvs k w)) ⟨_, upd_same, relF_put (r3.mono List.prefix_rfl (Keep.upd (by rw [h1]; rfl))) (h2.mono List.prefix_rfl (Keep.upd (by rw [h1]; rfl)))⟩
            exact aft ι _ List.prefix_rfl this.2 this.1
          · cases hf
        · cases hf
      | _ => cases hf
  · cases hf
def gSb (a i : Ev) (f : F3) : Eg := fun d env st => bnd (a env st) fun o st => bnd (i env st) fun j st => match f o j d st with
  | some st => some (env, st)
  | none => none
def noSlice : Expr → Bool
  | .Slice _ _ _ _ => false
  | _ => true
theorem simG_sub {o i : Expr} {fo fi : Ev} {f : F3} (ho : PE X o (tE G fo)) (hi : PE X i (tE G fi)) (hs : PSet X (rSet G f)) (hn : noSlice i = true) : PG X (.Subscript o i pos) (tG G (gSb fo fi f) []) := by
  refine pg_imp (pg_sub ho hi hs (fun v => ?_)) fun v σ H Q q => ?_
  · cases i <;> first | rfl | cases hn
  · obtain ⟨ι, st, env, d, env', st', at0, r, e, aft⟩ := q
    obtain ⟨x, st1, e1, e⟩ := bnd_of e
    obtain ⟨y, st2, e2, e⟩ := bnd_of e
    split at e
    · rename_i st3 e3
      cases e
      refine ⟨ι, st, env, x, st1, at0, e1, fun ι1 H1 xv p k S rx => ⟨ι1, st1, env, y, st2, at0.mono p k S, e2, fun ι2 H2 yv p2 k2 S2 ry => ?_⟩⟩
      refine ⟨ι2, st2, x, y, d, _, S2, rx.mono p2 k2, ry, r.mono (p.trans p2) (k.trans k2), e3, fun ι3 H3 p3 k3 S3 => ?_⟩
      exact aft ι3 H3 σ (p.trans (p2.trans p3)) (k.trans (k2.trans k3)) S3 (at0.e.mono (p.trans (p2.trans p3)) (k.trans (k2.trans k3))) .refl
    · cases e
end
/-! ### statements -/
def sNil : Es := fun env st => some (.nx env, st)
def sSeq (a b : Es) : Es := fun env st => bnd (a env st) fun fl st => match fl with
  | .nx env => b env st
  | f => some (f, st)
def sRet (e : Ev) : Es := fun env st => bnd (e env st) fun d st => some (.rt d, st)
def sRetN : Es := fun _ st => some (.rt .non, st)
def sExpr (e : Ev) : Es := fun env st => bnd (e env st) fun _ st => some (.nx env, st)
def sIf (t : Et) (a b : Es) : Es := fun env st => bnd (t env st) fun k st => match k with
  | true => a env st
  | false => b env st
def sBrk : Es := fun env st => some (.bk env, st)
def sCnt : Es := fun env st => some (.ct env, st)
def sAsg (e : Ev) (g : Eg) : Es := fun env st => bnd (e env st) fun d st => bnd (g d env st) fun env st => some (.nx env, st)
def isComp : Expr → Bool
  | .ListComp _ _ _ _ => true
  | .SetComp _ _ _ _ => true
  | .DictComp _ _ _ _ _ => true
  | _ => false
theorem swaps_no {e : Expr} {t : Option Expr} {l : Nat} {env : Env} (h : isComp e = false) : swapsWith e t l env = pure false := by
  cases e <;> first | rfl | cases h
section
variable {X : Cx} {G : Gd} {T : TabI} {pos : Pos} {e : Expr} {fe : Ev} {a b : List Stmt} {sa sb : Es} {st0 : Stmt}
theorem simSs_nil : PSs X [] (tS G sNil) := by
  refine pss_imp pss_nil fun D σ H q => ?_
  obtain ⟨ι, st, env, fl, st', at0, e, aft⟩ := q
  cases e
  exact aft ι H σ List.prefix_rfl Keep.refl at0.s at0.e rfl
theorem simSs_cons (h1 : PS X st0 (tS G sa)) (h2 : PSs X b (tS G sb)) : PSs X (st0 :: b) (tS G (sSeq sa sb)) := by
  refine pss_imp (pss_cons h1 h2) fun D σ H q => ?_
  obtain ⟨ι, st, env, fl, st', at0, e, aft⟩ := q
  obtain ⟨f1, st1, e1, e⟩ := bnd_of e
  refine ⟨ι, st, env, f1, st1, at0, e1, ?_⟩
  cases f1 with
  | nx env1 =>
    exact fun ι1 H1 σ1 p k S E l => ⟨ι1, st1, env1, fl, st', ⟨S, E⟩, e, by rw [l]; exact aft.mono p k⟩
  | rt d => cases e; exact aft
  | bk d => cases e; exact aft
  | ct d => cases e; exact aft
theorem simSs_one (h1 : PS X st0 (tS G sa)) : PSs X [st0] (tS G sa) := pss_one h1
theorem simS_ret (he : PE X e (tE G fe)) : PS X (.Return (some e) pos) (tS G (sRet fe)) := by
  refine ps_imp (ps_ret he) fun D σ H q => ?_
  obtain ⟨ι, st, env, fl, st', at0, e, aft⟩ := q
  obtain ⟨d, st1, e1, e⟩ := bnd_of e
  cases e
  exact ⟨ι, st, env, d, _, at0, e1, aft⟩
theorem simS_retN : PS X (.Return none pos) (tS G sRetN) := by
  refine ps_imp ps_retN fun D σ H q => ?_
  obtain ⟨ι, st, env, fl, st', at0, e, aft⟩ := q
  cases e
  exact After.here aft at0.s .non
theorem simS_expr (he : PE X e (tE G fe)) (hc : isComp e = false) : PS X (.Expr e pos) (tS G (sExpr fe)) := by
  refine ps_imp (ps_expr he (swaps_no hc)) fun D σ H q => ?_
  obtain ⟨ι, st, env, fl, st', at0, e, aft⟩ := q
  obtain ⟨d, st1, e1, e⟩ := bnd_of e
  cases e
  exact ⟨ι, st, env, d, _, at0, e1, fun ι1 H1 x p k S r => aft ι1 H1 σ p k S (at0.e.mono p k) rfl⟩
theorem simS_if {c : Expr} {tc : Et} (hc : PT X c (tT G tc)) (ha : PSs X a (tS G sa)) (hb : PSs X b (tS G sb)) : PS X (.If c a b pos) (tS G (sIf tc sa sb)) := by
  refine ps_imp (ps_if hc ha hb) fun D σ H q => ?_
  obtain ⟨ι, st, env, fl, st', at0, e, aft⟩ := q
  obtain ⟨d, st1, e1, e⟩ := bnd_of e
  refine ⟨ι, st, env, d, st1, at0, e1, fun ι1 H1 p k S => ?_⟩
  cases d with
  | true =>
    rw [if_pos rfl]
    exact ⟨ι1, st1, env, fl, st', at0.mono p k S, e, aft.mono p k⟩
  | false =>
    rw [if_neg Bool.false_ne_true]
    exact ⟨ι1, st1, env, fl, st', at0.mono p k S, e, aft.mono p k⟩
theorem simS_pass : PS X (.Pass pos) (tS G sNil) := by
  refine ps_imp ps_pass fun D σ H q => ?_
  obtain ⟨ι, st, env, fl, st', at0, e, aft⟩ := q
  cases e
  exact aft ι H σ List.prefix_rfl Keep.refl at0.s at0.e rfl
theorem simS_brk : PS X (.Break pos) (tS G sBrk) := by
  refine ps_imp ps_break fun D σ H q => ?_
  obtain ⟨ι, st, env, fl, st', at0, e, aft⟩ := q
  cases e
  exact aft ι H σ List.prefix_rfl Keep.refl at0.s at0.e rfl
theorem simS_cnt : PS X (.Continue pos) (tS G sCnt) := by
  refine ps_imp ps_continue fun D σ H q => ?_
  obtain ⟨ι, st, env, fl, st', at0, e, aft⟩ := q
  cases e
  exact aft ι H σ List.prefix_rfl Keep.refl at0.s at0.e rfl
theorem tAsg_of {g : Eg} {ws : List Nat} : ∀ D σ H, tS G (sAsg fe g) D σ H → tAsg (tE G fe) (tG G g ws) D σ H := fun D σ H q => by
  obtain ⟨ι, st, env, fl, st', at0, e, aft⟩ := q
  obtain ⟨d, st1, e1, e⟩ := bnd_of e
  obtain ⟨env1, st2, e2, e⟩ := bnd_of e
  cases e
  exact ⟨ι, st, env, d, st1, at0, e1, fun ι1 H1 x p k S r => ⟨ι1, st1, env, d, env1, _, at0.mono p k S, r, e2, fun ι2 H2 σ2 p2 k2 S2 E2 kp => aft ι2 H2 σ2 (p.trans p2) (k.trans k2) S2 E2 kp.1⟩⟩
def notTup : Expr → Bool
  | .Tuple _ _ _ => false
  | .List _ _ => false
  | _ => true
theorem swapped_no {tg : Expr} {env : Env} (h : (notTup tg || notTup e) = true) : swappedStores [tg] e env = pure none := by
  rw [Bool.or_eq_true] at h
  rcases h with h | h
  · cases tg <;> first | rfl | cases h
  · cases e <;> first | (cases h; done) | (cases tg <;> rfl)
theorem simS_asg {tg : Expr} {g : Eg} {ws : List Nat} (he : PE X e (tE G fe)) (hg : PG X tg (tG G g ws)) (hc : isComp e = false) (hw : swappedStores [tg] e X.env = pure none) (hs : notStar tg = true) : PS X (.Assign [tg] e pos) (tS G (sAsg fe g)) :=
  ps_imp (ps_asg he hg (swaps_no hc) hw (assignEach_cons hs)) tAsg_of
end
/-! ### a, b = x, y with plain local names -/
def sPar2 (i j : Nat) (as : Ea) : Es := fun env st => bnd (as env st) fun ds st => match ds with
  | [x, y] => some (.nx ((env.set i (some x)).set j (some y)), st)
  | _ => none
def sPar3 (i j l : Nat) (as : Ea) : Es := fun env st => bnd (as env st) fun ds st => match ds with
  | [x, y, z] => some (.nx (((env.set i (some x)).set j (some y)).set l (some z)), st)
  | _ => none
section
variable {X : Cx} {G : Gd} {T : TabI} {pos : Pos}
theorem simS_par2 {i j : Nat} {x y : Str} {a b : Expr} {as : Ea} {px py pt : Pos} {kt k2 : Nat} {pt2 : Pos} (hc : X.calm = true) (hN : X.N.Nodup) (hi : X.N[i]? = some x) (hj : X.N[j]? = some y) (hij : i ≠ j)
    (hx : X.env.scope.names.lookup x = some .local) (hy : X.env.scope.names.lookup y = some .local) (ha : PA X [a, b] (tA G as))
    (hw : swappedStores [.Tuple [.Name x px, .Name y py] kt pt] (.Tuple [a, b] k2 pt2) X.env = pure (some [x, y])) :
    PS X (.Assign [.Tuple [.Name x px, .Name y py] kt pt] (.Tuple [a, b] k2 pt2) pos) (tS G (sPar2 i j as)) := by
  refine ps_imp (ps_par hc hN hi hj hij hx hy ha hw) fun D σ H q => ?_
  obtain ⟨ι, st, env, fl, st', at0, e, aft⟩ := q
  obtain ⟨ds, st1, e1, e⟩ := bnd_of e
  split at e
  · cases e
    refine ⟨ι, st, env, _, _, at0, e1, fun ι1 H1 xs p k S r => ?_⟩
    cases r with
    | cons r1 t1 =>
      cases t1 with
      | cons r2 t2 =>
        cases t2
        exact ⟨_, _, rfl, aft ι1 H1 _ p k S (((at0.e.mono p k).set r1).set r2) (by simp)⟩
  · cases e
theorem simS_par3 {i j l : Nat} {x y z : Str} {a b c : Expr} {as : Ea} {px py pz pt : Pos} {kt k2 : Nat} {pt2 : Pos} (hc : X.calm = true) (hN : X.N.Nodup) (hi : X.N[i]? = some x) (hj : X.N[j]? = some y) (hl : X.N[l]? = some z) (hij : i ≠ j) (hil : i ≠ l) (hjl : j ≠ l)
    (hx : X.env.scope.names.lookup x = some .local) (hy : X.env.scope.names.lookup y = some .local) (hz : X.env.scope.names.lookup z = some .local) (ha : PA X [a, b, c] (tA G as))
    (hw : swappedStores [.Tuple [.Name x px, .Name y py, .Name z pz] kt pt] (.Tuple [a, b, c] k2 pt2) X.env = pure (some [x, y, z])) :
    PS X (.Assign [.Tuple [.Name x px, .Name y py, .Name z pz] kt pt] (.Tuple [a, b, c] k2 pt2) pos) (tS G (sPar3 i j l as)) := by
  refine ps_imp (ps_par3 hc hN hi hj hl hij hil hjl hx hy hz ha hw) fun D σ H q => ?_
  obtain ⟨ι, st, env, fl, st', at0, e, aft⟩ := q
  obtain ⟨ds, st1, e1, e⟩ := bnd_of e
  split at e
  · cases e
    refine ⟨ι, st, env, _, _, at0, e1, fun ι1 H1 xs p k S r => ?_⟩
    cases r with
    | cons r1 t1 =>
      cases t1 with
      | cons r2 t2 =>
        cases t2 with
        | cons r3 t3 =>
          cases t3
          exact ⟨_, _, _, rfl, aft ι1 H1 _ p k S ((((at0.e.mono p k).set r1).set r2).set r3) (by simp)⟩
  · cases e
end
/-! ### while -/
def sWh (t : Et) (b : Es) : Nat → Es
  | 0 => fun _ _ => none
  | n + 1 => fun env st => bnd (t env st) fun k st => match k with
    | true => bnd (b env st) fun fl st => match fl with
      | .nx env => sWh t b n env st
      | .ct env => sWh t b n env st
      | .bk env => some (.nx env, st)
      | .rt d => some (.rt d, st)
    | false => some (.nx env, st)
section
variable {X : Cx} {G : Gd} {pos : Pos}
theorem simS_while {c : Expr} {body : List Stmt} {tc : Et} {sb : Es} {n : Nat} (hx : X.xe = fun _ _ => False) (hc : PT X c (tT G tc)) (hb : PSs X body (tS G sb)) : PS X (.While c body [] pos) (tS G (sWh tc sb n)) := by
  refine ps_imp (ps_while (by rw [hx]; exact PassesOwn.never) hc hb) fun D σ H q => ?_
  refine ⟨fun m σ1 H1 => σ1.length = σ.length ∧ ∃ ι st env fl st', At G H1 ι st env σ1 ∧ sWh tc sb m env st = some (fl, st') ∧ EndsAt G ι H1 σ.length fl st' D, ⟨n, rfl, q⟩, ?_⟩
  rintro m σ1 H1 ⟨hl, ι, st, env, fl, st', at0, e, aft⟩
  cases m with
  | zero => cases e
  | succ m =>
    obtain ⟨b, st1, e1, e⟩ := bnd_of e
    refine ⟨ι, st, env, b, st1, at0, e1, fun ι1 H2 p k S => ?_⟩
    cases b with
    | false =>
      rw [if_neg Bool.false_ne_true]
      cases e
      exact aft ι1 H2 σ1 p k S (at0.e.mono p k) hl
    | true =>
      rw [if_pos rfl]
      obtain ⟨f1, st2, e2, e⟩ := bnd_of e
      refine ⟨fun σ' H' => σ'.length = σ.length ∧ ∃ ι st env fl st', At G H' ι st env σ' ∧ sWh tc sb m env st = some (fl, st') ∧ EndsAt G ι H' σ.length fl st' D, fun σ' H' w => ⟨m, Nat.lt_succ_self m, w⟩, ?_⟩
      refine ⟨ι1, st1, env, f1, st2, at0.mono p k S, e2, ?_⟩
      cases f1 with
      | nx env2 => exact fun ι2 H3 σ2 p2 k2 S2 E2 l2 => ⟨l2.trans hl, ι2, st2, env2, fl, st', ⟨S2, E2⟩, e, aft.mono (p.trans p2) (k.trans k2)⟩
      | ct env2 => exact fun ι2 H3 σ2 p2 k2 S2 E2 l2 => ⟨l2.trans hl, ι2, st2, env2, fl, st', ⟨S2, E2⟩, e, aft.mono (p.trans p2) (k.trans k2)⟩
      | bk env2 =>
        cases e
        exact fun ι2 H3 σ2 p2 k2 S2 E2 l2 => aft ι2 H3 σ2 (p.trans p2) (k.trans k2) S2 E2 (l2.trans hl)
      | rt d =>
        cases e
        exact After.mono aft p k
end
end Eng
set_option Elab.async false
set_option linter.all false
set_option maxRecDepth 100000
set_option autoImplicit false
/-! E7: what is walked; for; list comprehensions. -/
namespace Eng
open PySem PySem.Spec PyProof.Rows L2

/-- what is walked: the item at a turn (it may be read anew), none at the end; len: how many there are at the start -/
structure Src where
  len : Nat
  get : Nat → List O → Option (Option D)
abbrev Ei := Sl → List O → Rs Src
def SimIt (G : Gd) (src : Src) (ι0 : List Addr) (H0 : Hp) (J : It) : Prop := ∀ (i : Nat) (ι : List Addr) (H : Hp) (st : List O), ι0 <+: ι → Keep G.K H0 H → StOk G H ι st →
  (∀ d, src.get i st = some (some d) → J.go i H ∧ ∀ x H', J.yld i H x H' → Keep G.K H H' ∧ StOk G H' ι st ∧ RelD G H' ι d x) ∧ (src.get i st = some none → J.stop i H)
def tI (G : Gd) (f : Ei) : TI := fun σ H R => ∃ ι st env src st', At G H ι st env σ ∧ f env st = some (src, st') ∧ ∀ ι' H' J, ι <+: ι' → Keep G.K H H' → StOk G H' ι' st' → SimIt G src ι' H' J → R J H'
theorem pi_imp {X : Cx} {tg e : Expr} {t t' : TI} (h : PI X tg e t) (i : ∀ σ H Q, t' σ H Q → t σ H Q) : PI X tg e t' := ⟨fun pins s σ H Q I q => h.run pins s σ H Q I (i σ H Q q)⟩

def srcLst (n len : Nat) : Src := ⟨len, fun i st => match st[n]? with
  | some (.lst xs) => some xs[i]?
  | _ => none⟩
def srcOf (xs : List D) : Src := ⟨xs.length, fun i _ => some xs[i]?⟩
def srcStr (z : Str) : Src := ⟨z.cps.size, fun i _ => some (z.cps[i]?.map fun c => .str ⟨#[c]⟩)⟩
def srcRng (lo : Int) (n : Nat) : Src := ⟨n, fun i _ => some (if i < n then some (.int (lo + (i : Nat))) else none)⟩
def srcRngC (lo c : Int) (n : Nat) : Src := ⟨n, fun i _ => some (if i < n then some (.int (lo + (i : Nat) * c)) else none)⟩
def walkD (st : List O) : D → Option Src
  | .ref n => match st[n]? with
    | some (.lst xs) => some (srcLst n xs.length)
    | _ => none
  | .tup xs => some (srcOf xs)
  | .rol xs => some (srcOf xs)
  | .str z => some (srcStr z)
  | _ => none
def iSeq (e : Ev) : Ei := fun env st => bnd (e env st) fun d st => match walkD st d with
  | some src => some (src, st)
  | none => none
section
variable {X : Cx} {T : TabI} {G : Gd}
theorem it_lst {n len : Nat} {ι0 : List Addr} {H0 : Hp} {a : Addr} (h : ι0[n]? = some a) : SimIt G (srcLst n len) ι0 H0 (Itl G.K a) := by
  intro i ι H st p k S
  obtain ⟨o, e, ob⟩ := S.at (pre_get p h)
  refine ⟨fun d hd => ?_, fun hd => ?_⟩
  · unfold srcLst at hd
    dsimp only at hd
    rw [e] at hd
    cases o with
    | lst xs =>
      have hd : some xs[i]? = some (some d) := hd
      have hd := Option.some.inj hd
      obtain ⟨ys, h1, h2⟩ := ob
      obtain ⟨v, hv, r⟩ := h2.get hd
      refine ⟨⟨ys, v, .of h1, hv⟩, fun x H' y => ?_⟩
      obtain ⟨rfl, y⟩ := y
      have := y ys (.of h1)
      rw [hv] at this
      cases this
      exact ⟨Keep.refl, S, r⟩
    | _ => cases hd
  · unfold srcLst at hd
    dsimp only at hd
    rw [e] at hd
    cases o with
    | lst xs =>
      have hd : some xs[i]? = some none := hd
      have hd := Option.some.inj hd
      obtain ⟨ys, h1, h2⟩ := ob
      refine ⟨ys, .of h1, ?_⟩
      rw [← h2.length]
      exact List.getElem?_eq_none_iff.mp hd
    | _ => cases hd
theorem it_tup {xs : List D} {ys : List V} {ι0 : List Addr} {H0 : Hp} {a : Addr} (h : SqT G.K H0 a ys) (r : RelDs G H0 ι0 xs ys) : SimIt G (srcOf xs) ι0 H0 (Itt G.K a) := by
  intro i ι H st p k S
  have h' := k.tup _ _ h
  have r' := r.mono p k
  refine ⟨fun d hd => ?_, fun hd => ?_⟩
  · have hd : some xs[i]? = some (some d) := hd
    have hd := Option.some.inj hd
    obtain ⟨v, hv, rv⟩ := r'.get hd
    refine ⟨⟨ys, v, h', hv⟩, fun x H' y => ?_⟩
    obtain ⟨rfl, y⟩ := y
    have := y ys h'
    rw [hv] at this
    cases this
    exact ⟨Keep.refl, S, rv⟩
  · have hd : some xs[i]? = some none := hd
    have hd := Option.some.inj hd
    exact ⟨ys, h', by rw [← r.length]; exact List.getElem?_eq_none_iff.mp hd⟩
theorem it_rol {xs : List D} {ys : List V} {ι0 : List Addr} {H0 : Hp} {a : Addr} (h : SqF G.K H0 a ys) (r : RelDs G H0 ι0 xs ys) : SimIt G (srcOf xs) ι0 H0 (Itl G.K a) := by
  intro i ι H st p k S
  have h' := k.rol _ _ h
  have r' := r.mono p k
  refine ⟨fun d hd => ?_, fun hd => ?_⟩
  · have hd : some xs[i]? = some (some d) := hd
    have hd := Option.some.inj hd
    obtain ⟨v, hv, rv⟩ := r'.get hd
    refine ⟨⟨ys, v, h'.sqL, hv⟩, fun x H' y => ?_⟩
    obtain ⟨rfl, y⟩ := y
    have := y ys h'.sqL
    rw [hv] at this
    cases this
    exact ⟨Keep.refl, S, rv⟩
  · have hd : some xs[i]? = some none := hd
    have hd := Option.some.inj hd
    exact ⟨ys, h'.sqL, by rw [← r.length]; exact List.getElem?_eq_none_iff.mp hd⟩
theorem it_str {z : Str} {ι0 : List Addr} {H0 : Hp} : SimIt G (srcStr z) ι0 H0 (Its z) := by
  intro i ι H st p k S
  refine ⟨fun d hd => ?_, fun hd => ?_⟩
  · have hd : some (z.cps[i]?.map fun c => D.str ⟨#[c]⟩) = some (some d) := hd
    have hd := Option.some.inj hd
    cases q : z.cps[i]? with
    | none => rw [q] at hd; cases hd
    | some c =>
      rw [q] at hd
      have hd := Option.some.inj hd
      subst hd
      refine ⟨(Array.getElem?_eq_some_iff.mp q).1, fun x H' y => ?_⟩
      obtain ⟨rfl, c', y, rfl⟩ := y
      rw [q] at y
      cases y
      exact ⟨Keep.refl, S, .str _⟩
  · have hd : some (z.cps[i]?.map fun c => D.str ⟨#[c]⟩) = some none := hd
    have hd := Option.some.inj hd
    cases q : z.cps[i]? with
    | none => exact Array.getElem?_eq_none_iff.mp q
    | some c => rw [q] at hd; cases hd
theorem it_rng {lo : Int} {n : Nat} {ι0 : List Addr} {H0 : Hp} : SimIt G (srcRng lo n) ι0 H0 (Itr lo n) := by
  intro i ι H st p k S
  refine ⟨fun d hd => ?_, fun hd => ?_⟩
  · have hd : some (if i < n then some (D.int (lo + (i : Nat))) else none) = some (some d) := hd
    have hd := Option.some.inj hd
    split at hd
    · rename_i hi
      cases hd
      refine ⟨hi, fun x H' y => ?_⟩
      obtain ⟨rfl, rfl⟩ := y
      exact ⟨Keep.refl, S, .int _⟩
    · cases hd
  · have hd : some (if i < n then some (D.int (lo + (i : Nat))) else none) = some none := hd
    have hd := Option.some.inj hd
    split at hd
    · cases hd
    · rename_i hi
      exact Nat.le_of_not_lt hi
theorem it_rngC {lo c : Int} {n : Nat} {ι0 : List Addr} {H0 : Hp} : SimIt G (srcRngC lo c n) ι0 H0 (Itc lo c n) := by
  intro i ι H st p k S
  refine ⟨fun d hd => ?_, fun hd => ?_⟩
  · have hd : some (if i < n then some (D.int (lo + (i : Nat) * c)) else none) = some (some d) := hd
    have hd := Option.some.inj hd
    split at hd
    · rename_i hi
      cases hd
      refine ⟨hi, fun x H' y => ?_⟩
      obtain ⟨rfl, rfl⟩ := y
      exact ⟨Keep.refl, S, .int _⟩
    · cases hd
  · have hd : some (if i < n then some (D.int (lo + (i : Nat) * c)) else none) = some none := hd
    have hd := Option.some.inj hd
    split at hd
    · cases hd
    · rename_i hi
      exact Nat.le_of_not_lt hi
end
/-! ### the iterables -/
def rngOk (i j : Int) : Bool := decide (-(2 ^ 62) ≤ i) && decide (i < 2 ^ 62) && decide (-(2 ^ 62) ≤ j) && decide (j < 2 ^ 62)
def iRng1 (a : Ev) : Ei := fun env st => bnd (a env st) fun d st => match d with
  | .int j => if rngOk 0 j then some (srcRng 0 j.toNat, st) else none
  | _ => none
def iRng2 (a b : Ev) : Ei := fun env st => bnd (a env st) fun d st => bnd (b env st) fun e st => match d, e with
  | .int i, .int j => if rngOk i j then some (srcRng i (j - i).toNat, st) else none
  | _, _ => none
def iRng3 (a b c : Ev) : Ei := fun env st => bnd (a env st) fun d st => bnd (b env st) fun e st => bnd (c env st) fun f st => match d, e, f with
  | .int i, .int j, .int c => if c ≠ 0 ∧ c.natAbs < 1073741824 ∧ Builtin.Range.small i j c = true ∧ 0 ≤ Builtin.Range.rangeSize i j c then some (srcRngC i c (Builtin.Range.rangeSize i j c).toNat, st) else none
  | _, _, _ => none
/-- i, x of enumerate -/
def srcEnum (src : Src) : Src := ⟨src.len, fun i st => match src.get i st with
  | some (some d) => some (some (.tup [.int (i : Nat), d]))
  | some none => some none
  | none => none⟩
def lstSrc (st : List O) : D → Option Src
  | .ref n => match st[n]? with
    | some (.lst xs) => some (srcLst n xs.length)
    | _ => none
  | .rol xs => some (srcOf xs)
  | _ => none
def iEnu (a : Ev) : Ei := fun env st => bnd (a env st) fun d st => match lstSrc st d with
  | some src => some (srcEnum src, st)
  | none => none
def srcZip (a b : Src) : Src := ⟨min a.len b.len, fun i st => match a.get i st, b.get i st with
  | some (some x), some (some y) => some (some (.tup [x, y]))
  | some none, some _ => some none
  | some _, some none => some none
  | _, _ => none⟩
def iZp (a b : Ev) : Ei := fun env st => bnd (a env st) fun d st => bnd (b env st) fun e st => match lstSrc st d, lstSrc st e with
  | some a, some b => some (srcZip a b, st)
  | _, _ => none
section
variable {X : Cx} {T : TabI} {G : Gd} {tg iter : Expr} {fe : Ev} {as : Ea} {p pos : Pos}
theorem simI_seq (he : PE X iter (tE (gd T X) fe)) : PI X tg iter (tI (gd T X) (iSeq fe)) := by
  refine ⟨fun pins s σ H R I h => ?_⟩
  obtain ⟨ι, st, env, src, st', at0, e, aft⟩ := h
  obtain ⟨d, st1, e1, e⟩ := bnd_of e
  cases d with
  | ref n =>
    refine (pi_list he).run pins s σ H R I ⟨ι, st, env, _, st1, at0, e1, fun ι1 H1 x p k S r => ?_⟩
    cases r with
    | ref h =>
      obtain ⟨o, e2, ob⟩ := S.at h
      unfold walkD at e
      dsimp only at e
      rw [e2] at e
      cases o with
      | lst xs =>
        cases e
        obtain ⟨ys, h1, h2⟩ := ob
        exact ⟨_, rfl, ⟨ys, .of h1⟩, aft ι1 H1 _ p k S (it_lst h)⟩
      | _ => cases e
  | tup xs =>
    cases e
    refine (pi_tup he).run pins s σ H R I ⟨ι, st, env, _, _, at0, e1, fun ι1 H1 x p k S r => ?_⟩
    cases r with
    | tup h q => exact ⟨_, rfl, ⟨_, h⟩, aft ι1 H1 _ p k S (it_tup h q)⟩
  | rol xs =>
    cases e
    refine (pi_list he).run pins s σ H R I ⟨ι, st, env, _, _, at0, e1, fun ι1 H1 x p k S r => ?_⟩
    cases r with
    | rol h q => exact ⟨_, rfl, ⟨_, h.sqL⟩, aft ι1 H1 _ p k S (it_rol h q)⟩
  | str z =>
    cases e
    refine (pi_str he).run pins s σ H R I ⟨ι, st, env, _, _, at0, e1, fun ι1 H1 x p k S r => ?_⟩
    cases r
    exact ⟨_, rfl, aft ι1 H1 _ p k S it_str⟩
  | _ => cases e
theorem rngOk_of {i j : Int} (h : rngOk i j = true) : -(2 ^ 62) ≤ i ∧ i < 2 ^ 62 ∧ -(2 ^ 62) ≤ j ∧ j < 2 ^ 62 := by
  unfold rngOk at h
  simp only [Bool.and_eq_true, decide_eq_true_eq] at h
  exact ⟨h.1.1.1, h.1.1.2, h.1.2, h.2⟩
theorem a1_of {fa : Ev} {env : Sl} {st st1 : List O} {d : D} (h : fa env st = some (d, st1)) : aCons fa aNil env st = some ([d], st1) := by
  unfold aCons
  rw [h]
  rfl
theorem a2_of {fa fb : Ev} {env : Sl} {st st1 st2 : List O} {d e : D} (h : fa env st = some (d, st1)) (h' : fb env st1 = some (e, st2)) : aCons fa (aCons fb aNil) env st = some ([d, e], st2) := by
  unfold aCons
  rw [h, bnd_some, h']
  rfl
theorem a3_of {fa fb fc : Ev} {env : Sl} {st st1 st2 st3 : List O} {d e f : D} (h : fa env st = some (d, st1)) (h' : fb env st1 = some (e, st2)) (h2 : fc env st2 = some (f, st3)) : aCons fa (aCons fb (aCons fc aNil)) env st = some ([d, e, f], st3) := by
  unfold aCons
  rw [h, bnd_some, h', bnd_some, h2]
  rfl
theorem simI_rng1 {a : Expr} {fa : Ev} (hg : Gl X "range") (hm : X.mg "range" = none) (ha : PE X a (tE G fa)) (hs : notStar a = true) : PI X tg (.Call (.Name "range" p) [a] [] pos) (tI G (iRng1 fa)) := by
  refine ⟨fun pins s σ H R I h => ?_⟩
  obtain ⟨ι, st, env, src, st', at0, e, aft⟩ := h
  obtain ⟨d, st1, e1, e⟩ := bnd_of e
  refine (pi_range1 hg hm (simA_cons ha simA_nil hs) (starEach_cons hs)).run pins s σ H R I ⟨ι, st, env, [d], st1, at0, a1_of e1, fun ι1 H1 xs p k S r => ?_⟩
  cases d with
  | int j =>
    dsimp only at e
    split at e
    · rename_i hz
      cases e
      have hz := rngOk_of hz
      cases r with
      | cons r1 t =>
        cases r1
        cases t
        exact ⟨j, rfl, hz.2.2.1, hz.2.2.2, aft ι1 H1 _ p k S it_rng⟩
    · cases e
  | _ => cases e
theorem simI_rng2 {a b : Expr} {fa fb : Ev} (hg : Gl X "range") (hm : X.mg "range" = none) (ha : PE X a (tE G fa)) (hb : PE X b (tE G fb)) (hs : notStar a = true) (hs' : notStar b = true) : PI X tg (.Call (.Name "range" p) [a, b] [] pos) (tI G (iRng2 fa fb)) := by
  refine ⟨fun pins s σ H R I h => ?_⟩
  obtain ⟨ι, st, env, src, st', at0, e, aft⟩ := h
  obtain ⟨d, st1, e1, e⟩ := bnd_of e
  obtain ⟨d2, st2, e2, e⟩ := bnd_of e
  refine (pi_range2 hg hm (simA_cons ha (simA_cons hb simA_nil hs') hs) (by rw [starEach_cons hs, starEach_cons hs']; rfl) (starEach_cons hs')).run pins s σ H R I ⟨ι, st, env, [d, d2], st2, at0, a2_of e1 e2, fun ι1 H1 xs p k S r => ?_⟩
  split at e
  · split at e
    · rename_i hz
      cases e
      have hz := rngOk_of hz
      cases r with
      | cons r1 t =>
        cases r1
        cases t with
        | cons r2 t2 =>
          cases r2
          cases t2
          exact ⟨_, _, rfl, hz, aft ι1 H1 _ p k S it_rng⟩
    · cases e
  · cases e
theorem simI_rng3 {a b c : Expr} {fa fb fc : Ev} (hg : Gl X "range") (hm : X.mg "range" = none) (ha : PE X a (tE G fa)) (hb : PE X b (tE G fb)) (hc : PE X c (tE G fc)) (hs : notStar a = true) (hs' : notStar b = true) (hs2 : notStar c = true) :
    PI X tg (.Call (.Name "range" p) [a, b, c] [] pos) (tI G (iRng3 fa fb fc)) := by
  refine ⟨fun pins s σ H R I h => ?_⟩
  obtain ⟨ι, st, env, src, st', at0, e, aft⟩ := h
  obtain ⟨d, st1, e1, e⟩ := bnd_of e
  obtain ⟨d2, st2, e2, e⟩ := bnd_of e
  obtain ⟨d3, st3, e3, e⟩ := bnd_of e
  refine (pi_range3 hg hm (simA_cons ha (simA_cons hb (simA_cons hc simA_nil hs2) hs') hs) (starEach_cons hs) (by rw [starEach_cons hs', starEach_cons hs2]; rfl)).run pins s σ H R I ⟨ι, st, env, [d, d2, d3], st3, at0, a3_of e1 e2 e3, fun ι1 H1 xs p k S r => ?_⟩
  split at e
  · split at e
    · rename_i hz
      cases e
      cases r with
      | cons r1 t =>
        cases r1
        cases t with
        | cons r2 t2 =>
          cases r2
          cases t2 with
          | cons r3 t3 =>
            cases r3
            cases t3
            exact ⟨_, _, _, _, rfl, ⟨hz.1, hz.2.1, hz.2.2.1, (Int.toNat_of_nonneg hz.2.2.2).symm⟩, aft ι1 H1 _ p k S it_rngC⟩
    · cases e
  · cases e
/-- a list that is walked: where it stands -/
def LAt (G : Gd) (src : Src) (ι0 : List Addr) (H0 : Hp) (a : Addr) : Prop := ∀ (i : Nat) (ι : List Addr) (H : Hp) (st : List O), ι0 <+: ι → Keep G.K H0 H → StOk G H ι st → src.get i st ≠ none →
  ∃ xs ys, src.get i st = some xs[i]? ∧ SqL G.K H a ys ∧ RelDs G H ι xs ys
theorem lat_of {st : List O} {d : D} {x : V} {src : Src} {ι : List Addr} {H : Hp} (S : StOk G H ι st) (r : RelD G H ι d x) (e : lstSrc st d = some src) : ∃ a ys, x = .ref a ∧ SqL G.K H a ys ∧ LAt G src ι H a := by
  cases r with
  | ref h =>
    obtain ⟨o, e2, ob⟩ := S.at h
    unfold lstSrc at e
    dsimp only at e
    rw [e2] at e
    cases o with
    | lst xs =>
      cases e
      obtain ⟨ys, h1, h2⟩ := ob
      refine ⟨_, ys, rfl, .of h1, fun i ι1 H1 st1 p k S1 hn => ?_⟩
      obtain ⟨o1, e3, ob1⟩ := S1.at (pre_get p h)
      unfold srcLst at hn ⊢
      dsimp only at hn ⊢
      rw [e3] at hn ⊢
      cases o1 with
      | lst zs =>
        obtain ⟨ws, h3, h4⟩ := ob1
        exact ⟨zs, ws, rfl, .of h3, h4⟩
      | _ => exact absurd rfl hn
    | _ => cases e
  | rol h q =>
    cases e
    exact ⟨_, _, rfl, h.sqL, fun i ι1 H1 st1 p k S1 _ => ⟨_, _, rfl, (k.rol _ _ h).sqL, q.mono p k⟩⟩
  | _ => cases e
theorem simI_enum {a : Expr} {fa : Ev} {elts : List Expr} {kk : Nat} {tpos : Pos} (hg : Gl X "enumerate") (hm : X.mg "enumerate" = none) (ha : PE X a (tE (gd T X) fa)) (hs : notStar a = true) : PI X (.Tuple elts kk tpos) (.Call (.Name "enumerate" p) [a] [] pos) (tI (gd T X) (iEnu fa)) := by
  refine ⟨fun pins s σ H R I h => ?_⟩
  obtain ⟨ι, st, env, src, st', at0, e, aft⟩ := h
  obtain ⟨d, st1, e1, e⟩ := bnd_of e
  refine (pi_enum hg hm (simA_cons ha simA_nil hs) (starEach_cons hs)).run pins s σ H R I ⟨ι, st, env, [d], st1, at0, a1_of e1, fun ι1 H1 xs p k S r => ?_⟩
  split at e
  · rename_i src0 es
    cases e
    cases r with
    | cons r1 t =>
      cases t
      obtain ⟨b, ys, rfl, hq, la⟩ := lat_of S r1 es
      refine ⟨b, ys, rfl, hq, aft ι1 H1 _ p k S fun i ι2 H2 st2 p2 k2 S2 => ⟨fun d hd => ?_, fun hd => ?_⟩⟩
      · unfold srcEnum at hd
        dsimp only at hd
        split at hd
        · rename_i d0 e0
          cases hd
          obtain ⟨zs, ws, e3, hq2, r2⟩ := la i ι2 H2 st2 p2 k2 S2 (by rw [e0]; simp)
          rw [e0] at e3
          obtain ⟨v, hv, rv⟩ := r2.get (Option.some.inj e3).symm
          refine ⟨⟨ws, v, hq2, hv⟩, fun x H' y => ?_⟩
          obtain ⟨Tn, z, rfl, hn, rfl, y⟩ := y
          have := y ws hq2
          rw [hv] at this
          cases this
          exact ⟨Keep.new hn, S2.side hn, .tup (.of upd_same) (.cons (.int _) (.cons (rv.mono List.prefix_rfl (Keep.new hn)) .nil))⟩
        · cases hd
        · cases hd
      · unfold srcEnum at hd
        dsimp only at hd
        split at hd
        · cases hd
        · rename_i e0
          obtain ⟨zs, ws, e3, hq2, r2⟩ := la i ι2 H2 st2 p2 k2 S2 (by rw [e0]; simp)
          rw [e0] at e3
          exact ⟨ws, hq2, by rw [← r2.length]; exact List.getElem?_eq_none_iff.mp (Option.some.inj e3).symm⟩
        · cases hd
  · cases e
theorem simI_zip {a b : Expr} {fa fb : Ev} {elts : List Expr} {kk : Nat} {tpos : Pos} (hg : Gl X "zip") (hm : X.mg "zip" = none) (ha : PE X a (tE (gd T X) fa)) (hb : PE X b (tE (gd T X) fb)) (hs : notStar a = true) (hs' : notStar b = true) :
    PI X (.Tuple elts kk tpos) (.Call (.Name "zip" p) [a, b] [] pos) (tI (gd T X) (iZp fa fb)) := by
  refine ⟨fun pins s σ H R I h => ?_⟩
  obtain ⟨ι, st, env, src, st', at0, e, aft⟩ := h
  obtain ⟨d, st1, e1, e⟩ := bnd_of e
  obtain ⟨d2, st2, e2, e⟩ := bnd_of e
  refine (pi_zip hg hm (simA_cons ha (simA_cons hb simA_nil hs') hs) (starEach_cons hs) (by rw [starEach_cons hs']; rfl)).run pins s σ H R I ⟨ι, st, env, [d, d2], st2, at0, a2_of e1 e2, fun ι1 H1 xs p k S r => ?_⟩
  split at e
  · rename_i s1 s2 es1 es2
    cases e
    cases r with
    | cons r1 t =>
      cases t with
      | cons r2 t2 =>
        cases t2
        obtain ⟨b1, ys1, rfl, hq1, la1⟩ := lat_of S r1 es1
        obtain ⟨b2, ys2, rfl, hq2, la2⟩ := lat_of S r2 es2
        refine ⟨b1, b2, ys1, ys2, rfl, hq1, hq2, aft ι1 H1 _ p k S fun i ι2 H2 st3 p2 k2 S2 => ⟨fun d hd => ?_, fun hd => ?_⟩⟩
        · unfold srcZip at hd
          dsimp only at hd
          split at hd
          · rename_i x0 y0 g1 g2
            cases hd
            obtain ⟨zs, ws, e3, hp1, q1⟩ := la1 i ι2 H2 st3 p2 k2 S2 (by rw [g1]; simp)
            obtain ⟨zs', ws', e4, hp2, q2⟩ := la2 i ι2 H2 st3 p2 k2 S2 (by rw [g2]; simp)
            rw [g1] at e3
            rw [g2] at e4
            obtain ⟨v, hv, rv⟩ := q1.get (Option.some.inj e3).symm
            obtain ⟨v', hv', rv'⟩ := q2.get (Option.some.inj e4).symm
            refine ⟨⟨ws, ws', v, v', hp1, hp2, hv, hv'⟩, fun x H' y => ?_⟩
            obtain ⟨Tn, z, z', rfl, hn, rfl, y, y'⟩ := y
            have h1 := y ws hp1
            rw [hv] at h1
            cases h1
            have h2 := y' ws' hp2
            rw [hv'] at h2
            cases h2
            exact ⟨Keep.new hn, S2.side hn, .tup (.of upd_same) (.cons (rv.mono List.prefix_rfl (Keep.new hn)) (.cons (rv'.mono List.prefix_rfl (Keep.new hn)) .nil))⟩
          · cases hd
          · cases hd
          · cases hd
        · have two : (s1.get i st3 = some none ∧ s2.get i st3 ≠ none) ∨ (s1.get i st3 ≠ none ∧ s2.get i st3 = some none) := by
            unfold srcZip at hd
            dsimp only at hd
            cases g1 : s1.get i st3 with
            | none => rw [g1] at hd; cases hd
            | some o1 =>
              cases g2 : s2.get i st3 with
              | none =>
                rw [g1, g2] at hd
                cases o1 <;> cases hd
              | some o2 =>
                rw [g1, g2] at hd
                cases o1 with
                | none => exact .inl ⟨rfl, by simp⟩
                | some _ =>
                  cases o2 with
                  | none => exact .inr ⟨by simp, rfl⟩
                  | some _ => cases hd
          have n1 : s1.get i st3 ≠ none := by rcases two with ⟨h, _⟩ | ⟨h, _⟩; rw [h]; simp; exact h
          have n2 : s2.get i st3 ≠ none := by rcases two with ⟨_, h⟩ | ⟨_, h⟩; exact h; rw [h]; simp
          obtain ⟨zs, ws, e3, hp1, q1⟩ := la1 i ι2 H2 st3 p2 k2 S2 n1
          obtain ⟨zs', ws', e4, hp2, q2⟩ := la2 i ι2 H2 st3 p2 k2 S2 n2
          refine ⟨ws, ws', hp1, hp2, ?_⟩
          rcases two with ⟨h, _⟩ | ⟨_, h⟩
          · rw [h] at e3
            exact .inl (by rw [← q1.length]; exact List.getElem?_eq_none_iff.mp (Option.some.inj e3).symm)
          · rw [h] at e4
            exact .inr (by rw [← q2.length]; exact List.getElem?_eq_none_iff.mp (Option.some.inj e4).symm)
  · cases e
end
/-! ### for -/
def forN (src : Src) (g : Eg) (b : Es) : Nat → Nat → Es
  | 0, i => fun env st => match src.get i st with
    | some none => some (.nx env, st)
    | _ => none
  | k + 1, i => fun env st => match src.get i st with
    | some none => some (.nx env, st)
    | some (some d) => bnd (g d env st) fun env st => bnd (b env st) fun fl st => match fl with
      | .nx env => forN src g b k (i + 1) env st
      | .ct env => forN src g b k (i + 1) env st
      | .bk env => some (.nx env, st)
      | .rt d => some (.rt d, st)
    | none => none
def sFor (it : Ei) (g : Eg) (b : Es) : Es := fun env st => bnd (it env st) fun src st => forN src g b src.len 0 env st
def notSet : Expr → Bool
  | .Set _ _ _ => false
  | _ => true
theorem folded_no {e : Expr} {env : Env} (h : notSet e = true) : ∀ x, foldedSetIterable e env x = pure x := by
  intro x
  cases e <;> first | rfl | cases h
section
variable {X : Cx} {T : TabI} {G : Gd} {tg iter : Expr} {fi : Ei} {g : Eg} {ws : List Nat} {body : List Stmt} {sb : Es} {pos : Pos}
theorem simS_for (hx : X.xe = fun _ _ => False) (hc : X.calm = true) (hi : PI X tg iter (tI G fi)) (hg : PG X tg (tG G g ws)) (hb : PSs X body (tS G sb)) (hs : notSet iter = true) : PS X (.For tg iter body [] pos) (tS G (sFor fi g sb)) := by
  refine ps_imp (ps_for (by rw [hx]; exact PassesOwn.never) hc hi hg hb (folded_no hs)) fun D σ H q => ?_
  obtain ⟨ι, st, env, fl, st', at0, e, aft⟩ := q
  obtain ⟨src, st1, e1, e⟩ := bnd_of e
  refine ⟨ι, st, env, src, st1, at0, e1, fun ι1 H1 J p k S sim => ?_⟩
  refine ⟨fun i m σ2 H2 => σ2.length = σ.length ∧ ∃ ι2 st2 env2, ι1 <+: ι2 ∧ Keep G.K H1 H2 ∧ At G H2 ι2 st2 env2 σ2 ∧ forN src g sb m i env2 st2 = some (fl, st') ∧ EndsAt G ι2 H2 σ.length fl st' D,
    ⟨src.len, rfl, ι1, st1, env, List.prefix_rfl, Keep.refl, at0.mono p k S, e, aft.mono p k⟩, ?_⟩
  rintro i m σ2 H2 ⟨hl, ι2, st2, env2, p2, k2, at2, e2, aft2⟩
  obtain ⟨sg, ss⟩ := sim i ι2 H2 st2 p2 k2 at2.s
  cases q : src.get i st2 with
  | none =>
    cases m with
    | zero => unfold forN at e2; rw [q] at e2; cases e2
    | succ m => unfold forN at e2; rw [q] at e2; cases e2
  | some o =>
    cases o with
    | none =>
      have e3 : some (Fl.nx env2, st2) = some (fl, st') := by
        cases m with
        | zero => unfold forN at e2; rw [q] at e2; exact e2
        | succ m => unfold forN at e2; rw [q] at e2; exact e2
      cases e3
      exact .inl ⟨ss q, aft2 ι2 H2 σ2 List.prefix_rfl Keep.refl at2.s at2.e hl⟩
    | some d =>
      cases m with
      | zero => unfold forN at e2; rw [q] at e2; cases e2
      | succ m =>
        unfold forN at e2
        rw [q] at e2
        obtain ⟨env3, st3, e3, e2⟩ := bnd_of e2
        obtain ⟨f4, st4, e4, e2⟩ := bnd_of e2
        obtain ⟨go, yl⟩ := sg d q
        refine .inr ⟨go, fun σ' H' => σ'.length = σ.length ∧ ∃ ι5 st5 env5, ι1 <+: ι5 ∧ Keep G.K H1 H' ∧ At G H' ι5 st5 env5 σ' ∧ forN src g sb m (i + 1) env5 st5 = some (fl, st') ∧ EndsAt G ι5 H' σ.length fl st' D, fun σ' H' w => ⟨m, Nat.lt_succ_self m, w⟩, fun x H' y => ?_⟩
        obtain ⟨k3, S3, r3⟩ := yl x H' y
        refine ⟨ι2, st2, env2, d, env3, st3, at2.mono List.prefix_rfl k3 S3, r3, e3, fun ι4 H4 σ4 p4 k4 S4 E4 kp => ?_⟩
        refine ⟨ι4, st3, env3, f4, st4, ⟨S4, E4⟩, e4, ?_⟩
        have hl4 : σ4.length = σ.length := kp.1.trans hl
        rw [hl4]
        have aft4 := aft2.mono p4 (k3.trans k4)
        cases f4 with
        | nx env5 => exact fun ι5 H5 σ5 p5 k5 S5 E5 l5 => ⟨l5, ι5, st4, env5, p2.trans (p4.trans p5), k2.trans (k3.trans (k4.trans k5)), ⟨S5, E5⟩, e2, aft4.mono p5 k5⟩
        | ct env5 => exact fun ι5 H5 σ5 p5 k5 S5 E5 l5 => ⟨l5, ι5, st4, env5, p2.trans (p4.trans p5), k2.trans (k3.trans (k4.trans k5)), ⟨S5, E5⟩, e2, aft4.mono p5 k5⟩
        | bk env5 => cases e2; exact aft4
        | rt d5 => cases e2; exact aft4
end
end Eng
set_option Elab.async false
set_option linter.all false
set_option maxRecDepth 100000
set_option autoImplicit false
/-! E8: list comprehensions. -/
namespace Eng
open PySem PySem.Spec PyProof.Rows L2

def wipeD (env : Sl) : List Nat → Sl
  | [] => env
  | v :: vs => (wipeD env vs).set v none
theorem EnvOk.wipes {G : Gd} {H : Hp} {ι : List Addr} {env : Sl} {σ : L2.St} (h : EnvOk G H ι env σ) : ∀ vs : List Nat, EnvOk G H ι (wipeD env vs) (L2.wipe σ vs)
  | [] => h
  | v :: vs => (EnvOk.wipes h vs).wipe
theorem wipe_get {σ : L2.St} {j : Nat} : ∀ vs : List Nat, (wipe σ vs)[j]? = if j ∈ vs ∧ j < σ.length then some none else σ[j]?
  | [] => by simp [wipe]
  | v :: vs => by
    unfold wipe
    by_cases hj : v = j
    · subst hj
      by_cases hl : v < σ.length
      · rw [List.getElem?_set_self (by rw [wipe_length]; exact hl), if_pos ⟨by simp, hl⟩]
      · rw [List.getElem?_eq_none (by rw [List.length_set, wipe_length]; omega), if_neg (fun z => hl z.2), List.getElem?_eq_none (by omega)]
    · rw [List.getElem?_set_ne hj, wipe_get vs]
      have : (j ∈ v :: vs) ↔ j ∈ vs := by
        simp only [List.mem_cons]
        exact ⟨fun z => z.elim (fun e => absurd e.symm hj) id, .inr⟩
      simp only [this]
theorem wipe_kpt {σ σ2 : L2.St} {ws vs : List Nat} (k : Kpt ws (wipe σ vs) σ2) (h : ∀ j ∈ ws, j ∈ vs) : wipe σ2 vs = wipe σ vs := by
  apply List.ext_getElem?
  intro j
  have hl : σ2.length = σ.length := by rw [k.1, wipe_length]
  rw [wipe_get vs, wipe_get vs, hl]
  split
  · rfl
  · rename_i hn
    by_cases hj : j ∈ vs
    · have : ¬ j < σ.length := fun z => hn ⟨hj, z⟩
      rw [List.getElem?_eq_none (by omega), List.getElem?_eq_none (by omega)]
    · rw [k.2 j (fun z => hj (h j z)), wipe_get vs, if_neg (fun z => hj z.1)]
def tYs : Et := fun _ st => some (true, st)
def lcN (src : Src) (g : Eg) (t : Et) (e : Ev) (L : Nat) (env0 : Sl) : Nat → Nat → List O → Option (List O)
  | 0, i, st => match src.get i st with
    | some none => some st
    | _ => none
  | k + 1, i, st => match src.get i st with
    | some none => some st
    | some (some d) => match bnd (g d env0 st) fun env st => bnd (t env st) fun b st => match b with
        | true => bnd (e env st) fun x st => match st[L]? with
          | some (.lst acc) => if acc.length < sizeLine then some ((), st.set L (.lst (acc ++ [x]))) else none
          | _ => none
        | false => some ((), st) with
      | some (_, st) => lcN src g t e L env0 k (i + 1) st
      | none => none
    | none => none
def eLc (it : Ei) (g : Eg) (t : Et) (e : Ev) (own : List Nat) : Ev := fun env st => bnd (it env st) fun src st => match lcN src g t e st.length (wipeD env own) src.len 0 (st ++ [.lst []]) with
  | some st' => some (.ref st.length, st')
  | none => none
section
variable {X : Cx} {T : TabI} {G : Gd}
theorem simTs_nil : PTs X [] (tT G tYs) := by
  refine ⟨fun pins s σ H Q I q => (pts_nil (X := X)).run pins s σ H Q I ?_⟩
  obtain ⟨ι, st, env, b, st', at0, e, aft⟩ := q
  cases e
  exact aft ι H List.prefix_rfl Keep.refl at0.s
theorem tLc_of {fi : Ei} {g : Eg} {ws : List Nat} {ft : Et} {fe : Ev} {own : List Nat} (hw : ∀ j ∈ ws, j ∈ own) : ∀ σ H Q, tE G (eLc fi g ft fe own) σ H Q → tLc (tI G fi) (tG G g ws) (tT G ft) (tE G fe) own σ H Q := fun σ H Q q => by
  obtain ⟨ι, st, env, v, st', at0, e, aft⟩ := q
  obtain ⟨src, st1, e1, e⟩ := bnd_of e
  split at e
  · rename_i stE eL
    cases e
    refine ⟨ι, st, env, src, st1, at0, e1, fun ι1 H1 J p k S sim D hD => ?_⟩
    have kN : Keep G.K H1 (upd H1 D (.lst [])) := Keep.new hD
    have S0 : StOk G (upd H1 D (.lst [])) (ι1 ++ [D]) (st1 ++ [.lst []]) := S.new hD ⟨_, upd_same, .nil⟩
    refine ⟨fun i m H2 => ∃ ι2 st2, (ι1 ++ [D]) <+: ι2 ∧ Keep G.K H1 H2 ∧ StOk G H2 ι2 st2 ∧ lcN src g ft fe st1.length (wipeD env own) m i st2 = some st',
      ⟨src.len, ι1 ++ [D], st1 ++ [.lst []], List.prefix_rfl, kN, S0, eL⟩, ?_⟩
    rintro i m H2 ⟨ι2, st2, p2, k2, S2, e2⟩
    have p12 : ι1 <+: ι2 := (List.prefix_append _ _).trans p2
    have hLD : ι2[st1.length]? = some D := pre_get p2 (by rw [← S.len]; simp)
    obtain ⟨sg, ss⟩ := sim i ι2 H2 st2 p12 k2 S2
    cases q : src.get i st2 with
    | none =>
      cases m with
      | zero => unfold lcN at e2; rw [q] at e2; cases e2
      | succ m => unfold lcN at e2; rw [q] at e2; cases e2
    | some o =>
      cases o with
      | none =>
        have e3 : some st2 = some st' := by
          cases m with
          | zero => unfold lcN at e2; rw [q] at e2; exact e2
          | succ m => unfold lcN at e2; rw [q] at e2; exact e2
        cases e3
        exact .inl ⟨ss q, aft ι2 H2 _ (p.trans p12) (k.trans k2) S2 (.ref hLD)⟩
      | some d =>
        cases m with
        | zero => unfold lcN at e2; rw [q] at e2; cases e2
        | succ m =>
          unfold lcN at e2
          rw [q] at e2
          dsimp only at e2
          split at e2
          · rename_i u st5 eT
            obtain ⟨env3, st3, e3, eT⟩ := bnd_of eT
            obtain ⟨b, st4, e4, eT⟩ := bnd_of eT
            obtain ⟨go, yl⟩ := sg d q
            refine .inr ⟨go, fun H' => ∃ ι5 st6, (ι1 ++ [D]) <+: ι5 ∧ Keep G.K H1 H' ∧ StOk G H' ι5 st6 ∧ lcN src g ft fe st1.length (wipeD env own) m (i + 1) st6 = some st', fun H' w => ⟨m, Nat.lt_succ_self m, w⟩, fun x H' y => ?_⟩
            obtain ⟨k3, S3, r3⟩ := yl x H' y
            have E3 : EnvOk G H' ι2 (wipeD env own) (wipe σ own) := ((at0.e.mono (p.trans p12) (k.trans (k2.trans k3))).wipes own)
            refine ⟨ι2, st2, wipeD env own, d, env3, st3, ⟨S3, E3⟩, r3, e3, fun ι4 H4 σ4 p4 k4 S4 E4 kp => ⟨wipe_kpt kp hw, ?_⟩⟩
            refine ⟨ι4, st3, env3, b, st4, ⟨S4, E4⟩, e4, fun ι5 H5 p5 k5 S5 => ?_⟩
            cases b with
            | true =>
              rw [if_pos rfl]
              obtain ⟨xd, st6, e6, eT⟩ := bnd_of eT
              refine ⟨ι5, st4, env3, xd, st6, ⟨S5, E4.mono p5 k5⟩, e6, fun ι6 H6 yv p6 k6 S6 r6 => ?_⟩
              have hLD6 : ι6[st1.length]? = some D := pre_get (p4.trans (p5.trans p6)) hLD
              obtain ⟨o6, eo6, ob6⟩ := S6.at hLD6
              rw [eo6] at eT
              cases o6 with
              | lst acc =>
                dsimp only at eT
                split at eT
                · rename_i hz
                  cases eT
                  obtain ⟨ys, h1, h2⟩ := ob6
                  refine ⟨ys, h1, by rw [← h2.length]; exact hz, ?_⟩
                  have hm : mutO (H6 D) = true := by rw [h1]; rfl
                  have SS := S6.set hLD6 (u := .lst (ys ++ [yv])) (o := .lst (acc ++ [xd])) ⟨_, upd_same, (h2.mono List.prefix_rfl (Keep.upd hm)).append (.one (r6.mono List.prefix_rfl (Keep.upd hm)))⟩
                  exact ⟨ι6, _, p2.trans (p4.trans (p5.trans p6)), k2.trans (k3.trans (k4.trans (k5.trans (k6.trans SS.2)))), SS.1, e2⟩
                · cases eT
              | _ => cases eT
            | false =>
              rw [if_neg Bool.false_ne_true]
              cases eT
              exact ⟨ι5, _, p2.trans (p4.trans p5), k2.trans (k3.trans (k4.trans k5)), S5, e2⟩
          · cases e2
  · cases e
theorem sim_lc {elt tg iter : Expr} {ifs : List Expr} {scope : Scope} {own : List (Str × Nat)} {pos : Pos} {fi : Ei} {g : Eg} {ws : List Nat} {ft : Et} {fe : Ev} (hc : X.calm = true) (hN : X.N.Nodup) (hi : PI X tg iter (tI G fi)) (ok : BlkOk X.N X.env.scope scope own)
    (hg : ∀ (s : Shared) (H : Hp) (C : Addr) (cl : List (Str × Addr)) (fp : List Addr), PG (X.blk s H scope (compEnvC scope cl C X.env) fp) tg (tG G g ws)) (ht : ∀ (s : Shared) (H : Hp) (C : Addr) (cl : List (Str × Addr)) (fp : List Addr), PTs (X.blk s H scope (compEnvC scope cl C X.env) fp) ifs (tT G ft))
    (he : ∀ (s : Shared) (H : Hp) (C : Addr) (cl : List (Str × Addr)) (fp : List Addr), PE (X.blk s H scope (compEnvC scope cl C X.env) fp) elt (tE G fe)) (hs : notSet iter = true) (hw : ∀ j ∈ ws, j ∈ own.map (·.2)) :
    PE X (.ListComp elt [⟨tg, iter, ifs, 0⟩] scope pos) (tE G (eLc fi g ft fe (own.map (·.2)))) := pe_imp (pe_lc hc hN hi ok hg ht he (folded_no hs)) (tLc_of hw)
theorem simS_setLc {i : Nat} {y : Str} {py : Pos} {elt tg iter : Expr} {ifs : List Expr} {scope : Scope} {own : List (Str × Nat)} {pos spos : Pos} {fi : Ei} {g : Eg} {ws : List Nat} {ft : Et} {fe : Ev} (hc : X.calm = true) (hN : X.N.Nodup) (hy : X.N[i]? = some y) (hyl : X.env.scope.names.lookup y = some .local)
    (hsw : swapsWith (.ListComp elt [⟨tg, iter, ifs, 0⟩] scope pos) (some (.Name y py)) spos.line X.env = pure true) (hi : PI X tg iter (tI G fi)) (ok : BlkOk X.N X.env.scope scope own)
    (hg : ∀ (s : Shared) (H : Hp) (C : Addr) (cl : List (Str × Addr)) (fp : List Addr), PG (X.blk s H scope (compEnvC scope cl C X.env) fp) tg (tG G g ws)) (ht : ∀ (s : Shared) (H : Hp) (C : Addr) (cl : List (Str × Addr)) (fp : List Addr), PTs (X.blk s H scope (compEnvC scope cl C X.env) fp) ifs (tT G ft))
    (he : ∀ (s : Shared) (H : Hp) (C : Addr) (cl : List (Str × Addr)) (fp : List Addr), PE (X.blk s H scope (compEnvC scope cl C X.env) fp) elt (tE G fe)) (hs : notSet iter = true) (hw : ∀ j ∈ ws, j ∈ own.map (·.2)) :
    PS X (.Assign [.Name y py] (.ListComp elt [⟨tg, iter, ifs, 0⟩] scope pos) spos) (tS G (sAsg (eLc fi g ft fe (own.map (·.2))) (gNm i))) := by
  refine ps_imp (ps_setLc hc hN hy hyl hsw hi ok hg ht he (folded_no hs)) fun D σ H q => ?_
  refine tLc_of hw σ H _ ?_
  obtain ⟨ι, st, env, fl, st', at0, e, aft⟩ := q
  obtain ⟨d, st1, e1, e⟩ := bnd_of e
  obtain ⟨env1, st2, e2, e⟩ := bnd_of e
  cases e2
  cases e
  exact ⟨ι, st, env, _, _, at0, e1, fun ι1 H1 x p k S r => aft ι1 H1 _ p k S ((at0.e.mono p k).set r) (by simp)⟩
end
end Eng
set_option Elab.async false
set_option linter.all false
set_option maxRecDepth 100000
set_option autoImplicit false
/-! E9: attributes, calls, methods, instances, isinstance. -/
namespace Eng
open PySem PySem.Spec PyProof.Rows L2

abbrev CallT := Nat → List D → List O → Rs D
/-- what the walk asks of the program's classes, by numbers -/
structure Tb where
  fk : Nat → Nat → Bool
  mt : Nat → Nat → Option Nat
  ini : Nat → Option (Option Nat)
  sub : Nat → Nat → Bool
/-- where the defs stand -/
structure Dd where
  fa : Nat → Addr
  fd : Nat → FuncData
  ps : Nat → List Str
structure ClsOk (K : PySem.W.Frag) (T : TabI) (tb : Tb) (dd : Dd) : Prop where
  nm : NmOk T
  cls : ∀ c C, T.ca c = some C → Cls K C
  fld : ∀ c i C, tb.fk c i = true → T.ca c = some C → i < T.nf ∧ NoAttr K C (T.nm i)
  meth : ∀ c m f C, tb.mt c m = some f → T.ca c = some C → m < T.nf ∧ Meth K C (T.nm m) (dd.fa f)
  mkI : ∀ c f C, tb.ini c = some (some f) → T.ca c = some C → Mk K C (dd.fa f)
  mk0 : ∀ c C, tb.ini c = some none → T.ca c = some C → PySem.W.makesIn K C = true ∧ PySem.W.findIn K (.ref C) "__init__" = some (some (.builtin "object.__init__")) ∧ PySem.W.keepIn K (.ref C) = true
  isx : ∀ c C, T.ca c = some C → PySem.W.findIn K (.ref C) "__class__" = some (some (.builtin "object.__class__")) ∧ PySem.W.specialIn K (.builtin "object.__class__") "__get__" = some (some (.builtin "getset_descriptor.__get__")) ∧
    PySem.W.takesIn K (.builtin "object.__class__") = some true ∧ PySem.W.mroIn K C (.type "object") = some true
  isi : ∀ c c' C C', T.ca c = some C → T.ca c' = some C' → PySem.W.kitOne K (.ref C) (.ref C') = some (tb.sub c c')
  isb : ∀ c C, T.ca c = some C → ∀ b : BT, b ≠ .none → PySem.W.kitOne K (.ref C) (.type b.name) = some false
  iso : ∀ c C, T.ca c = some C → ∀ b : BT, PySem.W.kitOne K (.type b.name) (.ref C) = some false
/-- the promise of a def by the simulation -/
def spD (G : Gd) (cl : CallT) (n f : Nat) : Sp := fun vs H Q _ => ∃ ι st ds d st', StOk G H ι st ∧ RelDs G H ι ds vs ∧ ds.length = n ∧ cl f ds st = some (d, st') ∧ After G ι H d st' Q

/-! ### attributes -/
def eFld (fk : Nat → Nat → Bool) (a : Ev) (i : Nat) : Ev := fun env st => bnd (a env st) fun x st => match x with
  | .ref n => match st[n]? with
    | some (.ins c fs) => if fk c i then match getI fs i with
        | some d => some (d, st)
        | none => none
      else none
    | _ => none
  | _ => none
def plainBase : Expr → Bool
  | .Call (.Name id _) _ _ _ => id != ("super" : Str)
  | _ => true
theorem base_of {o : Expr} {attr : Str} {env : Env} {whole : Sem Value} (h : plainBase o = true) : attributeBase o attr env whole = whole := by
  cases o with
  | Call f args kws pos =>
    cases f with
    | Name id p =>
      cases args with
      | nil =>
        cases kws with
        | nil => exact abase_call h
        | cons _ _ => rfl
      | cons _ _ => rfl
    | _ => rfl
  | _ => rfl
section
variable {X : Cx} {T : TabI} {tb : Tb} {dd : Dd} {e o : Expr} {fa : Ev} {pos apos : Pos}
theorem sim_fld {i : Nat} (C : ClsOk X.K T tb dd) (he : PE X e (tE (gd T X) fa)) (hb : plainBase e = true) : PE X (.Attribute e (T.nm i) pos) (tE (gd T X) (eFld tb.fk fa i)) := by
  refine pe_imp (pe_fld he (base_of hb)) fun σ H Q q => ?_
  obtain ⟨ι, st, env, v, st', at0, e, aft⟩ := q
  obtain ⟨x, st1, e1, e⟩ := bnd_of e
  refine ⟨ι, st, env, x, st1, at0, e1, fun ι1 H1 xv p k S r => ?_⟩
  cases r with
  | ref h =>
    obtain ⟨ob, e2, q⟩ := S.at h
    dsimp only at e
    rw [e2] at e
    cases ob with
    | ins c fs =>
      dsimp only at e
      split at e
      · rename_i hf
        obtain ⟨Ca, dx, gs, hC, hH, hr⟩ := q
        obtain ⟨hi, na⟩ := C.fld c i Ca hf hC
        rcases hr.lookup C.nm hi with ⟨z, _⟩ | ⟨d, w, z1, z2, z3⟩
        · rw [z] at e; cases e
        · rw [z1] at e
          cases e
          exact ⟨_, Ca, dx, gs, w, rfl, hH, C.cls c Ca hC, na, z2, aft ι1 H1 w p k S z3⟩
      · cases e
    | _ => cases e
  | _ => cases e
end
def gAt (fk : Nat → Nat → Bool) (a : Ev) (i : Nat) : Eg := fun d env st => bnd (a env st) fun x st => match x with
  | .ref n => match st[n]? with
    | some (.ins c fs) => if fk c i && decide (fs.length < 1000) then some (env, st.set n (.ins c (putI i d fs))) else none
    | _ => none
  | _ => none
section
variable {X : Cx} {T : TabI} {tb : Tb} {dd : Dd} {e o : Expr} {fa : Ev} {pos apos : Pos}
theorem simG_attr {i : Nat} (C : ClsOk X.K T tb dd) (he : PE X o (tE (gd T X) fa)) : PG X (.Attribute o (T.nm i) pos) (tG (gd T X) (gAt tb.fk fa i) []) := by
  refine ⟨fun pins s σ H v u Q I r h => ?_⟩
  show wpAny _ _ (do
    let ov ← holding [u] (eval o X.env)
    standAt pos.atName
    holding [u, ov] (setAttr ov (T.nm i) u)
    release [u, ov] []) _ _ s
  obtain ⟨ι, st, env, d, env', st', at0, rd, e, aft⟩ := h
  obtain ⟨x, st1, e1, e⟩ := bnd_of e
  refine wpAny_bind (wpAny_holding (thn (he.run pins s σ H (fun xv H1 => ∃ ι1, ι <+: ι1 ∧ Keep X.K H H1 ∧ StOk (gd T X) H1 ι1 st1 ∧ RelD (gd T X) H1 ι1 x xv) I ⟨ι, st, env, x, st1, at0, e1, fun ι1 H1 xv p k S r => ⟨ι1, p, k, S, r⟩⟩) fun ov s1 ⟨xv, H1, I1, r1, ι1, p, k, S, rx⟩ => ?_))
  refine wpAny_bind (wpAny_standAt (wpAny_bind (wpAny_holding ?_)))
  cases rx with
  | ref hn =>
    obtain ⟨ob, e2, q⟩ := S.at hn
    dsimp only at e
    rw [e2] at e
    cases ob with
    | ins c fs =>
      dsimp only at e
      split at e
      · rename_i hf
        rw [Bool.and_eq_true, decide_eq_true_eq] at hf
        cases e
        obtain ⟨Ca, dx, gs, hC, hH, hr⟩ := q
        obtain ⟨hi, na⟩ := C.fld c i Ca hf.1 hC
        cases r1
        refine setattr_ok I1 hH (C.cls c Ca hC) na (by rw [← hr.length]; exact hf.2) r fun s2 I2 => wpAny_release ⟨σ, _, I2, ?_⟩
        have SS := S.set hn (u := .ins Ca dx (putF (T.nm i) v gs)) (o := .ins c (putI i d fs)) ⟨Ca, dx, _, hC, upd_same, (hr.mono List.prefix_rfl (Keep.upd (by rw [hH]; rfl))).put C.nm hi ((rd.mono p k).mono List.prefix_rfl (Keep.upd (by rw [hH]; rfl)))⟩
        exact aft ι1 _ σ p (k.trans SS.2) SS.1 (at0.e.mono p (k.trans SS.2)) .refl
      · cases e
    | _ => cases e
  | _ => cases e
end
/-! ### calls of defs -/
def eCall (cl : CallT) (f : Nat) (as : Ea) : Ev := fun env st => bnd (as env st) fun ds st => cl f ds st
theorem backTo_plain {pos : Pos} {env : Env} : ∀ {es : List Expr}, es.all notStar = true → (backTo pos (starEach es env)).any (·.1) = false
  | [], _ => rfl
  | e :: es, h => by
    rw [List.all_cons, Bool.and_eq_true] at h
    rw [starEach_cons h.1]
    show (false || (backTo pos (starEach es env)).any (·.1)) = false
    rw [backTo_plain h.2]
    rfl
theorem backTo_all {pos : Pos} {env : Env} : ∀ {es : List Expr}, es.all notStar = true → (backTo pos (starEach es env)).all (fun x => !x.1) = true
  | [], _ => rfl
  | e :: es, h => by
    rw [List.all_cons, Bool.and_eq_true] at h
    rw [starEach_cons h.1]
    show (true && (backTo pos (starEach es env)).all (fun x => !x.1)) = true
    rw [backTo_all h.2]
    rfl
section
variable {X : Cx} {T : TabI} {G : Gd} {tb : Tb} {dd : Dd} {cl : CallT} {k f : Nat} {x : Str} {p pos apos : Pos} {e o : Expr} {es : List Expr} {as : Ea} {fo : Ev}
theorem sp_of (hlen : ∀ ds st z, cl f ds st = some z → ds.length = (dd.ps f).length) {σ : L2.St} {H : Hp} {Q : VK} (q : tE G (eCall cl f as) σ H Q) : tA G as σ H fun vs H1 => spD G cl (dd.ps f).length f (vs ++ []) H1 Q E0 := by
  obtain ⟨ι, st, env, v, st', at0, e, aft⟩ := q
  obtain ⟨ds, st1, e1, e⟩ := bnd_of e
  refine ⟨ι, st, env, ds, st1, at0, e1, fun ι1 H1 xs p k S r => ?_⟩
  show spD G cl (dd.ps f).length f (xs ++ []) H1 Q E0
  rw [List.append_nil]
  exact ⟨ι1, st1, ds, v, st', S, r, hlen _ _ _ e, e, aft.mono p k⟩
theorem sim_call (F : FnOk X.prog X.w X.K X.mg X.base CX0 k (dd.fa f) (dd.fd f) (dd.ps f) (spD G cl (dd.ps f).length f)) (hr : Room k X.A) (hg : Gl X x) (hm : X.mg x = some (.ref (dd.fa f))) (hk : PySem.W.keepIn X.K (.ref (dd.fa f)) = true) (hb : Binds X.K (dd.fd f) (dd.ps f) [])
    (hlen : ∀ ds st z, cl f ds st = some z → ds.length = (dd.ps f).length) (ha : PA X (e :: es) (tA G as)) (hd : (x == ("__debug__" : Str)) = false) (hs : (e :: es).all notStar = true) : PE X (.Call (.Name x p) (e :: es) [] pos) (tE G (eCall cl f as)) := by
  rw [List.all_cons, Bool.and_eq_true] at hs
  exact pe_imp (pe_call F hr hg hm hk hb .nil pass0 ha hd (starEach_cons hs.1) (backTo_plain hs.2)) fun σ H Q q => sp_of hlen q
theorem nil_of {σ : L2.St} {H : Hp} {Q : List V → Hp → Prop} (h : tA G aNil σ H Q) : tNil σ H Q := by
  obtain ⟨ι, st, env, v, st', at0, e, aft⟩ := h
  cases e
  exact aft ι H [] List.prefix_rfl Keep.refl at0.s .nil
theorem sim_call0 (F : FnOk X.prog X.w X.K X.mg X.base CX0 k (dd.fa f) (dd.fd f) (dd.ps f) (spD G cl (dd.ps f).length f)) (hr : Room k X.A) (hg : Gl X x) (hm : X.mg x = some (.ref (dd.fa f))) (hk : PySem.W.keepIn X.K (.ref (dd.fa f)) = true) (hb : Binds X.K (dd.fd f) (dd.ps f) [])
    (hlen : ∀ ds st z, cl f ds st = some z → ds.length = (dd.ps f).length) (hd : (x == ("__debug__" : Str)) = false) : PE X (.Call (.Name x p) [] [] pos) (tE G (eCall cl f aNil)) :=
  pe_imp (pe_call0 F hr hg hm hk hb .nil pass0 hd) fun σ H Q q => nil_of (sp_of hlen q)
/-! ### methods -/
theorem meth_tree {m : Str} {args : List Expr} {env : Env} (hb : plainBase o = true) (hs : args.all notStar = true) (hl : (apos.endLine == pos.line) = true) (hn : args.length < 30) :
    eval (.Call (.Attribute o m apos) args [] pos) env = (do
      let ov ← eval o env
      standAt apos.atName
      let (f, first) ← holding [ov] (getMethod ov m (do return (← importBound o env).getD true))
      callWith pos f first (backTo pos (starEach args env)) (backToKw pos (keywordEach [] env))) := by
  refine mcall_of (base_of hb) fun ov => ?_
  have hf : methodCallForm (args.length + ([] : List Keyword).length) (backTo pos (starEach args env)) (backToKw pos (keywordEach [] env)) = true := by
    unfold methodCallForm
    rw [backTo_all hs]
    show (true && true && decide (args.length + 0 + 0 < 30)) = true
    simpa using hn
  have hp : methodCallPos true o env apos pos = pure pos := by unfold methodCallPos; simp [hl]
  unfold methodCall
  rw [hf, hp]
  rfl
def eMeth (cl : CallT) (mt : Nat → Nat → Option Nat) (o : Ev) (m : Nat) (as : Ea) : Ev := fun env st => bnd (o env st) fun x st => match x with
  | .ref n => match st[n]? with
    | some (.ins c fs) => match mt c m, getI fs m with
      | some f, none => bnd (as env st) fun ds st => cl f (x :: ds) st
      | _, _ => none
    | _ => none
  | _ => none
theorem sim_meth {m : Nat} {args : List Expr} (C : ClsOk X.K T tb dd) (F : ∀ c f, tb.mt c m = some f → FnOk X.prog X.w X.K X.mg X.base CX0 k (dd.fa f) (dd.fd f) (dd.ps f) (spD (gd T X) cl (dd.ps f).length f) ∧ Binds X.K (dd.fd f) (dd.ps f) []) (hr : Room k X.A)
    (hlen : ∀ f ds st z, cl f ds st = some z → ds.length = (dd.ps f).length) (ho : PE X o (tE (gd T X) fo)) (ha : PA X args (tA (gd T X) as)) (hb : plainBase o = true) (hs : args.all notStar = true) (hl : (apos.endLine == pos.line) = true) (hn : args.length < 30) (h0 : args = [] → as = aNil) :
    PE X (.Call (.Attribute o (T.nm m) apos) args [] pos) (tE (gd T X) (eMeth cl tb.mt fo m as)) := by
  refine ⟨fun pins s σ H Q I h => ?_⟩
  obtain ⟨ι, st, env, v, st', at0, e, aft⟩ := h
  obtain ⟨x, st1, e1, e⟩ := bnd_of e
  refine PySem.W.methodCall_KW (thn (ho.run pins s σ H (fun xv H1 => ∃ ι1, ι <+: ι1 ∧ Keep X.K H H1 ∧ StOk (gd T X) H1 ι1 st1 ∧ RelD (gd T X) H1 ι1 x xv) I ⟨ι, st, env, x, st1, at0, e1, fun ι1 H1 xv p k S r => ⟨ι1, p, k, S, r⟩⟩) fun u s1 ⟨xv, H1, I1, rx, ι1, p, k, S, r⟩ => ?_) (meth_tree hb hs hl hn)
  cases r with
  | ref hn =>
    obtain ⟨ob, e2, q⟩ := S.at hn
    dsimp only at e
    rw [e2] at e
    cases ob with
    | ins c fs =>
      dsimp only at e
      split at e
      · rename_i f ef eg
        obtain ⟨Ca, dx, gs, hC, hH, hr'⟩ := q
        obtain ⟨hm, M⟩ := C.meth c m f Ca ef hC
        obtain ⟨ds, st2, e3, e⟩ := bnd_of e
        have nolk : gs.lookup (T.nm m) = none := by
          rcases hr'.lookup C.nm hm with ⟨_, z⟩ | ⟨d, w, z1, _, _⟩
          · exact z
          · rw [eg] at z1; cases z1
        cases rx
        refine getmeth_ok I1 hH (C.cls c Ca hC) M nolk ?_
        obtain ⟨Ff, Bf⟩ := F c f ef
        have fin : ∀ ι2 H2 s2 vs us, ι1 <+: ι2 → Keep X.K H1 H2 → StOk (gd T X) H2 ι2 st2 → RelDs (gd T X) H2 ι2 ds vs → L2.Inv X pins σ H2 s2 → Vals vs us → wpAny (model X.prog X.w) X.A (call (.ref (dd.fa f)) (.ref _ :: us)) (EP X pins σ Q) X.xe s2 := fun ι2 H2 s2 vs us p2 k2 S2 r2 I2 rv =>
          run_fn (us := .ref _ :: us) (vs := .ref _ :: vs) Ff hr Bf .nil pass0 I2 (.cons rfl rv) (by
            rw [List.append_nil]
            exact ⟨ι2, st2, _, v, st', S2, .cons (.ref (pre_get p2 hn)) r2, hlen _ _ _ _ e, e, aft.mono (p.trans p2) (k.trans k2)⟩)
        have ar : tA (gd T X) as σ H1 fun vs H2 => ∃ ι2, ι1 <+: ι2 ∧ Keep X.K H1 H2 ∧ StOk (gd T X) H2 ι2 st2 ∧ RelDs (gd T X) H2 ι2 ds vs := ⟨ι1, st1, env, ds, st2, at0.mono p k S, e3, fun ι2 H2 vs p2 k2 S2 r2 => ⟨ι2, p2, k2, S2, r2⟩⟩
        cases args with
        | nil =>
          refine PySem.W.callWith_K0 (first := [.ref _]) I1.kIn M.kp ?_
          rw [h0 rfl] at e3
          cases e3
          exact fin ι1 H1 s1 [] [] List.prefix_rfl Keep.refl S .nil I1 .nil
        | cons e0 es =>
          rw [List.all_cons, Bool.and_eq_true] at hs
          refine PySem.W.callWith_K (first := [.ref _]) (h₀ := X.base) I.ok.mod.kin M.kp (thn (ha.run pos pins s1 σ H1 _ I1 ar) fun us s2 ⟨vs, H2, I2, rv, ι2, p2, k2, S2, r2⟩ => ⟨I2.kIn, ?_⟩) (starEach_cons hs.1) (backTo_plain hs.2)
          exact fin ι2 H2 s2 vs us p2 k2 S2 r2 I2 rv
      · cases e
    | _ => cases e
  | _ => cases e
end
/-! ### new instances -/
def eMake (cl : CallT) (c f : Nat) (as : Ea) : Ev := fun env st => bnd (as env st) fun ds st => bnd (cl f (.ref st.length :: ds) (st ++ [.ins c []])) fun r st' => match r with
  | .non => some (.ref st.length, st')
  | _ => none
def eMake0 (c : Nat) : Ev := fun _ st => some (.ref st.length, st ++ [.ins c []])
section
variable {X : Cx} {T : TabI} {tb : Tb} {dd : Dd} {cl : CallT} {k f c : Nat} {Ca : Addr} {x : Str} {p pos : Pos} {e : Expr} {es : List Expr} {as : Ea}
theorem st_made {G : Gd} {H : Hp} {ι : List Addr} {st : List O} {xa dx : Addr} (S : StOk G H ι st) (hC : G.T.ca c = some Ca) (nx : H xa = none) (nd : H dx = none) (ne : dx ≠ xa) :
    StOk G (upd (upd H dx (.own xa)) xa (.ins Ca dx [])) (ι ++ [xa]) (st ++ [.ins c []]) ∧ Keep G.K H (upd (upd H dx (.own xa)) xa (.ins Ca dx [])) := by
  have h1 : (upd H dx (.own xa)) xa = none := by rw [upd_ne (Ne.symm ne)]; exact nx
  exact ⟨(S.side nd).new h1 ⟨Ca, dx, [], hC, upd_same, True.intro⟩, (Keep.new nd).trans (Keep.new h1)⟩
theorem make_of (hC : T.ca c = some Ca) (hlen : ∀ ds st z, cl f ds st = some z → ds.length = (dd.ps f).length) {σ : L2.St} {H : Hp} {Q : VK} (q : tE (gd T X) (eMake cl c f as) σ H Q) :
    tA (gd T X) as σ H fun vs H1 => ∀ xa dx, H1 xa = none → H1 dx = none → dx ≠ xa → spD (gd T X) cl (dd.ps f).length f (.ref xa :: (vs ++ [])) (upd (upd H1 dx (.own xa)) xa (.ins Ca dx [])) (fun v H2 => v = .non ∧ Q (.ref xa) H2) E0 := by
  obtain ⟨ι, st, env, v, st', at0, e, aft⟩ := q
  obtain ⟨ds, st1, e1, e⟩ := bnd_of e
  obtain ⟨r, st2, e2, e⟩ := bnd_of e
  refine ⟨ι, st, env, ds, st1, at0, e1, fun ι1 H1 xs p k S rr xa dx nx nd ne => ?_⟩
  obtain ⟨S1, k1⟩ := st_made S hC nx nd ne
  have hxa : (ι1 ++ [xa])[st1.length]? = some xa := by rw [← S.len]; simp
  refine ⟨ι1 ++ [xa], st1 ++ [.ins c []], .ref st1.length :: ds, r, st2, S1, .cons (.ref hxa) (by rw [List.append_nil]; exact rr.mono (List.prefix_append _ _) k1), hlen _ _ _ e2, e2, fun ι2 H2 w p2 k2 S2 rw' => ?_⟩
  cases r with
  | non =>
    cases rw'
    cases e
    exact ⟨rfl, aft ι2 H2 _ (p.trans ((List.prefix_append _ _).trans p2)) (k.trans (k1.trans k2)) S2 (.ref (pre_get p2 hxa))⟩
  | _ => cases e
theorem sim_make (C : ClsOk X.K T tb dd) (hi : tb.ini c = some (some f)) (hC : T.ca c = some Ca) (F : FnOk X.prog X.w X.K X.mg X.base CX0 k (dd.fa f) (dd.fd f) (dd.ps f) (spD (gd T X) cl (dd.ps f).length f)) (hr : Room (k + 1) X.A) (hg : Gl X x) (hm : X.mg x = some (.ref Ca)) (hb : Binds X.K (dd.fd f) (dd.ps f) [])
    (hlen : ∀ ds st z, cl f ds st = some z → ds.length = (dd.ps f).length) (ha : PA X (e :: es) (tA (gd T X) as)) (hd : (x == ("__debug__" : Str)) = false) (hs : (e :: es).all notStar = true) : PE X (.Call (.Name x p) (e :: es) [] pos) (tE (gd T X) (eMake cl c f as)) := by
  rw [List.all_cons, Bool.and_eq_true] at hs
  exact pe_imp (pe_make (C.mkI c f Ca hi hC) F hr hg hm hb .nil pass0 ha hd (starEach_cons hs.1) (backTo_plain hs.2)) fun σ H Q q => make_of hC hlen q
theorem sim_makeN (C : ClsOk X.K T tb dd) (hi : tb.ini c = some (some f)) (hC : T.ca c = some Ca) (F : FnOk X.prog X.w X.K X.mg X.base CX0 k (dd.fa f) (dd.fd f) (dd.ps f) (spD (gd T X) cl (dd.ps f).length f)) (hr : Room (k + 1) X.A) (hg : Gl X x) (hm : X.mg x = some (.ref Ca)) (hb : Binds X.K (dd.fd f) (dd.ps f) [])
    (hlen : ∀ ds st z, cl f ds st = some z → ds.length = (dd.ps f).length) (hd : (x == ("__debug__" : Str)) = false) : PE X (.Call (.Name x p) [] [] pos) (tE (gd T X) (eMake cl c f aNil)) :=
  pe_imp (pe_make0 (C.mkI c f Ca hi hC) F hr hg hm hb .nil pass0 hd) fun σ H Q q => nil_of (make_of hC hlen q)
theorem sim_make0 (C : ClsOk X.K T tb dd) (hi : tb.ini c = some none) (hC : T.ca c = some Ca) (hg : Gl X x) (hm : X.mg x = some (.ref Ca)) (hd : (x == ("__debug__" : Str)) = false) : PE X (.Call (.Name x p) [] [] pos) (tE (gd T X) (eMake0 c)) := by
  refine ⟨fun pins s σ H Q I h => ?_⟩
  obtain ⟨ι, st, env, v, st', at0, e, aft⟩ := h
  cases e
  obtain ⟨h1, h2, h3⟩ := C.mk0 c Ca hi hC
  refine wpAny_Call_Name_kw (ld_glob I hg hm ?_ hd)
  refine PySem.W.callWith_K0 I.kIn h3 (wpAny_call ?_)
  have I2 := Inv.made (C := Ca) I
  have Y := PySem.W.makes_of (M := model X.prog X.w) I.kIn h1
  have eo : ((s.heap.push PySem.W.emptyDict).push (PySem.W.instObj Ca s.heap.objs.size)).get? (s.heap.objs.size + 1) = some (PySem.W.instObj Ca s.heap.objs.size) := by
    have := Heap.get?_push_size (s.heap.push PySem.W.emptyDict) (o := PySem.W.instObj Ca s.heap.objs.size) rfl
    rwa [Heap.size_push] at this
  have nx : H (s.heap.objs.size + 1) = none := I.hok.fresh (Nat.le_succ _)
  have nd : H s.heap.objs.size = none := I.hok.fresh (Nat.le_refl _)
  obtain ⟨S1, k1⟩ := st_made at0.s hC nx nd (Nat.ne_of_lt (Nat.lt_succ_self _))
  have fin : EP X pins σ Q (.ref (s.heap.objs.size + 1)) { s with heap := (s.heap.push PySem.W.emptyDict).push (PySem.W.instObj Ca s.heap.objs.size) } :=
    ⟨.ref _, _, I2, rfl, aft _ _ _ (List.prefix_append _ _) k1 S1 (.ref (by rw [← at0.s.len]; simp))⟩
  refine make_map0 I.kIn h1 h2 (fun self => PySem.W.Looks.of_pure (PySem.W.oi_bind self)) ?_
  have t1 : PySem.W.Looks (model X.prog X.w) ((s.heap.push PySem.W.emptyDict).push (PySem.W.instObj Ca s.heap.objs.size)) (typeOf (.ref (s.heap.objs.size + 1))) (.ref Ca) := (PySem.W.Looks.ld eo).andThen .now
  have t2 : PySem.W.Looks (model X.prog X.w) ((s.heap.push PySem.W.emptyDict).push (PySem.W.instObj Ca s.heap.objs.size)) (isInstance (.ref (s.heap.objs.size + 1)) (.type "object")) true := t1.andThen (Y.top.keeps fun b o e => Heap.get?_push_of_some _ (Heap.get?_push_of_some _ e))
  refine codeAny_call_builtin PySem.W.oi_plain PySem.W.entry_oi (@PySem.W.check_slot (model X.prog X.w) _ _ _ "object.__init__" "object" "__init__" (.ref (s.heap.objs.size + 1)) [] [] _ PySem.W.oi_kind PySem.W.oi_split t2 (PySem.W.oi_args (.ref (s.heap.objs.size + 1))) ?_)
  rw [PySem.W.oi_run]
  exact wpAny_pure (And.intro rfl fin)
end
end Eng
set_option Elab.async false
set_option linter.all false
set_option maxRecDepth 100000
set_option autoImplicit false
/-! E10: built-in functions and methods. -/
namespace Eng
open PySem PySem.Spec PyProof.Rows L2

abbrev Fb := List D → List O → Rs D
def rB (G : Gd) (f : Fb) : List V → Hp → VK → Prop := fun vs H Q => ∃ ι st ds d st', StOk G H ι st ∧ RelDs G H ι ds vs ∧ f ds st = some (d, st') ∧ After G ι H d st' Q
def eBf (f : Fb) (as : Ea) : Ev := fun env st => bnd (as env st) fun ds st => f ds st
theorem tCB_of {G : Gd} {f : Fb} {as : Ea} : ∀ σ H Q, tE G (eBf f as) σ H Q → tCB (rB G f) (tA G as) σ H Q := fun σ H Q q => by
  obtain ⟨ι, st, env, v, st', at0, e, aft⟩ := q
  obtain ⟨ds, st1, e1, e⟩ := bnd_of e
  exact ⟨ι, st, env, ds, st1, at0, e1, fun ι1 H1 xs p k S r => ⟨ι1, st1, ds, v, st', S, r, e, aft.mono p k⟩⟩
section
variable {X : Cx} {G : Gd} {f : Fb} {x : Str} {id : String} {e : Expr} {es : List Expr} {as : Ea} {p pos : Pos}
theorem sim_callB (hc : CallR X (.builtin id) (rB G f)) (hg : Gl X x) (hm : X.mg x = none) (hv : bootBuiltins x = some (.builtin id)) (ha : PA X (e :: es) (tA G as)) (hn : x ≠ "__name__") (hd : (x == ("__debug__" : Str)) = false) (hs : (e :: es).all notStar = true) : PE X (.Call (.Name x p) (e :: es) [] pos) (tE G (eBf f as)) := by
  rw [List.all_cons, Bool.and_eq_true] at hs
  exact pe_imp (pe_callB hc hg hm hv ha hn hd (starEach_cons hs.1) (backTo_plain hs.2)) tCB_of
theorem sim_callTy (hc : CallR X (.type id) (rB G f)) (hg : Gl X x) (hm : X.mg x = none) (hv : bootBuiltins x = some (.type id)) (ha : PA X (e :: es) (tA G as)) (hn : x ≠ "__name__") (hd : (x == ("__debug__" : Str)) = false) (hs : (e :: es).all notStar = true) : PE X (.Call (.Name x p) (e :: es) [] pos) (tE G (eBf f as)) := by
  rw [List.all_cons, Bool.and_eq_true] at hs
  exact pe_imp (pe_callTy hc hg hm hv ha hn hd (starEach_cons hs.1) (backTo_plain hs.2)) tCB_of
end
/-! ### the functions -/
def toInts : List D → Option (List Int)
  | [] => some []
  | .int i :: r => match toInts r with
    | some l => some (i :: l)
    | none => none
  | _ :: _ => none
def toBls : List D → Option (List Bool)
  | [] => some []
  | .bl i :: r => match toBls r with
    | some l => some (i :: l)
    | none => none
  | _ :: _ => none
theorem toInts_eq : ∀ {ds : List D} {ns : List Int}, toInts ds = some ns → ds = ns.map D.int
  | [], ns, h => by cases h; rfl
  | d :: r, ns, h => by
    cases d with
    | int i =>
      unfold toInts at h
      cases q : toInts r with
      | none => rw [q] at h; cases h
      | some l => rw [q] at h; cases h; rw [toInts_eq q]; rfl
    | _ => cases h
theorem toBls_eq : ∀ {ds : List D} {ns : List Bool}, toBls ds = some ns → ds = ns.map D.bl
  | [], ns, h => by cases h; rfl
  | d :: r, ns, h => by
    cases d with
    | bl i =>
      unfold toBls at h
      cases q : toBls r with
      | none => rw [q] at h; cases h
      | some l => rw [q] at h; cases h; rw [toBls_eq q]; rfl
    | _ => cases h
theorem toInts_map (ns : List Int) : toInts (ns.map D.int) = some ns := by
  induction ns with
  | nil => rfl
  | cons n ns ih => simp [toInts, ih]
theorem rel_ints {G : Gd} {H : Hp} {ι : List Addr} : ∀ {ns : List Int} {vs : List V}, RelDs G H ι (ns.map D.int) vs → vs = ns.map V.int
  | [], _, h => by cases h; rfl
  | n :: ns, _, h => by
    cases h with
    | cons r t => cases r; rw [rel_ints t]; rfl
theorem rel_bls {G : Gd} {H : Hp} {ι : List Addr} : ∀ {ns : List Bool} {vs : List V}, RelDs G H ι (ns.map D.bl) vs → vs = ns.map V.bl
  | [], _, h => by cases h; rfl
  | n :: ns, _, h => by
    cases h with
    | cons r t => cases r; rw [rel_bls t]; rfl
theorem ints_rel {G : Gd} {H : Hp} {ι : List Addr} : ∀ (ns : List Int), RelDs G H ι (ns.map D.int) (ns.map V.int)
  | [] => .nil
  | n :: ns => .cons (.int n) (ints_rel ns)
def fLen : Fb := fun ds st => match ds with
  | [.str z] => if z.length ≤ sizeLine then some (.int z.length, st) else none
  | [.ref n] => match st[n]? with
    | some (.lst xs) => some (.int xs.length, st)
    | some (.dK kvs) => some (.int kvs.length, st)
    | _ => none
  | [.tup xs] => some (.int xs.length, st)
  | [.rol xs] => some (.int xs.length, st)
  | _ => none
def fInt : Fb := fun ds st => match ds with
  | [.int i] => some (.int i, st)
  | [.bl k] => some (.int (if k then 1 else 0), st)
  | [.str a] => match PySem.intText? a with
    | some n => if a.length ≤ 640 then some (.int n, st) else none
    | none => none
  | _ => none
def fAbs : Fb := fun ds st => match ds with
  | [.int i] => some (.int (if i < 0 then -i else i), st)
  | _ => none
def maxL : Int → List Int → Int
  | m, [] => m
  | m, x :: r => maxL (if m < x then x else m) r
def minL : Int → List Int → Int
  | m, [] => m
  | m, x :: r => minL (if x < m then x else m) r
def fMax : Fb := fun ds st => match ds with
  | [.int i, .int j] => some (.int (if j > i then j else i), st)
  | [d] => match lstOf st d with
    | some xs => match toInts xs with
      | some (n :: ns) => some (.int (maxL n ns), st)
      | _ => none
    | none => none
  | _ => none
def fMin : Fb := fun ds st => match ds with
  | [.int i, .int j] => some (.int (if j < i then j else i), st)
  | [d] => match lstOf st d with
    | some xs => match toInts xs with
      | some (n :: ns) => some (.int (minL n ns), st)
      | _ => none
    | none => none
  | _ => none
def fTup : Fb := fun ds st => match ds with
  | [.tup xs] => some (.tup xs, st)
  | [d] => match lstOf st d with
    | some xs => some (.tup xs, st)
    | none => none
  | _ => none
def fLst : Fb := fun ds st => match ds with
  | [d] => match seqOf st d with
    | some xs => some (.ref st.length, st ++ [.lst xs])
    | none => none
  | _ => none
def fSum : Fb := fun ds st => match ds with
  | [d] => match lstOf st d with
    | some xs => match toInts xs with
      | some ns => some (.int ns.sum, st)
      | none => none
    | none => none
  | _ => none
def fAll : Fb := fun ds st => match ds with
  | [d] => match lstOf st d with
    | some xs => match toBls xs with
      | some bs => some (.bl (bs.all id), st)
      | none => none
    | none => none
  | _ => none
def fAny : Fb := fun ds st => match ds with
  | [d] => match lstOf st d with
    | some xs => match toBls xs with
      | some bs => some (.bl (bs.any id), st)
      | none => none
    | none => none
  | _ => none
def insI (x : Int) : List Int → List Int
  | [] => [x]
  | y :: r => if x ≤ y then x :: y :: r else y :: insI x r
def sortI : List Int → List Int
  | [] => []
  | x :: r => insI x (sortI r)
def fSorted : Fb := fun ds st => match ds with
  | [d] => match lstOf st d with
    | some xs => match toInts xs with
      | some ns => some (.ref st.length, st ++ [.lst ((sortI ns).map D.int)])
      | none => none
    | none => none
  | _ => none
def fStrI : Fb := fun ds st => match ds with
  | [.int i] => if i.natAbs.log2 < 1920 then some (.str (toString i), st) else none
  | _ => none
theorem insI_perm (x : Int) : ∀ l : List Int, (insI x l).Perm (x :: l)
  | [] => .refl _
  | y :: r => by
    unfold insI
    split
    · exact .refl _
    · exact ((insI_perm x r).cons y).trans (.swap x y r)
theorem sortI_perm : ∀ l : List Int, (sortI l).Perm l
  | [] => .refl _
  | x :: r => (insI_perm x (sortI r)).trans ((sortI_perm r).cons x)
theorem insI_sorted {x : Int} : ∀ {l : List Int}, l.Pairwise (· ≤ ·) → (insI x l).Pairwise (· ≤ ·)
  | [], _ => by simp [insI]
  | y :: r, h => by
    rw [List.pairwise_cons] at h
    unfold insI
    split
    · rename_i hxy
      rw [List.pairwise_cons]
      refine ⟨fun z hz => ?_, List.pairwise_cons.mpr h⟩
      rcases List.mem_cons.mp hz with rfl | hz
      · exact hxy
      · exact Int.le_trans hxy (h.1 z hz)
    · rename_i hxy
      rw [List.pairwise_cons]
      refine ⟨fun z hz => ?_, insI_sorted h.2⟩
      rcases List.mem_cons.mp ((insI_perm x r).mem_iff.mp hz) with rfl | hz
      · omega
      · exact h.1 z hz
theorem sortI_sorted : ∀ l : List Int, (sortI l).Pairwise (· ≤ ·)
  | [] => by simp [sortI]
  | x :: r => insI_sorted (sortI_sorted r)
theorem sorted_one {a b : List Int} (p : a.Perm b) (ha : a.Pairwise (· ≤ ·)) (hb : b.Pairwise (· ≤ ·)) : a = b :=
  p.eq_of_pairwise (fun x y _ _ h1 h2 => Int.le_antisymm h1 h2) ha hb
theorem maxL_spec : ∀ (l : List Int) (m : Int), maxL m l ∈ m :: l ∧ ∀ y ∈ m :: l, y ≤ maxL m l
  | [], m => by simp [maxL]
  | x :: r, m => by
    unfold maxL
    generalize ht : (if m < x then x else m) = t
    have h0 : m ≤ t ∧ x ≤ t ∧ (t = m ∨ t = x) := by
      rw [← ht]
      split <;> omega
    obtain ⟨h1, h2⟩ := maxL_spec r t
    have h3 := h2 t List.mem_cons_self
    refine ⟨?_, fun y hy => ?_⟩
    · rcases List.mem_cons.mp h1 with e | e
      · rw [e]; rcases h0.2.2 with z | z <;> simp [z]
      · exact List.mem_cons_of_mem _ (List.mem_cons_of_mem _ e)
    · rcases List.mem_cons.mp hy with rfl | hy
      · omega
      · rcases List.mem_cons.mp hy with rfl | hy
        · omega
        · exact h2 y (List.mem_cons_of_mem _ hy)
theorem minL_spec : ∀ (l : List Int) (m : Int), minL m l ∈ m :: l ∧ ∀ y ∈ m :: l, minL m l ≤ y
  | [], m => by simp [minL]
  | x :: r, m => by
    unfold minL
    generalize ht : (if x < m then x else m) = t
    have h0 : t ≤ m ∧ t ≤ x ∧ (t = m ∨ t = x) := by
      rw [← ht]
      split <;> omega
    obtain ⟨h1, h2⟩ := minL_spec r t
    have h3 := h2 t List.mem_cons_self
    refine ⟨?_, fun y hy => ?_⟩
    · rcases List.mem_cons.mp h1 with e | e
      · rw [e]; rcases h0.2.2 with z | z <;> simp [z]
      · exact List.mem_cons_of_mem _ (List.mem_cons_of_mem _ e)
    · rcases List.mem_cons.mp hy with rfl | hy
      · omega
      · rcases List.mem_cons.mp hy with rfl | hy
        · omega
        · exact h2 y (List.mem_cons_of_mem _ hy)
section
variable {X : Cx} {T : TabI}
theorem b_len : CallR X (.builtin "len") (rB (gd T X) fLen) := by
  intro pins s σ H vs us Q I r h
  obtain ⟨ι, st, ds, d, st', S, rd, hf, aft⟩ := h
  unfold fLen at hf
  split at hf
  · split at hf
    · rename_i hz
      cases hf
      cases rd with
      | cons r1 t => cases r1; cases t; exact call_len_str pins s σ H _ us Q I r ⟨_, rfl, hz, aft.here S (.int _)⟩
    · cases hf
  · cases rd with
    | cons r1 t =>
      cases t
      cases r1 with
      | ref hn =>
        obtain ⟨o, e1, ob⟩ := S.at hn
        rw [e1] at hf
        cases o with
        | lst xs =>
          cases hf
          obtain ⟨ys, h1, h2⟩ := ob
          exact call_len_seq pins s σ H _ us Q I r ⟨_, _, rfl, .inl (.of h1), by rw [← h2.length]; exact aft.here S (.int _)⟩
        | dK kvs =>
          cases hf
          obtain ⟨ys, h1, h2⟩ := ob
          exact call_lenD pins s σ H _ us Q I r ⟨_, _, rfl, h1, by rw [← h2.length]; exact aft.here S (.int _)⟩
        | _ => cases hf
  · cases hf
    cases rd with
    | cons r1 t =>
      cases t
      cases r1 with
      | tup h q => exact call_len_seq pins s σ H _ us Q I r ⟨_, _, rfl, .inr h, by rw [← q.length]; exact aft.here S (.int _)⟩
  · cases hf
    cases rd with
    | cons r1 t =>
      cases t
      cases r1 with
      | rol h q => exact call_len_seq pins s σ H _ us Q I r ⟨_, _, rfl, .inl h.sqL, by rw [← q.length]; exact aft.here S (.int _)⟩
  · cases hf
theorem b_int : CallR X (.type "int") (rB (gd T X) fInt) := by
  intro pins s σ H vs us Q I r h
  obtain ⟨ι, st, ds, d, st', S, rd, hf, aft⟩ := h
  unfold fInt at hf
  split at hf
  · cases hf
    cases rd with
    | cons r1 t => cases r1; cases t; exact call_int1 pins s σ H _ us Q I r (.inl ⟨_, rfl, aft.here S (.int _)⟩)
  · cases hf
    cases rd with
    | cons r1 t => cases r1; cases t; exact call_int1 pins s σ H _ us Q I r (.inr ⟨_, rfl, aft.here S (.int _)⟩)
  · split at hf
    · rename_i n hn
      split at hf
      · rename_i hz
        cases hf
        cases rd with
        | cons r1 t => cases r1; cases t; exact call_int_str pins s σ H _ us Q I r ⟨_, n, rfl, hn, hz, aft.here S (.int _)⟩
      · cases hf
    · cases hf
  · cases hf
theorem b_abs : CallR X (.builtin "abs") (rB (gd T X) fAbs) := by
  intro pins s σ H vs us Q I r h
  obtain ⟨ι, st, ds, d, st', S, rd, hf, aft⟩ := h
  unfold fAbs at hf
  split at hf
  · cases hf
    cases rd with
    | cons r1 t => cases r1; cases t; exact call_abs pins s σ H _ us Q I r ⟨_, rfl, aft.here S (.int _)⟩
  · cases hf
theorem ints_at {G : Gd} {H : Hp} {ι : List Addr} {st : List O} {d : D} {x : V} {xs : List D} {ns : List Int} (S : StOk G H ι st) (r : RelD G H ι d x) (e : lstOf st d = some xs) (e2 : toInts xs = some ns) : ∃ a, x = .ref a ∧ SqL G.K H a (ns.map V.int) := by
  obtain ⟨a, ys, h1, h2, h3⟩ := lstOf_rel S r e
  rw [toInts_eq e2] at h3
  rw [rel_ints h3] at h2
  exact ⟨a, h1, h2⟩
theorem b_max (hc : X.calm = true) : CallR X (.builtin "max") (rB (gd T X) fMax) := by
  intro pins s σ H vs us Q I r h
  obtain ⟨ι, st, ds, d, st', S, rd, hf, aft⟩ := h
  unfold fMax at hf
  split at hf
  · cases hf
    cases rd with
    | cons r1 t =>
      cases r1
      cases t with
      | cons r2 t2 => cases r2; cases t2; exact call_max2 hc pins s σ H _ us Q I r ⟨_, _, rfl, aft.here S (.int _)⟩
  · split at hf
    · rename_i xs ex
      split at hf
      · rename_i n ns en
        cases hf
        cases rd with
        | cons r1 t =>
          cases t
          obtain ⟨a, rfl, hs⟩ := ints_at S r1 ex en
          refine cr_max hc pins s σ H _ us Q I r ⟨a, n :: ns, rfl, hs, by simp, fun m hm hle => ?_⟩
          obtain ⟨z1, z2⟩ := maxL_spec ns n
          have : m = maxL n ns := Int.le_antisymm (z2 m hm) (hle _ z1)
          rw [this]
          exact aft.here S (.int _)
      · cases hf
    · cases hf
  · cases hf
theorem b_min (hc : X.calm = true) : CallR X (.builtin "min") (rB (gd T X) fMin) := by
  intro pins s σ H vs us Q I r h
  obtain ⟨ι, st, ds, d, st', S, rd, hf, aft⟩ := h
  unfold fMin at hf
  split at hf
  · cases hf
    cases rd with
    | cons r1 t =>
      cases r1
      cases t with
      | cons r2 t2 => cases r2; cases t2; exact call_min2 hc pins s σ H _ us Q I r ⟨_, _, rfl, aft.here S (.int _)⟩
  · split at hf
    · rename_i xs ex
      split at hf
      · rename_i n ns en
        cases hf
        cases rd with
        | cons r1 t =>
          cases t
          obtain ⟨a, rfl, hs⟩ := ints_at S r1 ex en
          refine cr_min hc pins s σ H _ us Q I r ⟨a, n :: ns, rfl, hs, by simp, fun m hm hle => ?_⟩
          obtain ⟨z1, z2⟩ := minL_spec ns n
          have : m = minL n ns := Int.le_antisymm (hle _ z1) (z2 m hm)
          rw [this]
          exact aft.here S (.int _)
      · cases hf
    · cases hf
  · cases hf
theorem b_tup : CallR X (.type "tuple") (rB (gd T X) fTup) := by
  intro pins s σ H vs us Q I r h
  obtain ⟨ι, st, ds, d, st', S, rd, hf, aft⟩ := h
  unfold fTup at hf
  split at hf
  · cases hf
    cases rd with
    | cons r1 t =>
      cases t
      cases r1 with
      | tup h q => exact call_tuple_of pins s σ H _ us Q I r ⟨_, _, rfl, .inr ⟨h, aft.here S (.tup h q)⟩⟩
  · split at hf
    · rename_i xs ex
      cases hf
      cases rd with
      | cons r1 t =>
        cases t
        obtain ⟨a, ys, rfl, h2, h3⟩ := lstOf_rel S r1 ex
        refine call_tuple_of pins s σ H _ us Q I r ⟨_, _, rfl, .inl ⟨h2, fun p hp => ?_⟩⟩
        exact aft ι _ _ List.prefix_rfl (Keep.new hp) (S.side hp) (.tup (.of upd_same) (h3.mono List.prefix_rfl (Keep.new hp)))
    · cases hf
  · cases hf
theorem b_lst : CallR X (.type "list") (rB (gd T X) fLst) := by
  intro pins s σ H vs us Q I r h
  obtain ⟨ι, st, ds, d, st', S, rd, hf, aft⟩ := h
  unfold fLst at hf
  split at hf
  · split at hf
    · rename_i xs ex
      cases hf
      cases rd with
      | cons r1 t =>
        cases t
        obtain ⟨a, ys, rfl, h2, h3⟩ := seqOf_rel S r1 ex
        refine call_list_of pins s σ H _ us Q I r ⟨_, _, rfl, h2, fun p hp => ?_⟩
        refine aft (ι ++ [p]) _ _ (List.prefix_append _ _) (Keep.new hp) (S.new hp ⟨_, upd_same, h3.mono (List.prefix_append _ _) (Keep.new hp)⟩) (.ref ?_)
        rw [← S.len]
        simp
    · cases hf
  · cases hf
theorem b_sum (hc : X.calm = true) : CallR X (.builtin "sum") (rB (gd T X) fSum) := by
  intro pins s σ H vs us Q I r h
  obtain ⟨ι, st, ds, d, st', S, rd, hf, aft⟩ := h
  unfold fSum at hf
  split at hf
  · split at hf
    · rename_i xs ex
      split at hf
      · rename_i ns en
        cases hf
        cases rd with
        | cons r1 t =>
          cases t
          obtain ⟨a, rfl, hs⟩ := ints_at S r1 ex en
          exact cr_sum hc pins s σ H _ us Q I r ⟨a, ns, rfl, hs, aft.here S (.int _)⟩
      · cases hf
    · cases hf
  · cases hf
theorem bls_at {G : Gd} {H : Hp} {ι : List Addr} {st : List O} {d : D} {x : V} {xs : List D} {ns : List Bool} (S : StOk G H ι st) (r : RelD G H ι d x) (e : lstOf st d = some xs) (e2 : toBls xs = some ns) : ∃ a, x = .ref a ∧ SqL G.K H a (ns.map V.bl) := by
  obtain ⟨a, ys, h1, h2, h3⟩ := lstOf_rel S r e
  rw [toBls_eq e2] at h3
  rw [rel_bls h3] at h2
  exact ⟨a, h1, h2⟩
theorem b_all (hc : X.calm = true) : CallR X (.builtin "all") (rB (gd T X) fAll) := by
  intro pins s σ H vs us Q I r h
  obtain ⟨ι, st, ds, d, st', S, rd, hf, aft⟩ := h
  unfold fAll at hf
  split at hf
  · split at hf
    · rename_i xs ex
      split at hf
      · rename_i ns en
        cases hf
        cases rd with
        | cons r1 t =>
          cases t
          obtain ⟨a, rfl, hs⟩ := bls_at S r1 ex en
          exact cr_all hc pins s σ H _ us Q I r ⟨a, ns, rfl, hs, aft.here S (.bl _)⟩
      · cases hf
    · cases hf
  · cases hf
theorem b_any (hc : X.calm = true) : CallR X (.builtin "any") (rB (gd T X) fAny) := by
  intro pins s σ H vs us Q I r h
  obtain ⟨ι, st, ds, d, st', S, rd, hf, aft⟩ := h
  unfold fAny at hf
  split at hf
  · split at hf
    · rename_i xs ex
      split at hf
      · rename_i ns en
        cases hf
        cases rd with
        | cons r1 t =>
          cases t
          obtain ⟨a, rfl, hs⟩ := bls_at S r1 ex en
          exact cr_any hc pins s σ H _ us Q I r ⟨a, ns, rfl, hs, aft.here S (.bl _)⟩
      · cases hf
    · cases hf
  · cases hf
theorem b_sorted : CallR X (.builtin "sorted") (rB (gd T X) fSorted) := by
  intro pins s σ H vs us Q I r h
  obtain ⟨ι, st, ds, d, st', S, rd, hf, aft⟩ := h
  unfold fSorted at hf
  split at hf
  · split at hf
    · rename_i xs ex
      split at hf
      · rename_i ns en
        cases hf
        cases rd with
        | cons r1 t =>
          cases t
          obtain ⟨a, rfl, hs⟩ := ints_at S r1 ex en
          refine cr_sortedI pins s σ H _ us Q I r ⟨a, ns, rfl, hs, fun ns' p perm srt hp => ?_⟩
          have : ns' = sortI ns := sorted_one (perm.trans (sortI_perm ns).symm) srt (sortI_sorted ns)
          subst this
          refine aft (ι ++ [p]) _ _ (List.prefix_append _ _) (Keep.new hp) (S.new hp ⟨_, upd_same, ints_rel _⟩) (.ref ?_)
          rw [← S.len]
          simp
      · cases hf
    · cases hf
  · cases hf
theorem b_str : CallR X (.type "str") (rB (gd T X) fStrI) := by
  intro pins s σ H vs us Q I r h
  obtain ⟨ι, st, ds, d, st', S, rd, hf, aft⟩ := h
  unfold fStrI at hf
  split at hf
  · split at hf
    · rename_i hz
      cases hf
      cases rd with
      | cons r1 t => cases r1; cases t; exact call_str_int pins s σ H _ us Q I r ⟨_, rfl, hz, aft.here S (.str _)⟩
    · cases hf
  · cases hf
end
/-! ### isinstance -/
inductive Tg where
  | b (t : BT) | c (k : Nat)
def tagOf (st : List O) : D → Option Tg
  | .non => some (.b .none)
  | .bl _ => some (.b .bool)
  | .int _ => some (.b .int)
  | .str _ => some (.b .str)
  | .tup _ => some (.b .tuple)
  | .rol _ => some (.b .list)
  | .ref n => match st[n]? with
    | some (.lst _) => some (.b .list)
    | some (.dK _) => some (.b .dict)
    | some (.dT _) => some (.b .dict)
    | some (.ins c _) => some (.c c)
    | _ => none
  | _ => none
def isB : BT → BT → Bool
  | .bool, .int => true
  | a, b => decide (a = b)
/-- isinstance of a tag by one class -/
def isOne (sub : Nat → Nat → Bool) : Tg → D → Option Bool
  | .b a, .ty .none => none
  | .b a, .ty b => some (isB a b)
  | .b _, .cls _ => some false
  | .c _, .ty .none => none
  | .c _, .ty _ => some false
  | .c k, .cls k' => some (sub k k')
  | _, _ => none
def isAny (sub : Nat → Nat → Bool) (t : Tg) : List D → Option Bool
  | [] => some false
  | d :: r => match isOne sub t d with
    | some true => some true
    | some false => isAny sub t r
    | none => none
def fIsi (sub : Nat → Nat → Bool) : Fb := fun ds st => match ds with
  | [x, .tup cs] => match tagOf st x with
    | some t => if cs.all (fun d => (isOne sub t d).isSome) then match isAny sub t cs with
        | some b => some (.bl b, st)
        | none => none
      else none
    | none => none
  | [x, c] => match tagOf st x with
    | some t => match isOne sub t c with
      | some b => some (.bl b, st)
      | none => none
    | none => none
  | _ => none
section
variable {X : Cx} {T : TabI} {tb : Tb} {dd : Dd}
/-- a tag as the model's type -/
def TgV (T : TabI) : Tg → Value → Prop
  | .b t, u => u = .type t.name
  | .c k, u => ∃ C, T.ca k = some C ∧ u = .ref C
theorem tag_rel {H : Hp} {ι : List Addr} {st : List O} {d : D} {x : V} {t : Tg} (C : ClsOk X.K T tb dd) (S : StOk (gd T X) H ι st) (r : RelD (gd T X) H ι d x) (e : tagOf st d = some t) : ∃ u, TgV T t u ∧ TyX X.K H x u := by
  cases r with
  | non => cases e; exact ⟨_, rfl, .base .non⟩
  | bl b => cases e; exact ⟨_, rfl, .base (.bl b)⟩
  | int i => cases e; exact ⟨_, rfl, .base (.int i)⟩
  | str z => cases e; exact ⟨_, rfl, .base (.str z)⟩
  | ty b => cases e
  | cls h => cases e
  | tup h q =>
    cases e
    rcases h with (h | ⟨o, h⟩) | ⟨o, its, n, hk, hc, _⟩
    · exact ⟨_, rfl, .base (.tup h)⟩
    · exact ⟨_, rfl, .fTuple h⟩
    · exact ⟨_, rfl, .kTuple hk hc⟩
  | rol h q =>
    cases e
    rcases h with ⟨o, h⟩ | ⟨o, its, n, hk, hc, _⟩
    · exact ⟨_, rfl, .base (.frz h)⟩
    · exact ⟨_, rfl, .kList hk hc⟩
  | ref h =>
    obtain ⟨o, e1, ob⟩ := S.at h
    unfold tagOf at e
    dsimp only at e
    rw [e1] at e
    cases o with
    | lst xs => cases e; obtain ⟨ys, h1, _⟩ := ob; exact ⟨_, rfl, .base (.lst h1)⟩
    | dK xs => cases e; obtain ⟨ys, h1, _⟩ := ob; exact ⟨_, rfl, .base (.dK h1)⟩
    | dT xs => cases e; obtain ⟨ys, h1, _⟩ := ob; exact ⟨_, rfl, .base (.dT h1)⟩
    | ins c fs =>
      cases e
      obtain ⟨Ca, dx, gs, hC, hH, _⟩ := ob
      obtain ⟨z1, z2, z3, z4⟩ := C.isx c Ca hC
      exact ⟨_, ⟨Ca, hC, rfl⟩, .base (.ins hH (C.cls c Ca hC) z1 z2 z3 z4)⟩
    | exc c m => cases e
    | xds fs => cases e
theorem kitB_ok (a b : BT) (hb : b ≠ .none) : kitB a.name b.name = some (isB a b) := by
  cases a <;> cases b <;> first | exact absurd rfl hb | decide +kernel
theorem one_rel {H : Hp} {ι : List Addr} {d : D} {x : V} {t : Tg} {u : Value} {b : Bool} (C : ClsOk X.K T tb dd) (ht : TgV T t u) (r : RelD (gd T X) H ι d x) (e : isOne tb.sub t d = some b) : ∃ w, ClsV x w ∧ PySem.W.kitOne X.K u w = some b := by
  cases t with
  | b a =>
    cases ht
    cases r with
    | ty z =>
      refine ⟨_, .ty _, ?_⟩
      by_cases hz : z = .none
      · subst hz; cases e
      · have e : some (isB a z) = some b := by cases z <;> first | exact e | exact absurd rfl hz
        rw [← e]
        exact kit_ty (kitB_ok a z hz)
    | cls h =>
      cases e
      exact ⟨_, .own _, C.iso _ _ h a⟩
    | _ => cases e
  | c k =>
    obtain ⟨Ca, hC, rfl⟩ := ht
    cases r with
    | ty z =>
      refine ⟨_, .ty _, ?_⟩
      by_cases hz : z = .none
      · subst hz; cases e
      · have e : some false = some b := by cases z <;> first | exact e | exact absurd rfl hz
        rw [← e]
        exact C.isb _ _ hC z hz
    | cls h =>
      cases e
      exact ⟨_, .own _, C.isi _ _ _ _ hC h⟩
    | _ => cases e
theorem any_rel {H : Hp} {ι : List Addr} {t : Tg} {u : Value} (C : ClsOk X.K T tb dd) (ht : TgV T t u) : ∀ {ds : List D} {xs : List V} {b : Bool}, RelDs (gd T X) H ι ds xs → isAny tb.sub t ds = some b → (∀ d ∈ ds, ∃ b', isOne tb.sub t d = some b') → ∃ ws, Paired ClsV xs ws ∧ PySem.W.kitAny X.K u ws = some b
  | [], _, b, .nil, e, _ => by cases e; exact ⟨[], .nil, kitAny_nil⟩
  | d :: ds, _, b, .cons r t', e, ha => by
    obtain ⟨b1, e1⟩ := ha d (by simp)
    obtain ⟨w, h1, h2⟩ := one_rel C ht r e1
    unfold isAny at e
    rw [e1] at e
    cases b1 with
    | true =>
      cases e
      have all : ∀ {es : List D} {ys : List V}, RelDs (gd T X) H ι es ys → (∀ d ∈ es, ∃ b', isOne tb.sub t d = some b') → ∃ ws, Paired ClsV ys ws := by
        intro es
        induction es with
        | nil => intro ys r _; cases r; exact ⟨[], .nil⟩
        | cons a es ih =>
          intro ys r ha
          cases r with
          | cons r1 r2 =>
            obtain ⟨b2, e2⟩ := ha a (by simp)
            obtain ⟨w2, h3, _⟩ := one_rel C ht r1 e2
            obtain ⟨ws, h4⟩ := ih r2 fun d hd => ha d (List.mem_cons_of_mem _ hd)
            exact ⟨w2 :: ws, .cons h3 h4⟩
      obtain ⟨ws, h4⟩ := all t' fun d hd => ha d (List.mem_cons_of_mem _ hd)
      exact ⟨w :: ws, .cons h1 h4, kitAny_cons h2 (fun z => nomatch z) fun _ => rfl⟩
    | false =>
      obtain ⟨ws, h4, h5⟩ := any_rel C ht t' e fun d hd => ha d (List.mem_cons_of_mem _ hd)
      exact ⟨w :: ws, .cons h1 h4, kitAny_cons h2 (fun _ => h5) fun z => nomatch z⟩
theorem b_isi (C : ClsOk X.K T tb dd) : CallR X (.builtin "isinstance") (rB (gd T X) (fIsi tb.sub)) := by
  intro pins s σ H vs us Q I r h
  obtain ⟨ι, st, ds, d, st', S, rd, hf, aft⟩ := h
  unfold fIsi at hf
  split at hf
  · split at hf
    · rename_i t et
      split at hf
      · rename_i hall
        split at hf
        · rename_i b eb
          cases hf
          cases rd with
          | cons r1 t1 =>
            cases t1 with
            | cons r2 t2 =>
              cases t2
              cases r2 with
              | tup hq q =>
                obtain ⟨u, hu, ty⟩ := tag_rel C S r1 et
                have ha : ∀ d ∈ _, ∃ b', isOne tb.sub t d = some b' := fun d hd => Option.isSome_iff_exists.mp (List.all_eq_true.mp hall d hd)
                obtain ⟨ws, hw, hk⟩ := any_rel C hu q eb ha
                obtain ⟨u1, u2, rfl, rv1, rv2⟩ := vals2 r
                cases rv2
                obtain ⟨P, Z, p, hx⟩ := kit_of I rv1 ty
                obtain ⟨its, rv, ⟨o, h1, h2, n, h3⟩, _⟩ := I.tuple hq
                have e3 := ClsV.all hw rv
                subst e3
                obtain ⟨oc, od, dt, sl⟩ := o
                simp only at h2 h3
                subst h2 h3
                exact PySem.W.kia_tup Z I.kIn p h1 hk hx fun tk => ⟨.bl b, H, I.tok tk, rfl, aft.here S (.bl _)⟩
        · cases hf
      · cases hf
    · cases hf
  · split at hf
    · rename_i t et
      split at hf
      · rename_i b eb
        cases hf
        cases rd with
        | cons r1 t1 =>
          cases t1 with
          | cons r2 t2 =>
            cases t2
            obtain ⟨u, hu, ty⟩ := tag_rel C S r1 et
            obtain ⟨w, hw, hk⟩ := one_rel C hu r2 eb
            exact call_isi pins s σ H _ us Q I r ⟨_, _, _, _, _, rfl, hw, ty, hk, aft.here S (.bl _)⟩
      · cases hf
    · cases hf
  · cases hf
/-! ### methods of built-in classes -/
abbrev Fm := D → List D → List O → Rs D
def rM (G : Gd) (f : Fm) : V → List V → Hp → VK → Prop := fun x vs H Q => ∃ ι st d ds v st', StOk G H ι st ∧ RelD G H ι d x ∧ RelDs G H ι ds vs ∧ f d ds st = some (v, st') ∧ After G ι H v st' Q
def mApp : Fm := fun x ds st => match x, ds with
  | .ref n, [y] => match st[n]? with
    | some (.lst xs) => if xs.length < sizeLine then some (.non, st.set n (.lst (xs ++ [y]))) else none
    | _ => none
  | _, _ => none
def mPop : Fm := fun x ds st => match x, ds with
  | .ref n, [] => match st[n]? with
    | some (.lst xs) => match xs[xs.length - 1]? with
      | some y => some (y, st.set n (.lst xs.dropLast))
      | none => none
    | _ => none
  | .ref n, [.int i] => match st[n]? with
    | some (.lst xs) => if -(2 ^ 63) ≤ i ∧ i < 2 ^ 63 then match seqIndex? i xs.length with
        | some k => match xs[k]? with
          | some y => some (y, st.set n (.lst (xs.eraseIdx k)))
          | none => none
        | none => none
      else none
    | _ => none
  | _, _ => none
def mExt : Fm := fun x ds st => match x, ds with
  | .ref n, [.ref m] => match st[n]?, st[m]? with
    | some (.lst xs), some (.lst ys) => if xs.length + ys.length ≤ sizeLine then some (.non, st.set n (.lst (xs ++ ys))) else none
    | _, _ => none
  | _, _ => none
theorem RelDs.dropLast {G : Gd} {H : Hp} {ι : List Addr} {ds : List D} {vs : List V} (r : RelDs G H ι ds vs) : RelDs G H ι ds.dropLast vs.dropLast := by
  rw [List.dropLast_eq_take, List.dropLast_eq_take, ← r.length]
  exact r.take _
theorem m_app : MtR X "list.append" (rM (gd T X) mApp) := by
  intro pins s σ H x xs v us Q I rx rs h
  obtain ⟨ι, st, d, ds, r, st', S, r1, r2, hf, aft⟩ := h
  unfold mApp at hf
  split at hf
  · cases r1 with
    | ref hn =>
      obtain ⟨o, e1, ob⟩ := S.at hn
      rw [e1] at hf
      cases o with
      | lst zs =>
        dsimp only at hf
        split at hf
        · rename_i hz
          cases hf
          obtain ⟨ys, h1, h2⟩ := ob
          cases r2 with
          | cons r3 t =>
            cases t
            refine mt_append pins s σ H _ _ v us Q I rx rs ⟨_, _, _, rfl, rfl, h1, by rw [← h2.length]; exact hz, ?_⟩
            have SS := S.set hn (u := .lst (ys ++ [_])) (o := .lst (zs ++ [_])) ⟨_, upd_same, (h2.mono List.prefix_rfl (Keep.upd (by rw [h1]; rfl))).append (.one (r3.mono List.prefix_rfl (Keep.upd (by rw [h1]; rfl))))⟩
            exact aft ι _ _ List.prefix_rfl SS.2 SS.1 .non
        · cases hf
      | _ => cases hf
  · cases hf
theorem m_pop : MtR X "list.pop" (rM (gd T X) mPop) := by
  intro pins s σ H x xs v us Q I rx rs h
  obtain ⟨ι, st, d, ds, r, st', S, r1, r2, hf, aft⟩ := h
  unfold mPop at hf
  split at hf
  · cases r1 with
    | ref hn =>
      obtain ⟨o, e1, ob⟩ := S.at hn
      rw [e1] at hf
      cases o with
      | lst zs =>
        dsimp only at hf
        split at hf
        · rename_i y ey
          cases hf
          obtain ⟨ys, h1, h2⟩ := ob
          cases r2
          obtain ⟨w, hw, rw'⟩ := h2.get ey
          refine mt_pop pins s σ H _ _ v us Q I rx rs ⟨_, _, _, rfl, rfl, h1, by rw [← h2.length]; exact hw, ?_⟩
          have SS := S.set hn (u := .lst ys.dropLast) (o := .lst zs.dropLast) ⟨_, upd_same, (h2.mono List.prefix_rfl (Keep.upd (by rw [h1]; rfl))).dropLast⟩
          exact aft ι _ _ List.prefix_rfl SS.2 SS.1 (rw'.mono List.prefix_rfl SS.2)
        · cases hf
      | _ => cases hf
  · cases r1 with
    | ref hn =>
      obtain ⟨o, e1, ob⟩ := S.at hn
      rw [e1] at hf
      cases o with
      | lst zs =>
        dsimp only at hf
        split at hf
        · rename_i hi
          split at hf
          · rename_i k ek
            split at hf
            · rename_i y ey
              cases hf
              obtain ⟨ys, h1, h2⟩ := ob
              cases r2 with
              | cons r3 t =>
                cases t
                cases r3
                obtain ⟨w, hw, rw'⟩ := h2.get ey
                refine mt_popAt pins s σ H _ _ v us Q I rx rs ⟨_, _, _, k, _, rfl, rfl, h1, hi.1, hi.2, by rw [← h2.length]; exact ek, hw, ?_⟩
                have SS := S.set hn (u := .lst (ys.eraseIdx k)) (o := .lst (zs.eraseIdx k)) ⟨_, upd_same, (h2.mono List.prefix_rfl (Keep.upd (by rw [h1]; rfl))).eraseIdx k⟩
                exact aft ι _ _ List.prefix_rfl SS.2 SS.1 (rw'.mono List.prefix_rfl SS.2)
            · cases hf
          · cases hf
        · cases hf
      | _ => cases hf
  · cases hf
theorem m_ext : MtR X "list.extend" (rM (gd T X) mExt) := by
  intro pins s σ H x xs v us Q I rx rs h
  obtain ⟨ι, st, d, ds, r, st', S, r1, r2, hf, aft⟩ := h
  unfold mExt at hf
  split at hf
  · cases r1 with
    | ref hn =>
      cases r2 with
      | cons r3 t =>
        cases t
        cases r3 with
        | ref hm =>
          split at hf
          · rename_i zs ws ez ew
            split at hf
            · rename_i hz
              cases hf
              obtain ⟨o, e1, ob⟩ := S.at hn
              rw [ez] at e1
              cases e1
              obtain ⟨o2, e2, ob2⟩ := S.at hm
              rw [ew] at e2
              cases e2
              obtain ⟨ys, h1, h2⟩ := ob
              obtain ⟨ys2, h3, h4⟩ := ob2
              refine mt_extend pins s σ H _ _ v us Q I rx rs ⟨_, _, _, _, rfl, rfl, h1, h3, by rw [← h2.length, ← h4.length]; exact hz, ?_⟩
              have SS := S.set hn (u := .lst (ys ++ ys2)) (o := .lst (zs ++ ws)) ⟨_, upd_same, (h2.mono List.prefix_rfl (Keep.upd (by rw [h1]; rfl))).append (h4.mono List.prefix_rfl (Keep.upd (by rw [h1]; rfl)))⟩
              exact aft ι _ _ List.prefix_rfl SS.2 SS.1 .non
            · cases hf
          · cases hf
  · cases hf
/-- which built-in method a name is, of a list -/
def eMb (f : Fm) (o : Ev) (as : Ea) : Ev := fun env st => bnd (o env st) fun x st => match lstOf st x with
  | some _ => bnd (as env st) fun ds st => f x ds st
  | none => none
theorem sim_lm {f : Fm} {name : Str} {id : String} {o : Expr} {args : List Expr} {fo : Ev} {as : Ea} {apos pos : Pos} (slot : Slot "list" name id) (hty : typeOf (.builtin id) = pure (.type "method_descriptor")) (hm : MtR X id (rM (gd T X) f)) (ho : PE X o (tE (gd T X) fo)) (ha : PA X args (tA (gd T X) as))
    (hb : plainBase o = true) (hs : args.all notStar = true) (hl : (apos.endLine == pos.line) = true) (hn : args.length < 30) (h0 : args = [] → as = aNil) : PE X (.Call (.Attribute o name apos) args [] pos) (tE (gd T X) (eMb f fo as)) := by
  have rd : ∀ σ H Q, tE (gd T X) (eMb f fo as) σ H Q → tE (gd T X) fo σ H fun x H1 => tyV X.K "list" x H1 ∧ tA (gd T X) as σ H1 fun xs H2 => rM (gd T X) f x xs H2 Q := fun σ H Q q => by
    obtain ⟨ι, st, env, v, st', at0, e, aft⟩ := q
    obtain ⟨x, st1, e1, e⟩ := bnd_of e
    refine ⟨ι, st, env, x, st1, at0, e1, fun ι1 H1 xv p k S r => ?_⟩
    split at e
    · rename_i xs ex
      obtain ⟨ds, st2, e2, e⟩ := bnd_of e
      obtain ⟨a, ys, rfl, h1, h2⟩ := lstOf_rel S r ex
      exact ⟨.inl ⟨rfl, ys, h1⟩, ι1, st1, env, ds, st2, at0.mono p k S, e2, fun ι2 H2 vs p2 k2 S2 r2 => ⟨ι2, st2, x, ds, v, st', S2, r.mono p2 k2, r2, e, aft.mono (p.trans p2) (k.trans k2)⟩⟩
    · cases e
  cases args with
  | nil =>
    refine pe_imp (pe_bm0 PySem.F.plainAttrs_list slot hty hm ho (base_of hb) hl) fun σ H Q q => ?_
    rw [h0 rfl] at q rd
    obtain ⟨ι, st, env, d, st', at0, e, aft⟩ := rd σ H Q q
    exact ⟨ι, st, env, d, st', at0, e, fun ι1 H1 xv p k S r => let ⟨z1, z2⟩ := aft ι1 H1 xv p k S r; ⟨z1, nil_of z2⟩⟩
  | cons e0 es =>
    have hs2 := hs
    rw [List.all_cons, Bool.and_eq_true] at hs2
    refine pe_imp (pe_bm PySem.F.plainAttrs_list slot hty hm ho ha (base_of hb) ?_ hl (starEach_cons hs2.1) (backTo_plain hs2.2)) rd
    rw [backTo_all hs]
    show (true && true && decide ((e0 :: es).length + 0 + 0 < 30)) = true
    simpa using hn
end
end Eng
set_option Elab.async false
set_option linter.all false
set_option maxRecDepth 100000
set_option autoImplicit false
/-! X1: exceptions as values: fields, isinstance, methods. -/
namespace Eng
open PySem PySem.Spec PyProof.Rows L2
structure Xb where
  xk : Nat → Nat → Bool
  xm : Nat → Nat → Option Nat
  xi : Nat → Option (Option Nat)
  xs : Nat → Nat → Bool
structure XcOk (K : PySem.W.Frag) (T : TabI) (xb : Xb) (dd : Dd) : Prop where
  oex : ∀ c C, T.xa c = some C → OexC K C
  xf : ∀ c C, T.xa c = some C → L2.ExcC K C
  fld : ∀ c i C, xb.xk c i = true → T.xa c = some C → i < T.nf ∧ PySem.W.findIn K (.ref C) (T.nm i) = some none
  meth : ∀ c m f C, xb.xm c m = some f → T.xa c = some C → m < T.nf ∧ PySem.W.findIn K (.ref C) (T.nm m) = some (some (.ref (dd.fa f))) ∧ PySem.W.isFn K (.ref (dd.fa f)) = true ∧ PySem.W.keepIn K (.ref (dd.fa f)) = true
  mkI : ∀ c f C, xb.xi c = some (some f) → T.xa c = some C → PySem.W.findIn K (.ref C) "__init__" = some (some (.ref (dd.fa f))) ∧ PySem.W.typeIn K (.ref (dd.fa f)) = some (.type "function")
  mk0 : ∀ c C, xb.xi c = some none → T.xa c = some C → PySem.W.excIn K C PySem.HandSPX.veTail "ValueError.__new__" = true
  isx : ∀ c c' C C', T.xa c = some C → T.xa c' = some C' → PySem.W.kitOne K (.ref C) (.ref C') = some (xb.xs c c')
  isv : ∀ c C, T.xa c = some C → PySem.W.kitOne K (.ref C) (.type "ValueError") = some true
/-! ### an exception's field -/
def eFldE (xk : Nat → Nat → Bool) (a : Ev) (i : Nat) : Ev := fun env st => bnd (a env st) fun x st => match x with
  | .ref n => match st[n]? with
    | some (.exc c (some m)) => if xk c i then match st[m]? with
        | some (.xds fs) => match getI fs i with
          | some d => some (d, st)
          | none => none
        | _ => none
      else none
    | _ => none
  | _ => none
section
variable {X : Cx} {T : TabI} {xb : Xb} {dd : Dd} {e o : Expr} {fa : Ev} {pos apos : Pos}
/-- where the exception stands -/
theorem exc_inst {pins : List (Addr × Obj)} {s : Shared} {σ : L2.St} {H : Hp} {a C : Addr} (I : L2.Inv X pins σ H s) (h : H a = some (exo a C none)) : ∃ oe, PySem.W.InstAt s.heap a oe C none := by
  obtain ⟨t1, ho⟩ := exo_at I.hok h
  exact ⟨_, ho, rfl, rfl, trivial⟩
theorem exc_instD {pins : List (Addr × Obj)} {s : Shared} {σ : L2.St} {H : Hp} {a C d : Addr} {gs : List (Str × V)} (I : L2.Inv X pins σ H s) (h : H a = some (exo a C (some d))) (hd : H d = some (exd d gs)) :
    ∃ (oe od : Obj) (mA : Str → Option Value), PySem.W.InstAt s.heap a oe C (some od) ∧ (∀ f, RelO (gs.lookup f) (mA f)) ∧ ∀ name, PySem.W.lookIn name od = some (mA name) := by
  obtain ⟨t1, ho⟩ := exo_at I.hok h
  obtain ⟨mA, hns, hr⟩ := exd_at I.hok hd
  obtain ⟨od, h1, h2⟩ := lookIn_ns hns
  exact ⟨_, od, mA, ⟨ho, rfl, rfl, h1⟩, hr, h2⟩
theorem sim_fldE {i : Nat} (N : NmOk T) (C : XcOk X.K T xb dd) (he : PE X e (tE (gd T X) fa)) (hb : plainBase e = true) : PE X (.Attribute e (T.nm i) pos) (tE (gd T X) (eFldE xb.xk fa i)) := by
  refine ⟨fun pins s σ H Q I q => ?_⟩
  obtain ⟨ι, st, env, v, st', at0, e, aft⟩ := q
  obtain ⟨x, st1, e1, e⟩ := bnd_of e
  refine attr_of (base_of hb) (thn (he.run pins s σ H (fun xv H1 => ∃ ι1, ι <+: ι1 ∧ Keep X.K H H1 ∧ StOk (gd T X) H1 ι1 st1 ∧ RelD (gd T X) H1 ι1 x xv) I ⟨ι, st, env, x, st1, at0, e1, fun ι1 H1 xv p k S r => ⟨ι1, p, k, S, r⟩⟩) fun u s1 ⟨xv, H1, I1, rx, ι1, p, k, S, r⟩ => ?_)
  cases r with
  | @ref n a h =>
    obtain ⟨ob, e2, q⟩ := S.at h
    dsimp only at e
    rw [e2] at e
    cases ob with
    | exc c md =>
      cases md with
      | none => cases e
      | some m =>
        dsimp only at e
        split at e
        · rename_i hf
          obtain ⟨Ca, d, hC, hm, hH⟩ := q
          obtain ⟨ob2, e3, q2⟩ := S.at hm
          rw [e3] at e
          cases ob2 with
          | xds fs =>
            obtain ⟨gs, hd, rI⟩ := q2
            dsimp only at e
            obtain ⟨hi, na⟩ := C.fld c i Ca hf hC
            rcases rI.lookup N hi with ⟨z, _⟩ | ⟨dv, w, z1, z2, z3⟩
            · rw [z] at e; cases e
            · rw [z1] at e
              cases e
              cases rx
              obtain ⟨oe, od, mA, J, hr, hl⟩ := exc_instD I1 hH hd
              obtain ⟨u, hu, ru⟩ := RelO.some_of (v := w) (o := mA (T.nm i)) (by have z := hr (T.nm i); rw [show gs.lookup (T.nm i) = some w from z2] at z; exact z)
              have T1 := C.xf c Ca hC
              exact HandSPX.exc_get I1.kIn J T1.hg T1.hk T1.hs (PySem.W.findObj_own T1.hd na rfl (by rw [hl, hu])) (handed_of ru) ⟨w, H1, I1.tok _, ru, aft ι1 H1 w p k S z3⟩
          | _ => cases e
        · cases e
    | _ => cases e
  | _ => cases e
end
/-! ### a field is set -/
def gAtE (xk : Nat → Nat → Bool) (a : Ev) (i : Nat) : Eg := fun d env st => bnd (a env st) fun x st => match x with
  | .ref n => match st[n]? with
    | some (.exc c none) => if xk c i then some (env, (st ++ [O.xds [(i, d)]]).set n (O.exc c (some st.length))) else none
    | some (.exc c (some m)) => match st[m]? with
      | some (.xds fs) => if xk c i && decide (fs.length ≤ 900) then some (env, st.set m (.xds ((i, d) :: fs))) else none
      | _ => none
    | _ => none
  | _ => none
section
variable {X : Cx} {T : TabI} {xb : Xb} {dd : Dd} {e o : Expr} {fa : Ev} {pos apos : Pos}
theorem simG_attrE {i : Nat} (C : XcOk X.K T xb dd) (he : PE X o (tE (gd T X) fa)) : PG X (.Attribute o (T.nm i) pos) (tG (gd T X) (gAtE xb.xk fa i) []) := by
  refine ⟨fun pins s σ H v u Q I r h => ?_⟩
  show wpAny _ _ (do
    let ov ← holding [u] (eval o X.env)
    standAt pos.atName
    holding [u, ov] (setAttr ov (T.nm i) u)
    release [u, ov] []) _ _ s
  obtain ⟨ι, st, env, d, env', st', at0, rd, e, aft⟩ := h
  obtain ⟨x, st1, e1, e⟩ := bnd_of e
  refine wpAny_bind (wpAny_holding (thn (he.run pins s σ H (fun xv H1 => ∃ ι1, ι <+: ι1 ∧ Keep X.K H H1 ∧ StOk (gd T X) H1 ι1 st1 ∧ RelD (gd T X) H1 ι1 x xv) I ⟨ι, st, env, x, st1, at0, e1, fun ι1 H1 xv p k S r => ⟨ι1, p, k, S, r⟩⟩) fun ov s1 ⟨xv, H1, I1, r1, ι1, p, k, S, rx⟩ => ?_))
  refine wpAny_bind (wpAny_standAt (wpAny_bind (wpAny_holding ?_)))
  cases rx with
  | @ref n a hn =>
    obtain ⟨ob, e2, q⟩ := S.at hn
    dsimp only at e
    rw [e2] at e
    cases ob with
    | exc c md =>
      cases md with
      | none =>
        dsimp only at e
        split at e
        · rename_i hf
          cases e
          obtain ⟨Ca, hC, hH⟩ := q
          obtain ⟨hi, na⟩ := C.fld c i Ca hf hC
          cases r1
          refine ost_new (C.oex c Ca hC) I1 hH na r fun dx s2 nd ne J => wpAny_release ⟨σ, _, J, ?_⟩
          have k1 : Keep X.K H1 (upd H1 dx (exd dx [(T.nm i, v)])) := Keep.new nd
          have S1 := S.new (u := exd dx [(T.nm i, v)]) (o := .xds [(i, d)]) nd ⟨_, upd_same, ⟨hi, rfl⟩, (rd.mono p k).mono (List.prefix_append _ _) k1, True.intro⟩
          have hn1 : (ι1 ++ [dx])[n]? = some a := pre_get (List.prefix_append _ _) hn
          have S2 := S1.set hn1 (u := exo a Ca (some dx)) (o := .exc c (some st1.length)) ⟨Ca, dx, hC, by rw [← S.len]; simp, upd_same⟩
          exact aft (ι1 ++ [dx]) _ σ (p.trans (List.prefix_append _ _)) (k.trans (k1.trans S2.2)) S2.1 (at0.e.mono (p.trans (List.prefix_append _ _)) (k.trans (k1.trans S2.2))) .refl
        · cases e
      | some m =>
        dsimp only at e
        obtain ⟨Ca, dx, hC, hm, hH⟩ := q
        obtain ⟨ob2, e3, q2⟩ := S.at hm
        rw [e3] at e
        cases ob2 with
        | xds fs =>
          dsimp only at e
          split at e
          · rename_i hf
            rw [Bool.and_eq_true, decide_eq_true_eq] at hf
            cases e
            obtain ⟨gs, hd, rI⟩ := q2
            obtain ⟨hi, na⟩ := C.fld c i Ca hf.1 hC
            cases r1
            refine ost_old (C.oex c Ca hC) I1 hH hd (by rw [← rI.length]; exact hf.2) na r fun s2 J => wpAny_release ⟨σ, _, J, ?_⟩
            have k1 : Keep X.K H1 (upd H1 dx (exd dx ((T.nm i, v) :: gs))) := Keep.upd (by rw [hd]; rfl)
            have S2 := S.set hm (u := exd dx ((T.nm i, v) :: gs)) (o := .xds ((i, d) :: fs)) ⟨_, upd_same, ⟨hi, rfl⟩, (rd.mono p k).mono List.prefix_rfl k1, rI.mono List.prefix_rfl k1⟩
            exact aft ι1 _ σ p (k.trans S2.2) S2.1 (at0.e.mono p (k.trans S2.2)) .refl
          · cases e
        | _ => cases e
    | _ => cases e
  | _ => cases e
end
/-! ### isinstance of an exception -/
section
variable {X : Cx} {T : TabI} {xb : Xb} {dd : Dd} {e o : Expr} {fa : Ev} {pos p1 p2 apos : Pos} {y : Str} {cv : Value}
theorem kit_exc {a Ca : Addr} {oe : Obj} {od : Option Obj} {c : Nat} (C : XcOk X.K T xb dd) (hC : T.xa c = some Ca) : PySem.W.KitX X.K (.ref a) (.ref Ca) (fun h => PySem.W.InstAt h a oe Ca od) := by
  have T1 := C.xf c Ca hC
  obtain ⟨nm, q, N, bs, bm, sn, sub, ab, col, dd', k0, k1, k2, k3, k5, hK, _⟩ := (C.oex c Ca hC).cls
  exact PySem.W.kitx_exc (by unfold PySem.W.clsIn; rw [hK]; rfl) T1.hg T1.hk T1.hs T1.ha T1.hn T1.ht T1.hm
def isE (t : Nat → Bool) (d : D) (st : List O) : Option Bool := match d with
  | .ref n => match st[n]? with
    | some (.exc c none) => some (t c)
    | some (.exc c (some m)) => match st[m]? with
      | some (.xds _) => some (t c)
      | _ => none
    | _ => none
  | _ => none
def eIsE (t : Nat → Bool) (a : Ev) : Ev := fun env st => bnd (a env st) fun x st => match isE t x st with
  | some b => some (.bl b, st)
  | none => none
def rIsX (G : Gd) (t : Nat → Bool) (cV : V) : List V → Hp → VK → Prop := fun vs H Q => ∃ ι st d x b, vs = [x, cV] ∧ StOk G H ι st ∧ RelD G H ι d x ∧ isE t d st = some b ∧ Q (.bl b) H
theorem cr_isX {t : Nat → Bool} {cV : V} (C : XcOk X.K T xb dd) (hcv : ∀ u, RelV cV u → u = cv) (ht : ∀ c Ca, T.xa c = some Ca → PySem.W.kitOne X.K (.ref Ca) cv = some (t c)) : CallR X (.builtin "isinstance") (rIsX (gd T X) t cV) := by
  intro pins s σ H vs us Q I r h
  obtain ⟨ι, st, d, x, b, rfl, S, rd, hb, q⟩ := h
  obtain ⟨u1, u2, rfl, rv1, rv2⟩ := vals2 r
  have ec := hcv _ rv2
  subst ec
  cases rd with
  | @ref n a hn =>
    obtain ⟨ob, e2, qo⟩ := S.at hn
    unfold isE at hb
    dsimp only at hb
    rw [e2] at hb
    cases rv1
    cases ob with
    | exc c md =>
      cases md with
      | none =>
        cases hb
        obtain ⟨Ca, hC, hH⟩ := qo
        obtain ⟨oe, J⟩ := exc_inst I hH
        exact PySem.W.kia_one (kit_exc C hC) I.kIn J (ht c Ca hC) (fun z => nomatch z) fun tk => ⟨.bl _, H, I.tok tk, rfl, q⟩
      | some m =>
        obtain ⟨Ca, d, hC, hm, hH⟩ := qo
        obtain ⟨ob2, e3, q2⟩ := S.at hm
        dsimp only at hb
        rw [e3] at hb
        cases ob2 with
        | xds fs =>
          cases hb
          obtain ⟨gs, hd, rI⟩ := q2
          obtain ⟨oe, od, mA, J, _, _⟩ := exc_instD I hH hd
          exact PySem.W.kia_one (kit_exc C hC) I.kIn J (ht c Ca hC) (fun z => nomatch z) fun tk => ⟨.bl _, H, I.tok tk, rfl, q⟩
        | _ => cases hb
    | _ => cases hb
  | _ => cases hb
/-- isinstance(e, y), y a class by its name -/
theorem sim_isE {t : Nat → Bool} {cV : V} (C : XcOk X.K T xb dd) (hcv : ∀ u, RelV cV u → u = cv) (ht : ∀ c Ca, T.xa c = some Ca → PySem.W.kitOne X.K (.ref Ca) cv = some (t c)) (hg : Gl X "isinstance") (hm : X.mg "isinstance" = none) (he : PE X e (tE (gd T X) fa)) (hy : PE X (.Name y p1) (tC cV))
    (hs : notStar e = true) : PE X (.Call (.Name "isinstance" p2) [e, .Name y p1] [] pos) (tE (gd T X) (eIsE t fa)) := by
  have pa : PA X [e, .Name y p1] (tCons (tE (gd T X) fa) (tCons (tC cV) tNil)) := pa_cons he (pa_cons hy pa_nil) (starEach_cons hs)
  refine pe_imp (pe_callB (cr_isX C hcv ht) hg hm (by kernel_rfl) pa (by decide) (by decide) (starEach_cons hs) rfl) fun σ H Q q => ?_
  obtain ⟨ι, st, env, v, st', at0, e, aft⟩ := q
  obtain ⟨x, st1, e1, e⟩ := bnd_of e
  split at e
  · rename_i b hb
    cases e
    exact ⟨ι, st, env, x, _, at0, e1, fun ι1 H1 xv p k S r => ⟨ι1, _, x, xv, b, rfl, S, r, hb, aft ι1 H1 _ p k S (.bl _)⟩⟩
  · cases e
end
/-! ### an exception's method -/
def noF (st : List O) (md : Option Nat) (m : Nat) : Bool := match md with
  | none => true
  | some k => match st[k]? with
    | some (.xds fs) => (getI fs m).isNone
    | _ => false
def eMethE (cl : CallT) (xm : Nat → Nat → Option Nat) (o : Ev) (m : Nat) (as : Ea) : Ev := fun env st => bnd (o env st) fun x st => match x with
  | .ref n => match st[n]? with
    | some (.exc c md) => match xm c m with
      | some f => if noF st md m then bnd (as env st) fun ds st => cl f (x :: ds) st else none
      | none => none
    | _ => none
  | _ => none
section
variable {X : Cx} {T : TabI} {xb : Xb} {dd : Dd} {cl : CallT} {k : Nat} {o : Expr} {fo : Ev} {as : Ea} {pos apos : Pos}
theorem sim_methE {m : Nat} {args : List Expr} (N : NmOk T) (C : XcOk X.K T xb dd) (F : ∀ c f, xb.xm c m = some f → FnOk X.prog X.w X.K X.mg X.base CX0 k (dd.fa f) (dd.fd f) (dd.ps f) (spD (gd T X) cl (dd.ps f).length f) ∧ Binds X.K (dd.fd f) (dd.ps f) []) (hr : Room k X.A)
    (hlen : ∀ f ds st z, cl f ds st = some z → ds.length = (dd.ps f).length) (ho : PE X o (tE (gd T X) fo)) (ha : PA X args (tA (gd T X) as)) (hb : plainBase o = true) (hs : args.all notStar = true) (hl : (apos.endLine == pos.line) = true) (hn : args.length < 30) (h0 : args = [] → as = aNil) :
    PE X (.Call (.Attribute o (T.nm m) apos) args [] pos) (tE (gd T X) (eMethE cl xb.xm fo m as)) := by
  refine ⟨fun pins s σ H Q I h => ?_⟩
  obtain ⟨ι, st, env, v, st', at0, e, aft⟩ := h
  obtain ⟨x, st1, e1, e⟩ := bnd_of e
  refine PySem.W.methodCall_KW (thn (ho.run pins s σ H (fun xv H1 => ∃ ι1, ι <+: ι1 ∧ Keep X.K H H1 ∧ StOk (gd T X) H1 ι1 st1 ∧ RelD (gd T X) H1 ι1 x xv) I ⟨ι, st, env, x, st1, at0, e1, fun ι1 H1 xv p k S r => ⟨ι1, p, k, S, r⟩⟩) fun u s1 ⟨xv, H1, I1, rx, ι1, p, k, S, r⟩ => ?_) (meth_tree hb hs hl hn)
  cases r with
  | @ref n a hn =>
    obtain ⟨ob, e2, q⟩ := S.at hn
    dsimp only at e
    rw [e2] at e
    cases ob with
    | exc c md =>
      dsimp only at e
      split at e
      · rename_i f ef
        split at e
        · rename_i hno
          obtain ⟨ds, st2, e3, e⟩ := bnd_of e
          have key : ∃ (Ca : Addr) (oe : Obj) (od : Option Obj), T.xa c = some Ca ∧ PySem.W.InstAt s1.heap a oe Ca od ∧ PySem.W.shadowIn od (T.nm m) = some false := by
            cases md with
            | none =>
              obtain ⟨Ca, hC, hH⟩ := q
              obtain ⟨oe, J⟩ := exc_inst I1 hH
              exact ⟨Ca, oe, none, hC, J, rfl⟩
            | some m' =>
              obtain ⟨Ca, d, hC, hm, hH⟩ := q
              obtain ⟨ob2, e3, q2⟩ := S.at hm
              unfold noF at hno
              dsimp only at hno
              rw [e3] at hno
              cases ob2 with
              | xds fs =>
                obtain ⟨gs, hd, rI⟩ := q2
                obtain ⟨oe, od, mA, J, hr, hl⟩ := exc_instD I1 hH hd
                obtain ⟨hmt, _⟩ := C.meth c m f Ca ef hC
                refine ⟨Ca, oe, some od, hC, J, ?_⟩
                have z : gs.lookup (T.nm m) = none := by
                  rcases rI.lookup N hmt with ⟨_, z⟩ | ⟨d', w', z1, _, _⟩
                  · exact z
                  · dsimp only at hno
                    rw [z1] at hno
                    cases hno
                have y := hr (T.nm m)
                rw [z] at y
                show (PySem.W.lookIn (T.nm m) od).map (·.isSome) = some false
                rw [hl]
                cases w : mA (T.nm m) with
                | none => rfl
                | some v' => rw [w] at y; exact y.elim
              | _ => cases hno
          obtain ⟨Ca, oe, od, hC, J, hsh⟩ := key
          obtain ⟨hmt, M1, M2, M3⟩ := C.meth c m f Ca ef hC
          have T1 := C.xf c Ca hC
          cases rx
          obtain ⟨mm, fr⟩ := I1.fr
          refine PySem.W.method_exc fr I1.ok.mod.kin J T1.hg T1.hk M1 M2 hsh ?_
          obtain ⟨Ff, Bf⟩ := F c f ef
          have fin : ∀ ι2 H2 s2 vs us, ι1 <+: ι2 → Keep X.K H1 H2 → StOk (gd T X) H2 ι2 st2 → RelDs (gd T X) H2 ι2 ds vs → L2.Inv X pins σ H2 s2 → Vals vs us → wpAny (model X.prog X.w) X.A (call (.ref (dd.fa f)) (.ref _ :: us)) (EP X pins σ Q) X.xe s2 := fun ι2 H2 s2 vs us p2 k2 S2 r2 I2 rv =>
            run_fn (us := .ref _ :: us) (vs := .ref _ :: vs) Ff hr Bf .nil pass0 I2 (.cons rfl rv) (by
              rw [List.append_nil]
              exact ⟨ι2, st2, _, v, st', S2, .cons (.ref (pre_get p2 hn)) r2, hlen _ _ _ _ e, e, aft.mono (p.trans p2) (k.trans k2)⟩)
          have ar : tA (gd T X) as σ H1 fun vs H2 => ∃ ι2, ι1 <+: ι2 ∧ Keep X.K H1 H2 ∧ StOk (gd T X) H2 ι2 st2 ∧ RelDs (gd T X) H2 ι2 ds vs := ⟨ι1, st1, env, ds, st2, at0.mono p k S, e3, fun ι2 H2 vs p2 k2 S2 r2 => ⟨ι2, p2, k2, S2, r2⟩⟩
          cases args with
          | nil =>
            refine PySem.W.callWith_K0 (first := [.ref _]) I1.kIn M3 ?_
            rw [h0 rfl] at e3
            cases e3
            exact fin ι1 H1 s1 [] [] List.prefix_rfl Keep.refl S .nil I1 .nil
          | cons e0 es =>
            rw [List.all_cons, Bool.and_eq_true] at hs
            refine PySem.W.callWith_K (first := [.ref _]) (h₀ := X.base) I.ok.mod.kin M3 (thn (ha.run pos pins s1 σ H1 _ I1 ar) fun us s2 ⟨vs, H2, I2, rv, ι2, p2, k2, S2, r2⟩ => ⟨I2.kIn, ?_⟩) (starEach_cons hs.1) (backTo_plain hs.2)
            exact fin ι2 H2 s2 vs us p2 k2 S2 r2 I2 rv
        · cases e
      · cases e
    | _ => cases e
  | _ => cases e
end
end Eng
set_option Elab.async false
set_option linter.all false
set_option maxRecDepth 100000
set_option maxHeartbeats 4000000
set_option autoImplicit false
/-! X2: an exception is made: by position and by keyword. -/
namespace PySem
namespace XKw
open PySem.HandSPX Builtin Builtin.ObjectAttr
variable {M : Model} {A : Around} {E : Value → Shared → Prop} {R : Result → Shared → Prop} {prog : Program} {w : World} {h : Heap} {gs : Array GenState} {dr : Drawn} {tk : Nat} {os : OsState}
variable {nm q : Str} {C N : Addr} {bs bm bmB : List Value} {hdct : Bool} {sn : List Str} {sub : List Value} {ab : Bool} {col : Option Bool} {dd : Option Addr} {k0 k1 k2 k3 k5 : Option Value} {B newId initId : String} {us : List Value} {kw : List (Str × Value)}
theorem chkN (F : ExcBaseFacts B newId initId bmB) (hT : ∀ X : String, bm.contains (.type X) = bmB.contains (.type X)) {Q : Unit → Shared → Prop}
    (lk : h.get? C = some (excClassObj nm q C N bs bm hdct sn sub ab col dd k0 k1 k2 k3 k5 newId)) (done : Q () ⟨h, gs, dr, tk, os⟩) : wpAny M A (checkBuiltinCall newId ⟨.ref C :: us, kw⟩) Q E ⟨h, gs, dr, tk, os⟩ := by
  have inB : (Value.ref C :: bm).contains (.type B) = true := by
    rw [List.contains_cons, hT, F.hasB]
    simp
  have ns := F.noStar
  simp only [checkBuiltinCall, F.newKind, F.newSplit, F.newRow]
  repeat (first
    | refine wpAny_loadPart_at lk ?_
    | (refine wpAny_isSubtype_exc lk ?_; rw [inB])
    | refine wpAny_staticBase_exc lk ?_
    | refine wpAny_madeBy_exc lk ?_
    | simp only [bne_self_eq_false, Bool.false_eq_true, if_false]
    | wp_step)
  exact done
theorem newK (F : ExcBaseFacts B newId initId bmB) (hT : ∀ X : String, bm.contains (.type X) = bmB.contains (.type X))
    (lk : h.get? C = some (excClassObj nm q C N bs bm hdct sn sub ab col dd k0 k1 k2 k3 k5 newId))
    (done : R (.ok (.ret (.ref (h.objs.size + 1)))) ⟨(h.push (W.kdv_tup us)).push (excO C h.objs.size), gs, dr, tk, os⟩) (hz : us.length ≤ sizeLine) :
    codeAny (model prog w) A (.builtin newId ⟨.ref C :: us, kw⟩) R ⟨h, gs, dr, tk, os⟩ := by
  have en := F.ends
  have inB : (Value.ref C :: bm).contains (.type B) = true := by
    rw [List.contains_cons, hT, F.hasB]
    simp
  have inA : (Value.ref C :: bm).contains (.type "AttributeError") = false := by
    rw [List.contains_cons, hT, F.noAttr]
    rfl
  have inN : (Value.ref C :: bm).contains (.type "NameError") = false := by
    rw [List.contains_cons, hT, F.noName]
    rfl
  refine codeAny_builtinAt F.entry ?_
  unfold Builtin.«BaseException.__new__»
  refine wpAt_bind ?_
  show wpAt _ _ _ (stack >>= _) _ _ _
  refine wpAt_bind (wpAt_stack fun _ _ => wpAt_of_wpAny ?_)
  wp_walk
  refine wpAt_of_wpAny ?_
  rw [F.owner]
  repeat (first
    | with_reducible refine wpAny_madeHere_exc F.canon lk ?_
    | with_reducible refine wpAny_loadPart_at lk ?_
    | (with_reducible refine wpAny_isSubtype_exc lk ?_; first | rw [inB] | rw [inA] | rw [inN])
    | wp_step)
  show R _ _
  rw [Heap.size_push]
  exact done
theorem typK (F : ExcBaseFacts B newId initId bmB) (hT : ∀ X : String, bm.contains (.type X) = bmB.contains (.type X)) {fI : Addr} {Q : Fin → Shared → Prop}
    (lk : h.get? C = some (excClassObj nm q C N bs bm hdct sn sub ab col dd k0 k1 k2 k3 k5 newId))
    (hi : W.Looks (model prog w) h (typeLookup (.ref C) "__init__") (some (.ref fI))) (hb : ∀ self, W.Looks (model prog w) h (bindSpecial (.ref fI) self) (.ref fI, [self])) (hz : us.length ≤ sizeLine)
    (run : codeAny (model prog w) A (.call (.ref fI) ⟨.ref (h.objs.size + 1) :: us, kw⟩)
      (fun r s' => match r with | .ok (.ret v) => v = .none ∧ Q (.done (.ret (.ref (h.objs.size + 1)))) s' | .ok _ => False | .error e => E e s')
      ⟨(h.push (W.kdv_tup us)).push (excO C h.objs.size), gs, dr, tk, os⟩) :
    wpAny (model prog w) A (Builtin.«type.__call__» ⟨.ref C :: us, kw⟩) Q E ⟨h, gs, dr, tk, os⟩ := by
  repeat (first
    | with_reducible refine wpAny_loadPart_at lk ?_
    | with_reducible refine wpAny_madeBy_exc lk ?_
    | wp_step)
  refine codeAny_call_builtin_code (Code.quiet_builtin _ F.quiet) (chkN F hT lk ?_)
  refine newK F hT lk ?_ hz
  show wpAny _ _ _ _ _ _
  have k : ∀ b o, h.get? b = some o → ((h.push (W.kdv_tup us)).push (excO C h.objs.size)).get? b = some o := fun b o e => Heap.get?_push_of_some _ (Heap.get?_push_of_some _ e)
  have lk1 := k _ _ lk
  have lk2 : ((h.push (W.kdv_tup us)).push (excO C h.objs.size)).get? (h.objs.size + 1) = some (excO C h.objs.size) := by heap_get
  have inC : (Value.ref C :: bm).contains (.ref C) = true := by simp
  have i1 := hi.keeps k
  have b1 := (hb (.ref (h.objs.size + 1))).keeps k
  unfold isInstance
  repeat (first
    | with_reducible refine wpAny_loadPart_at lk2 ?_
    | (with_reducible refine wpAny_isSubtype_exc lk1 ?_; rw [inC])
    | wp_step)
  show wpAny _ _ (typeLookup (.ref C) _) _ _ _
  refine i1.at (wpAny_holding (wpAny_bind (b1.at ?_)))
  refine wpAny_bind (wpAny_call (codeAny_mono run fun r s' z => ?_))
  cases r with
  | error e => exact z
  | ok fl =>
    cases fl with
    | ret v =>
      obtain ⟨rfl, z⟩ := z
      first
        | exact wpAny_pure (wpAny_pure z)
        | (wp_walk; exact z)
    | next => exact z.elim
    | brk => exact z.elim
    | cont => exact z.elim
theorem calK (F : ExcBaseFacts B newId initId bmB) (hT : ∀ X : String, bm.contains (.type X) = bmB.contains (.type X)) {fI : Addr}
    (lk : h.get? C = some (excClassObj nm q C N bs bm hdct sn sub ab col dd k0 k1 k2 k3 k5 newId))
    (hi : W.Looks (model prog w) h (typeLookup (.ref C) "__init__") (some (.ref fI))) (hb : ∀ self, W.Looks (model prog w) h (bindSpecial (.ref fI) self) (.ref fI, [self])) (hz : us.length ≤ sizeLine)
    (run : codeAny (model prog w) (A.under (.builtin "type.__call__" ⟨.ref C :: us, kw⟩)) (.call (.ref fI) ⟨.ref (h.objs.size + 1) :: us, kw⟩) (W.InitBack (h.objs.size + 1) R)
      ⟨(h.push (W.kdv_tup us)).push (excO C h.objs.size), gs, dr, tk, os⟩) :
    codeAny (model prog w) A (.call (.ref C) ⟨us, kw⟩) R ⟨h, gs, dr, tk, os⟩ := by
  have f1 := tc_lookup
  have f2 := tc_bind (.ref C)
  have ty : (⟨h, gs, dr, tk, os⟩ : Shared).TypeIs (.ref C) "type" := ⟨_, lk, rfl⟩
  refine codeAny_of_tree ?_
  show wpAny _ _ (callAny (.ref C) _) _ _ _
  repeat (any_goals (first
    | assumption
    | with_reducible refine wpAny_loadPart_at lk ?_
    | wp_step))
  refine ⟨rfl, ?_⟩
  refine codeAny_call_builtin_at (Code.quiet_builtin _ (by decide +kernel)) entry_typeCall ?_
  refine wpAny_check_type_call_sub lk (typK F hT lk hi hb hz ?_)
  refine codeAny_mono run fun r s' z => ?_
  rcases r with e | (v | _ | _ | _) <;> exact z
end XKw
end PySem
set_option Elab.async false
set_option linter.all false
set_option maxRecDepth 100000
set_option maxHeartbeats 1000000
set_option autoImplicit false
/-! X3: calls of exception classes. -/
namespace Eng
open PySem PySem.Spec PyProof.Rows L2
def endE (n : Nat) (r : D) (st : List O) : Rs D := match r with
  | .non => some (.ref n, st)
  | _ => none
def eMakeE (cl : CallT) (c f : Nat) (as : Ea) : Ev := fun env st => bnd (as env st) fun ds st => bnd (cl f (.ref st.length :: ds) (st ++ [.exc c none])) (endE st.length)
def swD (sw : Bool) (ds : List D) : List D := if sw then ds.reverse else ds
def eMakeEK (cl : CallT) (c f : Nat) (sw : Bool) (kw : Ea) : Ev := fun env st => bnd (kw env st) fun ds st => bnd (cl f (.ref st.length :: swD sw ds) (st ++ [.exc c none])) (endE st.length)
def eMakeE0 (c : Nat) : Ev := fun _ st => some (.ref st.length, st ++ [.exc c none])
theorem vals_rev : ∀ {vs : List V} {ws : List Value}, Vals vs ws → Vals vs.reverse ws.reverse
  | _, _, .nil => .nil
  | _, _, .cons a b => by
    rw [List.reverse_cons, List.reverse_cons]
    exact (vals_rev b).append (.cons a .nil)
/-- keywords in the parameters' order, or in the other one -/
def KSw (K : PySem.W.Frag) (fd : FuncData) (ps ks : List Str) (sw : Bool) : Prop := ∀ (s : Shared) (self : Value) (ws : List Value), K.In s.heap → ws.length = ks.length → BindsTo s fd ⟨[self], ks.zip ws⟩ (ps.zip (self :: if sw then ws.reverse else ws))
section
variable {X : Cx} {T : TabI} {xb : Xb} {dd : Dd} {cl : CallT} {k f c : Nat} {Ca : Addr} {x : Str} {p pos : Pos} {e : Expr} {es : List Expr} {as kw : Ea} {kws : List Keyword} {ks : List Str} {sw : Bool}
theorem run_mkX {fI : Addr} {fd : FuncData} {ps : List Str} {sp : Sp} {pins : List (Addr × Obj)} {σ : L2.St} {H : Hp} {s : Shared} {Q : VK} {us gs : List Value} {kw : List (Str × Value)} {vs : List V} (T1 : OexC X.K Ca) (iC : PySem.W.findIn X.K (.ref Ca) "__init__" = some (some (.ref fI)))
    (tI : PySem.W.typeIn X.K (.ref fI) = some (.type "function")) (F1 : FnOk X.prog X.w X.K X.mg X.base CX0 k fI fd ps sp) (hr : Room (k + 1) X.A) (I : L2.Inv X pins σ H s) (hz : us.length ≤ sizeLine)
    (hb : ∀ (s : Shared) (self : Value), X.K.In s.heap → BindsTo s fd ⟨self :: us, kw⟩ (ps.zip (self :: gs))) (r : Vals vs gs) (h : ∀ a, H a = none → sp (.ref a :: vs) (upd H a (exo a Ca none)) (fun v H2 => v = .non ∧ Q (.ref a) H2) E0) :
    wpAny (model X.prog X.w) X.A (call (.ref Ca) us kw) (EP X pins σ Q) X.xe s := by
  obtain ⟨nm, q, N, bs, bm, sn, sub, ab, col, dd, k0, k1, k2, k3, k5, hC, hbm⟩ := T1.cls
  obtain ⟨hp, g, dr, tk, os⟩ := s
  have fz : hp.objs.size ≤ hp.objs.size + 1 := Nat.le_succ _
  have hq := h (hp.objs.size + 1) (I.hok.fresh fz)
  have kk : ∀ b o, hp.get? b = some o → ((hp.push (PySem.W.kdv_tup us)).push (PySem.HandSPX.excO Ca hp.objs.size)).get? b = some o := fun b o e => Heap.get?_push_of_some _ (Heap.get?_push_of_some _ e)
  have at1 : ((hp.push (PySem.W.kdv_tup us)).push (PySem.HandSPX.excO Ca hp.objs.size)).get? (hp.objs.size + 1) = some (PySem.HandSPX.excO Ca hp.objs.size) := by heap_get
  have I2 : L2.Inv X pins σ (upd H (hp.objs.size + 1) (exo (hp.objs.size + 1) Ca none)) ⟨(hp.push (PySem.W.kdv_tup us)).push (PySem.HandSPX.excO Ca hp.objs.size), g, dr, tk, os⟩ :=
    I.laid (t' := tk) (a := hp.objs.size + 1) (o := exo (hp.objs.size + 1) Ca none) (h' := (hp.push (PySem.W.kdv_tup us)).push (PySem.HandSPX.excO Ca hp.objs.size)) kk fz (exo_ok at1)
  have r2 : Vals (V.ref (hp.objs.size + 1) :: vs) (Value.ref (hp.objs.size + 1) :: gs) := .cons rfl r
  refine wpAny_call (PySem.XKw.calK PySem.F.excBase_ValueError (fun Y => PySem.HandSPX.refsVE_contains Y bm hbm) (I.kIn _ _ hC) (PySem.W.looks_findIn I.kIn iC) (fun self => PySem.W.bind_fn I.kIn self tI) hz ?_)
  refine codeAny_mono (F1.run _ X.stack _ _ ⟨Value.ref (hp.objs.size + 1) :: us, kw⟩ (Value.ref (hp.objs.size + 1) :: gs) _ _ E0 (hr.make Ca us kw) (I2.env0.make Ca us kw) (hb _ _ I2.kIn) r2 hq) fun r s' hq' => ?_
  cases r with
  | error er => exact hq'.elim
  | ok fl =>
    cases fl with
    | ret u =>
      obtain ⟨v, H', I3, rv, ev, q3⟩ := I2.after hq'
      subst ev
      exact ⟨rv, ⟨V.ref (hp.objs.size + 1), H', I3, rfl, q3⟩⟩
    | next => exact False.elim hq'
    | brk => exact False.elim hq'
    | cont => exact False.elim hq'
theorem st_exc {G : Gd} {H : Hp} {ι : List Addr} {st : List O} {a : Addr} (S : StOk G H ι st) (hC : G.T.xa c = some Ca) (na : H a = none) : StOk G (upd H a (exo a Ca none)) (ι ++ [a]) (st ++ [.exc c none]) ∧ Keep G.K H (upd H a (exo a Ca none)) :=
  ⟨S.new na ⟨Ca, hC, upd_same⟩, Keep.new na⟩
theorem spE_of (hC : T.xa c = some Ca) (hlen : ∀ ds st z, cl f ds st = some z → ds.length = (dd.ps f).length) {H : Hp} {ι : List Addr} {st : List O} {ds : List D} {vs : List V} {v : D} {st' : List O} {Q : VK}
    (S : StOk (gd T X) H ι st) (r : RelDs (gd T X) H ι ds vs) (hc : bnd (cl f (.ref st.length :: ds) (st ++ [.exc c none])) (endE st.length) = some (v, st')) (aft : After (gd T X) ι H v st' Q) :
    ∀ a, H a = none → spD (gd T X) cl (dd.ps f).length f (.ref a :: vs) (upd H a (exo a Ca none)) (fun v H2 => v = .non ∧ Q (.ref a) H2) E0 := by
  intro a na
  obtain ⟨r0, st2, e2, e⟩ := bnd_of hc
  obtain ⟨S1, k1⟩ := st_exc S hC na
  have ha : (ι ++ [a])[st.length]? = some a := by rw [← S.len]; simp
  refine ⟨ι ++ [a], _, .ref st.length :: ds, r0, st2, S1, .cons (.ref ha) (r.mono (List.prefix_append _ _) k1), hlen _ _ _ e2, e2, fun ι2 H2 w p2 k2 S2 rw' => ?_⟩
  cases r0 with
  | non =>
    cases rw'
    cases e
    exact ⟨rfl, aft ι2 H2 _ ((List.prefix_append _ _).trans p2) (k1.trans k2) S2 (.ref (pre_get p2 ha))⟩
  | _ => cases e
theorem sim_makeE (C : XcOk X.K T xb dd) (hi : xb.xi c = some (some f)) (hC : T.xa c = some Ca) (F : FnOk X.prog X.w X.K X.mg X.base CX0 k (dd.fa f) (dd.fd f) (dd.ps f) (spD (gd T X) cl (dd.ps f).length f)) (hr : Room (k + 1) X.A) (hg : Gl X x) (hm : X.mg x = some (.ref Ca)) (hb : Binds X.K (dd.fd f) (dd.ps f) [])
    (hlen : ∀ ds st z, cl f ds st = some z → ds.length = (dd.ps f).length) (hps : (dd.ps f).length < 100) (ha : PA X (e :: es) (tA (gd T X) as)) (hd : (x == ("__debug__" : Str)) = false) (hs : (e :: es).all notStar = true) : PE X (.Call (.Name x p) (e :: es) [] pos) (tE (gd T X) (eMakeE cl c f as)) := by
  rw [List.all_cons, Bool.and_eq_true] at hs
  refine ⟨fun pins s σ H Q I q => ?_⟩
  obtain ⟨ι, st, env, v, st', at0, e, aft⟩ := q
  obtain ⟨ds, st1, e1, e⟩ := bnd_of e
  have T1 := C.oex c Ca hC
  obtain ⟨iC, tI⟩ := C.mkI c f Ca hi hC
  refine wpAny_Call_Name_kw (ld_glob I hg hm ?_ hd)
  refine PySem.W.callWith_K (h₀ := X.base) I.ok.mod.kin T1.kC (thn (ha.run pos pins s σ H (fun vs H1 => ∃ ι1, ι <+: ι1 ∧ Keep X.K H H1 ∧ StOk (gd T X) H1 ι1 st1 ∧ RelDs (gd T X) H1 ι1 ds vs) I ⟨ι, st, env, ds, st1, at0, e1, fun ι1 H1 vs p k S r => ⟨ι1, p, k, S, r⟩⟩) fun us s1 ⟨vs, H1, I1, r1, ι1, p, k, S, r⟩ => ⟨I1.kIn, ?_⟩) (starEach_cons hs.1) (backTo_plain hs.2)
  show wpAny _ _ (call (.ref Ca) us) _ _ _
  have hl : ds.length + 1 = (dd.ps f).length := by
    obtain ⟨r0, st2, e2, _⟩ := bnd_of e
    exact hlen _ _ _ e2
  have hul : us.length + 1 = (dd.ps f).length := by rw [← r1.length, ← r.length]; exact hl
  refine run_mkX (gs := us) T1 iC tI F hr I1 (by rw [sizeLine_eq]; omega) (fun s self kin => ?_) r1 (spE_of hC hlen S r e (aft.mono p k))
  have := hb s (self :: us) kin (by simpa using hul)
  simpa using this
theorem sim_makeEK (C : XcOk X.K T xb dd) (hi : xb.xi c = some (some f)) (hC : T.xa c = some Ca) (F : FnOk X.prog X.w X.K X.mg X.base CX0 k (dd.fa f) (dd.fd f) (dd.ps f) (spD (gd T X) cl (dd.ps f).length f)) (hr : Room (k + 1) X.A) (hg : Gl X x) (hm : X.mg x = some (.ref Ca)) (hb : KSw X.K (dd.fd f) (dd.ps f) ks sw)
    (hlen : ∀ ds st z, cl f ds st = some z → ds.length = (dd.ps f).length) (hkl : (dd.ps f).length = ks.length + 1) (hkw : PK X kws (tA (gd T X) kw)) (hd : (x == ("__debug__" : Str)) = false)
    (hall : (backToKw pos (keywordEach kws X.env)).all (·.1.isSome) = true) (hks : (backToKw pos (keywordEach kws X.env)).filterMap (·.1) = ks) (hpl : (backToKw pos (keywordEach kws X.env)).any (·.1.isNone) = false) :
    PE X (.Call (.Name x p) [] kws pos) (tE (gd T X) (eMakeEK cl c f sw kw)) := by
  refine ⟨fun pins s σ H Q I q => ?_⟩
  obtain ⟨ι, st, env, v, st', at0, e, aft⟩ := q
  obtain ⟨ds, st1, e1, e⟩ := bnd_of e
  have T1 := C.oex c Ca hC
  obtain ⟨iC, tI⟩ := C.mkI c f Ca hi hC
  refine wpAny_Call_Name_kw (ld_glob I hg hm ?_ hd)
  refine PySem.W.callWith_KW0 (first := []) (h₀ := X.base) I.ok.mod.kin T1.kC hall (thn (hkw.run pos pins s σ H (fun vs H1 => ∃ ι1, ι <+: ι1 ∧ Keep X.K H H1 ∧ StOk (gd T X) H1 ι1 st1 ∧ RelDs (gd T X) H1 ι1 ds vs) I ⟨ι, st, env, ds, st1, at0, e1, fun ι1 H1 vs p k S r => ⟨ι1, p, k, S, r⟩⟩) fun ws s2 ⟨vs, H1, I1, r1, ι1, p, k, S, r⟩ => ⟨I1.kIn, ?_⟩) (by rw [hpl]; rfl)
  rw [hks]
  have hl : (swD sw ds).length + 1 = (dd.ps f).length := by
    obtain ⟨r0, st2, e2, _⟩ := bnd_of e
    exact hlen _ _ _ e2
  have hl2 : ds.length + 1 = (dd.ps f).length := by
    unfold swD at hl
    split at hl
    · simpa using hl
    · exact hl
  have hul : ws.length = ks.length := by
    have := r1.length
    have := r.length
    omega
  cases sw with
  | false => exact run_mkX (us := []) (gs := ws) T1 iC tI F hr I1 (by simp) (fun s self kin => hb s self ws kin hul) r1 (spE_of hC hlen S r e (aft.mono p k))
  | true =>
    have rr : Vals vs.reverse ws.reverse := vals_rev r1
    exact run_mkX (us := []) (gs := ws.reverse) (vs := vs.reverse) T1 iC tI F hr I1 (by simp) (fun s self kin => hb s self ws kin hul) rr (spE_of hC hlen S r.reverse e (aft.mono p k))
theorem sim_makeE0 (C : XcOk X.K T xb dd) (hi : xb.xi c = some none) (hC : T.xa c = some Ca) (hg : Gl X x) (hm : X.mg x = some (.ref Ca)) (hd : (x == ("__debug__" : Str)) = false) : PE X (.Call (.Name x p) [] [] pos) (tE (gd T X) (eMakeE0 c)) := by
  refine ⟨fun pins s σ H Q I h => ?_⟩
  obtain ⟨ι, st, env, v, st', at0, e, aft⟩ := h
  cases e
  have T1 := C.oex c Ca hC
  refine wpAny_Call_Name_kw (ld_glob I hg hm ?_ hd)
  refine PySem.W.callWith_K0 I.kIn T1.kC ?_
  obtain ⟨bm, N, nm, qn, bs, hdct, sn, sub, ab, col, dd', k0, k1, k2, k3, k5, mN, lC, hN, hni, OT⟩ := exc_obj I.kIn (C.mk0 c Ca hi hC)
  show wpAny _ _ (call (.ref Ca) []) _ _ _
  refine wpAny_call_exc_subT PySem.F.excBase_ValueError OT lC hN hni (fun h' a hm' => ?_) (by simp)
  obtain ⟨t, he, _, _⟩ := hm'.there
  have na : H a = none := I.hok.gone hm'.new
  have J := I.laidN (t' := s.toks) (h' := h') (o := exo a Ca none) hm'.keeps hm'.new na (exo_ok he)
  obtain ⟨S1, k1⟩ := st_exc at0.s hC na
  exact ⟨.ref a, _, J, rfl, aft _ _ _ (List.prefix_append _ _) k1 S1 (.ref (by rw [← at0.s.len]; simp))⟩
end
end Eng
set_option Elab.async false
set_option linter.all false
set_option maxRecDepth 100000
set_option autoImplicit false
/-! E11: ==, also by an own __eq__, in tuples and lists. -/
namespace Eng
open PySem PySem.SeqAt
open AutoSeq1 (wpAny_loadPart')
open MeetsSeq MeetsSeq2 MeetsSeq3 SeqRoads2
section
variable {prog : Program} {w : World} {A : Around} {R : Result → Shared → Prop}
/-- tuple ==: item by item, Z behind the first two that differ -/
theorem tup_eqR (l b : Addr) (its its2 : Array Value) (n n2 : Nat) (dd dd2 : Option Addr) (sl sl2 : Array (Option Value)) (I : Nat → Shared → Prop) (Z : Shared → Prop)
    (turn : ∀ i (h1 : i < its.size) (h2 : i < its2.size) s, I i s → wpAny (model prog w) A.in1 (eqBool its[i] its2[i]) (fun r s' => if r = true then I (i + 1) s' else Z s') (fun e s' => R (.error e) s') s)
    (fin : ∀ s, I (min its.size its2.size) s → R (.ok (.ret (.bool (its.size == its2.size)))) s) (finF : ∀ s, Z s → R (.ok (.ret (.bool false))) s)
    {s : Shared} (hl1 : s.heap.get? l = some { cls := .type "tuple", dict := dd, data := .seq its n, slots := sl }) (hb1 : s.heap.get? b = some { cls := .type "tuple", dict := dd2, data := .seq its2 n2, slots := sl2 }) (h : I 0 s) :
    wpAny (model prog w) A.in1 (Builtin.«tuple.__eq__» ⟨[.ref l, .ref b], []⟩) (GQ.FinOf prog w A R) (fun e s' => R (.error e) s') s := by
  have f2 := AutoSeq1.sub_tuple_tuple
  have hZ : (its.toList.zip its2.toList).length = min its.size its2.size := by simp
  have h0 := h
  obtain ⟨hp, g, d, tk, os⟩ := s
  wp_walk using wpAny_loadPart' hl1, wpAny_loadPart' hb1, wpAny_forIn_list _ (fun rest c s' => c.1 = none ∧ ∃ i, rest = (its.toList.zip its2.toList).drop i ∧ i ≤ min its.size its2.size ∧ I i s') _
  case turn =>
    rintro ⟨y, x⟩ rest c s' ⟨hc, i, hz, hi, hI⟩
    have hlt : i < (its.toList.zip its2.toList).length := by
      rcases Nat.lt_or_ge i (its.toList.zip its2.toList).length with q | q
      · exact q
      · rw [List.drop_of_length_le q] at hz; cases hz
    have hm : i < min its.size its2.size := hZ ▸ hlt
    have h1 : i < its.size := by omega
    have h2 : i < its2.size := by omega
    rw [List.drop_eq_getElem_cons hlt] at hz
    injection hz with hyx hrest
    have hy : y = its[i] := by have := congrArg Prod.fst hyx; simpa using this
    have hx : x = its2[i] := by have := congrArg Prod.snd hyx; simpa using this
    subst hy hx
    refine wpAny_bind (wpAny_mono (turn i h1 h2 s' hI) (fun r s2 q2 => ?_) fun _ _ x => x)
    cases r with
    | true =>
      rw [if_pos rfl] at q2
      wp_walk
      exact ⟨rfl, i + 1, hrest, hm, q2⟩
    | false =>
      rw [if_neg Bool.false_ne_true] at q2
      wp_walk
      exact finF s2 q2
  case fin =>
    rintro ⟨b1, b2⟩ s' ⟨hb', i, hz, hi, hI⟩
    simp only at hb'
    subst hb'
    have hge : min its.size its2.size ≤ i := by
      rcases Nat.lt_or_ge i (its.toList.zip its2.toList).length with q | q
      · rw [List.drop_eq_getElem_cons q] at hz; cases hz
      · exact hZ ▸ q
    have hi' : i = min its.size its2.size := by omega
    have hR := fin s' (hi' ▸ hI)
    wp_walk
    simpa [Builtin.Tuple.tupleCompareSizes] using hR
  case h => exact ⟨rfl, 0, rfl, Nat.zero_le _, h0⟩
/-- list ==: read anew at each turn; N items each -/
def LstR (prog : Program) (w : World) (A : Around) (E : Value → Shared → Prop) (l b : Addr) (N : Nat) (I : Nat → Shared → Prop) (Z : Shared → Prop) : Prop :=
  ∀ i s, I i s → ∃ (its its2 : Array Value) (n n2 : Nat), s.heap.get? l = some { cls := .type "list", data := .seq its n } ∧ s.heap.get? b = some { cls := .type "list", data := .seq its2 n2 } ∧ its.size = N ∧ its2.size = N ∧
    ∀ (h1 : i < its.size) (h2 : i < its2.size), wpAny (model prog w) A.in1 (eqBool its[i] its2[i]) (fun r s' => if r = true then I (i + 1) s' else Z s') E s
theorem lst_loopR (l b : Addr) (N : Nat) (I : Nat → Shared → Prop) (Z : Shared → Prop) (hl : LstR prog w A (fun e s' => R (.error e) s') l b N I Z)
    (fin : ∀ s, I N s → R (.ok (.ret (.bool true))) s) (zl : ∀ s, Z s → ∃ (its its2 : Array Value) (n n2 : Nat), s.heap.get? l = some { cls := .type "list", data := .seq its n } ∧ s.heap.get? b = some { cls := .type "list", data := .seq its2 n2 } ∧ its.size = N ∧ its2.size = N)
    (finF : ∀ s, Z s → R (.ok (.ret (.bool false))) s) (k : Nat) :
    ∀ i : Nat, N - i = k → i ≤ N → ∀ s, I i s →
      wpAny (model prog w) A.in1 (Builtin.«list.__eq__.loop» ⟨[.ref l, .ref b, rawInt i, rawInt 2], []⟩) (GQ.FinOf prog w A R) (fun e s' => R (.error e) s') s := by
  induction k with
  | zero =>
    intro i hk hi s h
    obtain ⟨its, its2, n, n2, hl1, hb1, hs1, hs2, _⟩ := hl _ _ h
    have hi' : i = N := by omega
    have hR : R (.ok (.ret (.bool true))) s := fin s (hi' ▸ h)
    obtain ⟨hp, g, d, tk, os⟩ := s
    wp_walk using wpAny_loadPart' hl1, wpAny_loadPart' hb1
    have e1 : its[((i : Nat) : Int).toNat]? = none := by simp; omega
    have e2 : its2[((i : Nat) : Int).toNat]? = none := by simp; omega
    rw [e1, e2]
    wp_walk using wpAny_loadPart' hl1, wpAny_loadPart' hb1
    show R (.ok (.ret (.bool (its.size == its2.size)))) _
    rw [hs1, hs2]
    simpa using hR
  | succ k ih =>
    intro i hk hi s h
    obtain ⟨its, its2, n, n2, hl1, hb1, hs1, hs2, turn⟩ := hl _ _ h
    have hlt : i < its.size := by omega
    have hlt2 : i < its2.size := by omega
    have ht := turn hlt hlt2
    obtain ⟨hp, g, d, tk, os⟩ := s
    wp_walk using wpAny_loadPart' hl1, wpAny_loadPart' hb1
    have e1 : its[((i : Nat) : Int).toNat]? = some its[i] := by simp [hlt]
    have e2 : its2[((i : Nat) : Int).toNat]? = some its2[i] := by simp [hlt2]
    have hc : ((i : Int) + 1) = ((i + 1 : Nat) : Int) := by omega
    rw [e1, e2]
    refine wpAny_bind (wpAny_mono ht (fun r s2 h2 => ?_) fun _ _ x => x)
    cases r with
    | true =>
      rw [if_pos rfl] at h2
      have hrec := ih (i + 1) (by omega) (by omega) s2 h2
      obtain ⟨hp2, g2, d2, tk2, os2⟩ := s2
      wp_walk
      rw [hc]
      exact ⟨plainId_quiet plain_eq_loop _, codeAny_builtin entry_eq_loop (by
        rw [Around.under_plainId plain_eq_loop _]
        exact hrec)⟩
    | false =>
      rw [if_neg Bool.false_ne_true] at h2
      have hR := finF s2 h2
      obtain ⟨jts, jts2, m, m2, hl3, hb3, hs3, hs4⟩ := zl s2 h2
      obtain ⟨hp2, g2, d2, tk2, os2⟩ := s2
      wp_walk using wpAny_loadPart' hl3, wpAny_loadPart' hb3
      have e3 : jts[((i : Nat) : Int).toNat]? = some (jts[i]'(by omega)) := by simp
      have e4 : jts2[((i : Nat) : Int).toNat]? = some (jts2[i]'(by omega)) := by simp
      rw [e3, e4]
      wp_walk
      exact hR
theorem lst_eqR (l b : Addr) (N : Nat) (I : Nat → Shared → Prop) (Z : Shared → Prop) (hl : LstR prog w A (fun e s' => R (.error e) s') l b N I Z)
    (fin : ∀ s, I N s → R (.ok (.ret (.bool true))) s) (zl : ∀ s, Z s → ∃ (its its2 : Array Value) (n n2 : Nat), s.heap.get? l = some { cls := .type "list", data := .seq its n } ∧ s.heap.get? b = some { cls := .type "list", data := .seq its2 n2 } ∧ its.size = N ∧ its2.size = N)
    (finF : ∀ s, Z s → R (.ok (.ret (.bool false))) s) {s : Shared} (h : I 0 s) :
    wpAny (model prog w) A.in1 (Builtin.«list.__eq__» ⟨[.ref l, .ref b], []⟩) (GQ.FinOf prog w A R) (fun e s' => R (.error e) s') s := by
  obtain ⟨its, its2, n, n2, hl1, hb1, hs1, hs2, _⟩ := hl _ _ h
  have hrec := lst_loopR (A := A) (R := R) l b N I Z hl fin zl finF _ 0 rfl (Nat.zero_le _) s h
  obtain ⟨hp, g, d, tk, os⟩ := s
  have f3 := AutoSeq1.sub_list_list
  have hne : ¬ (its.size != its2.size) = true := by simp [hs1, hs2]
  wp_walk using wpAny_loadPart' hl1, wpAny_loadPart' hb1
  exact ⟨plainId_quiet plain_eq_loop _, codeAny_builtin entry_eq_loop (by
    rw [Around.under_plainId plain_eq_loop _]
    exact hrec)⟩
end
section
variable {prog : Program} {w : World} {A : Around} {E : Value → Shared → Prop} {s : Shared}
theorem rc_lstR {l b : Addr} {N : Nat} {Q : Value → Shared → Prop} (hu : A.units < cLine) (I : Nat → Shared → Prop) (Z : Shared → Prop) (hl : LstR prog w A E l b N I Z)
    (fin : ∀ s, I N s → Q (.bool true) s) (zl : ∀ s, Z s → ∃ (its its2 : Array Value) (n n2 : Nat), s.heap.get? l = some { cls := .type "list", data := .seq its n } ∧ s.heap.get? b = some { cls := .type "list", data := .seq its2 n2 } ∧ its.size = N ∧ its2.size = N)
    (finF : ∀ s, Z s → Q (.bool false) s) (h : I 0 s) : wpAny (model prog w) A (richCompare .Eq (.ref l) (.ref b)) Q E s := by
  obtain ⟨its, its2, n, n2, hl1, hb1, _, _, _⟩ := hl _ _ h
  refine wpAny_richCompare_same_room (op := .Eq) ⟨_, hl1, rfl⟩ ⟨_, hb1, rfl⟩ F.slot_list_eq (GQ.call_here F.slot_list_eq ⟨_, hl1, rfl⟩ F.entry_list_eq (F.args_list_eq_2 _ _) ?_) hu
  exact lst_eqR (R := wants (fun v s' => v ≠ .notImplemented ∧ Q v s') E) l b N I Z hl (fun s' q => ⟨(fun x => nomatch x), fin s' q⟩) zl (fun s' q => ⟨(fun x => nomatch x), finF s' q⟩) h
theorem rc_tupR {l b : Addr} {its its2 : Array Value} {Q : Value → Shared → Prop} (hu : A.units < cLine) (I : Nat → Shared → Prop) (Z : Shared → Prop)
    (hl : s.heap.IsTuple l its) (hb : s.heap.IsTuple b its2)
    (turn : ∀ i (h1 : i < its.size) (h2 : i < its2.size) s, I i s → wpAny (model prog w) A.in1 (eqBool its[i] its2[i]) (fun r s' => if r = true then I (i + 1) s' else Z s') E s)
    (fin : ∀ s, I (min its.size its2.size) s → Q (.bool (its.size == its2.size)) s) (finF : ∀ s, Z s → Q (.bool false) s) (h : I 0 s) : wpAny (model prog w) A (richCompare .Eq (.ref l) (.ref b)) Q E s := by
  obtain ⟨⟨cls, dd, data, sl⟩, ho, hc, n, hd⟩ := id hl
  obtain ⟨⟨cls2, dd2, data2, sl2⟩, ho2, hc2, n2, hd2⟩ := id hb
  simp only at hc hd hc2 hd2
  subst hc hd hc2 hd2
  refine wpAny_richCompare_same_room (op := .Eq) ⟨_, ho, rfl⟩ ⟨_, ho2, rfl⟩ F.slot_tuple_eq (GQ.call_here F.slot_tuple_eq ⟨_, ho, rfl⟩ F.entry_tuple_eq (F.args_tuple_eq_2 _ _) ?_) hu
  exact tup_eqR (R := wants (fun v s' => v ≠ .notImplemented ∧ Q v s') E) l b its its2 n n2 dd dd2 sl sl2 I Z turn (fun s' q => ⟨(fun x => nomatch x), fin s' q⟩) (fun s' q => ⟨(fun x => nomatch x), finF s' q⟩) ho ho2 h
/-- == inside a built-in, of two different things, by their rich comparison -/
theorem eqBool_refs {l b : Addr} {Q : Bool → Shared → Prop} (hne : l ≠ b) (h : wpAny (model prog w) A (richCompare .Eq (.ref l) (.ref b)) (fun v s' => ∃ r, v = .bool r ∧ Q r s') E s) : wpAny (model prog w) A (eqBool (.ref l) (.ref b)) Q E s := GQ.eqBool_refG hne h
end
end Eng
set_option Elab.async false
set_option linter.all false
set_option maxRecDepth 100000
set_option autoImplicit false
/-! E12: == of values: data, tuples and lists item by item, instances by their own __eq__. -/
namespace Eng
open PySem PySem.Spec PyProof.Rows L2

def toPyL (f : D → Option PyData) : List D → Option (List PyData)
  | [] => some []
  | d :: r => match f d, toPyL f r with
    | some p, some ps => some (p :: ps)
    | _, _ => none
def toPy (st : List O) : Nat → D → Option PyData
  | _, .non => some .none
  | _, .bl b => some (.bool b)
  | _, .int i => some (.int i)
  | _, .str x => some (.str x)
  | n + 1, .tup xs => match toPyL (toPy st n) xs with
    | some ps => some (.tuple ps)
    | none => none
  | n + 1, .rol xs => match toPyL (toPy st n) xs with
    | some ps => some (.list ps)
    | none => none
  | n + 1, .ref m => match st[m]? with
    | some (.lst xs) => match toPyL (toPy st n) xs with
      | some ps => some (.list ps)
      | none => none
    | _ => none
  | _, _ => none
def eqTs (eb : D → D → List O → Rs Bool) : List D → List D → List O → Rs Bool
  | x :: xs, y :: ys, st => bnd (eb x y st) fun r st => match r with
    | true => eqTs eb xs ys st
    | false => some (false, st)
  | [], [], st => some (true, st)
  | _, _, st => some (false, st)
def eqLs (eb : D → D → List O → Rs Bool) (a b N : Nat) : Nat → Nat → List O → Rs Bool
  | k, i, st => match st[a]?, st[b]? with
    | some (.lst xs), some (.lst ys) => if xs.length = N ∧ ys.length = N then match k with
        | 0 => if i = N then some (true, st) else none
        | k + 1 => match xs[i]?, ys[i]? with
          | some x, some y => bnd (eb x y st) fun r st => match r with
            | true => eqLs eb a b N k (i + 1) st
            | false => match st[a]?, st[b]? with
              | some (.lst xs), some (.lst ys) => if xs.length = N ∧ ys.length = N then some (false, st) else none
              | _, _ => none
          | _, _ => none
      else none
    | _, _ => none
def sameRef : D → D → Bool
  | .ref a, .ref b => decide (a = b)
  | _, _ => false
def ebq (rc : D → D → List O → Rs Bool) (x y : D) (st : List O) : Rs Bool := if sameRef x y then some (true, st) else rc x y st
def owq (cl : CallT) (eqm : Nat → Option Nat) (c : Nat) (x y : D) (st : List O) : Rs Bool := if (tagOf st y).isNone then none else match eqm c with
  | some f => bnd (cl f [x, y] st) fun r st => match r with
    | .bl b => some (b, st)
    | _ => none
  | none => none
def rcN (cl : CallT) (eqm : Nat → Option Nat) : Nat → D → D → List O → Rs Bool
  | n, x, y, st => match toPy st 8 x, toPy st 8 y with
    | some p, some q => if p.canLay0 && q.canLay0 && decide (p.depth ≤ 64) then some (PyData.eqv p q, st) else none
    | _, _ => match n with
      | 0 => none
      | n + 1 => match x, y with
        | .tup xs, .tup ys => eqTs (ebq (rcN cl eqm n)) xs ys st
        | .ref a, y => match st[a]? with
          | some (.ins c _) => owq cl eqm c x y st
          | some (.lst xs) => match y with
            | .ref b => match st[b]? with
              | some (.lst ys) => if xs.length = ys.length then eqLs (ebq (rcN cl eqm n)) a b xs.length xs.length 0 st else some (false, st)
              | some (.ins c _) => owq cl eqm c y x st
              | _ => none
            | _ => none
          | _ => none
        | x, .ref b => match st[b]? with
          | some (.ins c _) => owq cl eqm c y x st
          | _ => none
        | _, _ => none
section
variable {G : Gd} {H : Hp} {ι : List Addr} {st : List O}
theorem toPyL_rel {f : D → Option PyData} (hf : ∀ d x p, RelD G H ι d x → f d = some p → Dp G.K H x p) : ∀ {ds : List D} {vs : List V} {ps : List PyData}, RelDs G H ι ds vs → toPyL f ds = some ps → DpAll G.K H vs ps
  | _, _, _, .nil, e => by cases e; exact .nil
  | _, _, _, .cons (d := d) (ds := ds) r t, e => by
    unfold toPyL at e
    cases q1 : f d with
    | none => rw [q1] at e; cases e
    | some p =>
      cases q2 : toPyL f ds with
      | none => rw [q1, q2] at e; cases e
      | some ps =>
        rw [q1, q2] at e
        cases e
        exact .cons (hf _ _ _ r q1) (toPyL_rel hf t q2)
theorem toPy_rel (S : StOk G H ι st) : ∀ (n : Nat) (d : D) (x : V) (p : PyData), RelD G H ι d x → toPy st n d = some p → Dp G.K H x p := by
  intro n
  induction n with
  | zero =>
    intro d x p r e
    cases r <;> first | (cases e; done) | (cases e; exact .non) | (cases e; exact .bl _) | (cases e; exact .int _) | (cases e; exact .str _)
  | succ n ih =>
    intro d x p r e
    cases r with
    | non => cases e; exact .non
    | bl b => cases e; exact .bl b
    | int i => cases e; exact .int i
    | str z => cases e; exact .str z
    | ty b => cases e
    | cls h => cases e
    | tup h q =>
      rename_i xs _
      unfold toPy at e
      cases q2 : toPyL (toPy st n) xs with
      | none => rw [q2] at e; cases e
      | some ps => rw [q2] at e; cases e; exact .tup h (toPyL_rel (fun d x p r e => ih d x p r e) q q2)
    | rol h q =>
      rename_i xs _
      unfold toPy at e
      cases q2 : toPyL (toPy st n) xs with
      | none => rw [q2] at e; cases e
      | some ps => rw [q2] at e; cases e; exact .lst h.sqL (toPyL_rel (fun d x p r e => ih d x p r e) q q2)
    | ref h =>
      obtain ⟨o, e1, ob⟩ := S.at h
      unfold toPy at e
      rw [e1] at e
      cases o with
      | lst xs =>
        obtain ⟨ys, h1, h2⟩ := ob
        dsimp only at e
        cases q2 : toPyL (toPy st n) xs with
        | none => rw [q2] at e; cases e
        | some ps => rw [q2] at e; cases e; exact .lst (.of h1) (toPyL_rel (fun d x p r e => ih d x p r e) h2 q2)
      | _ => cases e
end
/-- what the walk asks of a class's own == -/
structure EqOk (K : PySem.W.Frag) (T : TabI) (eqm : Nat → Option Nat) (dd : Dd) : Prop where
  at_ : ∀ c f C, eqm c = some f → T.ca c = some C → PySem.W.findIn K (.ref C) "__eq__" = some (some (.ref (dd.fa f))) ∧ PySem.W.isFn K (.ref (dd.fa f)) = true
  nfo : ∀ c c' C C' f, eqm c = some f → T.ca c = some C → T.ca c' = some C' → PySem.W.notFirst K C (.ref C') = true
  nfb : ∀ c C f, eqm c = some f → T.ca c = some C → ∀ b : BT, PySem.W.notFirst K C (.type b.name) = true
  sbb : ∀ c C, T.ca c = some C → ∀ b : BT, PySem.W.subIn K (.ref C) (.type b.name) = some false
section
variable {X : Cx} {T : TabI} {tb : Tb} {dd : Dd} {cl : CallT} {eqm : Nat → Option Nat} {k : Nat}
/-- what stands behind a comparison -/
def Bq (X : Cx) (T : TabI) (pins : List (Addr × Obj)) (σ : L2.St) (ι : List Addr) (H : Hp) (st' : List O) (s' : Shared) : Prop :=
  ∃ ι' H', ι <+: ι' ∧ Keep X.K H H' ∧ L2.Inv X pins σ H' s' ∧ StOk (gd T X) H' ι' st'
def RcS (X : Cx) (T : TabI) (rc : D → D → List O → Rs Bool) (n : Nat) : Prop := ∀ (A : Around) (pins : List (Addr × Obj)) (s : Shared) (σ : L2.St) (H : Hp) (ι : List Addr) (st : List O) (x y : V) (u v : Value) (d e : D) (b : Bool) (st' : List O),
  Sub X n A → L2.Inv X pins σ H s → L2.RelV x u → L2.RelV y v → StOk (gd T X) H ι st → RelD (gd T X) H ι d x → RelD (gd T X) H ι e y → rc d e st = some (b, st') →
  wpAny (model X.prog X.w) A (richCompare .Eq u v) (fun r s' => r = .bool b ∧ Bq X T pins σ ι H st' s') X.xe s
def EbS (X : Cx) (T : TabI) (eb : D → D → List O → Rs Bool) (n : Nat) : Prop := ∀ (A : Around) (pins : List (Addr × Obj)) (s : Shared) (σ : L2.St) (H : Hp) (ι : List Addr) (st : List O) (x y : V) (u v : Value) (d e : D) (b : Bool) (st' : List O),
  Sub X n A → L2.Inv X pins σ H s → L2.RelV x u → L2.RelV y v → StOk (gd T X) H ι st → RelD (gd T X) H ι d x → RelD (gd T X) H ι e y → eb d e st = some (b, st') →
  wpAny (model X.prog X.w) A (eqBool u v) (fun r s' => r = b ∧ Bq X T pins σ ι H st' s') X.xe s
theorem Bq.refl {pins : List (Addr × Obj)} {σ : L2.St} {ι : List Addr} {H : Hp} {st : List O} {s : Shared} (I : L2.Inv X pins σ H s) (S : StOk (gd T X) H ι st) : Bq X T pins σ ι H st s := ⟨ι, H, List.prefix_rfl, Keep.refl, I, S⟩
/-- == by the data -/
theorem rc_data {A : Around} {pins : List (Addr × Obj)} {s : Shared} {σ : L2.St} {H : Hp} {ι : List Addr} {st : List O} {x y : V} {u v : Value} {d e : D} {p q : PyData} (hu : A.units + 64 < cLine) (I : L2.Inv X pins σ H s) (rx : L2.RelV x u) (ry : L2.RelV y v) (S : StOk (gd T X) H ι st) (rd : RelD (gd T X) H ι d x) (re : RelD (gd T X) H ι e y)
    (ep : toPy st 8 d = some p) (eq : toPy st 8 e = some q) (hc : (p.canLay0 && q.canLay0 && decide (p.depth ≤ 64)) = true) : ∃ as bs, Reads s.heap u p as ∧ Reads s.heap v q bs ∧ p.canLay0 = true ∧ q.canLay0 = true ∧ A.units + min p.depth q.depth < cLine := by
  obtain ⟨as, r1⟩ := Dp.reads I p x u (toPy_rel S 8 d x p rd ep) rx
  obtain ⟨bs, r2⟩ := Dp.reads I q y v (toPy_rel S 8 e y q re eq) ry
  simp only [Bool.and_eq_true, decide_eq_true_eq] at hc
  exact ⟨as, bs, r1, r2, hc.1.1, hc.1.2, by have : min p.depth q.depth ≤ p.depth := Nat.min_le_left _ _; omega⟩
/-- the own == runs -/
theorem own_run {f n : Nat} {A : Around} {pins : List (Addr × Obj)} {s : Shared} {σ : L2.St} {H : Hp} {ι : List Addr} {st st' : List O} {x y : V} {u v : Value} {d e : D} {b : Bool}
    (F : FnOk X.prog X.w X.K X.mg X.base CX0 k (dd.fa f) (dd.fd f) (dd.ps f) (spD (gd T X) cl (dd.ps f).length f)) (hb : Binds X.K (dd.fd f) (dd.ps f) []) (hlen : ∀ ds st z, cl f ds st = some z → ds.length = (dd.ps f).length) (hk : k ≤ n)
    (sb : Sub X n A) (I : L2.Inv X pins σ H s) (rx : L2.RelV x u) (ry : L2.RelV y v) (S : StOk (gd T X) H ι st) (rd : RelD (gd T X) H ι d x) (re : RelD (gd T X) H ι e y) (hc : (bnd (cl f [d, e] st) fun r st => match r with | .bl b => some (b, st) | _ => none) = some (b, st')) :
    wpAny (model X.prog X.w) A (call (.ref (dd.fa f)) [u, v]) (fun r s' => r = .bool b ∧ Bq X T pins σ ι H st' s') X.xe s := by
  obtain ⟨r, st1, e1, e2⟩ := bnd_of hc
  have hsp : spD (gd T X) cl (dd.ps f).length f [x, y] H (fun w H' => w = .bl b ∧ ∃ ι', ι <+: ι' ∧ Keep X.K H H' ∧ StOk (gd T X) H' ι' st') E0 := by
    refine ⟨ι, st, [d, e], r, st1, S, .cons rd (.cons re .nil), hlen _ _ _ e1, e1, fun ι' H' w p kp S' rw' => ?_⟩
    cases r with
    | bl bb =>
      cases rw'
      cases e2
      exact ⟨rfl, ι', p, kp, S'⟩
    | _ => cases e2
  have e0 : Env0 X.prog X.w X.K X.mg X.base A X.stack s H := by
    have e := I.env0
    exact ⟨by rw [sb.fr]; exact e.frames, e.mod, e.bs, e.bsz, e.funs, e.frf, e.hok, e.bare⟩
  have hl := F.len _ _ _ _ hsp
  have r2 : Vals [x, y] [u, v] := .cons rx (.cons ry .nil)
  refine wpAny_call (codeAny_mono (F.run A X.stack s H ⟨[u, v], []⟩ [u, v] [x, y] _ E0 (sb.room.mono hk) e0 (by
    have := hb s [u, v] I.kIn (by simpa using hl)
    simpa using this) r2 hsp) fun r s' hq => ?_)
  cases r with
  | error e => exact False.elim hq
  | ok fl =>
    cases fl with
    | ret w =>
      obtain ⟨z, H', I', rz, ez, ι', p, kp, S'⟩ := I.after hq
      subst ez
      cases rz
      exact ⟨rfl, ι', H', p, kp, I', S'⟩
    | next => exact False.elim hq
    | brk => exact False.elim hq
    | cont => exact False.elim hq
theorem ty_ref {M : Model} {h : Heap} {a : Addr} {o : Obj} (e : h.get? a = some o) : PySem.W.Looks M h (typeOf (.ref a)) o.cls := (PySem.W.Looks.ld e).andThen .now
/-- what a value's type looks like -/
theorem type_looks {pins : List (Addr × Obj)} {s : Shared} {σ : L2.St} {H : Hp} {ι : List Addr} {st : List O} {d : D} {x : V} {u : Value} {t : Tg} (I : L2.Inv X pins σ H s) (S : StOk (gd T X) H ι st) (rx : L2.RelV x u) (rd : RelD (gd T X) H ι d x) (e : tagOf st d = some t) :
    ∃ tv, TgV T t tv ∧ PySem.W.Looks (model X.prog X.w) s.heap (typeOf u) tv := by
  have seqT : ∀ {a : Addr} {xs : List V}, SqT X.K H a xs → PySem.W.Looks (model X.prog X.w) s.heap (typeOf (.ref a)) (.type "tuple") := fun h => by
    obtain ⟨its, rv, ⟨o, ho, hc, n, hd⟩, _⟩ := I.tuple h
    rw [← hc]
    exact ty_ref ho
  have seqL : ∀ {a : Addr} {xs : List V}, SqL X.K H a xs → PySem.W.Looks (model X.prog X.w) s.heap (typeOf (.ref a)) (.type "list") := fun h => by
    obtain ⟨its, rv, ⟨o, n, ho, hc, _, hd⟩, _⟩ := I.list h
    rw [← hc]
    exact ty_ref ho
  cases rd with
  | non => cases e; cases rx; exact ⟨_, rfl, .now⟩
  | bl b => cases e; cases rx; exact ⟨_, rfl, .now⟩
  | int i => cases e; obtain ⟨t, rfl⟩ := rx; exact ⟨_, rfl, .now⟩
  | str z => cases e; obtain ⟨t, rfl⟩ := rx; exact ⟨_, rfl, .now⟩
  | ty b => cases e
  | cls h => cases e
  | tup h q => cases e; cases rx; exact ⟨_, rfl, seqT h⟩
  | rol h q => cases e; cases rx; exact ⟨_, rfl, seqL h.sqL⟩
  | ref h =>
    cases rx
    obtain ⟨o, e1, ob⟩ := S.at h
    unfold tagOf at e
    dsimp only at e
    rw [e1] at e
    cases o with
    | lst xs => cases e; obtain ⟨ys, h1, _⟩ := ob; exact ⟨_, rfl, seqL (.of h1)⟩
    | dK xs =>
      cases e
      obtain ⟨ys, h1, _⟩ := ob
      obtain ⟨_, _, vs, _, o, es, ep, h2, h3, _⟩ := (show ObjOk X.prog X.w H s.heap _ (.dK ys) from I.hok _ _ h1)
      exact ⟨_, rfl, by have := ty_ref (M := model X.prog X.w) h2; rw [h3.1] at this; exact this⟩
    | dT xs =>
      cases e
      obtain ⟨ys, h1, _⟩ := ob
      obtain ⟨_, _, zs, _, o, es, ep, h2, h3, _⟩ := (show ObjOk X.prog X.w H s.heap _ (.dT ys) from I.hok _ _ h1)
      exact ⟨_, rfl, by have := ty_ref (M := model X.prog X.w) h2; rw [h3.1] at this; exact this⟩
    | exc c m => cases e
    | xds fs => cases e
    | ins c fs =>
      cases e
      obtain ⟨Ca, dx, gs, hC, hH, _⟩ := ob
      obtain ⟨mA, J, _⟩ := ins_get I.hok hH
      obtain ⟨od, J, _⟩ := J.look
      exact ⟨_, ⟨Ca, hC, rfl⟩, J.type⟩
/-- an instance on the left: its own == -/
theorem rc_own {c f n a : Nat} {fs : List (Nat × D)} {A : Around} {pins : List (Addr × Obj)} {s : Shared} {σ : L2.St} {H : Hp} {ι : List Addr} {st st' : List O} {x y : V} {u v : Value} {e : D} {b : Bool} {t : Tg} (Q : EqOk X.K T eqm dd) (ef : eqm c = some f)
    (F : FnOk X.prog X.w X.K X.mg X.base CX0 k (dd.fa f) (dd.fd f) (dd.ps f) (spD (gd T X) cl (dd.ps f).length f)) (hb : Binds X.K (dd.fd f) (dd.ps f) []) (hlen : ∀ ds st z, cl f ds st = some z → ds.length = (dd.ps f).length) (hk : k ≤ n)
    (sb : Sub X n A) (I : L2.Inv X pins σ H s) (rx : L2.RelV x u) (ry : L2.RelV y v) (S : StOk (gd T X) H ι st) (rd : RelD (gd T X) H ι (.ref a) x) (re : RelD (gd T X) H ι e y) (ea : st[a]? = some (.ins c fs)) (et : tagOf st e = some t) (hc : owq cl eqm c (.ref a) e st = some (b, st')) :
    wpAny (model X.prog X.w) A (richCompare .Eq u v) (fun r s' => r = .bool b ∧ Bq X T pins σ ι H st' s') X.xe s := by
  obtain ⟨tv, ht, hl⟩ := type_looks I S ry re et
  unfold owq at hc
  rw [ef, et] at hc
  have hc := (if_neg (by simp : ¬ (some t : Option Tg).isNone = true)).symm.trans hc
  cases rd with
  | ref hn =>
    obtain ⟨o, e1, ob⟩ := S.at hn
    rw [ea] at e1
    cases e1
    obtain ⟨Ca, dx, gs, hC, hH, _⟩ := ob
    obtain ⟨mA, J, _⟩ := ins_get I.hok hH
    obtain ⟨od, J, _⟩ := J.look
    obtain ⟨m, hF⟩ := I.fr
    obtain ⟨hs, hf⟩ := Q.at_ c f Ca ef hC
    have hnf : PySem.W.notFirst X.K Ca tv = true := by
      cases t with
      | b bt => cases ht; exact Q.nfb c Ca f ef hC bt
      | c k' => obtain ⟨C', hC', rfl⟩ := ht; exact Q.nfo c k' Ca C' f ef hC hC'
    have run := own_run (X := X) (T := T) F hb hlen hk sb I rx ry S (.ref hn) re hc
    cases rx
    refine PySem.W.cmp_K (op := .Eq) sb.room.units0 hF I.ok.mod.kin J hl hnf hs hf (wpAny_mono run (fun r s' q => ?_) fun _ _ z => z)
    obtain ⟨rfl, q⟩ := q
    exact ⟨rfl, q⟩
/-- an instance on the right of something built-in that declines -/
theorem rc_refl {c f n a' : Nat} {bt : BT} {id : String} {fs : List (Nat × D)} {A : Around} {pins : List (Addr × Obj)} {s : Shared} {σ : L2.St} {H : Hp} {ι : List Addr} {st st' : List O} {x y : V} {u v : Value} {d : D} {b : Bool} (Q : EqOk X.K T eqm dd) (ef : eqm c = some f)
    (F : FnOk X.prog X.w X.K X.mg X.base CX0 k (dd.fa f) (dd.fd f) (dd.ps f) (spD (gd T X) cl (dd.ps f).length f)) (hb : Binds X.K (dd.fd f) (dd.ps f) []) (hlen : ∀ ds st z, cl f ds st = some z → ds.length = (dd.ps f).length) (hk : k ≤ n)
    (sb : Sub X n A) (I : L2.Inv X pins σ H s) (rx : L2.RelV x u) (ry : L2.RelV y v) (S : StOk (gd T X) H ι st) (rd : RelD (gd T X) H ι d x) (re : RelD (gd T X) H ι (.ref a') y) (ea : st[a']? = some (.ins c fs)) (hT : s.TypeIs u bt.name) (slot : Slot bt.name "__eq__" id)
    (hd : ∀ (Ca dx : Addr) (y' : Addr), s.heap.get? y' = some (PySem.W.instObj Ca dx) → PySem.W.subIn X.K (.ref Ca) (.type bt.name) = some false → ∀ Q' : Value → Shared → Prop, Q' .notImplemented s → wpAny (model X.prog X.w) A (call (.builtin id) [u, .ref y']) Q' X.xe s)
    (hc : owq cl eqm c (.ref a') d st = some (b, st')) : wpAny (model X.prog X.w) A (richCompare .Eq u v) (fun r s' => r = .bool b ∧ Bq X T pins σ ι H st' s') X.xe s := by
  unfold owq at hc
  rw [ef] at hc
  split at hc
  · cases hc
  cases re with
  | ref hn =>
    rename_i ya
    obtain ⟨o, e1, ob⟩ := S.at hn
    rw [ea] at e1
    cases e1
    obtain ⟨Ca, dx, gs, hC, hH, _⟩ := ob
    obtain ⟨mA, O, _⟩ := ins_get I.hok hH
    obtain ⟨od, J, _⟩ := O.look
    obtain ⟨hs, hf⟩ := Q.at_ c f Ca ef hC
    have hsub := Q.sbb c Ca hC bt
    have run := own_run (X := X) (T := T) F hb hlen hk sb I ry rx S (.ref hn) rd hc
    cases ry
    have one : wpAny (model X.prog X.w) A (tryCompare (.ref ya) "__eq__" u) (fun r s' => ∃ v, r = some v ∧ v = .bool b ∧ Bq X T pins σ ι H st' s') X.xe s := by
      unfold tryCompare
      refine wpAny_bind (PySem.W.ifBound_K I.kIn J hs hf (wpAny_mono run (fun v s' hv => ?_) fun _ _ e => e))
      obtain ⟨rfl, hv⟩ := hv
      exact wpAny_pure ⟨_, rfl, rfl, hv⟩
    rcases hi : cmpInfo CmpOp.Eq with ⟨sym, f', r'⟩
    have hfr : f' = "__eq__" ∧ r' = "__eq__" := by cases hi; exact ⟨rfl, rfl⟩
    obtain ⟨rfl, rfl⟩ := hfr
    simp only [richCompare, hi, hT.oneThing_none]
    try with_reducible refine wpAny_holding ?_
    refine wpAny_bind (wpAny_cRoomFor_or (.inr sb.room.units0) ?_)
    refine wpAny_bind (wpAny_typeOf hT (wpAny_bind (J.type.here ?_)))
    have hne : (Value.type bt.name != Value.ref Ca) = true := by simp
    simp only [hne, if_true]
    refine wpAny_bind ((PySem.W.looks_subIn I.kIn hsub).here ?_)
    simp only [Bool.false_eq_true, if_false, Bool.not_false, if_true]
    refine wpAny_bind (m := tryCompare u _ _) (wpAny_tryCompare_declines hT slot (hd Ca dx _ O.obj hsub _ ⟨rfl, ?_⟩))
    refine wpAny_bind (m := tryCompare (.ref ya) _ u) (wpAny_mono one (fun r s' z => ?_) fun _ _ e => e)
    obtain ⟨v, rfl, rfl, hq⟩ := z
    exact wpAny_pure ⟨rfl, hq⟩
end
end Eng
set_option Elab.async false
set_option linter.all false
set_option maxRecDepth 100000
set_option autoImplicit false
/-! E13: == is what rcN says. -/
namespace Eng
open PySem PySem.Spec PyProof.Rows L2

section
variable {X : Cx} {T : TabI} {dd : Dd} {cl : CallT} {eqm : Nat → Option Nat} {k : Nat} {pins : List (Addr × Obj)} {s : Shared} {σ : L2.St} {H : Hp} {ι : List Addr} {st : List O}
/-- the class of the object at a reference -/
theorem cls_at (I : L2.Inv X pins σ H s) (S : StOk (gd T X) H ι st) {d : D} {a : Addr} {t : Tg} (rd : RelD (gd T X) H ι d (.ref a)) (e : tagOf st d = some t) : ∃ o, s.heap.get? a = some o ∧ TgV T t o.cls := by
  have seqT : ∀ {xs : List V}, SqT X.K H a xs → ∃ o, s.heap.get? a = some o ∧ o.cls = .type "tuple" := fun h => by
    obtain ⟨its, rv, ⟨o, ho, hc, n, hd⟩, _⟩ := I.tuple h
    exact ⟨o, ho, hc⟩
  have seqL : ∀ {xs : List V}, SqL X.K H a xs → ∃ o, s.heap.get? a = some o ∧ o.cls = .type "list" := fun h => by
    obtain ⟨its, rv, ⟨o, n, ho, hc, _, hd⟩, _⟩ := I.list h
    exact ⟨o, ho, hc⟩
  cases rd with
  | cls h => cases e
  | tup h q => cases e; exact seqT h
  | rol h q => cases e; exact seqL h.sqL
  | ref h =>
    obtain ⟨o, e1, ob⟩ := S.at h
    unfold tagOf at e
    dsimp only at e
    rw [e1] at e
    cases o with
    | lst xs => cases e; obtain ⟨ys, h1, _⟩ := ob; exact seqL (.of h1)
    | exc c m => cases e
    | xds fs => cases e
    | dK xs =>
      cases e
      obtain ⟨ys, h1, _⟩ := ob
      obtain ⟨_, _, vs, _, o, es, ep, h2, h3, _⟩ := (show ObjOk X.prog X.w H s.heap _ (.dK ys) from I.hok _ _ h1)
      exact ⟨o, h2, h3.1⟩
    | dT xs =>
      cases e
      obtain ⟨ys, h1, _⟩ := ob
      obtain ⟨_, _, zs, _, o, es, ep, h2, h3, _⟩ := (show ObjOk X.prog X.w H s.heap _ (.dT ys) from I.hok _ _ h1)
      exact ⟨o, h2, h3.1⟩
    | ins c fs =>
      cases e
      obtain ⟨Ca, dx, gs, hC, hH, _⟩ := ob
      obtain ⟨mA, J, _⟩ := ins_get I.hok hH
      exact ⟨_, J.obj, Ca, hC, rfl⟩
theorem tag_inj {t : BT} {c : Nat} {u : Value} (h : TgV T (.b t) u) (h' : TgV T (.c c) u) : False := by
  obtain ⟨C, _, e⟩ := h'
  cases h
  cases e
theorem tagb_inj {t t' : BT} {u : Value} (h : TgV T (.b t) u) (h' : TgV T (.b t') u) : t = t' := by
  cases h
  have h' : Value.type t.name = Value.type t'.name := h'
  injection h' with h'
  cases t <;> cases t' <;> first | rfl | exact absurd h' (by decide)
theorem eqTs_same {eb : D → D → List O → Rs Bool} (ih : ∀ (d e : D) (x : V) (u : Value) (b : Bool) (st' : List O), L2.RelV x u → RelD (gd T X) H ι d x → RelD (gd T X) H ι e x → eb d e st = some (b, st') → b = true ∧ st' = st) :
    ∀ {xs ys : List D} {vs : List V} {its : List Value} {b : Bool} {st' : List O}, RelDs (gd T X) H ι xs vs → RelDs (gd T X) H ι ys vs → Vals vs its → eqTs eb xs ys st = some (b, st') → b = true ∧ st' = st
  | _, _, _, _, _, _, .nil, .nil, _, h => by cases h; exact ⟨rfl, rfl⟩
  | _, _, _, _, _, _, .cons r1 t1, .cons r2 t2, .cons rv1 rvt, h => by
    unfold eqTs at h
    obtain ⟨r, st1, e1, h⟩ := bnd_of h
    obtain ⟨h1, h2⟩ := ih _ _ _ _ _ _ rv1 r1 r2 e1
    rw [h1, h2] at h
    exact eqTs_same ih t1 t2 rvt h
/-- two readings of one thing are equal -/
theorem eb_same (I : L2.Inv X pins σ H s) (S : StOk (gd T X) H ι st) : ∀ (n : Nat) (d e : D) (x : V) (u : Value) (b : Bool) (st' : List O), L2.RelV x u → RelD (gd T X) H ι d x → RelD (gd T X) H ι e x → ebq (rcN cl eqm n) d e st = some (b, st') → b = true ∧ st' = st := by
  intro n
  induction n with
  | zero =>
    intro d e x u b st' rx rd re h
    unfold ebq at h
    split at h
    · cases h; exact ⟨rfl, rfl⟩
    · unfold rcN at h
      split at h
      · rename_i p q ep eq
        split at h
        · rename_i hc
          cases h
          simp only [Bool.and_eq_true, decide_eq_true_eq] at hc
          obtain ⟨as, r1⟩ := Dp.reads I p x u (toPy_rel S 8 d x p rd ep) rx
          obtain ⟨bs, r2⟩ := Dp.reads I q x u (toPy_rel S 8 e x q re eq) rx
          have := SeqAt.Reads.unique p q u as bs hc.1.1 r1 r2
          subst this
          exact ⟨SeqAt.eqv_refl p hc.1.1, rfl⟩
        · cases h
      · cases h
  | succ n ih =>
    intro d e x u b st' rx rd re h
    unfold ebq at h
    split at h
    · cases h; exact ⟨rfl, rfl⟩
    · rename_i hsr
      unfold rcN at h
      split at h
      · rename_i p q ep eq
        split at h
        · rename_i hc
          cases h
          simp only [Bool.and_eq_true, decide_eq_true_eq] at hc
          obtain ⟨as, r1⟩ := Dp.reads I p x u (toPy_rel S 8 d x p rd ep) rx
          obtain ⟨bs, r2⟩ := Dp.reads I q x u (toPy_rel S 8 e x q re eq) rx
          have := SeqAt.Reads.unique p q u as bs hc.1.1 r1 r2
          subst this
          exact ⟨SeqAt.eqv_refl p hc.1.1, rfl⟩
        · cases h
      · dsimp only at h
        split at h
        · cases rd with
          | tup h1 q1 =>
            cases re with
            | tup h2 q2 =>
              have := I.tuple_inj h1 h2
              subst this
              obtain ⟨its, rv, _, _⟩ := I.tuple h1
              exact eqTs_same ih q1 q2 rv h
        · rename_i a0 _
          cases rd with
          | ref hn =>
            rename_i aa
            split at h
            · rename_i c fs ea
              unfold owq at h
              split at h
              · cases h
              · rename_i htag
                cases ht : tagOf st e with
                | none => rw [ht] at htag; exact absurd rfl htag
                | some t =>
                  obtain ⟨o1, g1, c1⟩ := cls_at I S (.ref hn) (t := .c c) (by unfold tagOf; dsimp only; rw [ea])
                  obtain ⟨o2, g2, c2⟩ := cls_at I S re ht
                  rw [g1] at g2
                  cases g2
                  cases t with
                  | b bt => exact (tag_inj c2 c1).elim
                  | c k' =>
                    cases re with
                    | ref hm =>
                      obtain ⟨i1, j1⟩ := List.getElem?_eq_some_iff.mp hn
                      obtain ⟨i2, j2⟩ := List.getElem?_eq_some_iff.mp hm
                      have := (List.getElem_inj S.nd).mp (j1.trans j2.symm)
                      subst this
                      exact absurd (by simp [sameRef]) hsr
                    | tup h q => cases ht
                    | rol h q => cases ht
                    | cls h => cases ht
            · rename_i zs ea
              split at h
              · rename_i b0
                cases re with
                | ref hm =>
                  obtain ⟨i1, j1⟩ := List.getElem?_eq_some_iff.mp hn
                  obtain ⟨i2, j2⟩ := List.getElem?_eq_some_iff.mp hm
                  have := (List.getElem_inj S.nd).mp (j1.trans j2.symm)
                  subst this
                  exact absurd (by simp [sameRef]) hsr
              · cases h
            · cases h
        · rename_i b0 _ _ _
          split at h
          · rename_i c fs ea
            cases re with
            | ref hm =>
              unfold owq at h
              split at h
              · cases h
              · rename_i htag
                cases ht : tagOf st d with
                | none => rw [ht] at htag; exact absurd rfl htag
                | some t =>
                  obtain ⟨o1, g1, c1⟩ := cls_at I S (.ref hm) (t := .c c) (by unfold tagOf; dsimp only; rw [ea])
                  obtain ⟨o2, g2, c2⟩ := cls_at I S rd ht
                  rw [g1] at g2
                  cases g2
                  cases t with
                  | b bt => exact (tag_inj c2 c1).elim
                  | c k' =>
                    cases rd with
                    | ref hn =>
                      obtain ⟨i1, j1⟩ := List.getElem?_eq_some_iff.mp hn
                      obtain ⟨i2, j2⟩ := List.getElem?_eq_some_iff.mp hm
                      have := (List.getElem_inj S.nd).mp (j1.trans j2.symm)
                      subst this
                      exact absurd (by simp [sameRef]) hsr
                    | tup h q => cases ht
                    | rol h q => cases ht
                    | cls h => cases ht
          · cases h
        · cases h
/-- == inside a tuple or list, from == -/
theorem eb_of {n m : Nat} (R : RcS X T (rcN cl eqm n) m) : EbS X T (ebq (rcN cl eqm n)) m := by
  intro A pins s σ H ι st x y u v d e b st' sb I rx ry S rd re h
  by_cases huv : u = v
  · subst huv
    have hxy : x = y := rx.inj ry
    subst hxy
    obtain ⟨rfl, rfl⟩ := eb_same I S n d e x u b st' rx rd re h
    exact SeqAt.EqAt.same (A := A) (s := s) u X.prog X.w X.xe _ ⟨rfl, .refl I S⟩
  · unfold ebq at h
    split at h
    · rename_i hs
      cases d with
      | ref a =>
        cases e with
        | ref b' =>
          have e : a = b' := of_decide_eq_true hs
          subst e
          cases rd with
          | ref h1 =>
            cases re with
            | ref h2 =>
              rw [h1] at h2
              cases h2
              cases rx
              cases ry
              exact absurd rfl huv
        | _ => cases hs
      | _ => cases hs
    · have run := R A pins s σ H ι st x y u v d e b st' sb I rx ry S rd re h
      unfold eqBool
      refine wpAny_holding ?_
      refine wpAny_ite_split (fun hab => absurd (eq_of_beq hab) huv) (fun _ => ?_)
      have go : wpAny (model X.prog X.w) A (do truthOfDropped (← richCompare .Eq u v)) (fun r s' => r = b ∧ Bq X T pins σ ι H st' s') X.xe s := by
        refine wpAny_bind (wpAny_mono run (fun r s' q => ?_) fun _ _ z => z)
        obtain ⟨rfl, q⟩ := q
        exact wpAny_truthy_bool ⟨rfl, q⟩
      clear h
      cases rd <;> first | (cases rx; exact go) | (obtain ⟨t, rfl⟩ := rx; exact go)
end
end Eng
set_option Elab.async false
set_option linter.all false
set_option maxRecDepth 100000
set_option autoImplicit false
/-! E14: == is what rcN says; !=. -/
namespace Eng
section
open PySem PySem.SeqAt
open AutoSeq1 (wpAny_loadPart')
open MeetsSeq MeetsSeq2 MeetsSeq3 SeqRoads2
theorem int_decl (b : Int) (u : Tok) (l C dx : Addr) :
    Meets (Builtin.«int.__eq__» ⟨[.int b u, .ref l], []⟩) (fun _ R s => s.heap.get? l = some (PySem.W.instObj C dx) ∧ R (.ok (.ret .notImplemented)) s) :=
  .of_wp fun prog w A R s h => by obtain ⟨hp, g, d, tk, os⟩ := s; obtain ⟨hl, h⟩ := h; wp_walk using wpAny_loadPart' hl, wpAny_load hl; exact ⟨_, rfl, h⟩
theorem bool_decl (b : Bool) (l C dx : Addr) :
    Meets (Builtin.«int.__eq__» ⟨[.bool b, .ref l], []⟩) (fun _ R s => s.heap.get? l = some (PySem.W.instObj C dx) ∧ R (.ok (.ret .notImplemented)) s) :=
  .of_wp fun prog w A R s h => by obtain ⟨hp, g, d, tk, os⟩ := s; obtain ⟨hl, h⟩ := h; wp_walk using wpAny_loadPart' hl, wpAny_load hl; exact ⟨_, rfl, h⟩
theorem str_decl (b : Str) (u : Tok) (l C dx : Addr) :
    Meets (Builtin.«str.__eq__» ⟨[.str b u, .ref l], []⟩) (fun _ R s => s.heap.get? l = some (PySem.W.instObj C dx) ∧ R (.ok (.ret .notImplemented)) s) :=
  .of_wp fun prog w A R s h => by obtain ⟨hp, g, d, tk, os⟩ := s; obtain ⟨hl, h⟩ := h; wp_walk using wpAny_loadPart' hl, wpAny_load hl; exact ⟨_, rfl, h⟩
theorem lst_decl {K : PySem.W.Frag} (a : Addr) (items : Array Value) (n : Nat) (dd : Option Addr) (sl : Array (Option Value)) (l C dx : Addr) (hk : PySem.W.subIn K (.ref C) (.type "list") = some false) :
    Meets (Builtin.«list.__eq__» ⟨[.ref a, .ref l], []⟩) (fun _ R s => K.In s.heap ∧ s.heap.get? a = some { cls := .type "list", dict := dd, data := .seq items n, slots := sl } ∧ s.heap.get? l = some (PySem.W.instObj C dx) ∧ R (.ok (.ret .notImplemented)) s) :=
  .of_wp fun prog w A R s h => by
    obtain ⟨hp, g, d, tk, os⟩ := s; obtain ⟨hK, ha, hl, h⟩ := h
    have hsb : ∀ (Q : Bool → Shared → Prop) (E : Value → Shared → Prop) (A : Around) (s : Shared), K.In s.heap → Q false s → wpAny (model prog w) A (isSubtype (.ref C) (.type "list")) Q E s := fun Q E A s k q => (PySem.W.looks_subIn k hk).here q
    wp_walk using wpAny_loadPart' ha, wpAny_loadPart' hl, wpAny_load hl
    refine hsb _ _ _ _ hK ?_
    wp_walk
    exact ⟨_, rfl, h⟩
theorem tup_decl {K : PySem.W.Frag} (a : Addr) (items : Array Value) (n : Nat) (dd : Option Addr) (sl : Array (Option Value)) (l C dx : Addr) (hk : PySem.W.subIn K (.ref C) (.type "tuple") = some false) :
    Meets (Builtin.«tuple.__eq__» ⟨[.ref a, .ref l], []⟩) (fun _ R s => K.In s.heap ∧ s.heap.get? a = some { cls := .type "tuple", dict := dd, data := .seq items n, slots := sl } ∧ s.heap.get? l = some (PySem.W.instObj C dx) ∧ R (.ok (.ret .notImplemented)) s) :=
  .of_wp fun prog w A R s h => by
    obtain ⟨hp, g, d, tk, os⟩ := s; obtain ⟨hK, ha, hl, h⟩ := h
    have hsb : ∀ (Q : Bool → Shared → Prop) (E : Value → Shared → Prop) (A : Around) (s : Shared), K.In s.heap → Q false s → wpAny (model prog w) A (isSubtype (.ref C) (.type "tuple")) Q E s := fun Q E A s k q => (PySem.W.looks_subIn k hk).here q
    wp_walk using wpAny_loadPart' ha, wpAny_loadPart' hl, wpAny_load hl
    refine hsb _ _ _ _ hK ?_
    wp_walk
    exact ⟨_, rfl, h⟩
end
open PySem PySem.Spec PyProof.Rows L2
section
variable {X : Cx} {T : TabI} {dd : Dd} {cl : CallT} {eqm : Nat → Option Nat} {k : Nat}
/-- the built-in on the left declines an instance -/
theorem declines {pins : List (Addr × Obj)} {s : Shared} {σ : L2.St} {H : Hp} {ι : List Addr} {st : List O} {A : Around} {d : D} {x : V} {u : Value} {bt : BT} (I : L2.Inv X pins σ H s) (S : StOk (gd T X) H ι st) (rx : L2.RelV x u) (rd : RelD (gd T X) H ι d x) (e : tagOf st d = some (.b bt)) (hdk : bt ≠ .dict) :
    ∃ id, s.TypeIs u bt.name ∧ Slot bt.name "__eq__" id ∧ ∀ (Ca dx : Addr) (y' : Addr), s.heap.get? y' = some (PySem.W.instObj Ca dx) → PySem.W.subIn X.K (.ref Ca) (.type bt.name) = some false → ∀ Q' : Value → Shared → Prop, Q' .notImplemented s → wpAny (model X.prog X.w) A (call (.builtin id) [u, .ref y']) Q' X.xe s := by
  have seqL : ∀ {a : Addr} {xs : List V}, SqL X.K H a xs → ∃ id, s.TypeIs (.ref a) "list" ∧ Slot "list" "__eq__" id ∧ ∀ (Ca dx : Addr) (y' : Addr), s.heap.get? y' = some (PySem.W.instObj Ca dx) → PySem.W.subIn X.K (.ref Ca) (.type "list") = some false → ∀ Q' : Value → Shared → Prop, Q' .notImplemented s → wpAny (model X.prog X.w) A (call (.builtin id) [.ref a, .ref y']) Q' X.xe s := fun h => by
    obtain ⟨its, rv, ⟨⟨oc, od, dt, sl⟩, n, ho, hc, _, hd⟩, _⟩ := I.list h
    simp only at hc hd
    subst hc hd
    exact ⟨_, ⟨_, ho, rfl⟩, PySem.F.slot_list_eq, fun Ca dx y' hy hs Q' hq => call_meets PySem.F.slot_list_eq ⟨_, ho, rfl⟩ PySem.F.entry_list_eq (PySem.F.args_list_eq_2 _ _) (lst_decl (K := X.K) _ _ n od sl y' Ca dx hs) ⟨I.kIn, ho, hy, hq⟩⟩
  have seqT : ∀ {a : Addr} {xs : List V}, SqT X.K H a xs → ∃ id, s.TypeIs (.ref a) "tuple" ∧ Slot "tuple" "__eq__" id ∧ ∀ (Ca dx : Addr) (y' : Addr), s.heap.get? y' = some (PySem.W.instObj Ca dx) → PySem.W.subIn X.K (.ref Ca) (.type "tuple") = some false → ∀ Q' : Value → Shared → Prop, Q' .notImplemented s → wpAny (model X.prog X.w) A (call (.builtin id) [.ref a, .ref y']) Q' X.xe s := fun h => by
    obtain ⟨its, rv, ⟨⟨oc, od, dt, sl⟩, ho, hc, n, hd⟩, _⟩ := I.tuple h
    simp only at hc hd
    subst hc hd
    exact ⟨_, ⟨_, ho, rfl⟩, PySem.F.slot_tuple_eq, fun Ca dx y' hy hs Q' hq => call_meets PySem.F.slot_tuple_eq ⟨_, ho, rfl⟩ PySem.F.entry_tuple_eq (PySem.F.args_tuple_eq_2 _ _) (tup_decl (K := X.K) _ _ n od sl y' Ca dx hs) ⟨I.kIn, ho, hy, hq⟩⟩
  cases rd with
  | non =>
    cases e
    cases rx
    exact ⟨_, rfl, PySem.F.slot_NoneType_eq, fun Ca dx y' hy hs Q' hq => call_gives PySem.F.slot_NoneType_eq rfl PySem.F.entry_NoneType_eq (PySem.F.args_NoneType_eq_2 _ _) (SeqAt.NoneType___eq___none_ref_0 y') hq⟩
  | bl b =>
    cases e
    cases rx
    exact ⟨_, rfl, PySem.F.slot_bool_eq, fun Ca dx y' hy hs Q' hq => call_meets PySem.F.slot_bool_eq rfl PySem.F.entry_int_eq (PySem.F.args_int_eq_2 _ _) (bool_decl b y' Ca dx) ⟨hy, hq⟩⟩
  | int i =>
    cases e
    obtain ⟨t, rfl⟩ := rx
    exact ⟨_, typeIs_int s i t, PySem.F.slot_int_eq, fun Ca dx y' hy hs Q' hq => call_meets PySem.F.slot_int_eq (typeIs_int s i t) PySem.F.entry_int_eq (PySem.F.args_int_eq_2 _ _) (int_decl i t y' Ca dx) ⟨hy, hq⟩⟩
  | str z =>
    cases e
    obtain ⟨t, rfl⟩ := rx
    exact ⟨_, typeIs_str s z t, PySem.F.slot_str_eq, fun Ca dx y' hy hs Q' hq => call_meets PySem.F.slot_str_eq (typeIs_str s z t) PySem.F.entry_str_eq (PySem.F.args_str_eq_2 _ _) (str_decl z t y' Ca dx) ⟨hy, hq⟩⟩
  | ty b => cases e
  | cls h => cases e
  | tup h q => cases e; cases rx; exact seqT h
  | rol h q => cases e; cases rx; exact seqL h.sqL
  | ref h =>
    cases rx
    obtain ⟨o, e1, ob⟩ := S.at h
    unfold tagOf at e
    dsimp only at e
    rw [e1] at e
    cases o with
    | lst xs => cases e; obtain ⟨ys, h1, _⟩ := ob; exact seqL (.of h1)
    | dK xs => cases e; exact absurd rfl hdk
    | dT xs => cases e; exact absurd rfl hdk
    | ins c fs => cases e
    | exc c m => cases e
    | xds fs => cases e
theorem eqTs_nil_l {eb : D → D → List O → Rs Bool} {ys : List D} {st : List O} : eqTs eb [] ys st = some (ys.isEmpty, st) := by
  cases ys <;> rfl
theorem eqTs_nil_r {eb : D → D → List O → Rs Bool} {xs : List D} {st : List O} : eqTs eb xs [] st = some (xs.isEmpty, st) := by
  cases xs <;> rfl
/-- tuples, item by item -/
theorem rc_tups {eb : D → D → List O → Rs Bool} {n : Nat} (E : EbS X T eb n) {A : Around} {pins : List (Addr × Obj)} {s : Shared} {σ : L2.St} {H : Hp} {ι : List Addr} {st : List O} {a a' : Addr} {xs ys : List D} {vs ws : List V} {b : Bool} {st' : List O}
    (sb : Sub X (n + 1) A) (I : L2.Inv X pins σ H s) (S : StOk (gd T X) H ι st) (h1 : SqT X.K H a vs) (h2 : SqT X.K H a' ws) (q1 : RelDs (gd T X) H ι xs vs) (q2 : RelDs (gd T X) H ι ys ws) (h : eqTs eb xs ys st = some (b, st')) :
    wpAny (model X.prog X.w) A (richCompare .Eq (.ref a) (.ref a')) (fun r s' => r = .bool b ∧ Bq X T pins σ ι H st' s') X.xe s := by
  obtain ⟨its, rv, p1, _⟩ := I.tuple h1
  obtain ⟨its2, rv2, p2, _⟩ := I.tuple h2
  have l1 : its.toArray.size = xs.length := by rw [List.size_toArray, ← rv.length, q1.length]
  have l2 : its2.toArray.size = ys.length := by rw [List.size_toArray, ← rv2.length, q2.length]
  refine rc_tupR sb.room.units0 (fun i s' => ∃ ι' H' sti, ι <+: ι' ∧ Keep X.K H H' ∧ L2.Inv X pins σ H' s' ∧ StOk (gd T X) H' ι' sti ∧ eqTs eb (xs.drop i) (ys.drop i) sti = some (b, st')) (fun s' => b = false ∧ Bq X T pins σ ι H st' s') p1 p2 ?_ ?_ ?_ ⟨ι, H, st, List.prefix_rfl, Keep.refl, I, S, h⟩
  · rintro i g1 g2 s1 ⟨ι1, H1, st1, p, kp, I1, S1, e⟩
    have i1 : i < xs.length := by rw [← l1]; exact g1
    have i2 : i < ys.length := by rw [← l2]; exact g2
    rw [List.drop_eq_getElem_cons i1, List.drop_eq_getElem_cons i2] at e
    unfold eqTs at e
    obtain ⟨r, st2, e1, e⟩ := bnd_of e
    obtain ⟨v, hv, rdv⟩ := q1.get (i := i) (d := xs[i]) (by simp [i1])
    obtain ⟨w, hw, rdw⟩ := q2.get (i := i) (d := ys[i]) (by simp [i2])
    obtain ⟨u, hu, ru⟩ := rv.get hv
    obtain ⟨u', hu', ru'⟩ := rv2.get hw
    have eu : its.toArray[i] = u := by
      have := (List.getElem?_eq_some_iff.mp hu).2
      simpa using this
    have eu' : its2.toArray[i] = u' := by
      have := (List.getElem?_eq_some_iff.mp hu').2
      simpa using this
    rw [eu, eu']
    refine wpAny_mono (E A.in1 pins s1 σ H1 ι1 st1 v w u u' xs[i] ys[i] r st2 sb.in1 I1 ru ru' S1 (rdv.mono p kp) (rdw.mono p kp) e1) (fun r' s2 q => ?_) fun _ _ z => z
    obtain ⟨rfl, ι2, H2, p2, k2, I2, S2⟩ := q
    cases r' with
    | true =>
      rw [if_pos rfl]
      exact ⟨ι2, H2, st2, p.trans p2, kp.trans k2, I2, S2, e⟩
    | false =>
      rw [if_neg Bool.false_ne_true]
      cases e
      exact ⟨rfl, ι2, H2, p.trans p2, kp.trans k2, I2, S2⟩
  · rintro s1 ⟨ι1, H1, st1, p, kp, I1, S1, e⟩
    rw [l1, l2] at e ⊢
    have eb' : some (decide (xs.length = ys.length), st1) = some (b, st') := by
      rw [← e]
      rcases Nat.lt_trichotomy xs.length ys.length with hlt | heq | hgt
      · rw [Nat.min_eq_left (Nat.le_of_lt hlt), List.drop_of_length_le (Nat.le_refl _), eqTs_nil_l, decide_eq_false (by omega)]
        have : (ys.drop xs.length).isEmpty = false := by rw [List.isEmpty_eq_false_iff]; intro z; have := List.drop_eq_nil_iff.mp z; omega
        rw [this]
      · rw [heq, Nat.min_self, List.drop_of_length_le (Nat.le_of_eq heq), List.drop_of_length_le (Nat.le_refl _), eqTs_nil_l, decide_eq_true rfl]
        rfl
      · rw [Nat.min_eq_right (Nat.le_of_lt hgt), List.drop_of_length_le (l := ys) (Nat.le_refl _), eqTs_nil_r, decide_eq_false (by omega)]
        have : (xs.drop ys.length).isEmpty = false := by rw [List.isEmpty_eq_false_iff]; intro z; have := List.drop_eq_nil_iff.mp z; omega
        rw [this]
    cases eb'
    refine ⟨?_, ι1, H1, p, kp, I1, S1⟩
    exact congrArg Value.bool (by rw [Bool.eq_iff_iff]; simp)
  · rintro s1 ⟨rfl, q⟩
    exact ⟨rfl, q⟩
/-- lists, item by item -/
theorem rc_lsts {eb : D → D → List O → Rs Bool} {n : Nat} (E : EbS X T eb n) {A : Around} {pins : List (Addr × Obj)} {s : Shared} {σ : L2.St} {H : Hp} {ι : List Addr} {st : List O} {la lb N : Nat} {a a' : Addr} {b : Bool} {st' : List O}
    (sb : Sub X (n + 1) A) (I : L2.Inv X pins σ H s) (S : StOk (gd T X) H ι st) (h1 : ι[la]? = some a) (h2 : ι[lb]? = some a') (h : eqLs eb la lb N N 0 st = some (b, st')) :
    wpAny (model X.prog X.w) A (richCompare .Eq (.ref a) (.ref a')) (fun r s' => r = .bool b ∧ Bq X T pins σ ι H st' s') X.xe s := by
  have lists : ∀ {ι1 H1 s1 st1}, ι <+: ι1 → L2.Inv X pins σ H1 s1 → StOk (gd T X) H1 ι1 st1 → ∀ {xs ys : List D}, st1[la]? = some (.lst xs) → st1[lb]? = some (.lst ys) → xs.length = N → ys.length = N →
      ∃ (its its2 : List Value) (m m2 : Nat) (vs ws : List V), s1.heap.get? a = some { cls := .type "list", data := .seq its.toArray m } ∧ s1.heap.get? a' = some { cls := .type "list", data := .seq its2.toArray m2 } ∧ its.length = N ∧ its2.length = N ∧ RelDs (gd T X) H1 ι1 xs vs ∧ RelDs (gd T X) H1 ι1 ys ws ∧ Vals vs its ∧ Vals ws its2 := by
    intro ι1 H1 s1 st1 p I1 S1 xs ys e1 e2 n1 n2
    obtain ⟨o, z1, ob⟩ := S1.at (pre_get p h1)
    rw [e1] at z1
    cases z1
    obtain ⟨o, z2, ob2⟩ := S1.at (pre_get p h2)
    rw [e2] at z2
    cases z2
    obtain ⟨vs, g1, r1⟩ := ob
    obtain ⟨ws, g2, r2⟩ := ob2
    obtain ⟨its, m, rv, ho, _⟩ := I1.lst g1
    obtain ⟨its2, m2, rv2, ho2, _⟩ := I1.lst g2
    exact ⟨its, its2, m, m2, vs, ws, ho, ho2, by rw [← rv.length, ← r1.length]; exact n1, by rw [← rv2.length, ← r2.length]; exact n2, r1, r2, rv, rv2⟩
  refine rc_lstR (N := N) sb.room.units0 (fun i s' => ∃ ι' H' sti, i ≤ N ∧ ι <+: ι' ∧ Keep X.K H H' ∧ L2.Inv X pins σ H' s' ∧ StOk (gd T X) H' ι' sti ∧ eqLs eb la lb N (N - i) i sti = some (b, st'))
    (fun s' => b = false ∧ ∃ ι' H', ι <+: ι' ∧ Keep X.K H H' ∧ L2.Inv X pins σ H' s' ∧ StOk (gd T X) H' ι' st' ∧ ∃ xs ys, st'[la]? = some (.lst xs) ∧ st'[lb]? = some (.lst ys) ∧ xs.length = N ∧ ys.length = N) ?_ ?_ ?_ ?_ ⟨ι, H, st, Nat.zero_le _, List.prefix_rfl, Keep.refl, I, S, h⟩
  · rintro i s1 ⟨ι1, H1, st1, hi, p, kp, I1, S1, e⟩
    unfold eqLs at e
    cases z1 : st1[la]? with
    | none => rw [z1] at e; cases e
    | some o1 =>
      cases z2 : st1[lb]? with
      | none => rw [z1, z2] at e; cases o1 <;> cases e
      | some o2 =>
        rw [z1, z2] at e
        cases o1 with
        | lst xs =>
          cases o2 with
          | lst ys =>
            dsimp only at e
            split at e
            · rename_i hN
              obtain ⟨its, its2, m, m2, vs, ws, g1, g2, n1, n2, r1, r2, rv, rv2⟩ := lists p I1 S1 z1 z2 hN.1 hN.2
              refine ⟨its.toArray, its2.toArray, m, m2, g1, g2, by simpa using n1, by simpa using n2, fun q1 q2 => ?_⟩
              have iN : i < N := by rw [← n1]; simpa using q1
              cases hk : N - i with
              | zero => omega
              | succ k0 =>
                rw [hk] at e
                dsimp only at e
                have i1 : i < xs.length := by rw [hN.1]; exact iN
                have i2 : i < ys.length := by rw [hN.2]; exact iN
                rw [List.getElem?_eq_getElem i1, List.getElem?_eq_getElem i2] at e
                obtain ⟨r, st2, e1, e⟩ := bnd_of e
                obtain ⟨v, hv, rdv⟩ := r1.get (i := i) (d := xs[i]) (by simp [i1])
                obtain ⟨w, hw, rdw⟩ := r2.get (i := i) (d := ys[i]) (by simp [i2])
                obtain ⟨u, hu, ru⟩ := rv.get hv
                obtain ⟨u', hu', ru'⟩ := rv2.get hw
                have eu : its.toArray[i] = u := by
                  have := (List.getElem?_eq_some_iff.mp hu).2
                  simpa using this
                have eu' : its2.toArray[i] = u' := by
                  have := (List.getElem?_eq_some_iff.mp hu').2
                  simpa using this
                rw [eu, eu']
                refine wpAny_mono (E A.in1 pins s1 σ H1 ι1 st1 v w u u' xs[i] ys[i] r st2 sb.in1 I1 ru ru' S1 rdv rdw e1) (fun r' s2 q => ?_) fun _ _ z => z
                obtain ⟨rfl, ι2, H2, p2, k2, I2, S2⟩ := q
                cases r' with
                | true =>
                  rw [if_pos rfl]
                  have hk2 : N - (i + 1) = k0 := by omega
                  exact ⟨ι2, H2, st2, iN, p.trans p2, kp.trans k2, I2, S2, by rw [hk2]; exact e⟩
                | false =>
                  rw [if_neg Bool.false_ne_true]
                  dsimp only at e
                  split at e
                  · rename_i xs2 ys2 zz1 zz2
                    split at e
                    · rename_i hN2
                      cases e
                      exact ⟨rfl, ι2, H2, p.trans p2, kp.trans k2, I2, S2, xs2, ys2, zz1, zz2, hN2.1, hN2.2⟩
                    · cases e
                  · cases e
            · cases e
          | _ => cases e
        | _ => cases o2 <;> cases e
  · rintro s1 ⟨ι1, H1, st1, hi, p, kp, I1, S1, e⟩
    unfold eqLs at e
    rw [Nat.sub_self] at e
    split at e
    · split at e
      · rw [if_pos rfl] at e
        cases e
        exact ⟨rfl, ι1, H1, p, kp, I1, S1⟩
      · cases e
    · cases e
  · rintro s1 ⟨_, ι1, H1, p, kp, I1, S1, xs, ys, z1, z2, n1, n2⟩
    obtain ⟨its, its2, m, m2, vs, ws, g1, g2, m1, m2', _⟩ := lists p I1 S1 z1 z2 n1 n2
    exact ⟨its.toArray, its2.toArray, m, m2, g1, g2, by simpa using m1, by simpa using m2'⟩
  · rintro s1 ⟨rfl, ι1, H1, p, kp, I1, S1, _⟩
    exact ⟨rfl, ι1, H1, p, kp, I1, S1⟩
/-- == is what rcN says -/
theorem rc_ok (Q : EqOk X.K T eqm dd) (F : ∀ c f, eqm c = some f → FnOk X.prog X.w X.K X.mg X.base CX0 k (dd.fa f) (dd.fd f) (dd.ps f) (spD (gd T X) cl (dd.ps f).length f) ∧ Binds X.K (dd.fd f) (dd.ps f) [])
    (hlen : ∀ f ds st z, cl f ds st = some z → ds.length = (dd.ps f).length) : ∀ n, RcS X T (rcN cl eqm n) (k + n) := by
  have owq_f : ∀ {c : Nat} {x y : D} {st : List O} {z : Bool × List O}, owq cl eqm c x y st = some z → (∃ t, tagOf st y = some t) ∧ ∃ f, eqm c = some f := fun {c x y st z} h => by
    unfold owq at h
    split at h
    · cases h
    · rename_i ht
      refine ⟨?_, ?_⟩
      · cases q : tagOf st y with
        | none => rw [q] at ht; exact absurd rfl ht
        | some t => exact ⟨t, rfl⟩
      · cases q : eqm c with
        | none => rw [q] at h; cases h
        | some f => exact ⟨f, rfl⟩
  intro n
  induction n with
  | zero =>
    intro A pins s σ H ι st x y u v d e b st' sb I rx ry S rd re h
    unfold rcN at h
    split at h
    · rename_i p q ep eq
      split at h
      · rename_i hc
        cases h
        obtain ⟨as, bs, r1, r2, c1, c2, hu⟩ := rc_data sb.room.units I rx ry S rd re ep eq hc
        exact SeqAt.rcAt_reads r1 r2 c1 c2 hu X.prog X.w X.xe _ ⟨rfl, .refl I S⟩
      · cases h
    · cases h
  | succ n ih =>
    intro A pins s σ H ι st x y u v d e b st' sb I rx ry S rd re h
    have hk : k ≤ k + (n + 1) := Nat.le_add_right _ _
    unfold rcN at h
    split at h
    · rename_i p q ep eq
      split at h
      · rename_i hc
        cases h
        obtain ⟨as, bs, r1, r2, c1, c2, hu⟩ := rc_data sb.room.units I rx ry S rd re ep eq hc
        exact SeqAt.rcAt_reads r1 r2 c1 c2 hu X.prog X.w X.xe _ ⟨rfl, .refl I S⟩
      · cases h
    · dsimp only at h
      have refl : ∀ {c b0 : Nat} {fs : List (Nat × D)}, e = .ref b0 → st[b0]? = some (.ins c fs) → (∀ cc fs' aa, d = .ref aa → st[aa]? ≠ some (.ins cc fs')) → tagOf st d ≠ some (.b .dict) → owq cl eqm c e d st = some (b, st') → wpAny (model X.prog X.w) A (richCompare .Eq u v) (fun r s' => r = .bool b ∧ Bq X T pins σ ι H st' s') X.xe s := by
        intro c b0 fs he ea hni hnd h
        subst he
        obtain ⟨⟨t, ht⟩, f, ef⟩ := owq_f h
        obtain ⟨Ff, Bf⟩ := F c f ef
        cases t with
        | b bt =>
          by_cases hdk : bt = .dict
          · subst hdk
            exact absurd ht hnd
          · obtain ⟨id, hT, slot, hd⟩ := declines (A := A) I S rx rd ht hdk
            exact rc_refl Q ef Ff Bf (hlen f) hk sb I rx ry S rd re ea hT slot hd h
        | c k' =>
          cases d with
          | ref aa =>
            unfold tagOf at ht
            dsimp only at ht
            cases zz : st[aa]? with
            | none => rw [zz] at ht; cases ht
            | some o =>
              cases o with
              | ins cc fs' => exact absurd zz (hni cc fs' aa rfl)
              | _ => rw [zz] at ht; cases ht
          | _ => cases ht
      split at h
      · cases rd with
        | tup h1 q1 =>
          cases re with
          | tup h2 q2 =>
            cases rx
            cases ry
            exact rc_tups (eb_of ih) sb I S h1 h2 q1 q2 h
      · rename_i a0 _
        split at h
        · rename_i c fs ea
          obtain ⟨⟨t, ht⟩, f, ef⟩ := owq_f h
          obtain ⟨Ff, Bf⟩ := F c f ef
          exact rc_own Q ef Ff Bf (hlen f) hk sb I rx ry S rd re ea ht h
        · rename_i xs ea
          split at h
          · rename_i b0 _
            split at h
            · rename_i ys eb
              cases rd with
              | ref hn =>
                cases re with
                | ref hm =>
                  cases rx
                  cases ry
                  split at h
                  · exact rc_lsts (eb_of ih) sb I S hn hm h
                  · rename_i hne
                    cases h
                    obtain ⟨o, z1, ob⟩ := S.at hn
                    rw [ea] at z1
                    cases z1
                    obtain ⟨o, z2, ob2⟩ := S.at hm
                    rw [eb] at z2
                    cases z2
                    obtain ⟨vs, g1, r1⟩ := ob
                    obtain ⟨ws, g2, r2⟩ := ob2
                    obtain ⟨its, rv, pl, _⟩ := I.list (.of g1)
                    obtain ⟨its2, rv2, pl2, _⟩ := I.list (.of g2)
                    refine SeqAt.RcAt.lists_lengths pl.isList pl2.isList ?_ sb.room.units0 X.prog X.w X.xe _ ⟨rfl, .refl I S⟩
                    have e1 : its.toArray.size = xs.length := by rw [List.size_toArray, ← rv.length, r1.length]
                    have e2 : its2.toArray.size = ys.length := by rw [List.size_toArray, ← rv2.length, r2.length]
                    rw [e1, e2]
                    simpa using hne
            · rename_i c fs eb
              exact refl rfl eb (fun cc fs' aa z1 z2 => by cases z1; rw [ea] at z2; cases z2) (fun z => by unfold tagOf at z; dsimp only at z; rw [ea] at z; cases z) h
            · cases h
          · cases h
        · cases h
      · rename_i b0 hnr _
        split at h
        · rename_i c fs ea
          exact refl rfl ea (fun cc fs' aa z1 _ => hnr aa z1) (fun z => by cases d <;> first | (cases z; done) | exact hnr _ rfl) h
        · cases h
      · cases h
end
end Eng
set_option Elab.async false
set_option linter.all false
set_option maxRecDepth 100000
set_option autoImplicit false
/-! N0: != of tuples and lists, item by item (printed by mkne.py from E11 and E14). -/
namespace Eng
open PySem PySem.SeqAt
open AutoSeq1 (wpAny_loadPart')
open MeetsSeq MeetsSeq2 MeetsSeq3 SeqRoads2
section
variable {prog : Program} {w : World} {A : Around} {R : Result → Shared → Prop}
/-- tuple !=: item by item, Z behind the first two that differ -/
theorem tup_neR (l b : Addr) (its its2 : Array Value) (n n2 : Nat) (dd dd2 : Option Addr) (sl sl2 : Array (Option Value)) (I : Nat → Shared → Prop) (Z : Shared → Prop)
    (turn : ∀ i (h1 : i < its.size) (h2 : i < its2.size) s, I i s → wpAny (model prog w) A.in1 (eqBool its[i] its2[i]) (fun r s' => if r = true then I (i + 1) s' else Z s') (fun e s' => R (.error e) s') s)
    (fin : ∀ s, I (min its.size its2.size) s → R (.ok (.ret (.bool (its.size != its2.size)))) s) (finF : ∀ s, Z s → R (.ok (.ret (.bool true))) s)
    {s : Shared} (hl1 : s.heap.get? l = some { cls := .type "tuple", dict := dd, data := .seq its n, slots := sl }) (hb1 : s.heap.get? b = some { cls := .type "tuple", dict := dd2, data := .seq its2 n2, slots := sl2 }) (h : I 0 s) :
    wpAny (model prog w) A.in1 (Builtin.«tuple.__ne__» ⟨[.ref l, .ref b], []⟩) (GQ.FinOf prog w A R) (fun e s' => R (.error e) s') s := by
  have f2 := AutoSeq1.sub_tuple_tuple
  have hZ : (its.toList.zip its2.toList).length = min its.size its2.size := by simp
  have h0 := h
  obtain ⟨hp, g, d, tk, os⟩ := s
  wp_walk using wpAny_loadPart' hl1, wpAny_loadPart' hb1, wpAny_forIn_list _ (fun rest c s' => c.1 = none ∧ ∃ i, rest = (its.toList.zip its2.toList).drop i ∧ i ≤ min its.size its2.size ∧ I i s') _
  case turn =>
    rintro ⟨y, x⟩ rest c s' ⟨hc, i, hz, hi, hI⟩
    have hlt : i < (its.toList.zip its2.toList).length := by
      rcases Nat.lt_or_ge i (its.toList.zip its2.toList).length with q | q
      · exact q
      · rw [List.drop_of_length_le q] at hz; cases hz
    have hm : i < min its.size its2.size := hZ ▸ hlt
    have h1 : i < its.size := by omega
    have h2 : i < its2.size := by omega
    rw [List.drop_eq_getElem_cons hlt] at hz
    injection hz with hyx hrest
    have hy : y = its[i] := by have := congrArg Prod.fst hyx; simpa using this
    have hx : x = its2[i] := by have := congrArg Prod.snd hyx; simpa using this
    subst hy hx
    refine wpAny_bind (wpAny_mono (turn i h1 h2 s' hI) (fun r s2 q2 => ?_) fun _ _ x => x)
    cases r with
    | true =>
      rw [if_pos rfl] at q2
      wp_walk
      exact ⟨rfl, i + 1, hrest, hm, q2⟩
    | false =>
      rw [if_neg Bool.false_ne_true] at q2
      wp_walk
      exact finF s2 q2
  case fin =>
    rintro ⟨b1, b2⟩ s' ⟨hb', i, hz, hi, hI⟩
    simp only at hb'
    subst hb'
    have hge : min its.size its2.size ≤ i := by
      rcases Nat.lt_or_ge i (its.toList.zip its2.toList).length with q | q
      · rw [List.drop_eq_getElem_cons q] at hz; cases hz
      · exact hZ ▸ q
    have hi' : i = min its.size its2.size := by omega
    have hR := fin s' (hi' ▸ hI)
    wp_walk
    simpa [Builtin.Tuple.tupleCompareSizes] using hR
  case h => exact ⟨rfl, 0, rfl, Nat.zero_le _, h0⟩
theorem lst_loopNe (l b : Addr) (N : Nat) (I : Nat → Shared → Prop) (Z : Shared → Prop) (hl : LstR prog w A (fun e s' => R (.error e) s') l b N I Z)
    (fin : ∀ s, I N s → R (.ok (.ret (.bool false))) s) (zl : ∀ s, Z s → ∃ (its its2 : Array Value) (n n2 : Nat), s.heap.get? l = some { cls := .type "list", data := .seq its n } ∧ s.heap.get? b = some { cls := .type "list", data := .seq its2 n2 } ∧ its.size = N ∧ its2.size = N)
    (finF : ∀ s, Z s → R (.ok (.ret (.bool true))) s) (k : Nat) :
    ∀ i : Nat, N - i = k → i ≤ N → ∀ s, I i s →
      wpAny (model prog w) A.in1 (Builtin.«list.__eq__.loop» ⟨[.ref l, .ref b, rawInt i, rawInt 3], []⟩) (GQ.FinOf prog w A R) (fun e s' => R (.error e) s') s := by
  induction k with
  | zero =>
    intro i hk hi s h
    obtain ⟨its, its2, n, n2, hl1, hb1, hs1, hs2, _⟩ := hl _ _ h
    have hi' : i = N := by omega
    have hR : R (.ok (.ret (.bool false))) s := fin s (hi' ▸ h)
    obtain ⟨hp, g, d, tk, os⟩ := s
    wp_walk using wpAny_loadPart' hl1, wpAny_loadPart' hb1
    have e1 : its[((i : Nat) : Int).toNat]? = none := by simp; omega
    have e2 : its2[((i : Nat) : Int).toNat]? = none := by simp; omega
    rw [e1, e2]
    wp_walk using wpAny_loadPart' hl1, wpAny_loadPart' hb1
    show R (.ok (.ret (.bool (its.size != its2.size)))) _
    rw [hs1, hs2]
    simpa using hR
  | succ k ih =>
    intro i hk hi s h
    obtain ⟨its, its2, n, n2, hl1, hb1, hs1, hs2, turn⟩ := hl _ _ h
    have hlt : i < its.size := by omega
    have hlt2 : i < its2.size := by omega
    have ht := turn hlt hlt2
    obtain ⟨hp, g, d, tk, os⟩ := s
    wp_walk using wpAny_loadPart' hl1, wpAny_loadPart' hb1
    have e1 : its[((i : Nat) : Int).toNat]? = some its[i] := by simp [hlt]
    have e2 : its2[((i : Nat) : Int).toNat]? = some its2[i] := by simp [hlt2]
    have hc : ((i : Int) + 1) = ((i + 1 : Nat) : Int) := by omega
    rw [e1, e2]
    refine wpAny_bind (wpAny_mono ht (fun r s2 h2 => ?_) fun _ _ x => x)
    cases r with
    | true =>
      rw [if_pos rfl] at h2
      have hrec := ih (i + 1) (by omega) (by omega) s2 h2
      obtain ⟨hp2, g2, d2, tk2, os2⟩ := s2
      wp_walk
      rw [hc]
      exact ⟨plainId_quiet plain_eq_loop _, codeAny_builtin entry_eq_loop (by
        rw [Around.under_plainId plain_eq_loop _]
        exact hrec)⟩
    | false =>
      rw [if_neg Bool.false_ne_true] at h2
      have hR := finF s2 h2
      obtain ⟨jts, jts2, m, m2, hl3, hb3, hs3, hs4⟩ := zl s2 h2
      obtain ⟨hp2, g2, d2, tk2, os2⟩ := s2
      wp_walk using wpAny_loadPart' hl3, wpAny_loadPart' hb3
      have e3 : jts[((i : Nat) : Int).toNat]? = some (jts[i]'(by omega)) := by simp
      have e4 : jts2[((i : Nat) : Int).toNat]? = some (jts2[i]'(by omega)) := by simp
      rw [e3, e4]
      wp_walk
      exact hR
theorem lst_neR (l b : Addr) (N : Nat) (I : Nat → Shared → Prop) (Z : Shared → Prop) (hl : LstR prog w A (fun e s' => R (.error e) s') l b N I Z)
    (fin : ∀ s, I N s → R (.ok (.ret (.bool false))) s) (zl : ∀ s, Z s → ∃ (its its2 : Array Value) (n n2 : Nat), s.heap.get? l = some { cls := .type "list", data := .seq its n } ∧ s.heap.get? b = some { cls := .type "list", data := .seq its2 n2 } ∧ its.size = N ∧ its2.size = N)
    (finF : ∀ s, Z s → R (.ok (.ret (.bool true))) s) {s : Shared} (h : I 0 s) :
    wpAny (model prog w) A.in1 (Builtin.«list.__ne__» ⟨[.ref l, .ref b], []⟩) (GQ.FinOf prog w A R) (fun e s' => R (.error e) s') s := by
  obtain ⟨its, its2, n, n2, hl1, hb1, hs1, hs2, _⟩ := hl _ _ h
  have hrec := lst_loopNe (A := A) (R := R) l b N I Z hl fin zl finF _ 0 rfl (Nat.zero_le _) s h
  obtain ⟨hp, g, d, tk, os⟩ := s
  have f3 := AutoSeq1.sub_list_list
  have hne : ¬ (its.size != its2.size) = true := by simp [hs1, hs2]
  wp_walk using wpAny_loadPart' hl1, wpAny_loadPart' hb1
  exact ⟨plainId_quiet plain_eq_loop _, codeAny_builtin entry_eq_loop (by
    rw [Around.under_plainId plain_eq_loop _]
    exact hrec)⟩
end
section
variable {prog : Program} {w : World} {A : Around} {E : Value → Shared → Prop} {s : Shared}
theorem rc_lstNe {l b : Addr} {N : Nat} {Q : Value → Shared → Prop} (hu : A.units < cLine) (I : Nat → Shared → Prop) (Z : Shared → Prop) (hl : LstR prog w A E l b N I Z)
    (fin : ∀ s, I N s → Q (.bool false) s) (zl : ∀ s, Z s → ∃ (its its2 : Array Value) (n n2 : Nat), s.heap.get? l = some { cls := .type "list", data := .seq its n } ∧ s.heap.get? b = some { cls := .type "list", data := .seq its2 n2 } ∧ its.size = N ∧ its2.size = N)
    (finF : ∀ s, Z s → Q (.bool true) s) (h : I 0 s) : wpAny (model prog w) A (richCompare .NotEq (.ref l) (.ref b)) Q E s := by
  obtain ⟨its, its2, n, n2, hl1, hb1, _, _, _⟩ := hl _ _ h
  refine wpAny_richCompare_same_room (op := .NotEq) ⟨_, hl1, rfl⟩ ⟨_, hb1, rfl⟩ F.slot_list_ne (GQ.call_here F.slot_list_ne ⟨_, hl1, rfl⟩ F.entry_list_ne (F.args_list_ne_2 _ _) ?_) hu
  exact lst_neR (R := wants (fun v s' => v ≠ .notImplemented ∧ Q v s') E) l b N I Z hl (fun s' q => ⟨(fun x => nomatch x), fin s' q⟩) zl (fun s' q => ⟨(fun x => nomatch x), finF s' q⟩) h
theorem rc_tupNe {l b : Addr} {its its2 : Array Value} {Q : Value → Shared → Prop} (hu : A.units < cLine) (I : Nat → Shared → Prop) (Z : Shared → Prop)
    (hl : s.heap.IsTuple l its) (hb : s.heap.IsTuple b its2)
    (turn : ∀ i (h1 : i < its.size) (h2 : i < its2.size) s, I i s → wpAny (model prog w) A.in1 (eqBool its[i] its2[i]) (fun r s' => if r = true then I (i + 1) s' else Z s') E s)
    (fin : ∀ s, I (min its.size its2.size) s → Q (.bool (its.size != its2.size)) s) (finF : ∀ s, Z s → Q (.bool true) s) (h : I 0 s) : wpAny (model prog w) A (richCompare .NotEq (.ref l) (.ref b)) Q E s := by
  obtain ⟨⟨cls, dd, data, sl⟩, ho, hc, n, hd⟩ := id hl
  obtain ⟨⟨cls2, dd2, data2, sl2⟩, ho2, hc2, n2, hd2⟩ := id hb
  simp only at hc hd hc2 hd2
  subst hc hd hc2 hd2
  refine wpAny_richCompare_same_room (op := .NotEq) ⟨_, ho, rfl⟩ ⟨_, ho2, rfl⟩ F.slot_tuple_ne (GQ.call_here F.slot_tuple_ne ⟨_, ho, rfl⟩ F.entry_tuple_ne (F.args_tuple_ne_2 _ _) ?_) hu
  exact tup_neR (R := wants (fun v s' => v ≠ .notImplemented ∧ Q v s') E) l b its its2 n n2 dd dd2 sl sl2 I Z turn (fun s' q => ⟨(fun x => nomatch x), fin s' q⟩) (fun s' q => ⟨(fun x => nomatch x), finF s' q⟩) ho ho2 h
end
end Eng
namespace Eng
open PySem PySem.Spec PyProof.Rows L2
section
variable {X : Cx} {T : TabI} {dd : Dd} {cl : CallT} {eqm : Nat → Option Nat} {k : Nat}
theorem rcn_tups {eb : D → D → List O → Rs Bool} {n : Nat} (E : EbS X T eb n) {A : Around} {pins : List (Addr × Obj)} {s : Shared} {σ : L2.St} {H : Hp} {ι : List Addr} {st : List O} {a a' : Addr} {xs ys : List D} {vs ws : List V} {b : Bool} {st' : List O}
    (sb : Sub X (n + 1) A) (I : L2.Inv X pins σ H s) (S : StOk (gd T X) H ι st) (h1 : SqT X.K H a vs) (h2 : SqT X.K H a' ws) (q1 : RelDs (gd T X) H ι xs vs) (q2 : RelDs (gd T X) H ι ys ws) (h : eqTs eb xs ys st = some (b, st')) :
    wpAny (model X.prog X.w) A (richCompare .NotEq (.ref a) (.ref a')) (fun r s' => r = .bool (!b) ∧ Bq X T pins σ ι H st' s') X.xe s := by
  obtain ⟨its, rv, p1, _⟩ := I.tuple h1
  obtain ⟨its2, rv2, p2, _⟩ := I.tuple h2
  have l1 : its.toArray.size = xs.length := by rw [List.size_toArray, ← rv.length, q1.length]
  have l2 : its2.toArray.size = ys.length := by rw [List.size_toArray, ← rv2.length, q2.length]
  refine rc_tupNe sb.room.units0 (fun i s' => ∃ ι' H' sti, ι <+: ι' ∧ Keep X.K H H' ∧ L2.Inv X pins σ H' s' ∧ StOk (gd T X) H' ι' sti ∧ eqTs eb (xs.drop i) (ys.drop i) sti = some (b, st')) (fun s' => b = false ∧ Bq X T pins σ ι H st' s') p1 p2 ?_ ?_ ?_ ⟨ι, H, st, List.prefix_rfl, Keep.refl, I, S, h⟩
  · rintro i g1 g2 s1 ⟨ι1, H1, st1, p, kp, I1, S1, e⟩
    have i1 : i < xs.length := by rw [← l1]; exact g1
    have i2 : i < ys.length := by rw [← l2]; exact g2
    rw [List.drop_eq_getElem_cons i1, List.drop_eq_getElem_cons i2] at e
    unfold eqTs at e
    obtain ⟨r, st2, e1, e⟩ := bnd_of e
    obtain ⟨v, hv, rdv⟩ := q1.get (i := i) (d := xs[i]) (by simp [i1])
    obtain ⟨w, hw, rdw⟩ := q2.get (i := i) (d := ys[i]) (by simp [i2])
    obtain ⟨u, hu, ru⟩ := rv.get hv
    obtain ⟨u', hu', ru'⟩ := rv2.get hw
    have eu : its.toArray[i] = u := by
      have := (List.getElem?_eq_some_iff.mp hu).2
      simpa using this
    have eu' : its2.toArray[i] = u' := by
      have := (List.getElem?_eq_some_iff.mp hu').2
      simpa using this
    rw [eu, eu']
    refine wpAny_mono (E A.in1 pins s1 σ H1 ι1 st1 v w u u' xs[i] ys[i] r st2 sb.in1 I1 ru ru' S1 (rdv.mono p kp) (rdw.mono p kp) e1) (fun r' s2 q => ?_) fun _ _ z => z
    obtain ⟨rfl, ι2, H2, p2, k2, I2, S2⟩ := q
    cases r' with
    | true =>
      rw [if_pos rfl]
      exact ⟨ι2, H2, st2, p.trans p2, kp.trans k2, I2, S2, e⟩
    | false =>
      rw [if_neg Bool.false_ne_true]
      cases e
      exact ⟨rfl, ι2, H2, p.trans p2, kp.trans k2, I2, S2⟩
  · rintro s1 ⟨ι1, H1, st1, p, kp, I1, S1, e⟩
    rw [l1, l2] at e ⊢
    have eb' : some (decide (xs.length = ys.length), st1) = some (b, st') := by
      rw [← e]
      rcases Nat.lt_trichotomy xs.length ys.length with hlt | heq | hgt
      · rw [Nat.min_eq_left (Nat.le_of_lt hlt), List.drop_of_length_le (Nat.le_refl _), eqTs_nil_l, decide_eq_false (by omega)]
        have : (ys.drop xs.length).isEmpty = false := by rw [List.isEmpty_eq_false_iff]; intro z; have := List.drop_eq_nil_iff.mp z; omega
        rw [this]
      · rw [heq, Nat.min_self, List.drop_of_length_le (Nat.le_of_eq heq), List.drop_of_length_le (Nat.le_refl _), eqTs_nil_l, decide_eq_true rfl]
        rfl
      · rw [Nat.min_eq_right (Nat.le_of_lt hgt), List.drop_of_length_le (l := ys) (Nat.le_refl _), eqTs_nil_r, decide_eq_false (by omega)]
        have : (xs.drop ys.length).isEmpty = false := by rw [List.isEmpty_eq_false_iff]; intro z; have := List.drop_eq_nil_iff.mp z; omega
        rw [this]
    cases eb'
    refine ⟨?_, ι1, H1, p, kp, I1, S1⟩
    exact congrArg Value.bool (by rw [Bool.eq_iff_iff]; simp)
  · rintro s1 ⟨rfl, q⟩
    exact ⟨rfl, q⟩
/-- lists, item by item -/
theorem rcn_lsts {eb : D → D → List O → Rs Bool} {n : Nat} (E : EbS X T eb n) {A : Around} {pins : List (Addr × Obj)} {s : Shared} {σ : L2.St} {H : Hp} {ι : List Addr} {st : List O} {la lb N : Nat} {a a' : Addr} {b : Bool} {st' : List O}
    (sb : Sub X (n + 1) A) (I : L2.Inv X pins σ H s) (S : StOk (gd T X) H ι st) (h1 : ι[la]? = some a) (h2 : ι[lb]? = some a') (h : eqLs eb la lb N N 0 st = some (b, st')) :
    wpAny (model X.prog X.w) A (richCompare .NotEq (.ref a) (.ref a')) (fun r s' => r = .bool (!b) ∧ Bq X T pins σ ι H st' s') X.xe s := by
  have lists : ∀ {ι1 H1 s1 st1}, ι <+: ι1 → L2.Inv X pins σ H1 s1 → StOk (gd T X) H1 ι1 st1 → ∀ {xs ys : List D}, st1[la]? = some (.lst xs) → st1[lb]? = some (.lst ys) → xs.length = N → ys.length = N →
      ∃ (its its2 : List Value) (m m2 : Nat) (vs ws : List V), s1.heap.get? a = some { cls := .type "list", data := .seq its.toArray m } ∧ s1.heap.get? a' = some { cls := .type "list", data := .seq its2.toArray m2 } ∧ its.length = N ∧ its2.length = N ∧ RelDs (gd T X) H1 ι1 xs vs ∧ RelDs (gd T X) H1 ι1 ys ws ∧ Vals vs its ∧ Vals ws its2 := by
    intro ι1 H1 s1 st1 p I1 S1 xs ys e1 e2 n1 n2
    obtain ⟨o, z1, ob⟩ := S1.at (pre_get p h1)
    rw [e1] at z1
    cases z1
    obtain ⟨o, z2, ob2⟩ := S1.at (pre_get p h2)
    rw [e2] at z2
    cases z2
    obtain ⟨vs, g1, r1⟩ := ob
    obtain ⟨ws, g2, r2⟩ := ob2
    obtain ⟨its, m, rv, ho, _⟩ := I1.lst g1
    obtain ⟨its2, m2, rv2, ho2, _⟩ := I1.lst g2
    exact ⟨its, its2, m, m2, vs, ws, ho, ho2, by rw [← rv.length, ← r1.length]; exact n1, by rw [← rv2.length, ← r2.length]; exact n2, r1, r2, rv, rv2⟩
  refine rc_lstNe (N := N) sb.room.units0 (fun i s' => ∃ ι' H' sti, i ≤ N ∧ ι <+: ι' ∧ Keep X.K H H' ∧ L2.Inv X pins σ H' s' ∧ StOk (gd T X) H' ι' sti ∧ eqLs eb la lb N (N - i) i sti = some (b, st'))
    (fun s' => b = false ∧ ∃ ι' H', ι <+: ι' ∧ Keep X.K H H' ∧ L2.Inv X pins σ H' s' ∧ StOk (gd T X) H' ι' st' ∧ ∃ xs ys, st'[la]? = some (.lst xs) ∧ st'[lb]? = some (.lst ys) ∧ xs.length = N ∧ ys.length = N) ?_ ?_ ?_ ?_ ⟨ι, H, st, Nat.zero_le _, List.prefix_rfl, Keep.refl, I, S, h⟩
  · rintro i s1 ⟨ι1, H1, st1, hi, p, kp, I1, S1, e⟩
    unfold eqLs at e
    cases z1 : st1[la]? with
    | none => rw [z1] at e; cases e
    | some o1 =>
      cases z2 : st1[lb]? with
      | none => rw [z1, z2] at e; cases o1 <;> cases e
      | some o2 =>
        rw [z1, z2] at e
        cases o1 with
        | lst xs =>
          cases o2 with
          | lst ys =>
            dsimp only at e
            split at e
            · rename_i hN
              obtain ⟨its, its2, m, m2, vs, ws, g1, g2, n1, n2, r1, r2, rv, rv2⟩ := lists p I1 S1 z1 z2 hN.1 hN.2
              refine ⟨its.toArray, its2.toArray, m, m2, g1, g2, by simpa using n1, by simpa using n2, fun q1 q2 => ?_⟩
              have iN : i < N := by rw [← n1]; simpa using q1
              cases hk : N - i with
              | zero => omega
              | succ k0 =>
                rw [hk] at e
                dsimp only at e
                have i1 : i < xs.length := by rw [hN.1]; exact iN
                have i2 : i < ys.length := by rw [hN.2]; exact iN
                rw [List.getElem?_eq_getElem i1, List.getElem?_eq_getElem i2] at e
                obtain ⟨r, st2, e1, e⟩ := bnd_of e
                obtain ⟨v, hv, rdv⟩ := r1.get (i := i) (d := xs[i]) (by simp [i1])
                obtain ⟨w, hw, rdw⟩ := r2.get (i := i) (d := ys[i]) (by simp [i2])
                obtain ⟨u, hu, ru⟩ := rv.get hv
                obtain ⟨u', hu', ru'⟩ := rv2.get hw
                have eu : its.toArray[i] = u := by
                  have := (List.getElem?_eq_some_iff.mp hu).2
                  simpa using this
                have eu' : its2.toArray[i] = u' := by
                  have := (List.getElem?_eq_some_iff.mp hu').2
                  simpa using this
                rw [eu, eu']
                refine wpAny_mono (E A.in1 pins s1 σ H1 ι1 st1 v w u u' xs[i] ys[i] r st2 sb.in1 I1 ru ru' S1 rdv rdw e1) (fun r' s2 q => ?_) fun _ _ z => z
                obtain ⟨rfl, ι2, H2, p2, k2, I2, S2⟩ := q
                cases r' with
                | true =>
                  rw [if_pos rfl]
                  have hk2 : N - (i + 1) = k0 := by omega
                  exact ⟨ι2, H2, st2, iN, p.trans p2, kp.trans k2, I2, S2, by rw [hk2]; exact e⟩
                | false =>
                  rw [if_neg Bool.false_ne_true]
                  dsimp only at e
                  split at e
                  · rename_i xs2 ys2 zz1 zz2
                    split at e
                    · rename_i hN2
                      cases e
                      exact ⟨rfl, ι2, H2, p.trans p2, kp.trans k2, I2, S2, xs2, ys2, zz1, zz2, hN2.1, hN2.2⟩
                    · cases e
                  · cases e
            · cases e
          | _ => cases e
        | _ => cases o2 <;> cases e
  · rintro s1 ⟨ι1, H1, st1, hi, p, kp, I1, S1, e⟩
    unfold eqLs at e
    rw [Nat.sub_self] at e
    split at e
    · split at e
      · rw [if_pos rfl] at e
        cases e
        exact ⟨rfl, ι1, H1, p, kp, I1, S1⟩
      · cases e
    · cases e
  · rintro s1 ⟨_, ι1, H1, p, kp, I1, S1, xs, ys, z1, z2, n1, n2⟩
    obtain ⟨its, its2, m, m2, vs, ws, g1, g2, m1, m2', _⟩ := lists p I1 S1 z1 z2 n1 n2
    exact ⟨its.toArray, its2.toArray, m, m2, g1, g2, by simpa using m1, by simpa using m2'⟩
  · rintro s1 ⟨rfl, ι1, H1, p, kp, I1, S1, _⟩
    exact ⟨rfl, ι1, H1, p, kp, I1, S1⟩
end
end Eng
set_option Elab.async false
set_option linter.all false
set_option maxRecDepth 100000
set_option autoImplicit false
/-! E15: == and != as operators. -/
namespace Eng
open PySem PySem.Spec PyProof.Rows L2
theorem on_bind (self : Value) : bindSpecial (.builtin "object.__ne__") self = pure (.builtin "object.__ne__", [self]) := by
  kernel_rfl
section
variable {prog : Program} {w : World} {A : Around} {E : Value → Shared → Prop} {s : Shared} {K : PySem.W.Frag} {x C f : Addr} {ox : Obj} {od : Option Obj}
theorem obj_ne {b : Value} {Q : Fin → Shared → Prop} (X : K.In s.heap) (J : PySem.W.InstAt s.heap x ox C od) (hs : PySem.W.findIn K (.ref C) "__eq__" = some (some (.ref f))) (hf : PySem.W.isFn K (.ref f) = true) (hu : A.units < cLine)
    (hcall : wpAny (model prog w) A (call (.ref f) [.ref x, b]) (fun v s' => ∃ r, v = .bool r ∧ Q (.done (.ret (.bool (!r)))) s') E s) : wpAny (model prog w) A (Builtin.«object.__ne__» ⟨[.ref x, b], []⟩) Q E s := by
  obtain ⟨hh, g, d, t, os⟩ := s
  unfold Builtin.«object.__ne__»
  repeat (first
    | with_reducible refine wpAny_cRoomFor hu ?_
    | (refine wpAny_bind (m := callSpecialIfBound? (.ref x) (Str.ofString "__eq__") [b]) (PySem.W.ifBound_K X J hs hf (wpAny_mono hcall (fun r s' hr => by
          obtain ⟨c, rfl, hq⟩ := hr
          repeat (first | exact hq | exact wpAny_pure hq | exact wpAny_truthy_bool hq | (refine wpAny_bind (m := truthy (.bool _)) (wpAny_truthy_bool ?_)) | wp_step)) fun _ _ e => e)))
    | wp_step)
theorem bound_ne {b : Value} {Q : Option Value → Shared → Prop} (X : K.In s.heap) (J : PySem.W.InstAt s.heap x ox C od) (hn : PySem.W.findIn K (.ref C) "__ne__" = some (some (.builtin "object.__ne__"))) (h : wpAny (model prog w) A (call (.builtin "object.__ne__") [.ref x, b]) (fun v => Q (some v)) E s) :
    wpAny (model prog w) A (callSpecialIfBound? (.ref x) "__ne__" [b]) Q E s := by
  simp only [callSpecialIfBound?, bindSpecialIfBound?]
  refine wpAny_holding (wpAny_bind (wpAny_bind (wpAny_bind (J.type.here ((PySem.W.looks_findIn X hn).here ?_)))))
  refine wpAny_bind (wpAny_askSetting (wpAny_ite ?_))
  have fin : wpAny (model prog w) A (call (.builtin "object.__ne__") ([.ref x] ++ [b]) >>= fun v => pure (some v)) Q E s := wpAny_bind (wpAny_mono h (fun v s' h' => wpAny_pure h') fun _ _ h' => h')
  split
  · exact wpAny_bind ((PySem.W.Looks.of_pure (on_bind _)).here (wpAny_pure (by exact fin)))
  · exact wpAny_tryCatch (wpAny_bind ((PySem.W.Looks.of_pure (on_bind _)).here (wpAny_pure (by exact fin))))
theorem ne_plain : plainId "object.__ne__" = true := by decide +kernel
theorem call_ne {b : Value} {Q : Value → Shared → Prop} (X : K.In s.heap) (hm : PySem.W.mroIn K C (.type "object") = some true) (J : PySem.W.InstAt s.heap x ox C od) (hs : PySem.W.findIn K (.ref C) "__eq__" = some (some (.ref f))) (hf : PySem.W.isFn K (.ref f) = true) (hu : A.units + 1 < cLine)
    (hcall : wpAny (model prog w) A.in1 (call (.ref f) [.ref x, b]) (fun v s' => ∃ r, v = .bool r ∧ Q (.bool (!r)) s') E s) : wpAny (model prog w) A (call (.builtin "object.__ne__") [.ref x, b]) Q E s := by
  have t2 : PySem.W.Looks (model prog w) s.heap (isInstance (.ref x) (.type "object")) true := J.type.andThen (PySem.W.looks_mroIn X hm)
  refine wpAny_call (codeAny_call_builtin ne_plain F.cmpEntry_ne (@PySem.W.check_slot (model prog w) _ _ _ "object.__ne__" "object" "__ne__" (.ref x) [b] [] _ F.cmpKind_ne F.cmpSplit_ne t2 (F.cmpArgs_ne _ _) ?_))
  refine obj_ne X J hs hf hu ?_
  exact wpAny_mono hcall (fun v s' ⟨r, e, q⟩ => ⟨r, e, q⟩) fun _ _ z => z
end
def fEqO (cl : CallT) (eqm : Nat → Option Nat) (n : Nat) : F2 := fun x y st => bnd (rcN cl eqm n x y st) fun b st => some (.bl b, st)
def nwq (cl : CallT) (eqm : Nat → Option Nat) (n : Nat) : F2 := fun x y st => match x, y with
  | .tup xs, .tup ys => bnd (eqTs (ebq (rcN cl eqm n)) xs ys st) fun b st => some (.bl (!b), st)
  | .ref a, y => match st[a]? with
    | some (.ins c _) => bnd (owq cl eqm c (.ref a) y st) fun b st => some (.bl (!b), st)
    | some (.lst xs) => match y with
      | .ref b => match st[b]? with
        | some (.lst ys) => if xs.length = ys.length then bnd (eqLs (ebq (rcN cl eqm n)) a b xs.length xs.length 0 st) fun b st => some (.bl (!b), st) else some (.bl true, st)
        | _ => none
      | _ => none
    | _ => none
  | _, _ => none
def fNeO (cl : CallT) (eqm : Nat → Option Nat) (n : Nat) : F2 := fun x y st => match toPy st 8 x, toPy st 8 y with
    | some p, some q => if p.canLay0 && q.canLay0 && decide (p.depth ≤ 64) then some (.bl (!PyData.eqv p q), st) else none
    | _, _ => nwq cl eqm n x y st
structure NeOk (K : PySem.W.Frag) (T : TabI) (eqm : Nat → Option Nat) : Prop where
  ne : ∀ c f C, eqm c = some f → T.ca c = some C → PySem.W.findIn K (.ref C) "__ne__" = some (some (.builtin "object.__ne__")) ∧ PySem.W.mroIn K C (.type "object") = some true
section
variable {X : Cx} {T : TabI} {dd : Dd} {cl : CallT} {eqm : Nat → Option Nat} {k n : Nat}
theorem o_eq (Q : EqOk X.K T eqm dd) (F : ∀ c f, eqm c = some f → FnOk X.prog X.w X.K X.mg X.base CX0 k (dd.fa f) (dd.fd f) (dd.ps f) (spD (gd T X) cl (dd.ps f).length f) ∧ Binds X.K (dd.fd f) (dd.ps f) [])
    (hlen : ∀ f ds st z, cl f ds st = some z → ds.length = (dd.ps f).length) (hr : Room (k + n) X.A) : OpR X (compareOp .Eq) (rD (gd T X) (fEqO cl eqm n)) := by
  intro pins s σ H x y u v Q' I rx ry h
  obtain ⟨ι, st, d, e, w, st', S, rd, re, hf, aft⟩ := h
  obtain ⟨b, st1, e1, e2⟩ := bnd_of hf
  have e3 : w = .bl b ∧ st' = st1 := by cases e2; exact ⟨rfl, rfl⟩
  obtain ⟨ew, es⟩ := e3
  rw [ew, es] at aft
  refine wpAny_mono (rc_ok Q F hlen n X.A pins s σ H ι st x y u v d e b st1 ⟨hr, rfl⟩ I rx ry S rd re e1) (fun r s' ⟨er, ι', H', p, kp, I', S'⟩ => ?_) fun _ _ z => z
  subst er
  exact ⟨.bl b, H', I', rfl, aft ι' H' _ p kp S' (.bl b)⟩
theorem o_ne (Q : EqOk X.K T eqm dd) (N : NeOk X.K T eqm) (F : ∀ c f, eqm c = some f → FnOk X.prog X.w X.K X.mg X.base CX0 k (dd.fa f) (dd.fd f) (dd.ps f) (spD (gd T X) cl (dd.ps f).length f) ∧ Binds X.K (dd.fd f) (dd.ps f) [])
    (hlen : ∀ f ds st z, cl f ds st = some z → ds.length = (dd.ps f).length) (hr : Room (k + n + 1) X.A) : OpR X (compareOp .NotEq) (rD (gd T X) (fNeO cl eqm n)) := by
  intro pins s σ H x y u v Q' I rx ry h
  obtain ⟨ι, st, d, e, w, st', S, rd, re, hf, aft⟩ := h
  unfold fNeO at hf
  have own : ∀ {a : Nat} {c : Nat} {fs : List (Nat × D)}, d = .ref a → st[a]? = some (.ins c fs) → (bnd (owq cl eqm c d e st) fun b st => some (D.bl (!b), st)) = some (w, st') → wpAny (model X.prog X.w) X.A (compareOp .NotEq u v) (EP X pins σ Q') X.xe s := by
    intro a c fs hd ea h
    subst hd
    obtain ⟨b, st1, e1, e2⟩ := bnd_of h
    have e3 : w = .bl (!b) ∧ st' = st1 := by cases e2; exact ⟨rfl, rfl⟩
    obtain ⟨ew, es⟩ := e3
    rw [ew, es] at aft
    have hc := e1
    unfold owq at hc
    split at hc
    · cases hc
    rename_i ht
    cases ef : eqm c with
    | none => rw [ef] at hc; cases hc
    | some f =>
      rw [ef] at hc
      dsimp only at hc
      cases et : tagOf st e with
      | none => rw [et] at ht; exact absurd rfl ht
      | some t =>
        obtain ⟨tv, ht, hl⟩ := type_looks I S ry re et
        obtain ⟨Ff, Bf⟩ := F c f ef
        cases rd with
        | ref hn =>
          rename_i xa
          obtain ⟨o, z1, ob⟩ := S.at hn
          rw [ea] at z1
          cases z1
          obtain ⟨Ca, dx, gs, hC, hH, _⟩ := ob
          obtain ⟨mA, J, _⟩ := ins_get I.hok hH
          obtain ⟨od, J, _⟩ := J.look
          obtain ⟨hs, hfn⟩ := Q.at_ c f Ca ef hC
          obtain ⟨hne, hmr⟩ := N.ne c f Ca ef hC
          have hnf : PySem.W.notFirst X.K Ca tv = true := by
            cases t with
            | b bt => cases ht; exact Q.nfb c Ca f ef hC bt
            | c k' => obtain ⟨C', hC', rfl⟩ := ht; exact Q.nfo c k' Ca C' f ef hC hC'
          have run := own_run (X := X) (T := T) (n := k) (A := X.A.in1) Ff Bf (hlen f) (Nat.le_refl _) (Sub.in1 ⟨hr.mono (by omega), rfl⟩) I rx ry S (.ref hn) re hc
          cases rx
          have hu : X.A.units + 1 < cLine := by have := hr.units; omega
          have one : wpAny (model X.prog X.w) X.A (tryCompare (.ref xa) "__ne__" v) (fun r s' => ∃ z, r = some z ∧ z = .bool (!b) ∧ Bq X T pins σ ι H st1 s') X.xe s := by
            unfold tryCompare
            refine wpAny_bind (bound_ne I.kIn J hne (call_ne I.kIn hmr J hs hfn hu (wpAny_mono run (fun r s' q => ?_) fun _ _ z => z)))
            obtain ⟨rfl, q⟩ := q
            exact ⟨b, rfl, wpAny_pure ⟨_, rfl, rfl, q⟩⟩
          have fin : ∀ s', Bq X T pins σ ι H st1 s' → EP X pins σ Q' (.bool (!b)) s' := fun s' ⟨ι', H', p, kp, I', S'⟩ => ⟨.bl (!b), H', I', rfl, aft ι' H' _ p kp S' (.bl _)⟩
          show wpAny (model X.prog X.w) X.A (richCompare .NotEq (.ref xa) v) _ _ s
          unfold richCompare
          simp only [oneThing_ref]
          refine wpAny_holding (wpAny_bind (wpAny_cRoomFor (by omega) ?_))
          refine wpAny_bind (J.type.here (wpAny_bind (hl.here ?_)))
          split
          · rename_i q
            have e : PySem.W.subIn X.K tv (.ref Ca) = some false := by
              rcases Bool.or_eq_true_iff.mp hnf with e | e
              · rw [beq_iff_eq.mp e] at q; simp at q
              · exact beq_iff_eq.mp e
            refine wpAny_bind ((PySem.W.looks_subIn I.kIn e).here ?_)
            simp only [Bool.false_eq_true, if_false]
            refine wpAny_bind (wpAny_mono one (fun r s' z => ?_) fun _ _ e => e)
            obtain ⟨v, rfl, rfl, hq⟩ := z
            exact wpAny_pure (fin _ hq)
          · refine wpAny_bind (wpAny_pure ?_)
            simp only [Bool.false_eq_true, if_false]
            refine wpAny_bind (wpAny_mono one (fun r s' z => ?_) fun _ _ e => e)
            obtain ⟨v, rfl, rfl, hq⟩ := z
            exact wpAny_pure (fin _ hq)
  have ow2 : nwq cl eqm n d e st = some (w, st') → wpAny (model X.prog X.w) X.A (compareOp .NotEq u v) (EP X pins σ Q') X.xe s := by
    intro h
    unfold nwq at h
    have fin : ∀ (b : Bool) (st1 : List O) (r : Value) (s' : Shared), w = .bl (!b) ∧ st' = st1 → r = .bool (!b) ∧ Bq X T pins σ ι H st1 s' → EP X pins σ Q' r s' := by
      rintro b st1 r s' ⟨ew, es⟩ ⟨rfl, ι', H', p, kp, I', S'⟩
      rw [ew, es] at aft
      exact ⟨.bl (!b), H', I', rfl, aft ι' H' _ p kp S' (.bl _)⟩
    split at h
    · rename_i xs ys
      obtain ⟨b, st1, e1, e2⟩ := bnd_of h
      have e3 : w = .bl (!b) ∧ st' = st1 := by cases e2; exact ⟨rfl, rfl⟩
      cases rd with
      | tup h1 q1 =>
        cases re with
        | tup h2 q2 =>
          cases rx
          cases ry
          exact wpAny_mono (rcn_tups (eb_of (rc_ok Q F hlen n)) ⟨hr, rfl⟩ I S h1 h2 q1 q2 e1) (fun r s' z => fin b st1 r s' e3 z) fun _ _ z => z
    · rename_i a y _
      split at h
      · rename_i c fs ea
        exact own rfl ea h
      · rename_i xs ea
        split at h
        · rename_i b0 _
          split at h
          · rename_i ys eb
            cases rd with
            | ref hn =>
              cases re with
              | ref hm =>
                cases rx
                cases ry
                split at h
                · obtain ⟨b, st1, e1, e2⟩ := bnd_of h
                  have e3 : w = .bl (!b) ∧ st' = st1 := by cases e2; exact ⟨rfl, rfl⟩
                  exact wpAny_mono (rcn_lsts (eb_of (rc_ok Q F hlen n)) ⟨hr, rfl⟩ I S hn hm e1) (fun r s' z => fin b st1 r s' e3 z) fun _ _ z => z
                · rename_i hne
                  cases h
                  obtain ⟨o, z1, ob⟩ := S.at hn
                  rw [ea] at z1
                  cases z1
                  obtain ⟨o, z2, ob2⟩ := S.at hm
                  rw [eb] at z2
                  cases z2
                  obtain ⟨vs, g1, r1⟩ := ob
                  obtain ⟨ws, g2, r2⟩ := ob2
                  obtain ⟨its, rv, pl, _⟩ := I.list (.of g1)
                  obtain ⟨its2, rv2, pl2, _⟩ := I.list (.of g2)
                  have hu : X.A.units < cLine := by have := hr.units; omega
                  refine SeqAt.RcNeAt.lists_lengths pl.isList pl2.isList ?_ hu X.prog X.w X.xe _ (fin false _ _ _ ⟨rfl, rfl⟩ ⟨rfl, .refl I S⟩)
                  have e1 : its.toArray.size = xs.length := by rw [List.size_toArray, ← rv.length, r1.length]
                  have e2 : its2.toArray.size = ys.length := by rw [List.size_toArray, ← rv2.length, r2.length]
                  rw [e1, e2]
                  simpa using hne
          · cases h
        · cases h
      · cases h
    · cases h
  cases ep : toPy st 8 d with
  | none => rw [ep] at hf; exact ow2 hf
  | some p =>
    cases eq : toPy st 8 e with
    | none => rw [ep, eq] at hf; exact ow2 hf
    | some q =>
      rw [ep, eq] at hf
      dsimp only at hf
      split at hf
      · rename_i hc
        cases hf
        obtain ⟨as, bs, r1, r2, c1, c2, hu⟩ := rc_data (A := X.A) (by have := hr.units; omega) I rx ry S rd re ep eq hc
        exact SeqAt.compareNe_reads r1 r2 c1 c2 hu ⟨.bl _, H, I, rfl, aft.here S (.bl _)⟩
      · cases hf
end
end Eng
set_option Elab.async false
set_option linter.all false
set_option maxRecDepth 100000
set_option autoImplicit false
/-! N1: what has no result, empty dicts, texts: join, split, f-texts. -/
namespace Eng
open PySem PySem.Spec PyProof.Rows L2
/-! ### no result -/
def eFail : Ev := fun _ _ => none
def tFail : Et := fun _ _ => none
def sFail : Es := fun _ _ => none
def gFail : Eg := fun _ _ _ => none
def iFail : Ei := fun _ _ => none
section
variable {X : Cx} {G : Gd}
theorem sim_fail {e : Expr} : PE X e (tE G eFail) := ⟨fun pins s σ H Q I q => by obtain ⟨_, _, _, _, _, _, e, _⟩ := q; cases e⟩
theorem simT_fail {e : Expr} : PT X e (tT G tFail) := ⟨fun pins s σ H Q I q => by obtain ⟨_, _, _, _, _, _, e, _⟩ := q; cases e⟩
theorem simS_fail {e : Stmt} : PS X e (tS G sFail) := ⟨fun pins s σ H Q I q => by obtain ⟨_, _, _, _, _, _, e, _⟩ := q; cases e⟩
theorem simG_fail {e : Expr} {ws : List Nat} : PG X e (tG G gFail ws) := ⟨fun pins s σ H v u Q I r q => by obtain ⟨_, _, _, _, _, _, _, _, e, _⟩ := q; cases e⟩
theorem simI_fail {tg e : Expr} : PI X tg e (tI G iFail) := ⟨fun pins s σ H R I q => by obtain ⟨_, _, _, _, _, _, e, _⟩ := q; cases e⟩
end
/-! ### {} -/
def eDict0 : Ev := fun _ st => some (.ref st.length, st ++ [.dK []])
section
variable {X : Cx} {G : Gd} {pos : Pos}
theorem sim_dict0 : PE X (.Dict [] [] pos) (tE G eDict0) := by
  refine pe_imp pe_dnewK fun σ H Q q => ?_
  obtain ⟨ι, st, env, v, st', at0, e, aft⟩ := q
  cases e
  intro p hp
  refine aft (ι ++ [p]) _ _ (List.prefix_append _ _) (Keep.new hp) (at0.s.new hp ⟨[], upd_same, True.intro⟩) (.ref ?_)
  rw [← at0.s.len]
  simp
end
/-! ### texts -/
def toStrs : List D → Option (List Str)
  | [] => some []
  | .str z :: r => match toStrs r with
    | some zs => some (z :: zs)
    | none => none
  | _ :: _ => none
theorem toStrs_rel {G : Gd} {H : Hp} {ι : List Addr} : ∀ {ds : List D} {vs : List V} {zs : List Str}, RelDs G H ι ds vs → toStrs ds = some zs → vs = zs.map V.str
  | _, _, zs, .nil, h => by cases h; rfl
  | _, _, zs, .cons r t, h => by
    cases r with
    | str z =>
      unfold toStrs at h
      split at h
      · rename_i ws e
        cases h
        rw [toStrs_rel t e]
        rfl
      · cases h
    | _ => cases h
theorem strs_rel {G : Gd} {H : Hp} {ι : List Addr} : ∀ zs : List Str, RelDs G H ι (zs.map D.str) (zs.map V.str)
  | [] => .nil
  | z :: r => .cons (.str z) (strs_rel r)
def eSplit (a b : Ev) : Ev := fun env st => bnd (a env st) fun x st => match x with
  | .str z => bnd (b env st) fun y st => match y with
    | .str w => if (w.length == 0) = false ∧ z.length + 2 ≤ sizeLine then some (.ref st.length, st ++ [.lst ((Txt.split z w).map D.str)]) else none
    | _ => none
  | _ => none
def eJoin (a b : Ev) : Ev := fun env st => bnd (a env st) fun x st => match x with
  | .str z => bnd (b env st) fun y st => match seqOf st y with
    | some xs => match toStrs xs with
      | some ys => if (ys.map (·.length)).sum + ys.length * z.length ≤ 16777216 then some (.str (Txt.join z ys), st) else none
      | none => none
    | none => none
  | _ => none
section
variable {X : Cx} {G : Gd} {T : TabI} {o e : Expr} {fo fe : Ev} {apos pos : Pos}
theorem sim_split (ho : PE X o (tE (gd T X) fo)) (he : PE X e (tE (gd T X) fe)) (hs : notStar e = true) (hb : plainBase o = true) (hl : (apos.endLine == pos.line) = true) : PE X (.Call (.Attribute o "split" apos) [e] [] pos) (tE (gd T X) (eSplit fo fe)) := by
  refine pe_imp (pe_split ho he (starEach_cons hs) (base_of hb) hl) fun σ H Q q => ?_
  obtain ⟨ι, st, env, v, st', at0, e, aft⟩ := q
  obtain ⟨x, st1, e1, e⟩ := bnd_of e
  refine ⟨ι, st, env, x, st1, at0, e1, fun ι1 H1 xv p k S r => ?_⟩
  cases r with
  | str z =>
    obtain ⟨y, st2, e2, e⟩ := bnd_of e
    refine ⟨⟨_, rfl⟩, ι1, st1, env, y, st2, at0.mono p k S, e2, fun ι2 H2 yv p2 k2 S2 r2 => ?_⟩
    cases r2 with
    | str w =>
      dsimp only at e
      split at e
      · rename_i hc
        cases e
        refine ⟨z, w, rfl, rfl, hc.1, hc.2, fun q hq => ?_⟩
        refine aft (ι2 ++ [q]) _ _ ((p.trans p2).trans (List.prefix_append _ _)) ((k.trans k2).trans (Keep.new hq)) (S2.new hq ⟨_, upd_same, strs_rel _⟩) (.ref ?_)
        rw [← S2.len]
        simp
      · cases e
    | _ => cases e
  | _ => cases e
theorem sim_join (ho : PE X o (tE (gd T X) fo)) (he : PE X e (tE (gd T X) fe)) (hs : notStar e = true) (hb : plainBase o = true) (hl : (apos.endLine == pos.line) = true) : PE X (.Call (.Attribute o "join" apos) [e] [] pos) (tE (gd T X) (eJoin fo fe)) := by
  refine pe_imp (pe_join ho he (starEach_cons hs) (base_of hb) hl) fun σ H Q q => ?_
  obtain ⟨ι, st, env, v, st', at0, e, aft⟩ := q
  obtain ⟨x, st1, e1, e⟩ := bnd_of e
  refine ⟨ι, st, env, x, st1, at0, e1, fun ι1 H1 xv p k S r => ?_⟩
  cases r with
  | str z =>
    obtain ⟨y, st2, e2, e⟩ := bnd_of e
    refine ⟨⟨_, rfl⟩, ι1, st1, env, y, st2, at0.mono p k S, e2, fun ι2 H2 yv p2 k2 S2 r2 => ?_⟩
    split at e
    · rename_i xs hx
      split at e
      · rename_i ys hy
        split at e
        · rename_i hc
          cases e
          obtain ⟨a, vs, rfl, h1, h2⟩ := seqOf_rel S2 r2 hx
          have h3 := toStrs_rel h2 hy
          subst h3
          exact ⟨z, a, ys, rfl, rfl, h1, hc, aft ι2 H2 _ (p.trans p2) (k.trans k2) S2 (.str _)⟩
        · cases e
      · cases e
    · cases e
  | _ => cases e
end
/-! ### f-texts -/
def eFmt (a : Ev) : Ev := fun env st => bnd (a env st) fun x st => match x with
  | .str y => if y.length ≤ sizeLine then some (.str y, st) else none
  | .int i => if i.natAbs.log2 < 1920 then some (.str (toString i), st) else none
  | _ => none
def jsN : List Ev → Str → Ev
  | [], acc => fun _ st => some (.str acc, st)
  | f :: r, acc => fun env st => bnd (f env st) fun x st => match x with
    | .str y => if (acc ++ y).length ≤ sizeLine then jsN r (acc ++ y) env st else none
    | _ => none
section
variable {X : Cx} {G : Gd} {T : TabI} {e : Expr} {fe : Ev} {pos : Pos}
theorem sim_fmt (he : PE X e (tE G fe)) : PE X (.FormattedValue e (-1) none pos) (tE G (eFmt fe)) := by
  refine pe_imp (pe_fmt he) fun σ H Q q => ?_
  obtain ⟨ι, st, env, v, st', at0, e, aft⟩ := q
  obtain ⟨x, st1, e1, e⟩ := bnd_of e
  refine ⟨ι, st, env, x, st1, at0, e1, fun ι1 H1 xv p k S r => ?_⟩
  cases r with
  | str z =>
    dsimp only at e
    split at e
    · rename_i hc
      cases e
      exact .inl ⟨z, rfl, hc, aft ι1 H1 _ p k S (.str _)⟩
    · cases e
  | int z =>
    dsimp only at e
    split at e
    · rename_i hc
      cases e
      exact .inr ⟨z, rfl, hc, aft ι1 H1 _ p k S (.str _)⟩
    · cases e
  | _ => cases e
theorem js_of : ∀ {fs : List Ev} {acc : Str} {σ : L2.St} {H : Hp} {Q : VK}, tE G (jsN fs acc) σ H Q → tJs (fs.map (tE G)) acc σ H fun out H1 => Q (.str out) H1
  | [], acc, σ, H, Q, q => by
    obtain ⟨ι, st, env, v, st', at0, e, aft⟩ := q
    cases e
    exact aft.here at0.s (.str _)
  | f :: r, acc, σ, H, Q, q => by
    obtain ⟨ι, st, env, v, st', at0, e, aft⟩ := q
    obtain ⟨x, st1, e1, e⟩ := bnd_of e
    refine ⟨ι, st, env, x, st1, at0, e1, fun ι1 H1 xv p k S r => ?_⟩
    cases r with
    | str z =>
      dsimp only at e
      split at e
      · rename_i hc
        exact ⟨z, rfl, hc, js_of ⟨ι1, st1, env, v, st', at0.mono p k S, e, aft.mono p k⟩⟩
      · cases e
    | _ => cases e
theorem sim_js {v1 v2 : Expr} {rest : List Expr} {fs : List Ev} (h : PJ X (v1 :: v2 :: rest) (fs.map (tE G))) : PE X (.JoinedStr (v1 :: v2 :: rest) pos) (tE G (jsN fs Str.empty)) :=
  pe_imp (pe_joined h) fun σ H Q q => js_of q
end
end Eng
set_option Elab.async false
set_option linter.all false
set_option maxRecDepth 100000
set_option autoImplicit false
/-! N2: enumerate over tuples; zip over lists or tuples. -/
namespace Eng
open PySem PySem.Spec PyProof.Rows L2
section
open Sem (wp)
open AutoSeq1 (wpAny_loadPart')
theorem meets_enum_newT (l : Addr) (items : Array Value) (n : Nat) (dct : Option Addr) (sl : Array (Option Value)) :
    Meets (Builtin.«enumerate.__new__» ⟨[.type "enumerate", .ref l], []⟩) (fun _ R s => s.heap.get? l = some { cls := .type "tuple", dict := dct, data := .seq items n, slots := sl } ∧
      R (.ok (.ret (.ref (s.heap.push { cls := .type "tuple_iterator", data := .fields #[.ref l, .int 0 0] }).objs.size)))
        { s with heap := (s.heap.push { cls := .type "tuple_iterator", data := .fields #[.ref l, .int 0 0] }).push { cls := .type "enumerate", data := .fields #[.none, .bool false, .ref s.heap.objs.size, rawInt 0, .none, .none] } }) :=
  .of_wp fun prog w A R s h => by
    obtain ⟨hp, g, d, tk, os⟩ := s; obtain ⟨hl, h⟩ := h
    have hsub := sub_enumerate
    have hL : Heap.IsTuple (Shared.heap ⟨hp, g, d, tk, os⟩) l items := ⟨_, hl, rfl, n, rfl⟩
    wp_walk using wpAny_loadPart' hl
    refine wpAny_stack_any fun st => wpAny_pure ?_
    split
    · rename_i c _ _ _ _ _
      cases (c == Value.type "enumerate")
      · wp_walk using wpAny_loadPart' hl, wpAny_pyIter_tuple hL
        exact ⟨_, rfl, h⟩
      · wp_walk using wpAny_loadPart' hl, wpAny_pyIter_tuple hL
        exact ⟨_, rfl, h⟩
    · wp_walk using wpAny_loadPart' hl, wpAny_pyIter_tuple hL
      exact ⟨_, rfl, h⟩
end
section
variable {prog : Program} {w : World} {A : Around} {E : Value → Shared → Prop} {s : Shared}
theorem call_enum_tuple {l : Addr} {items : Array Value} {Q : Value → Shared → Prop} (hL : s.heap.IsTuple l items)
    (h : ∀ h', IsEnum h' (s.heap.objs.size + 1) s.heap.objs.size 0 .none → h'.IsTupleIter s.heap.objs.size l 0 → h'.objs.size = s.heap.objs.size + 2 →
      (∀ b o, s.heap.get? b = some o → h'.get? b = some o) → Q (.ref (s.heap.objs.size + 1)) { s with heap := h' }) :
    wpAny (model prog w) A (call (.type "enumerate") [.ref l]) Q E s := by
  obtain ⟨⟨c, dct, dt, sl⟩, hl, hc, n, hd⟩ := hL
  replace hc : c = .type "tuple" := hc
  replace hd : dt = .seq items n := hd
  subst hc hd
  refine callType_new F.called_enumerate (by decide) (F.typeCall_enumerate_1 _) (F.newCall_enumerate_1 _) (fun obj => F.args_object_init_2 obj _) F.entry_enumerate_new
    (meets_enum_newT l items n dct sl) ⟨hl, ?_⟩
  have hz : (s.heap.push { cls := .type "tuple_iterator", data := .fields #[.ref l, .int 0 0] }).objs.size = s.heap.objs.size + 1 := Heap.size_push ..
  show _ ∧ _
  rw [hz]
  have he : IsEnum ((s.heap.push { cls := .type "tuple_iterator", data := .fields #[.ref l, .int 0 0] }).push
      { cls := .type "enumerate", data := .fields #[.none, .bool false, .ref s.heap.objs.size, rawInt 0, .none, .none] }) (s.heap.objs.size + 1) s.heap.objs.size 0 .none := by
    have := Heap.get?_push_size (s.heap.push { cls := .type "tuple_iterator", data := .fields #[.ref l, .int 0 0] })
      (o := { cls := .type "enumerate", data := .fields #[.none, .bool false, .ref s.heap.objs.size, rawInt 0, .none, .none] }) rfl
    rw [hz] at this; exact this
  refine ⟨⟨_, he, rfl⟩, h _ he ⟨_, Heap.get?_push_of_some _ (Heap.get?_push_size _ rfl), rfl, rfl⟩ (by rw [Heap.size_push, hz]) fun b o x => Heap.get?_push_of_some _ (Heap.get?_push_of_some _ x)⟩
theorem draws_tuple (hh : A.handled = none) (a it : Addr) (its : Array Value) : Draws prog w A it [it, a] its.size (fun i x => its[i]? = some x) (fun i h => h.IsTupleIter it a i ∧ h.IsTuple a its) where
  live := fun i h ⟨⟨o, e, _⟩, _⟩ => ⟨o, e⟩
  frame := fun i h h' ⟨s1, s2⟩ k => ⟨s1.at fun o e => k it (by simp) o e, by
    obtain ⟨o, e, c⟩ := s2
    exact ⟨o, k a (by simp) o e, c⟩⟩
  item := fun i s Q E hi ⟨s1, s2⟩ hQ => by
    refine RZ.nextOf_tuple_item s1 s2 (x := its[i]) (Array.getElem?_eq_getElem hi) fun h' s1' sb => ?_
    refine hQ its[i] h' s.toks (Array.getElem?_eq_getElem hi) ⟨s1', ?_⟩ sb
    obtain ⟨o, e, c, n, d⟩ := s2
    obtain ⟨oi, ei, ci, di⟩ := s1
    have hne : a ≠ it := fun z => by
      subst z
      rw [e] at ei
      cases ei
      rw [c] at ci
      exact absurd ci (by decide)
    exact ⟨o, (sb.2 a hne).trans e, c, n, d⟩
  done := fun s Q E ⟨s1, s2⟩ hE => RZ.nextOf_tuple_end hh s1 s2 (by simp) hE
end
/-- the tuple at a, each item in a new pair -/
def IteT (K : PySem.W.Frag) (a : Addr) : It :=
  ⟨fun i H => ∃ (xs : List V) (x : V), SqT K H a xs ∧ xs[i]? = some x, fun i H v H' => ∃ T x, v = .ref T ∧ H T = none ∧ H' = upd H T (.tup [.int (i : Nat), x]) ∧ ∀ xs, SqT K H a xs → xs[i]? = some x, fun i H => ∃ xs : List V, SqT K H a xs ∧ xs.length ≤ i⟩
theorem turn_enumT {P : Program} {w : World} {K : PySem.W.Frag} {elts : List Expr} {kk : Nat} {tpos : Pos} (a e it : Addr) :
    Turn P w K (.Tuple elts kk tpos) (IteT K a) [e, it] e (fun i h => (∃ old, IsEnum h e it ((i : Nat) : Int) old) ∧ h.IsTupleIter it a i ∧ e ≠ it) where
  mem := by simp
  obj := fun i h st b hb => by
    obtain ⟨⟨old, he⟩, ⟨o, ho, hc, hd⟩, _⟩ := st
    have e' : b = e ∨ b = it := by simpa using hb
    rcases e' with z | z
    · rw [z]; exact ⟨_, he, fun v q => nomatch q⟩
    · rw [z]; exact ⟨o, ho, fun v q => by rw [hd] at q; cases q⟩
  keep := fun i h h' st k => let ⟨⟨old, he⟩, hi, hne⟩ := st; ⟨⟨old, k e (by simp) _ he⟩, hi.at fun o q => k it (by simp) o q, hne⟩
  item := by
    intro X hP hw hK hc i pins s σ H E I hf st hg
    subst hP hw hK
    obtain ⟨⟨old, he⟩, hit, hne⟩ := st
    obtain ⟨xs, x, hq, hx⟩ := hg
    obtain ⟨its, rv, p, hz⟩ := I.tuple hq
    have p : s.heap.IsTuple a its.toArray := p
    obtain ⟨u, hu, ru⟩ := rv.get hx
    have hel : e < s.heap.objs.size := Heap.lt_size he
    have hil : it < s.heap.objs.size := by obtain ⟨_, q, _⟩ := hit; exact Heap.lt_size q
    have hea : e ≠ a := fun z => by
      subst z
      obtain ⟨o, e1, c1, _⟩ := p
      have e2 : s.heap.get? e = some { cls := .type "enumerate", data := .fields #[.none, .bool false, .ref it, rawInt i, .none, old] } := he
      rw [e2] at e1
      cases e1
      have c2 : Value.type "enumerate" = Value.type "tuple" := c1
      exact absurd c2 (by decide)
    have hui : i < its.toArray.size := by simpa using (List.getElem?_eq_some_iff.mp hu).1
    refine wpAny_pyNext_enum_itemD (draws_tuple (A := X.A.in1) (show X.A.in1.handled = none from I.ok.hd hc) a it its.toArray) he ⟨hit, p⟩ hui hne (by simp [hne, hea]) fun x' h' tk px ho hst hT hsz hk => ?_
    have ex : x' = u := by
      rw [List.getElem?_toArray, hu] at px
      cases px
      rfl
    subst ex
    refine ⟨_, rfl, wpAny_letOwnedTupleGo_enum (s := { s with heap := h', toks := tk + 1 }) ho fun h'' he' sb => ?_⟩
    have hT2 : h''.get? s.heap.objs.size = some { cls := .type "tuple", data := .seq #[.int i tk, x'] } := (sb.2 _ (Nat.ne_of_gt hel)).trans hT
    have new : ObjOk X.prog X.w (upd H s.heap.objs.size (.tup [.int (i : Nat), x])) h'' s.heap.objs.size (.tup [.int (i : Nat), x]) :=
      ⟨by show 2 ≤ sizeLine; decide, [.int i tk, x'], .cons ⟨_, rfl⟩ (.cons ru .nil), ⟨_, hT2, rfl, _, rfl⟩⟩
    have I1 : Inv X pins σ (upd H s.heap.objs.size (.tup [.int (i : Nat), x])) { s with heap := h'', toks := tk + 1 } :=
      I.turnedNew (ch := [e, it]) (fun b ob hb q => (sb.2 b (fun z => hb (by simp [z]))).trans (hk b ob (fun z => hb (by simp [z])) (fun z => hb (by simp [z])) q)) hf (Nat.le_refl _) new
    refine ⟨.ref s.heap.objs.size, _, I1, rfl, ⟨_, x, rfl, I.hok.fresh (Nat.le_refl _), rfl, fun ys hy => by rw [I.tuple_inj hy hq]; exact hx⟩, ⟨⟨x', ?_⟩, hst.1.at fun o q => (sb.2 it (Ne.symm hne)).trans q, hne⟩, fun b hb => ?_⟩
    · have e1 : ((i + 1 : Nat) : Int) = (i : Int) + 1 := by omega
      rw [e1]; exact he'
    · have hb' : b < s.heap.objs.size := by
        have e' : b = e ∨ b = it := by simpa using hb
        rcases e' with z | z
        · rw [z]; exact hel
        · rw [z]; exact hil
      rw [upd_ne (Nat.ne_of_lt hb')]
      exact (hf b hb).1
  done := by
    intro X hP hw hK hc i pins s σ H E I hf st hg
    subst hP hw hK
    obtain ⟨⟨old, he⟩, hit, hne⟩ := st
    obtain ⟨xs, hq, hx⟩ := hg
    obtain ⟨its, rv, p, hz⟩ := I.tuple hq
    have p : s.heap.IsTuple a its.toArray := p
    obtain ⟨f0, f1, f2, f3, f4, f5⟩ := hf it (by simp)
    have hl := rv.length
    have D : Draws X.prog X.w X.A.in1 it [it, a] i (fun _ _ => True) (fun j h => (h.IsTupleIter it a j ∧ h.IsTuple a its.toArray) ∧ j = i) := by
      refine ⟨fun j h ⟨⟨⟨o, e, _⟩, _⟩, _⟩ => ⟨o, e⟩, fun j h h' ⟨⟨s1, s2⟩, s3⟩ k => ⟨⟨s1.at fun o e => k it (by simp) o e, ?_⟩, s3⟩, fun j s Q E hj st hQ => absurd st.2 (by omega), fun s Q E st hE => ?_⟩
      · obtain ⟨o, e, c⟩ := s2
        exact ⟨o, k a (by simp) o e, c⟩
      · exact RZ.nextOf_tuple_end (A := X.A.in1) (show X.A.in1.handled = none from I.ok.hd hc) st.1.1 st.1.2 (by simp; omega) hE
    exact wpAny_pyNext_enum_endD D he ⟨⟨hit, p⟩, rfl⟩ fun h' eb => ⟨rfl, I.turned (t' := s.toks) (fun b o hb q => eb b o hb q) f0 f1 f3 f4 f5⟩
  self := fun A i s Q E st h => let ⟨⟨_, he⟩, _⟩ := st; wpAny_pyIter_enum he h
def iEnumA (K : PySem.W.Frag) (ta : TA) : TI := fun σ H R => ta σ H fun vs H1 => ∃ a xs, vs = [.ref a] ∧ ((SqL K H1 a xs ∧ R (Ite K a) H1) ∨ (SqT K H1 a xs ∧ R (IteT K a) H1))
theorem pi_enumA {X : Cx} {e : Expr} {ta : TA} {p pos tpos : Pos} {elts : List Expr} {kk : Nat} (hg : Gl X "enumerate") (hm : X.mg "enumerate" = none) (ha : PA X [e] ta) (hs : starEach [e] X.env = [(false, eval e X.env)] := by rfl) :
    PI X (.Tuple elts kk tpos) (.Call (.Name "enumerate" p) [e] [] pos) (iEnumA X.K ta) := by
  refine ⟨fun pins s σ H R I h => ?_⟩
  refine Call_ (ld_blt I hg hm boot_enumerate (PyProof.Rows.callWith_type1 (thn (ha.run pos pins s σ H _ I h) fun us s1 ⟨vs, H1, I1, r1, q1⟩ => ?_) hs rfl))
  obtain ⟨a, xs, ex, q⟩ := q1
  subst ex
  cases r1 with
  | cons r rr =>
    cases rr
    cases r
    have fresh : ∀ b ∈ [s1.heap.objs.size + 1, s1.heap.objs.size], s1.heap.objs.size ≤ b := fun b hb => by
      have e' : b = s1.heap.objs.size + 1 ∨ b = s1.heap.objs.size := by simpa using hb
      rcases e' with z | z
      · rw [z]; exact Nat.le_add_right _ _
      · rw [z]; exact Nat.le_refl _
    rcases q with ⟨hq, q⟩ | ⟨hq, q⟩
    · obtain ⟨its, rv, p', hz⟩ := I1.list hq
      refine call_enumerate_list p'.isList fun h' he hit hsz hk => wpAny_pyIter_enum he ?_
      have I2 : Inv X pins σ H1 { s1 with heap := h' } := I1.kept (t' := s1.toks) hk
      exact ⟨s1.heap.objs.size + 1, [s1.heap.objs.size + 1, s1.heap.objs.size], _, _, H1, rfl, I2, turn_enum a (s1.heap.objs.size + 1) s1.heap.objs.size, ⟨⟨.none, he⟩, hit, Nat.succ_ne_self _⟩, fun b hb => I1.fpOk (fresh b hb) (I1.hok.fresh (fresh b hb)), q⟩
    · obtain ⟨its, rv, p', hz⟩ := I1.tuple hq
      refine call_enum_tuple (show s1.heap.IsTuple a its.toArray from p') fun h' he hit hsz hk => wpAny_pyIter_enum he ?_
      have I2 : Inv X pins σ H1 { s1 with heap := h' } := I1.kept (t' := s1.toks) hk
      exact ⟨s1.heap.objs.size + 1, [s1.heap.objs.size + 1, s1.heap.objs.size], _, _, H1, rfl, I2, turn_enumT a (s1.heap.objs.size + 1) s1.heap.objs.size, ⟨⟨.none, he⟩, hit, Nat.succ_ne_self _⟩, fun b hb => I1.fpOk (fresh b hb) (I1.hok.fresh (fresh b hb)), q⟩
def iEnA (a : Ev) : Ei := fun env st => bnd (a env st) fun d st => match d with
  | .tup xs => some (srcEnum (srcOf xs), st)
  | d => match lstSrc st d with
    | some src => some (srcEnum src, st)
    | none => none
def iZA (a b : Ev) : Ei := fun env st => bnd (a env st) fun d st => bnd (b env st) fun e st => match d, e with
  | .tup xs, .tup ys => some (srcZip (srcOf xs) (srcOf ys), st)
  | d, e => match lstSrc st d, lstSrc st e with
    | some a, some b => some (srcZip a b, st)
    | _, _ => none
section
variable {X : Cx} {T : TabI} {G : Gd} {p pos : Pos}
theorem simI_enumA {a : Expr} {fa : Ev} {elts : List Expr} {kk : Nat} {tpos : Pos} (hg : Gl X "enumerate") (hm : X.mg "enumerate" = none) (ha : PE X a (tE (gd T X) fa)) (hs : notStar a = true) : PI X (.Tuple elts kk tpos) (.Call (.Name "enumerate" p) [a] [] pos) (tI (gd T X) (iEnA fa)) := by
  refine ⟨fun pins s σ H R I h => ?_⟩
  obtain ⟨ι, st, env, src, st', at0, e, aft⟩ := h
  obtain ⟨d, st1, e1, e⟩ := bnd_of e
  refine (pi_enumA hg hm (simA_cons ha simA_nil hs) (starEach_cons hs)).run pins s σ H R I ⟨ι, st, env, [d], st1, at0, a1_of e1, fun ι1 H1 xs p k S r => ?_⟩
  split at e
  · rename_i zs
    cases e
    cases r with
    | cons r1 t =>
      cases t
      cases r1 with
      | tup hq rr =>
        refine ⟨_, _, rfl, .inr ⟨hq, aft ι1 H1 _ p k S fun i ι2 H2 st2 p2 k2 S2 => ⟨fun d hd => ?_, fun hd => ?_⟩⟩⟩
        · have hq2 := k2.tup _ _ hq
          have r2 := rr.mono p2 k2
          change (match some zs[i]? with | some (some d) => some (some (D.tup [.int (i : Nat), d])) | some none => some none | none => none) = some (some d) at hd
          cases hz : zs[i]? with
          | none => rw [hz] at hd; cases hd
          | some d0 =>
            rw [hz] at hd
            cases hd
            obtain ⟨v, hv, rv⟩ := r2.get hz
            refine ⟨⟨_, v, hq2, hv⟩, fun x H' y => ?_⟩
            obtain ⟨Tn, z, rfl, hn, rfl, y⟩ := y
            have := y _ hq2
            rw [hv] at this
            cases this
            exact ⟨Keep.new hn, S2.side hn, .tup (.of upd_same) (.cons (.int _) (.cons (rv.mono List.prefix_rfl (Keep.new hn)) .nil))⟩
        · have hq2 := k2.tup _ _ hq
          have r2 := rr.mono p2 k2
          change (match some zs[i]? with | some (some d) => some (some (D.tup [.int (i : Nat), d])) | some none => some none | none => none) = some none at hd
          cases hz : zs[i]? with
          | some d0 => rw [hz] at hd; cases hd
          | none => exact ⟨_, hq2, by rw [← r2.length]; exact List.getElem?_eq_none_iff.mp hz⟩
  · split at e
    · rename_i src0 es
      cases e
      cases r with
      | cons r1 t =>
        cases t
        obtain ⟨b, ys, rfl, hq, la⟩ := lat_of S r1 es
        refine ⟨b, ys, rfl, .inl ⟨hq, aft ι1 H1 _ p k S fun i ι2 H2 st2 p2 k2 S2 => ⟨fun d hd => ?_, fun hd => ?_⟩⟩⟩
        · unfold srcEnum at hd
          dsimp only at hd
          split at hd
          · rename_i d0 e0
            cases hd
            obtain ⟨zs, ws, e3, hq2, r2⟩ := la i ι2 H2 st2 p2 k2 S2 (by rw [e0]; simp)
            rw [e0] at e3
            obtain ⟨v, hv, rv⟩ := r2.get (Option.some.inj e3).symm
            refine ⟨⟨ws, v, hq2, hv⟩, fun x H' y => ?_⟩
            obtain ⟨Tn, z, rfl, hn, rfl, y⟩ := y
            have := y ws hq2
            rw [hv] at this
            cases this
            exact ⟨Keep.new hn, S2.side hn, .tup (.of upd_same) (.cons (.int _) (.cons (rv.mono List.prefix_rfl (Keep.new hn)) .nil))⟩
          · cases hd
          · cases hd
        · unfold srcEnum at hd
          dsimp only at hd
          split at hd
          · cases hd
          · rename_i e0
            obtain ⟨zs, ws, e3, hq2, r2⟩ := la i ι2 H2 st2 p2 k2 S2 (by rw [e0]; simp)
            rw [e0] at e3
            exact ⟨ws, hq2, by rw [← r2.length]; exact List.getElem?_eq_none_iff.mp (Option.some.inj e3).symm⟩
          · cases hd
    · cases e
end
end Eng
set_option Elab.async false
set_option linter.all false
set_option maxRecDepth 100000
set_option autoImplicit false
/-! N3: x in list, by an own __eq__. -/
namespace Eng
section
open PySem PySem.SeqAt
open AutoSeq1 (wpAny_loadPart')
open MeetsSeq MeetsSeq2 MeetsSeq3 SeqRoads2
variable {prog : Program} {w : World} {A : Around} {R : Result → Shared → Prop}
def CntR (prog : Program) (w : World) (A : Around) (E : Value → Shared → Prop) (l : Addr) (x : Value) (N : Nat) (I : Nat → Shared → Prop) (Z : Shared → Prop) : Prop :=
  ∀ i s, I i s → ∃ (its : Array Value) (n : Nat), s.heap.get? l = some { cls := .type "list", data := .seq its n } ∧ its.size = N ∧
    ∀ (h1 : i < its.size), wpAny (model prog w) A.in1 (eqBool its[i] x) (fun r s' => if r = true then Z s' else I (i + 1) s') E s
theorem cnt_loopR (l : Addr) (x : Value) (N : Nat) (I : Nat → Shared → Prop) (Z : Shared → Prop) (hl : CntR prog w A (fun e s' => R (.error e) s') l x N I Z)
    (fin : ∀ s, I N s → R (.ok (.ret (.bool false))) s) (finT : ∀ s, Z s → R (.ok (.ret (.bool true))) s) (k : Nat) :
    ∀ i : Nat, N - i = k → i ≤ N → ∀ s, I i s →
      wpAny (model prog w) A.in1 (Builtin.«list.__contains__.loop» ⟨[.ref l, x, rawInt i], []⟩) (GQ.FinOf prog w A R) (fun e s' => R (.error e) s') s := by
  induction k with
  | zero =>
    intro i hk hi s h
    obtain ⟨its, n, hl1, hs1, _⟩ := hl _ _ h
    have hi' : i = N := by omega
    have hR : R (.ok (.ret (.bool false))) s := fin s (hi' ▸ h)
    obtain ⟨hp, g, d, tk, os⟩ := s
    wp_walk using wpAny_loadPart' hl1
    have e1 : its[((i : Nat) : Int).toNat]? = none := by simp; omega
    rw [e1]
    wp_walk
    exact hR
  | succ k ih =>
    intro i hk hi s h
    obtain ⟨its, n, hl1, hs1, turn⟩ := hl _ _ h
    have hlt : i < its.size := by omega
    have ht := turn hlt
    obtain ⟨hp, g, d, tk, os⟩ := s
    wp_walk using wpAny_loadPart' hl1
    have e1 : its[((i : Nat) : Int).toNat]? = some its[i] := by simp [hlt]
    have hc : ((i : Int) + 1) = ((i + 1 : Nat) : Int) := by omega
    rw [e1]
    refine wpAny_bind (wpAny_mono ht (fun r s2 h2 => ?_) fun _ _ x => x)
    cases r with
    | true =>
      rw [if_pos rfl] at h2
      have hR := finT s2 h2
      obtain ⟨hp2, g2, d2, tk2, os2⟩ := s2
      wp_walk
      exact hR
    | false =>
      rw [if_neg Bool.false_ne_true] at h2
      have hrec := ih (i + 1) (by omega) (by omega) s2 h2
      obtain ⟨hp2, g2, d2, tk2, os2⟩ := s2
      wp_walk
      rw [hc]
      exact ⟨plainId_quiet plain_contains_loop _, codeAny_builtin entry_contains_loop (by
        rw [Around.under_plainId plain_contains_loop _]
        exact hrec)⟩
theorem cnt_R (l : Addr) (x : Value) (N : Nat) (I : Nat → Shared → Prop) (Z : Shared → Prop) (hl : CntR prog w A (fun e s' => R (.error e) s') l x N I Z)
    (fin : ∀ s, I N s → R (.ok (.ret (.bool false))) s) (finT : ∀ s, Z s → R (.ok (.ret (.bool true))) s) {s : Shared} (h : I 0 s) :
    wpAny (model prog w) A.in1 (Builtin.«list.__contains__» ⟨[.ref l, x], []⟩) (GQ.FinOf prog w A R) (fun e s' => R (.error e) s') s := by
  obtain ⟨its, n, hl1, hs1, _⟩ := hl _ _ h
  have hrec := cnt_loopR (A := A) (R := R) l x N I Z hl fin finT _ 0 rfl (Nat.zero_le _) s h
  obtain ⟨hp, g, d, tk, os⟩ := s
  wp_walk using wpAny_loadPart' hl1
  exact ⟨plainId_quiet plain_contains_loop _, codeAny_builtin entry_contains_loop (by
    rw [Around.under_plainId plain_contains_loop _]
    exact hrec)⟩
end
section
open PySem PySem.SeqAt
variable {prog : Program} {w : World} {A : Around} {E : Value → Shared → Prop} {s : Shared}
theorem call_cnt {l : Addr} {x : Value} {N : Nat} {Q : Value → Shared → Prop} (I : Nat → Shared → Prop) (Z : Shared → Prop) (hl : CntR prog w A E l x N I Z)
    (fin : ∀ s, I N s → Q (.bool false) s) (finT : ∀ s, Z s → Q (.bool true) s) (h : I 0 s) : wpAny (model prog w) A (call (.builtin "list.__contains__") [.ref l, x]) Q E s := by
  obtain ⟨its, n, hl1, _, _⟩ := hl _ _ h
  exact GQ.call_here F.slot_list_contains ⟨_, hl1, rfl⟩ F.entry_list_contains (F.args_list_contains_2 _ _) (cnt_R (R := wants Q E) l x N I Z hl fin finT h)
end
open PySem PySem.Spec PyProof.Rows L2
def cnLs (eb : D → D → List O → Rs Bool) (a : Nat) (x : D) (N : Nat) : Nat → Nat → List O → Rs Bool
  | k, i, st => match st[a]? with
    | some (.lst xs) => if xs.length = N then match k with
        | 0 => if i = N then some (false, st) else none
        | k + 1 => match xs[i]? with
          | some y => bnd (eb y x st) fun r st => match r with
            | true => some (true, st)
            | false => cnLs eb a x N k (i + 1) st
          | none => none
      else none
    | _ => none
section
variable {X : Cx} {T : TabI} {dd : Dd} {cl : CallT} {eqm : Nat → Option Nat} {k : Nat}
theorem cn_lsts {eb : D → D → List O → Rs Bool} {n : Nat} (E : EbS X T eb n) {A : Around} {pins : List (Addr × Obj)} {s : Shared} {σ : L2.St} {H : Hp} {ι : List Addr} {st : List O} {la N : Nat} {a : Addr} {b : Bool} {st' : List O} {d : D} {x : V} {u : Value}
    (sb : Sub X (n + 1) A) (I : L2.Inv X pins σ H s) (S : StOk (gd T X) H ι st) (h1 : ι[la]? = some a) (rx : L2.RelV x u) (rd : RelD (gd T X) H ι d x) (h : cnLs eb la d N N 0 st = some (b, st')) :
    wpAny (model X.prog X.w) A (call (.builtin "list.__contains__") [.ref a, u]) (fun r s' => r = .bool b ∧ Bq X T pins σ ι H st' s') X.xe s := by
  refine call_cnt (N := N) (fun i s' => ∃ ι' H' sti, i ≤ N ∧ ι <+: ι' ∧ Keep X.K H H' ∧ L2.Inv X pins σ H' s' ∧ StOk (gd T X) H' ι' sti ∧ cnLs eb la d N (N - i) i sti = some (b, st'))
    (fun s' => b = true ∧ Bq X T pins σ ι H st' s') ?_ ?_ ?_ ⟨ι, H, st, Nat.zero_le _, List.prefix_rfl, Keep.refl, I, S, h⟩
  · rintro i s1 ⟨ι1, H1, st1, hi, p, kp, I1, S1, e⟩
    unfold cnLs at e
    cases z1 : st1[la]? with
    | none => rw [z1] at e; cases e
    | some o1 =>
      rw [z1] at e
      cases o1 with
      | lst xs =>
        dsimp only at e
        split at e
        · rename_i hN
          obtain ⟨o, z2, ob⟩ := S1.at (pre_get p h1)
          rw [z1] at z2
          cases z2
          obtain ⟨vs, g1, r1⟩ := ob
          obtain ⟨its, m, rv, ho, _⟩ := I1.lst g1
          have n1 : its.length = N := by rw [← rv.length, ← r1.length]; exact hN
          refine ⟨its.toArray, m, ho, by simpa using n1, fun q1 => ?_⟩
          have iN : i < N := by rw [← n1]; simpa using q1
          cases hk : N - i with
          | zero => omega
          | succ k0 =>
            rw [hk] at e
            dsimp only at e
            have i1 : i < xs.length := by rw [hN]; exact iN
            rw [List.getElem?_eq_getElem i1] at e
            obtain ⟨r, st2, e1, e⟩ := bnd_of e
            obtain ⟨v, hv, rdv⟩ := r1.get (i := i) (d := xs[i]) (by simp [i1])
            obtain ⟨u', hu, ru⟩ := rv.get hv
            have eu : its.toArray[i] = u' := by
              have := (List.getElem?_eq_some_iff.mp hu).2
              simpa using this
            rw [eu]
            refine wpAny_mono (E A.in1 pins s1 σ H1 ι1 st1 v x u' u xs[i] d r st2 sb.in1 I1 ru rx S1 rdv (rd.mono p kp) e1) (fun r' s2 q => ?_) fun _ _ z => z
            obtain ⟨rfl, ι2, H2, p2, k2, I2, S2⟩ := q
            cases r' with
            | true =>
              rw [if_pos rfl]
              cases e
              exact ⟨rfl, ι2, H2, p.trans p2, kp.trans k2, I2, S2⟩
            | false =>
              rw [if_neg Bool.false_ne_true]
              have hk2 : N - (i + 1) = k0 := by omega
              exact ⟨ι2, H2, st2, iN, p.trans p2, kp.trans k2, I2, S2, by rw [hk2]; exact e⟩
        · cases e
      | _ => cases e
  · rintro s1 ⟨ι1, H1, st1, hi, p, kp, I1, S1, e⟩
    unfold cnLs at e
    rw [Nat.sub_self] at e
    split at e
    · split at e
      · rw [if_pos rfl] at e
        cases e
        exact ⟨rfl, ι1, H1, p, kp, I1, S1⟩
      · cases e
    · cases e
  · rintro s1 ⟨rfl, q⟩
    exact ⟨rfl, q⟩
end
/-- in and not in -/
def fInO (cl : CallT) (eqm : Nat → Option Nat) (n : Nat) (neg : Bool) : F2 := fun x y st => match fIn neg x y st with
  | some r => some r
  | none => match y with
    | .ref a => match st[a]? with
      | some (.lst xs) => bnd (cnLs (ebq (rcN cl eqm n)) a x xs.length xs.length 0 st) fun b st => some (.bl (ng neg b), st)
      | _ => none
    | _ => none
section
variable {X : Cx} {T : TabI} {dd : Dd} {cl : CallT} {eqm : Nat → Option Nat} {k n : Nat}
theorem o_inO (neg : Bool) (Q : EqOk X.K T eqm dd) (F : ∀ c f, eqm c = some f → FnOk X.prog X.w X.K X.mg X.base CX0 k (dd.fa f) (dd.fd f) (dd.ps f) (spD (gd T X) cl (dd.ps f).length f) ∧ Binds X.K (dd.fd f) (dd.ps f) [])
    (hlen : ∀ f ds st z, cl f ds st = some z → ds.length = (dd.ps f).length) (hr : Room (k + n + 1) X.A) : OpR X (compareOp (if neg then .NotIn else .In)) (rD (gd T X) (fInO cl eqm n neg)) := by
  intro pins s σ H x y u v Q' I rx ry h
  obtain ⟨ι, st, d, e, w, st', S, rd, re, hf, aft⟩ := h
  unfold fInO at hf
  split at hf
  · rename_i r0 hr0
    cases hf
    exact o_in neg (by have := hr.units; omega) pins s σ H x y u v Q' I rx ry ⟨ι, st, d, e, w, st', S, rd, re, hr0, aft⟩
  · split at hf
    · rename_i la _
      split at hf
      · rename_i xs ea
        obtain ⟨b, st1, e1, e2⟩ := bnd_of hf
        have e3 : w = .bl (ng neg b) ∧ st' = st1 := by cases e2; exact ⟨rfl, rfl⟩
        obtain ⟨ew, es⟩ := e3
        rw [ew, es] at aft
        cases re with
        | ref hn =>
          rename_i a
          have hv : v = .ref a := by cases ry; rfl
          subst hv
          obtain ⟨o, z1, ob⟩ := S.at hn
          rw [ea] at z1
          cases z1
          obtain ⟨vs, g1, r1⟩ := ob
          obtain ⟨its, m, rv, ho, _⟩ := I.lst g1
          have key := cn_lsts (A := X.A) (eb_of (rc_ok Q F hlen n)) ⟨hr, rfl⟩ I S hn rx rd e1
          have fin : ∀ s', Bq X T pins σ ι H st1 s' → EP X pins σ Q' (.bool (ng neg b)) s' := fun s' ⟨ι', H', p, kp, I', S'⟩ => ⟨.bl _, H', I', rfl, aft ι' H' _ p kp S' (.bl _)⟩
          cases neg with
          | true =>
            show wpAny _ X.A (do return Value.bool (!(← contains (.ref a) u))) _ _ s
            refine wpAny_bind (wpAny_contains_slot ⟨_, ho, rfl⟩ PySem.F.slot_list_contains (wpAny_mono key (fun r s' hv => ?_) fun _ _ e => e))
            obtain ⟨rfl, q⟩ := hv
            exact wpAny_truthy_bool (wpAny_pure (fin s' q))
          | false =>
            show wpAny _ X.A (do return Value.bool (← contains (.ref a) u)) _ _ s
            refine wpAny_bind (wpAny_contains_slot ⟨_, ho, rfl⟩ PySem.F.slot_list_contains (wpAny_mono key (fun r s' hv => ?_) fun _ _ e => e))
            obtain ⟨rfl, q⟩ := hv
            exact wpAny_truthy_bool (wpAny_pure (fin s' q))
      · cases hf
    · cases hf
end
end Eng
set_option Elab.async false
set_option linter.all false
set_option maxRecDepth 100000
set_option autoImplicit false
/-! N4: list.clear, dict.get. -/
namespace Eng
open PySem PySem.Spec PyProof.Rows L2
def mClr : Fm := fun x ds st => match x, ds with
  | .ref n, [] => match st[n]? with
    | some (.lst _) => some (.non, st.set n (.lst []))
    | _ => none
  | _, _ => none
def eGet2 (o k d : Ev) : Ev := fun env st => bnd (o env st) fun x st => match x with
  | .ref n => match st[n]? with
    | some (.dK _) => bnd (k env st) fun y st => bnd (d env st) fun z st => match st[n]?, keyD y with
      | some (.dK kvs), some kk => some ((valK kvs kk).getD z, st)
      | _, _ => none
    | _ => none
  | _ => none
section
variable {X : Cx} {T : TabI}
theorem m_clr : MtR X "list.clear" (rM (gd T X) mClr) := by
  intro pins s σ H x xs v us Q I rx rs h
  obtain ⟨ι, st, d, ds, r, st', S, r1, r2, hf, aft⟩ := h
  unfold mClr at hf
  split at hf
  · cases r1 with
    | ref hn =>
      obtain ⟨o, e1, ob⟩ := S.at hn
      rw [e1] at hf
      cases o with
      | lst zs =>
        cases hf
        obtain ⟨ys, h1, h2⟩ := ob
        cases r2
        refine mt_clear pins s σ H _ _ v us Q I rx rs ⟨_, _, rfl, rfl, h1, ?_⟩
        have SS := S.set hn (u := .lst []) (o := .lst []) ⟨_, upd_same, .nil⟩
        exact aft ι _ _ List.prefix_rfl SS.2 SS.1 .non
      | _ => cases hf
  · cases hf
variable {o e f : Expr} {fo fe ff : Ev} {apos pos : Pos}
theorem sim_get2 (hu : X.A.units + 1 < cLine) (ho : PE X o (tE (gd T X) fo)) (he : PE X e (tE (gd T X) fe)) (hf : PE X f (tE (gd T X) ff)) (m : M2 X o "get" apos e f pos) : PE X (.Call (.Attribute o "get" apos) [e, f] [] pos) (tE (gd T X) (eGet2 fo fe ff)) := by
  refine pe_imp (pe_dget2 hu ho he hf m) fun σ H Q q => ?_
  obtain ⟨ι, st, env, v, st', at0, e, aft⟩ := q
  obtain ⟨x, st1, e1, e⟩ := bnd_of e
  refine ⟨ι, st, env, x, st1, at0, e1, fun ι1 H1 xv p k S r => ?_⟩
  split at e
  · rename_i n
    split at e
    · rename_i kvs0 e2
      cases r with
      | ref hn =>
        rename_i a
        obtain ⟨ob, z1, q⟩ := S.at hn
        rw [e2] at z1
        cases z1
        obtain ⟨gs, hH, _⟩ := q
        obtain ⟨y, st2, e3, e⟩ := bnd_of e
        obtain ⟨z, st3, e4, e⟩ := bnd_of e
        refine ⟨a, rfl, .inl ⟨gs, .inl hH⟩, ι1, st1, env, y, st2, at0.mono p k S, e3, fun ι2 H2 yv p2 k2 S2 r2 => ?_⟩
        refine ⟨ι2, st2, env, z, st3, at0.mono (p.trans p2) (k.trans k2) S2, e4, fun ι3 H3 zv p3 k3 S3 r3 => ?_⟩
        split at e
        · rename_i kvs kk e5 e6
          cases e
          obtain ⟨ob, z2, q⟩ := S3.at (pre_get (p2.trans p3) hn)
          rw [e5] at z2
          cases z2
          obtain ⟨hs, hH3, rf⟩ := q
          have hy := (r2.mono p3 k3).key e6
          refine ⟨valV hs kk, .inl ⟨hs, kk, .inl hH3, hy, rfl⟩, ?_⟩
          rcases valK_rel (k := kk) rf with ⟨g1, g2⟩ | ⟨d, w, g1, g2, g3⟩
          · rw [g1] at aft
            rw [g2]
            exact aft ι3 H3 _ ((p.trans p2).trans p3) ((k.trans k2).trans k3) S3 r3
          · rw [g1] at aft
            rw [g2]
            exact aft ι3 H3 _ ((p.trans p2).trans p3) ((k.trans k2).trans k3) S3 g3
        · cases e
    · cases e
  · cases e
end
end Eng
set_option Elab.async false
set_option linter.all false
set_option maxRecDepth 100000
set_option autoImplicit false
/-! E16: the translation of the text into evaluators: what it rests on, and its parts. -/
namespace Eng
open PySem PySem.Spec PyProof.Rows L2
/-- what a name of the module is -/
inductive Gn where
  | df (f : Nat) | cl (c : Nat) | kd (d : D) | xc (c : Nat)
structure Cg where
  gn : List (Str × Gn)
  nb : List Str
  an : List Str
  ms : List Str
  nfn : Nat
  tb : Tb
  eqm : Nat → Option Nat
  nq : Nat
  kb : List (Nat × List Str)
  wh : Nat
  xb : Xb := ⟨fun _ _ => false, fun _ _ => none, fun _ => none, fun _ _ => false⟩
  xf : List Str := []
  xm : List Str := []
  xkb : List (Nat × List Str × Bool) := []
/-- the names of a block -/
structure Sx where
  N : List Str
  sc : Scope
  fx : Str → Bool
/-- what the text says of its exceptions -/
structure XAll (cg : Cg) (T : TabI) (dd : Dd) (K : PySem.W.Frag) (mg : Str → Option Value) : Prop where
  ok : XcOk K T cg.xb dd
  mtf : ∀ c m f, cg.xb.xm c m = some f → f < cg.nfn
  inf : ∀ c f, cg.xb.xi c = some (some f) → f < cg.nfn
  pl : ∀ f, (dd.ps f).length < 100
  gn : ∀ x c, cg.gn.lookup x = some (.xc c) → ∃ Ca, T.xa c = some Ca ∧ mg x = some (.ref Ca)
  kb : ∀ f ks sw, (f, ks, sw) ∈ cg.xkb → KSw K (dd.fd f) (dd.ps f) ks sw ∧ (dd.ps f).length = ks.length + 1
structure GOk (cg : Cg) (T : TabI) (dd : Dd) (cl : CallT) (k : Nat) (X : Cx) : Prop where
  cls : ClsOk X.K T cg.tb dd
  eq : EqOk X.K T cg.eqm dd
  ne : NeOk X.K T cg.eqm
  nm : ∀ (i : Nat) (x : Str), cg.an[i]? = some x → T.nm i = x
  fn : ∀ f, f < cg.nfn → FnOk X.prog X.w X.K X.mg X.base CX0 k (dd.fa f) (dd.fd f) (dd.ps f) (spD (gd T X) cl (dd.ps f).length f) ∧ Binds X.K (dd.fd f) (dd.ps f) []
  mtf : ∀ c m f, cg.tb.mt c m = some f → f < cg.nfn
  inf : ∀ c f, cg.tb.ini c = some (some f) → f < cg.nfn
  eqf : ∀ c f, cg.eqm c = some f → f < cg.nfn
  hlen : ∀ f ds st z, cl f ds st = some z → ds.length = (dd.ps f).length
  gdf : ∀ x f, cg.gn.lookup x = some (.df f) → f < cg.nfn ∧ X.mg x = some (.ref (dd.fa f)) ∧ PySem.W.keepIn X.K (.ref (dd.fa f)) = true
  gcl : ∀ x c, cg.gn.lookup x = some (.cl c) → ∃ Ca, T.ca c = some Ca ∧ X.mg x = some (.ref Ca)
  gkd : ∀ x d, cg.gn.lookup x = some (.kd d) → ∃ v u, X.mg x = some u ∧ RelV v u ∧ ∀ H ι, RelD (gd T X) H ι d v
  gnb : ∀ x, x ∈ cg.nb → X.mg x = none
  kbs : ∀ f ks, (f, ks) ∈ cg.kb → KBinds X.K (dd.fd f) (dd.ps f) ks (fun a b => a ++ b) (fun a b => a ++ b)
  room : Room (k + cg.nq + 1) X.A
  calm : X.calm = true
  xe : X.xe = fun _ _ => False
  x : XAll cg T dd X.K X.mg
structure SOk (sx : Sx) (X : Cx) : Prop where
  N : X.N = sx.N
  nd : sx.N.Nodup
  sc : X.env.scope = sx.sc
  kind : sx.sc.kind = .function
  fx : ∀ x, sx.fx x = true → X.fn x = true
structure Ok (cg : Cg) (T : TabI) (dd : Dd) (cl : CallT) (k : Nat) (sx : Sx) (X : Cx) : Prop where
  g : GOk cg T dd cl k X
  s : SOk sx X
theorem GOk.r1 {cg : Cg} {T : TabI} {dd : Dd} {cl : CallT} {k : Nat} {X : Cx} (g : GOk cg T dd cl k X) : Room k X.A := g.room.mono (by omega)
/-- the parts of the translation -/
structure Cp where
  e : Sx → Expr → Option Ev
  t : Sx → Expr → Option Et
  g : Sx → Expr → Option (Eg × List Nat)
  i : Sx → Expr → Expr → Option Ei
  s : Sx → Stmt → Option Es
structure CpOk (cg : Cg) (T : TabI) (dd : Dd) (cl : CallT) (k : Nat) (R : Cp) : Prop where
  e : ∀ X sx a f, Ok cg T dd cl k sx X → R.e sx a = some f → PE X a (tE (gd T X) f)
  t : ∀ X sx a f, Ok cg T dd cl k sx X → R.t sx a = some f → PT X a (tT (gd T X) f)
  g : ∀ X sx a f, Ok cg T dd cl k sx X → R.g sx a = some f → PG X a (tG (gd T X) f.1 f.2)
  i : ∀ X sx tg a f, Ok cg T dd cl k sx X → R.i sx tg a = some f → PI X tg a (tI (gd T X) f)
  s : ∀ X sx a f, Ok cg T dd cl k sx X → R.s sx a = some f → PS X a (tS (gd T X) f)
def Cp.nil : Cp := ⟨fun _ _ => none, fun _ _ => none, fun _ _ => none, fun _ _ _ => none, fun _ _ => none⟩
/-! ### small helpers -/
def idx (x : Str) : List Str → Option Nat
  | [] => none
  | y :: r => if y = x then some 0 else match idx x r with
    | some i => some (i + 1)
    | none => none
theorem idx_get {x : Str} : ∀ {N : List Str} {i : Nat}, idx x N = some i → N[i]? = some x
  | [], i, h => by cases h
  | y :: r, i, h => by
    unfold idx at h
    split at h
    · rename_i e
      cases h
      rw [e]
      rfl
    · split at h
      · rename_i j hj
        cases h
        have := idx_get hj
        simpa using this
      · cases h
def isGl (sx : Sx) (x : Str) : Bool := decide (sx.sc.names.lookup x = some .globalImplicit)
def ndb (x : Str) : Bool := !(x == ("__debug__" : Str))
def isVis (sx : Sx) (x : Str) : Bool := match sx.sc.names.lookup x with
  | some .local => true
  | some .cell => true
  | some .free => true
  | _ => false
def isLoc (sx : Sx) (x : Str) : Bool := match sx.sc.names.lookup x with
  | some .local => true
  | some .cell => sx.fx x
  | _ => false
section
variable {cg : Cg} {T : TabI} {dd : Dd} {cl : CallT} {k : Nat} {sx : Sx} {X : Cx} {x : Str}
theorem Ok.gl (o : Ok cg T dd cl k sx X) (h : isGl sx x = true) : Gl X x := by
  have := of_decide_eq_true h
  show X.env.scope.names.lookup x = _
  rw [o.s.sc]
  exact this
theorem ndb_of (h : ndb x = true) : (x == ("__debug__" : Str)) = false := by
  unfold ndb at h
  simpa using h
theorem Ok.vis (o : Ok cg T dd cl k sx X) (h : isVis sx x = true) : Vis X.env.scope x := by
  unfold isVis at h
  unfold Vis
  rw [o.s.sc]
  split at h <;> first | (cases h; done) | skip
  · rename_i e; exact .inl e
  · rename_i e; exact .inr (.inl e)
  · rename_i e; exact .inr (.inr e)
theorem Ok.loc (o : Ok cg T dd cl k sx X) (h : isLoc sx x = true) : L2.Loc X.env.scope x ∧ (X.fn x = true ∨ X.env.scope.names.lookup x = some .local) := by
  unfold isLoc at h
  unfold L2.Loc
  rw [o.s.sc]
  split at h <;> first | (cases h; done) | skip
  · rename_i e; exact ⟨.inl e, .inr e⟩
  · rename_i e; exact ⟨.inr e, .inl (o.s.fx x h)⟩
theorem Ok.slot (o : Ok cg T dd cl k sx X) {i : Nat} (h : idx x sx.N = some i) : X.N[i]? = some x := by
  rw [o.s.N]
  exact idx_get h
theorem Ok.nd (o : Ok cg T dd cl k sx X) : X.N.Nodup := by
  rw [o.s.N]
  exact o.s.nd
theorem Ok.att (o : Ok cg T dd cl k sx X) {i : Nat} (h : idx x cg.an = some i) : T.nm i = x := o.g.nm i x (idx_get h)
end
/-! ### names -/
def btOf (x : Str) : Option BT := if x = "int" then some .int else if x = "str" then some .str else if x = "list" then some .list else if x = "tuple" then some .tuple else if x = "dict" then some .dict else if x = "bool" then some .bool else none
theorem btOf_ok {x : Str} {b : BT} (h : btOf x = some b) : bootBuiltins x = some (.type b.name) ∧ x ≠ "__name__" := by
  unfold btOf at h
  repeat' (split at h)
  all_goals first | (cases h; done) | skip
  all_goals (rename_i e; subst e; cases h; exact ⟨by first | rfl | decide +kernel | kernel_rfl, by decide +kernel⟩)
def stName (cg : Cg) (sx : Sx) (x : Str) : Option Ev := if ndb x then
    if isVis sx x then if x == ("__classdict__" : Str) then none else match idx x sx.N with
      | some i => some (eSlot i)
      | none => none
    else if isGl sx x then match cg.gn.lookup x with
      | some (.df _) => none
      | some (.cl c) => some (eC (.cls c))
      | some (.kd d) => some (eC d)
      | some (.xc _) => none
      | none => if cg.nb.contains x then match btOf x with
          | some b => some (eC (.ty b))
          | none => none
        else none
    else none
  else none
section
variable {cg : Cg} {T : TabI} {dd : Dd} {cl : CallT} {k : Nat} {sx : Sx} {X : Cx} {x : Str}
theorem stName_ok (o : Ok cg T dd cl k sx X) {f : Ev} {pos : Pos} (h : stName cg sx x = some f) : PE X (.Name x pos) (tE (gd T X) f) := by
  unfold stName at h
  split at h
  · rename_i hd
    have hd := ndb_of hd
    split at h
    · rename_i hv
      split at h
      · cases h
      · rename_i hcd
        split at h
        · rename_i i hi
          cases h
          exact sim_slot (o.slot hi) (o.vis hv) hd (by simpa using hcd)
        · cases h
    · split at h
      · rename_i hg
        have hg := o.gl hg
        split at h
        · cases h
        · rename_i c hc
          cases h
          obtain ⟨Ca, h1, h2⟩ := o.g.gcl x c hc
          exact sim_glob (v := .ref Ca) hg h2 rfl (fun H ι => .cls h1) hd
        · rename_i d hc
          cases h
          obtain ⟨v, u, h1, h2, h3⟩ := o.g.gkd x d hc
          exact sim_glob hg h1 h2 h3 hd
        · cases h
        · split at h
          · rename_i hn
            split at h
            · rename_i b hb
              cases h
              obtain ⟨h1, h2⟩ := btOf_ok hb
              exact sim_bltn hg (o.g.gnb x (by simpa using hn)) h1 h2 hd
            · cases h
          · cases h
      · cases h
  · cases h
end
/-! ### argument lists -/
def stA (R : Cp) (sx : Sx) : List Expr → Option Ea
  | [] => some aNil
  | e :: r => if notStar e then match R.e sx e, stA R sx r with
      | some f, some as => some (aCons f as)
      | _, _ => none
    else none
section
variable {cg : Cg} {T : TabI} {dd : Dd} {cl : CallT} {k : Nat} {sx : Sx} {X : Cx} {R : Cp}
theorem stA_ok (o : Ok cg T dd cl k sx X) (r : CpOk cg T dd cl k R) : ∀ {es : List Expr} {as : Ea}, stA R sx es = some as → PA X es (tA (gd T X) as) ∧ es.all notStar = true ∧ (es = [] → as = aNil)
  | [], as, h => by cases h; exact ⟨simA_nil, rfl, fun _ => rfl⟩
  | e :: es, as, h => by
    unfold stA at h
    split at h
    · rename_i hs
      split at h
      · rename_i f as' h1 h2
        cases h
        obtain ⟨q1, q2, _⟩ := stA_ok o r h2
        exact ⟨simA_cons (r.e X sx e f o h1) q1 hs, by rw [List.all_cons, hs, q2]; rfl, fun z => by cases z⟩
      · cases h
    · cases h
end
end Eng
set_option Elab.async false
set_option linter.all false
set_option maxRecDepth 100000
set_option autoImplicit false
/-! E17: the translation of calls. -/
namespace Eng
open PySem PySem.Spec PyProof.Rows L2
/-! ### calls with keywords, in the parameters' order -/
def aApp (as kw : Ea) : Ea := fun env st => bnd (as env st) fun xs st => bnd (kw env st) fun ys st => some (xs ++ ys, st)
section
variable {X : Cx} {T : TabI} {G : Gd} {dd : Dd} {cl : CallT} {k f : Nat} {x : Str} {p pos kpos : Pos} {e : Expr} {es : List Expr} {as kw : Ea} {fe : Ev} {kws : List Keyword} {nm : Option Str} {ks : List Str}
theorem pk_imp {t t' : TA} (h : PK X kws t) (i : ∀ σ H Q, t' σ H Q → t σ H Q) : PK X kws t' := ⟨fun pos pins s σ H Q I q => h.run pos pins s σ H Q I (i σ H Q q)⟩
theorem simK_nil : PK X [] (tA G aNil) := pk_imp pk_nil fun σ H Q q => nil_of q
theorem simK_cons (ha : PE X e (tE G fe)) (hr : PK X kws (tA G kw)) : PK X (⟨nm, e, kpos⟩ :: kws) (tA G (aCons fe kw)) := pk_imp (pk_cons ha hr) tCons_of
theorem spK_of (hlen : ∀ ds st z, cl f ds st = some z → ds.length = (dd.ps f).length) {σ : L2.St} {H : Hp} {Q : VK} (q : tE G (eCall cl f (aApp as kw)) σ H Q) : tCallK (spD G cl (dd.ps f).length f) (fun a b => a ++ b) E0 (tA G as) (tA G kw) σ H Q := by
  obtain ⟨ι, st, env, v, st', at0, e, aft⟩ := q
  obtain ⟨ds, st1, e1, e⟩ := bnd_of e
  obtain ⟨d1, st2, e2, e1⟩ := bnd_of e1
  obtain ⟨d2, st3, e3, e1⟩ := bnd_of e1
  cases e1
  exact ⟨ι, st, env, d1, st2, at0, e2, fun ι1 H1 xs p k S r => ⟨ι1, st2, env, d2, _, at0.mono p k S, e3, fun ι2 H2 ys p2 k2 S2 r2 => ⟨ι2, _, d1 ++ d2, v, st', S2, (r.mono p2 k2).append r2, hlen _ _ _ e, e, aft.mono (p.trans p2) (k.trans k2)⟩⟩⟩
theorem sim_callK (F : FnOk X.prog X.w X.K X.mg X.base CX0 k (dd.fa f) (dd.fd f) (dd.ps f) (spD G cl (dd.ps f).length f)) (hr : Room k X.A) (hg : Gl X x) (hm : X.mg x = some (.ref (dd.fa f))) (hk : PySem.W.keepIn X.K (.ref (dd.fa f)) = true) (hb : KBinds X.K (dd.fd f) (dd.ps f) ks (fun a b => a ++ b) (fun a b => a ++ b))
    (hlen : ∀ ds st z, cl f ds st = some z → ds.length = (dd.ps f).length) (ha : PA X (e :: es) (tA G as)) (hkw : PK X kws (tA G kw)) (hd : (x == ("__debug__" : Str)) = false) (hs : (e :: es).all notStar = true)
    (hall : (backToKw pos (keywordEach kws X.env)).all (·.1.isSome) = true) (hks : (backToKw pos (keywordEach kws X.env)).filterMap (·.1) = ks) (hpl : (backToKw pos (keywordEach kws X.env)).any (·.1.isNone) = false) :
    PE X (.Call (.Name x p) (e :: es) kws pos) (tE G (eCall cl f (aApp as kw))) := by
  have hs' := hs
  rw [List.all_cons, Bool.and_eq_true] at hs
  exact pe_imp (pe_callK F hr hg hm hk hb pass0 ha hkw hall hks hd (starEach_cons hs.1) (by rw [backTo_plain hs', hpl]; rfl)) fun σ H Q q => spK_of hlen q
theorem sim_callK0 (F : FnOk X.prog X.w X.K X.mg X.base CX0 k (dd.fa f) (dd.fd f) (dd.ps f) (spD G cl (dd.ps f).length f)) (hr : Room k X.A) (hg : Gl X x) (hm : X.mg x = some (.ref (dd.fa f))) (hk : PySem.W.keepIn X.K (.ref (dd.fa f)) = true) (hb : KBinds X.K (dd.fd f) (dd.ps f) ks (fun a b => a ++ b) (fun a b => a ++ b))
    (hlen : ∀ ds st z, cl f ds st = some z → ds.length = (dd.ps f).length) (hkw : PK X kws (tA G kw)) (hd : (x == ("__debug__" : Str)) = false)
    (hall : (backToKw pos (keywordEach kws X.env)).all (·.1.isSome) = true) (hks : (backToKw pos (keywordEach kws X.env)).filterMap (·.1) = ks) (hpl : (backToKw pos (keywordEach kws X.env)).any (·.1.isNone) = false) :
    PE X (.Call (.Name x p) [] kws pos) (tE G (eCall cl f (aApp aNil kw))) := by
  refine ⟨fun pins s σ H Q I h => ?_⟩
  refine wpAny_Call_Name_kw (ld_glob I hg hm ?_ hd)
  have q : tA G kw σ H fun zs H2 => spD G cl (dd.ps f).length f ([] ++ zs) H2 Q E0 := by
    obtain ⟨ι, st, env, v, st', at0, e, aft⟩ := h
    obtain ⟨ds, st1, e1, e⟩ := bnd_of e
    obtain ⟨d1, st2, e2, e1⟩ := bnd_of e1
    obtain ⟨d2, st3, e3, e1⟩ := bnd_of e1
    cases e1
    cases e2
    exact ⟨ι, st, env, d2, _, at0, e3, fun ι2 H2 ys p2 k2 S2 r2 => ⟨ι2, _, [] ++ d2, v, st', S2, r2, hlen _ _ _ e, e, aft.mono p2 k2⟩⟩
  refine PySem.W.callWith_KW0 (first := []) (h₀ := X.base) I.ok.mod.kin hk hall (thn (hkw.run pos pins s σ H _ I q) fun ws s2 ⟨zs, H2, I2, rz, q2⟩ => ⟨I2.kIn, ?_⟩) (by rw [hpl]; rfl)
  rw [hks]
  exact run_fnk (us := []) (vs := []) F hr hb pass0 I2 .nil rz q2
end
def stK (R : Cp) (sx : Sx) : List Keyword → Option (Ea × List Str)
  | [] => some (aNil, [])
  | ⟨some n, e, _⟩ :: r => match R.e sx e, stK R sx r with
    | some f, some (as, ks) => some (aCons f as, n :: ks)
    | _, _ => none
  | ⟨none, _, _⟩ :: _ => none
section
variable {cg : Cg} {T : TabI} {dd : Dd} {cl : CallT} {k : Nat} {sx : Sx} {X : Cx} {R : Cp}
theorem stK_ok (o : Ok cg T dd cl k sx X) (r : CpOk cg T dd cl k R) (pos : Pos) : ∀ {kws : List Keyword} {kw : Ea} {ks : List Str}, stK R sx kws = some (kw, ks) → PK X kws (tA (gd T X) kw) ∧ (backToKw pos (keywordEach kws X.env)).all (·.1.isSome) = true ∧ (backToKw pos (keywordEach kws X.env)).filterMap (·.1) = ks ∧ (backToKw pos (keywordEach kws X.env)).any (·.1.isNone) = false
  | [], kw, ks, h => by cases h; exact ⟨simK_nil, rfl, rfl, rfl⟩
  | ⟨none, _, _⟩ :: _, kw, ks, h => by cases h
  | ⟨some n, e, _⟩ :: kws, kw, ks, h => by
    unfold stK at h
    split at h
    · rename_i f as' ks' h1 h2
      cases h
      obtain ⟨q1, q2, q3, q4⟩ := stK_ok o r pos h2
      exact ⟨simK_cons (r.e X sx e f o h1) q1, q2, by show n :: (backToKw pos (keywordEach kws X.env)).filterMap (·.1) = _; rw [q3], q4⟩
    · cases h
end
/-! ### built-ins -/
inductive Bf where
  | len | abs | max | min | sum | all | any | sorted | isi | int | tup | lst | str
def Bf.name : Bf → Str
  | .len => "len" | .abs => "abs" | .max => "max" | .min => "min" | .sum => "sum" | .all => "all" | .any => "any" | .sorted => "sorted" | .isi => "isinstance" | .int => "int" | .tup => "tuple" | .lst => "list" | .str => "str"
def Bf.val : Bf → Value
  | .len => .builtin "len" | .abs => .builtin "abs" | .max => .builtin "max" | .min => .builtin "min" | .sum => .builtin "sum" | .all => .builtin "all" | .any => .builtin "any" | .sorted => .builtin "sorted" | .isi => .builtin "isinstance" | .int => .type "int" | .tup => .type "tuple" | .lst => .type "list" | .str => .type "str"
def Bf.fb (sub : Nat → Nat → Bool) : Bf → Fb
  | .len => fLen | .abs => fAbs | .max => fMax | .min => fMin | .sum => fSum | .all => fAll | .any => fAny | .sorted => fSorted | .isi => fIsi sub | .int => fInt | .tup => fTup | .lst => fLst | .str => fStrI
def bfs : List Bf := [.len, .isi, .tup, .lst, .int, .max, .min, .abs, .sum, .all, .any, .sorted, .str]
def bfOf (x : Str) : List Bf → Option Bf
  | [] => none
  | b :: r => if b.name = x then some b else bfOf x r
theorem bfOf_name {x : Str} {b : Bf} : ∀ {l : List Bf}, bfOf x l = some b → b.name = x
  | [], h => by cases h
  | c :: r, h => by
    unfold bfOf at h
    split at h
    · cases h
      assumption
    · exact bfOf_name h
theorem Bf.boot (b : Bf) : bootBuiltins b.name = some b.val ∧ b.name ≠ "__name__" := by
  cases b <;> exact ⟨by first | rfl | decide +kernel | kernel_rfl, by decide +kernel⟩
theorem Bf.ok {cg : Cg} {T : TabI} {dd : Dd} {cl : CallT} {k : Nat} {sx : Sx} {X : Cx} (o : Ok cg T dd cl k sx X) (b : Bf) : CallR X b.val (rB (gd T X) (b.fb cg.tb.sub)) := by
  cases b with
  | len => exact b_len
  | abs => exact b_abs
  | max => exact b_max o.g.calm
  | min => exact b_min o.g.calm
  | sum => exact b_sum o.g.calm
  | all => exact b_all o.g.calm
  | any => exact b_any o.g.calm
  | sorted => exact b_sorted
  | isi => exact b_isi o.g.cls
  | int => exact b_int
  | tup => exact b_tup
  | lst => exact b_lst
  | str => exact b_str
theorem Bf.two (b : Bf) : (∃ id, b.val = .builtin id) ∨ ∃ id, b.val = .type id := by
  cases b <;> first | exact .inl ⟨_, rfl⟩ | exact .inr ⟨_, rfl⟩
/-! ### a call of a name -/
def stCall (cg : Cg) (cl : CallT) (R : Cp) (sx : Sx) (x : Str) (args : List Expr) (kws : List Keyword) : Option Ev :=
  if ndb x && isGl sx x then match stA R sx args with
    | none => none
    | some as => match kws with
      | [] => match cg.gn.lookup x with
        | some (.df f) => some (eCall cl f as)
        | some (.cl c) => match cg.tb.ini c with
          | some (some f) => some (eMake cl c f as)
          | some none => match args with
            | [] => some (eMake0 c)
            | _ => none
          | none => none
        | some (.kd _) => none
        | some (.xc c) => match cg.xb.xi c with
          | some (some f) => match args with
            | _ :: _ => some (eMakeE cl c f as)
            | [] => none
          | some none => match args with
            | [] => some (eMakeE0 c)
            | _ => none
          | none => none
        | none => if cg.nb.contains x then match bfOf x bfs, args with
            | some b, _ :: _ => some (eBf (b.fb cg.tb.sub) as)
            | _, _ => none
          else none
      | kws => match cg.gn.lookup x with
        | some (.df f) => match stK R sx kws with
          | some (kw, ks) => if cg.kb.contains (f, ks) then some (eCall cl f (aApp as kw)) else none
          | none => none
        | some (.xc c) => match cg.xb.xi c, stK R sx kws, args with
          | some (some f), some (kw, ks), [] => if cg.xkb.contains (f, ks, false) then some (eMakeEK cl c f false kw) else if cg.xkb.contains (f, ks, true) then some (eMakeEK cl c f true kw) else none
          | _, _, _ => none
        | _ => none
  else none
section
variable {cg : Cg} {T : TabI} {dd : Dd} {cl : CallT} {k : Nat} {sx : Sx} {X : Cx} {R : Cp}
theorem stCall_ok (o : Ok cg T dd cl k sx X) (r : CpOk cg T dd cl k R) {x : Str} {args : List Expr} {kws : List Keyword} {p pos : Pos} {fv : Ev} (h : stCall cg cl R sx x args kws = some fv) : PE X (.Call (.Name x p) args kws pos) (tE (gd T X) fv) := by
  unfold stCall at h
  split at h
  · rename_i hdg
    rw [Bool.and_eq_true] at hdg
    have hd := ndb_of hdg.1
    have hg := o.gl hdg.2
    split at h
    · cases h
    · rename_i as hA
      obtain ⟨pa, ps, pn⟩ := stA_ok o r hA
      split at h
      · split at h
        · rename_i f hf
          cases h
          obtain ⟨hlt, hm, hk⟩ := o.g.gdf x f hf
          obtain ⟨F, B⟩ := o.g.fn f hlt
          cases args with
          | nil => cases pn rfl; exact sim_call0 F o.g.r1 hg hm hk B (o.g.hlen f) hd
          | cons e es => exact sim_call F o.g.r1 hg hm hk B (o.g.hlen f) pa hd ps
        · rename_i c hc
          obtain ⟨Ca, h1, h2⟩ := o.g.gcl x c hc
          split at h
          · rename_i f hi
            cases h
            obtain ⟨F, B⟩ := o.g.fn f (o.g.inf c f hi)
            have hr : Room (k + 1) X.A := o.g.room.mono (by omega)
            cases args with
            | nil => cases pn rfl; exact sim_makeN o.g.cls hi h1 F hr hg h2 B (o.g.hlen f) hd
            | cons e es => exact sim_make o.g.cls hi h1 F hr hg h2 B (o.g.hlen f) pa hd ps
          · rename_i hi
            split at h
            · cases h
              exact sim_make0 o.g.cls hi h1 hg h2 hd
            · cases h
          · cases h
        · cases h
        · rename_i c hc
          obtain ⟨Ca, h1, h2⟩ := o.g.x.gn x c hc
          split at h
          · rename_i f hi
            split at h
            · cases h
              obtain ⟨F, B⟩ := o.g.fn f (o.g.x.inf c f hi)
              exact sim_makeE o.g.x.ok hi h1 F (o.g.room.mono (by omega)) hg h2 B (o.g.hlen f) (o.g.x.pl f) pa hd ps
            · cases h
          · rename_i hi
            split at h
            · cases h
              exact sim_makeE0 o.g.x.ok hi h1 hg h2 hd
            · cases h
          · cases h
        · split at h
          · rename_i hn
            have hm := o.g.gnb x (by simpa using hn)
            split at h
            · rename_i b _ _ hb
              cases h
              have hx := bfOf_name hb
              obtain ⟨q1, q2⟩ := b.boot
              have q3 := b.ok o
              rw [hx] at q1 q2
              rcases b.two with ⟨id, e⟩ | ⟨id, e⟩
              · rw [e] at q1 q3
                exact sim_callB q3 hg hm q1 pa q2 hd ps
              · rw [e] at q1 q3
                exact sim_callTy q3 hg hm q1 pa q2 hd ps
            · cases h
          · cases h
      · split at h
        · rename_i f hf
          obtain ⟨hlt, hm, hk⟩ := o.g.gdf x f hf
          obtain ⟨F, _⟩ := o.g.fn f hlt
          split at h
          · rename_i kw ks hK
            split at h
            · rename_i hkb
              cases h
              obtain ⟨q1, q2, q3, q4⟩ := stK_ok o r pos hK
              have B := o.g.kbs f ks (by simpa using hkb)
              cases args with
              | nil => cases pn rfl; exact sim_callK0 F o.g.r1 hg hm hk B (o.g.hlen f) q1 hd q2 q3 q4
              | cons e es => exact sim_callK F o.g.r1 hg hm hk B (o.g.hlen f) pa q1 hd ps q2 q3 q4
            · cases h
          · cases h
        · rename_i c hc
          obtain ⟨Ca, h1, h2⟩ := o.g.x.gn x c hc
          split at h
          · rename_i f kw ks hi hK
            obtain ⟨q1, q2, q3, q4⟩ := stK_ok o r pos hK
            obtain ⟨F, _⟩ := o.g.fn f (o.g.x.inf c f hi)
            split at h
            · rename_i hkb
              cases h
              obtain ⟨B, L⟩ := o.g.x.kb f ks false (by simpa using hkb)
              exact sim_makeEK o.g.x.ok hi h1 F (o.g.room.mono (by omega)) hg h2 B (o.g.hlen f) L q1 hd q2 q3 q4
            · split at h
              · rename_i hkb
                cases h
                obtain ⟨B, L⟩ := o.g.x.kb f ks true (by simpa using hkb)
                exact sim_makeEK o.g.x.ok hi h1 F (o.g.room.mono (by omega)) hg h2 B (o.g.hlen f) L q1 hd q2 q3 q4
              · cases h
          · cases h
        · cases h
  · cases h
end
/-! ### isinstance of exceptions -/
def isTest (cg : Cg) (sx : Sx) (y : Str) : Option (Nat → Bool) := if ndb y && isGl sx y then match cg.gn.lookup y with
    | some (.xc c') => some fun c => cg.xb.xs c c'
    | some _ => none
    | none => if y = "ValueError" ∧ cg.nb.contains y = true then some fun _ => true else none
  else none
def stIsE (cg : Cg) (R : Cp) (sx : Sx) (x : Str) (args : List Expr) (kws : List Keyword) : Option Ev := match args, kws with
  | [a, .Name y _], [] => if x = "isinstance" ∧ (isGl sx x && cg.nb.contains x && notStar a) = true then match isTest cg sx y, R.e sx a with
      | some t, some f => some (eIsE t f)
      | _, _ => none
    else none
  | _, _ => none
section
variable {cg : Cg} {T : TabI} {dd : Dd} {cl : CallT} {k : Nat} {sx : Sx} {X : Cx} {R : Cp}
theorem stIsE_ok (o : Ok cg T dd cl k sx X) (r : CpOk cg T dd cl k R) {x : Str} {args : List Expr} {kws : List Keyword} {p pos : Pos} {fv : Ev} (h : stIsE cg R sx x args kws = some fv) : PE X (.Call (.Name x p) args kws pos) (tE (gd T X) fv) := by
  unfold stIsE at h
  split at h
  · rename_i a y py
    split at h
    · rename_i hc
      obtain ⟨rfl, hc⟩ := hc
      rw [Bool.and_eq_true, Bool.and_eq_true] at hc
      split at h
      · rename_i t f ht hf
        cases h
        have hg := o.gl hc.1.1
        have hm := o.g.gnb _ (by simpa using hc.1.2)
        unfold isTest at ht
        split at ht
        · rename_i hy
          rw [Bool.and_eq_true] at hy
          have hyd := ndb_of hy.1
          have hyg := o.gl hy.2
          split at ht
          · rename_i c' hc'
            cases ht
            obtain ⟨Ca, h1, h2⟩ := o.g.x.gn y c' hc'
            exact sim_isE (cV := .ref Ca) (cv := .ref Ca) o.g.x.ok (fun u ru => by cases ru; rfl) (fun c C0 hC0 => o.g.x.ok.isx c c' C0 Ca hC0 h1) hg hm (r.e X sx a f o hf) (pe_glob hyg h2 rfl hyd) hc.2
          · cases ht
          · split at ht
            · rename_i hv
              cases ht
              obtain ⟨rfl, hn⟩ := hv
              exact sim_isE (cV := .ty "ValueError") (cv := .type "ValueError") o.g.x.ok (fun u ru => by cases ru; rfl) (fun c C0 hC0 => o.g.x.ok.isv c C0 hC0) hg hm (r.e X sx a f o hf) (pe_bltn hyg (o.g.gnb _ (by simpa using hn)) PyProof.Rows.Boot.«ValueError» rfl (by decide) hyd) hc.2
            · cases ht
        · cases ht
      · cases h
    · cases h
  · cases h
end
/-! ### a call of a method -/
inductive Lm where
  | app | pop | ext | clr
def Lm.fm : Lm → Fm
  | .app => mApp | .pop => mPop | .ext => mExt | .clr => mClr
def lmOf (x : Str) : Option Lm := if x = "append" then some .app else if x = "pop" then some .pop else if x = "extend" then some .ext else if x = "clear" then some .clr else none
def stMeth (cg : Cg) (cl : CallT) (R : Cp) (sx : Sx) (ob : Expr) (x : Str) (args : List Expr) (apos pos : Pos) : Option Ev :=
  if plainBase ob && (apos.endLine == pos.line) && decide (args.length < 30) then match R.e sx ob, stA R sx args with
    | some fo, some as => if cg.xm.contains x then match idx x cg.an with
        | some m => some (eMethE cl cg.xb.xm fo m as)
        | none => none
      else if cg.ms.contains x then match idx x cg.an with
        | some m => some (eMeth cl cg.tb.mt fo m as)
        | none => none
      else match lmOf x with
        | some l => some (eMb l.fm fo as)
        | none => match args with
          | [a] => match R.e sx a with
            | some fa => if x = "split" then some (eSplit fo fa) else if x = "join" then some (eJoin fo fa) else none
            | none => none
          | [a, b] => match R.e sx a, R.e sx b with
            | some fa, some fb => if x = "get" then some (eGet2 fo fa fb) else none
            | _, _ => none
          | _ => none
    | _, _ => none
  else none
section
variable {cg : Cg} {T : TabI} {dd : Dd} {cl : CallT} {k : Nat} {sx : Sx} {X : Cx} {R : Cp}
theorem stMeth_ok (o : Ok cg T dd cl k sx X) (r : CpOk cg T dd cl k R) {x : Str} {ob : Expr} {args : List Expr} {apos pos : Pos} {fv : Ev} (h : stMeth cg cl R sx ob x args apos pos = some fv) : PE X (.Call (.Attribute ob x apos) args [] pos) (tE (gd T X) fv) := by
  unfold stMeth at h
  split at h
  · rename_i hc
    rw [Bool.and_eq_true, Bool.and_eq_true] at hc
    have hn : args.length < 30 := of_decide_eq_true hc.2
    split at h
    · rename_i fo as ho hA
      obtain ⟨pa, ps, pn⟩ := stA_ok o r hA
      have po := r.e X sx ob fo o ho
      split at h
      · split at h
        · rename_i m hm
          cases h
          have e := o.att hm
          subst e
          exact sim_methE o.g.cls.nm o.g.x.ok (fun c f hcf => o.g.fn f (o.g.x.mtf c m f hcf)) o.g.r1 o.g.hlen po pa hc.1.1 ps hc.1.2 hn pn
        · cases h
      split at h
      · split at h
        · rename_i m hm
          cases h
          have e := o.att hm
          subst e
          exact sim_meth o.g.cls (fun c f hcf => o.g.fn f (o.g.mtf c m f hcf)) o.g.r1 o.g.hlen po pa hc.1.1 ps hc.1.2 hn pn
        · cases h
      · split at h
        · rename_i l hl
          cases h
          unfold lmOf at hl
          repeat' (split at hl)
          all_goals first | (cases hl; done) | skip
          · rename_i e; subst e; cases hl; exact sim_lm PySem.F.slot_list_append (by first | rfl | kernel_rfl) m_app po pa hc.1.1 ps hc.1.2 hn pn
          · rename_i e; subst e; cases hl; exact sim_lm PySem.F.slot_list_pop (by first | rfl | kernel_rfl) m_pop po pa hc.1.1 ps hc.1.2 hn pn
          · rename_i e; subst e; cases hl; exact sim_lm PySem.F.slot_list_extend (by first | rfl | kernel_rfl) m_ext po pa hc.1.1 ps hc.1.2 hn pn
          · rename_i e; subst e; cases hl; exact sim_lm PySem.F.slot_list_clear (by first | rfl | kernel_rfl) m_clr po pa hc.1.1 ps hc.1.2 hn pn
        · split at h
          · rename_i a
            have hs : notStar a = true := by
              rw [List.all_cons, Bool.and_eq_true] at ps
              exact ps.1
            split at h
            · rename_i fa hfa
              have pa1 := r.e X sx a fa o hfa
              split at h
              · rename_i e
                subst e
                cases h
                exact sim_split po pa1 hs hc.1.1 hc.1.2
              · split at h
                · rename_i e
                  subst e
                  cases h
                  exact sim_join po pa1 hs hc.1.1 hc.1.2
                · cases h
            · cases h
          · rename_i a b
            rw [List.all_cons, List.all_cons, Bool.and_eq_true, Bool.and_eq_true] at ps
            split at h
            · rename_i fa fb hfa hfb
              split at h
              · rename_i e
                subst e
                cases h
                have ht : backTo pos (starEach [a, b] X.env) = [(false, eval a X.env), (false, eval b X.env)] := by
                  rw [starEach_cons ps.1, starEach_cons ps.2.1]
                  rfl
                refine sim_get2 (by have := o.g.room.units; omega) po (r.e X sx a fa o hfa) (r.e X sx b fb o hfb) ⟨base_of hc.1.1, ?_, hc.1.2, ht⟩
                rw [ht]
                rfl
              · cases h
            · cases h
          · cases h
    · cases h
  · cases h
end
end Eng
set_option Elab.async false
set_option linter.all false
set_option maxRecDepth 100000
set_option autoImplicit false
/-! E18: the translation of expressions. -/
namespace Eng
open PySem PySem.Spec PyProof.Rows L2
section
variable {cg : Cg} {T : TabI} {dd : Dd} {cl : CallT} {k : Nat} {sx : Sx} {X : Cx} {R : Cp}
def opF (cg : Cg) (cl : CallT) : CmpOp → Option F2
  | .In => some (fInO cl cg.eqm cg.nq false)
  | .NotIn => some (fInO cl cg.eqm cg.nq true)
  | op => cmpF (fEqO cl cg.eqm cg.nq) (fNeO cl cg.eqm cg.nq) op
theorem opF_ok (o : Ok cg T dd cl k sx X) {op : CmpOp} {f : F2} (h : opF cg cl op = some f) : OpR X (compareOp op) (rD (gd T X) f) := by
  unfold opF at h
  split at h
  · cases h
    exact o_inO false o.g.eq (fun c f hf => o.g.fn f (o.g.eqf c f hf)) o.g.hlen (o.g.room.mono (by omega))
  · cases h
    exact o_inO true o.g.eq (fun c f hf => o.g.fn f (o.g.eqf c f hf)) o.g.hlen (o.g.room.mono (by omega))
  · exact cmpF_ok (o_eq o.g.eq (fun c f hf => o.g.fn f (o.g.eqf c f hf)) o.g.hlen (o.g.room.mono (by omega))) (o_ne o.g.eq o.g.ne (fun c f hf => o.g.fn f (o.g.eqf c f hf)) o.g.hlen (o.g.room.mono (by omega))) (hu_of o.g.room) h
/-! ### constants -/
def stConst : Const → Option Ev
  | .int i => some (eC (.int i))
  | .bool b => some (eC (.bl b))
  | .str x => some (eC (.str x))
  | .none => some (eC .non)
  | _ => none
theorem stConst_ok {c : Const} {n : Nat} {pos : Pos} {f : Ev} (h : stConst c = some f) : PE X (.Constant c n pos) (tE (gd T X) f) := by
  cases c <;> first | (cases h; exact sim_int) | (cases h; exact sim_bl) | (cases h; exact sim_str) | (cases h; exact sim_non) | cases h
/-! ### and, or -/
def stBo (f : Ev → Ev → Ev) (R : Cp) (sx : Sx) : List Expr → Option Ev
  | [] => none
  | [a] => R.e sx a
  | a :: b :: r => match R.e sx a, stBo f R sx (b :: r) with
    | some x, some y => some (f x y)
    | _, _ => none
theorem stAnd_ok (o : Ok cg T dd cl k sx X) (r : CpOk cg T dd cl k R) {pos : Pos} : ∀ {es : List Expr} {f : Ev}, stBo eAnd R sx es = some f → PE X (.BoolOp .And es pos) (tE (gd T X) f)
  | [], f, h => by cases h
  | [a], f, h => pe_one (r.e X sx a f o h)
  | a :: b :: es, f, h => by
    unfold stBo at h
    split at h
    · rename_i x y h1 h2
      cases h
      exact sim_and (r.e X sx a x o h1) (stAnd_ok o r h2)
    · cases h
theorem stOr_ok (o : Ok cg T dd cl k sx X) (r : CpOk cg T dd cl k R) {pos : Pos} : ∀ {es : List Expr} {f : Ev}, stBo eOr R sx es = some f → PE X (.BoolOp .Or es pos) (tE (gd T X) f)
  | [], f, h => by cases h
  | [a], f, h => pe_one (r.e X sx a f o h)
  | a :: b :: es, f, h => by
    unfold stBo at h
    split at h
    · rename_i x y h1 h2
      cases h
      exact sim_or (r.e X sx a x o h1) (stOr_ok o r h2)
    · cases h
def stBt (f : Et → Et → Et) (R : Cp) (sx : Sx) : List Expr → Option Et
  | [] => none
  | [a] => R.t sx a
  | a :: b :: r => match R.t sx a, stBt f R sx (b :: r) with
    | some x, some y => some (f x y)
    | _, _ => none
theorem stAndT_ok (o : Ok cg T dd cl k sx X) (r : CpOk cg T dd cl k R) {pos : Pos} : ∀ {es : List Expr} {f : Et}, stBt tAn R sx es = some f → PW X (.BoolOp .And es pos) (tT (gd T X) f)
  | [], f, h => by cases h
  | [a], f, h => pw_and1 (r.t X sx a f o h)
  | a :: b :: es, f, h => by
    unfold stBt at h
    split at h
    · rename_i x y h1 h2
      cases h
      exact simW_and (r.t X sx a x o h1) (stAndT_ok o r h2)
    · cases h
theorem stOrT_ok (o : Ok cg T dd cl k sx X) (r : CpOk cg T dd cl k R) {pos : Pos} : ∀ {es : List Expr} {f : Et}, stBt Eng.tOr R sx es = some f → PW X (.BoolOp .Or es pos) (tT (gd T X) f)
  | [], f, h => by cases h
  | [a], f, h => pw_or1 (r.t X sx a f o h)
  | a :: b :: es, f, h => by
    unfold stBt at h
    split at h
    · rename_i x y h1 h2
      cases h
      exact simW_or (r.t X sx a x o h1) (stOrT_ok o r h2)
    · cases h
/-! ### comparisons -/
def stCmp (cg : Cg) (cl : CallT) (R : Cp) (sx : Sx) (a : Expr) : List CmpOp → List Expr → Option Ev
  | [op], [b] => if behindInMarks op b then none else match opF cg cl op, R.e sx a, R.e sx b with
    | some f, some x, some y => some (eB f x y)
    | _, _, _ => none
  | [op, op'], [b, c] => if lastMarks [op, op'] [b, c] then none else match opF cg cl op, opF cg cl op', R.e sx a, R.e sx b, R.e sx c with
    | some f, some g, some x, some y, some z => some (eCh f g x y z)
    | _, _, _, _, _ => none
  | _, _ => none
theorem stCmp_ok (o : Ok cg T dd cl k sx X) (r : CpOk cg T dd cl k R) {pos : Pos} {a : Expr} {ops : List CmpOp} {es : List Expr} {f : Ev} (h : stCmp cg cl R sx a ops es = some f) : PE X (.Compare a ops es pos) (tE (gd T X) f) ∧ PT X (.Compare a ops es pos) (tT (gd T X) (tB f)) := by
  unfold stCmp at h
  split at h
  · split at h
    · cases h
    · rename_i hm
      have hm := eq_false_of_ne_true hm
      split at h
      · rename_i f' x y h1 h2 h3
        cases h
        exact ⟨sim_cmp (opF_ok o h1) (r.e X sx _ x o h2) (r.e X sx _ y o h3) hm, simT_cmp (opF_ok o h1) (r.e X sx _ x o h2) (r.e X sx _ y o h3) hm⟩
      · cases h
  · split at h
    · cases h
    · rename_i hm
      have hm := eq_false_of_ne_true hm
      split at h
      · rename_i f' g x y z h0 h1 h2 h3 h4
        cases h
        exact ⟨sim_chain (opF_ok o h0) (opF_ok o h1) (r.e X sx _ x o h2) (r.e X sx _ y o h3) (r.e X sx _ z o h4) hm, simT_chain (opF_ok o h0) (opF_ok o h1) (r.e X sx _ x o h2) (r.e X sx _ y o h3) (r.e X sx _ z o h4) hm⟩
      · cases h
  · cases h
/-! ### subscripts -/
def stO (R : Cp) (sx : Sx) : Option Expr → Option Eo
  | none => some oNone
  | some e => match R.e sx e with
    | some f => some (oSome f)
    | none => none
theorem stO_ok (o : Ok cg T dd cl k sx X) (r : CpOk cg T dd cl k R) {oe : Option Expr} {f : Eo} (h : stO R sx oe = some f) : PO X oe (tO (gd T X) f) := by
  cases oe with
  | none => cases h; exact simO_none
  | some e =>
    unfold stO at h
    dsimp only at h
    split at h
    · rename_i g hg
      cases h
      exact simO_some (r.e X sx e g o hg)
    · cases h
def stSub (R : Cp) (sx : Sx) (a : Expr) : Expr → Option Ev
  | .Slice lo hi none _ => match R.e sx a, stO R sx lo, stO R sx hi with
    | some x, some l, some h => some (eSl x l h)
    | _, _, _ => none
  | i => if noSlice i then match R.e sx a, R.e sx i with
      | some x, some y => some (eB fIx x y)
      | _, _ => none
    else none
theorem stSub_ok (o : Ok cg T dd cl k sx X) (r : CpOk cg T dd cl k R) {pos : Pos} {a i : Expr} {f : Ev} (h : stSub R sx a i = some f) : PE X (.Subscript a i pos) (tE (gd T X) f) := by
  unfold stSub at h
  split at h
  · split at h
    · rename_i x l hh h1 h2 h3
      cases h
      exact sim_slice (r.e X sx a x o h1) (stO_ok o r h2) (stO_ok o r h3)
    · cases h
  · split at h
    · rename_i hn
      split at h
      · rename_i x y h1 h2
        cases h
        refine sim_ix (o_ix (hu_of o.g.room)) (r.e X sx a x o h1) (r.e X sx _ y o h2) ?_
        intro p q
        cases i <;> first | rfl | cases hn
      · cases h
    · cases h
/-! ### list comprehensions -/
def ownOf (N : List Str) : List (Str × NameKind) → List (Str × Nat)
  | [] => []
  | (x, kd) :: r => match kd, idx x N with
    | .local, some i => (x, i) :: ownOf N r
    | .cell, some i => (x, i) :: ownOf N r
    | _, _ => ownOf N r
def inSx (sx : Sx) (scope : Scope) : Sx := ⟨sx.N, relS scope sx.sc, fun x => scope.names.lookup x == some .cell⟩
theorem Ok.blk (o : Ok cg T dd cl k sx X) {scope : Scope} (hk : scope.kind = .function) (s : Shared) (H : Hp) (C : Addr) (cs : List (Str × Addr)) (fp : List Addr) : Ok cg T dd cl k (inSx sx scope) (X.blk s H scope (compEnvC scope cs C X.env) fp) := by
  refine ⟨⟨o.g.cls, o.g.eq, o.g.ne, o.g.nm, o.g.fn, o.g.mtf, o.g.inf, o.g.eqf, o.g.hlen, o.g.gdf, o.g.gcl, o.g.gkd, o.g.gnb, o.g.kbs, o.g.room, o.g.calm, rfl, o.g.x⟩, ⟨o.s.N, o.s.nd, ?_, hk, fun x h => h⟩⟩
  show relS scope X.env.scope = relS scope sx.sc
  rw [o.s.sc]
def stIfs (R : Cp) (sx : Sx) : List Expr → Option Et
  | [] => some tYs
  | [c] => R.t sx c
  | _ => none
def stLc (R : Cp) (sx : Sx) (elt : Expr) (gens : List Comprehension) (scope : Scope) : Option Ev := match gens with
  | [⟨tg, iter, ifs, 0⟩] => if notSet iter && blkC sx.N sx.sc scope (ownOf sx.N scope.names) then
      match R.i sx tg iter, R.g (inSx sx scope) tg, stIfs R (inSx sx scope) ifs, R.e (inSx sx scope) elt with
      | some fi, some g, some ft, some fe => if g.2.all fun j => ((ownOf sx.N scope.names).map (·.2)).contains j then some (eLc fi g.1 ft fe ((ownOf sx.N scope.names).map (·.2))) else none
      | _, _, _, _ => none
    else none
  | _ => none
theorem stIfs_ok (o : Ok cg T dd cl k sx X) (r : CpOk cg T dd cl k R) {ifs : List Expr} {f : Et} (h : stIfs R sx ifs = some f) : PTs X ifs (tT (gd T X) f) := by
  unfold stIfs at h
  split at h
  · cases h; exact simTs_nil
  · exact pts_one (r.t X sx _ f o h)
  · cases h
/-- the parts of a comprehension, for its value and for name = [..] -/
theorem stLc_parts (o : Ok cg T dd cl k sx X) (r : CpOk cg T dd cl k R) {elt : Expr} {gens : List Comprehension} {scope : Scope} {f : Ev} (h : stLc R sx elt gens scope = some f) :
    ∃ tg iter ifs fi g ws ft fe own, gens = [⟨tg, iter, ifs, 0⟩] ∧ f = eLc fi g ft fe (own.map (·.2)) ∧ PI X tg iter (tI (gd T X) fi) ∧ BlkOk X.N X.env.scope scope own ∧ notSet iter = true ∧ (∀ j ∈ ws, j ∈ own.map (·.2)) ∧
      (∀ (s : Shared) (H : Hp) (C : Addr) (cl : List (Str × Addr)) (fp : List Addr), PG (X.blk s H scope (compEnvC scope cl C X.env) fp) tg (tG (gd T X) g ws)) ∧
      (∀ (s : Shared) (H : Hp) (C : Addr) (cl : List (Str × Addr)) (fp : List Addr), PTs (X.blk s H scope (compEnvC scope cl C X.env) fp) ifs (tT (gd T X) ft)) ∧
      (∀ (s : Shared) (H : Hp) (C : Addr) (cl : List (Str × Addr)) (fp : List Addr), PE (X.blk s H scope (compEnvC scope cl C X.env) fp) elt (tE (gd T X) fe)) := by
  unfold stLc at h
  split at h
  · rename_i tg iter ifs
    split at h
    · rename_i hc
      rw [Bool.and_eq_true] at hc
      have hb := blkOk_by hc.2
      split at h
      · rename_i fi g ft fe h1 h2 h3 h4
        split at h
        · rename_i hw
          cases h
          refine ⟨tg, iter, ifs, fi, g.1, g.2, ft, fe, ownOf sx.N scope.names, rfl, rfl, r.i X sx tg iter fi o h1, by rw [o.s.N, o.s.sc]; exact hb, hc.1, fun j hj => by simpa using List.all_eq_true.mp hw j hj, ?_, ?_, ?_⟩
          · exact fun s H C cs fp => r.g _ _ _ _ (o.blk hb.kind s H C cs fp) h2
          · exact fun s H C cs fp => stIfs_ok (o.blk hb.kind s H C cs fp) r h3
          · exact fun s H C cs fp => r.e _ _ _ _ (o.blk hb.kind s H C cs fp) h4
        · cases h
      · cases h
    · cases h
  · cases h
theorem stLc_ok (o : Ok cg T dd cl k sx X) (r : CpOk cg T dd cl k R) {elt : Expr} {gens : List Comprehension} {scope : Scope} {pos : Pos} {f : Ev} (h : stLc R sx elt gens scope = some f) : PE X (.ListComp elt gens scope pos) (tE (gd T X) f) := by
  obtain ⟨tg, iter, ifs, fi, g, ws, ft, fe, own, rfl, rfl, hi, ok, hs, hw, hg, ht, he⟩ := stLc_parts o r h
  exact sim_lc o.g.calm o.nd hi ok hg ht he hs hw
/-! ### f-texts -/
def stJs (R : Cp) (sx : Sx) : List Expr → Option (List Ev)
  | [] => some []
  | e :: r => match R.e sx e, stJs R sx r with
    | some f, some fs => some (f :: fs)
    | _, _ => none
theorem stJs_ok (o : Ok cg T dd cl k sx X) (r : CpOk cg T dd cl k R) : ∀ {es : List Expr} {fs : List Ev}, stJs R sx es = some fs → PJ X es (fs.map (tE (gd T X)))
  | [], fs, h => by cases h; exact .nil
  | e :: es, fs, h => by
    unfold stJs at h
    split at h
    · rename_i f fs' h1 h2
      cases h
      exact .cons (r.e X sx e f o h1) (stJs_ok o r h2)
    · cases h
/-! ### all expressions -/
def stE (cg : Cg) (cl : CallT) (R : Cp) (sx : Sx) : Expr → Option Ev
  | .Name x _ => stName cg sx x
  | .Constant c _ _ => stConst c
  | .BinOp a op b _ => match binF op, R.e sx a, R.e sx b with
    | some f, some x, some y => some (eB f x y)
    | _, _, _ => none
  | .UnaryOp .USub a _ => match R.e sx a with
    | some x => some (eU fNeg x)
    | none => none
  | .UnaryOp .Not a _ => match R.e sx a with
    | some x => some (eNot x)
    | none => none
  | .BoolOp .And es _ => stBo eAnd R sx es
  | .BoolOp .Or es _ => stBo eOr R sx es
  | .Compare a ops es _ => stCmp cg cl R sx a ops es
  | .Call (.Name x _) args kws _ => match stIsE cg R sx x args kws with
    | some f => some f
    | none => stCall cg cl R sx x args kws
  | .Call (.Attribute ob x apos) args [] pos => stMeth cg cl R sx ob x args apos pos
  | .IfExp c a b _ => match R.t sx c, R.e sx a, R.e sx b with
    | some t, some x, some y => some (eIf t x y)
    | _, _, _ => none
  | .Tuple es _ _ => match stA R sx es with
    | some as => some (eTup as)
    | none => none
  | .List es _ => match stA R sx es with
    | some as => some (eLst as)
    | none => none
  | .Attribute ob x _ => if plainBase ob then match R.e sx ob, idx x cg.an with
      | some f, some i => if cg.xf.contains x then some (eFldE cg.xb.xk f i) else some (eFld cg.tb.fk f i)
      | _, _ => none
    else none
  | .Subscript a i _ => stSub R sx a i
  | .ListComp elt gens scope _ => stLc R sx elt gens scope
  | .Dict [] [] _ => some eDict0
  | .FormattedValue e (-1) none _ => match R.e sx e with
    | some f => some (eFmt f)
    | none => none
  | .JoinedStr (v1 :: v2 :: rest) _ => match stJs R sx (v1 :: v2 :: rest) with
    | some fs => some (jsN fs Str.empty)
    | none => none
  | _ => none
theorem stE_ok (o : Ok cg T dd cl k sx X) (r : CpOk cg T dd cl k R) {a : Expr} {f : Ev} (h : stE cg cl R sx a = some f) : PE X a (tE (gd T X) f) := by
  unfold stE at h
  split at h
  · exact stName_ok o h
  · exact stConst_ok h
  · split at h
    · rename_i f' x y h1 h2 h3
      cases h
      exact sim_bin (binF_ok h1) (r.e X sx _ x o h2) (r.e X sx _ y o h3)
    · cases h
  · split at h
    · rename_i x h1
      cases h
      exact sim_neg (r.e X sx _ x o h1)
    · cases h
  · split at h
    · rename_i x h1
      cases h
      exact sim_not (r.e X sx _ x o h1)
    · cases h
  · exact stAnd_ok o r h
  · exact stOr_ok o r h
  · exact (stCmp_ok o r h).1
  · split at h
    · rename_i f0 h0
      cases h
      exact stIsE_ok o r h0
    · exact stCall_ok o r h
  · exact stMeth_ok o r h
  · split at h
    · rename_i t x y h1 h2 h3
      cases h
      exact sim_if (r.t X sx _ t o h1) (r.e X sx _ x o h2) (r.e X sx _ y o h3)
    · cases h
  · split at h
    · rename_i as h1
      cases h
      exact sim_tup (stA_ok o r h1).1
    · cases h
  · split at h
    · rename_i as h1
      cases h
      exact sim_lst (stA_ok o r h1).1
    · cases h
  · split at h
    · rename_i hb
      split at h
      · rename_i f' i h1 h2
        have e := o.att h2
        subst e
        split at h
        · cases h
          exact sim_fldE o.g.cls.nm o.g.x.ok (r.e X sx _ f' o h1) hb
        · cases h
          exact sim_fld o.g.cls (r.e X sx _ f' o h1) hb
      · cases h
    · cases h
  · exact stSub_ok o r h
  · exact stLc_ok o r h
  · cases h; exact sim_dict0
  · split at h
    · rename_i f' h1
      cases h
      exact sim_fmt (r.e X sx _ f' o h1)
    · cases h
  · split at h
    · rename_i fs h1
      cases h
      exact sim_js (stJs_ok o r h1)
    · cases h
  · cases h
/-! ### tests -/
def stT (cg : Cg) (cl : CallT) (R : Cp) (sx : Sx) : Expr → Option Et
  | .Compare a ops es _ => match stCmp cg cl R sx a ops es with
    | some f => some (tB f)
    | none => none
  | .UnaryOp .Not a _ => match R.t sx a with
    | some f => some (tNo f)
    | none => none
  | .BoolOp .And es _ => stBt tAn R sx es
  | .BoolOp .Or es _ => stBt Eng.tOr R sx es
  | a => if plainTest a then match R.e sx a with
      | some f => some (tV f)
      | none => none
    else none
theorem stT_ok (o : Ok cg T dd cl k sx X) (r : CpOk cg T dd cl k R) {a : Expr} {f : Et} (h : stT cg cl R sx a = some f) : PT X a (tT (gd T X) f) := by
  unfold stT at h
  split at h
  · split at h
    · rename_i x h1
      cases h
      exact (stCmp_ok o r h1).2
    · cases h
  · split at h
    · rename_i x h1
      cases h
      exact simT_not (r.t X sx _ x o h1)
    · cases h
  · exact (stAndT_ok o r h).pt
  · exact (stOrT_ok o r h).pt
  · split at h
    · rename_i hp
      split at h
      · rename_i x h1
        cases h
        exact simT_val (r.e X sx _ x o h1) hp
      · cases h
    · cases h
/-! ### targets -/
def stGs (R : Cp) (sx : Sx) : List Expr → Option (Egs × List Nat)
  | [] => some (gsNil, [])
  | e :: r => if notStar e then match R.g sx e, stGs R sx r with
      | some g, some gs => some (gsCons g.1 gs.1, g.2 ++ gs.2)
      | _, _ => none
    else none
theorem stGs_ok (o : Ok cg T dd cl k sx X) (r : CpOk cg T dd cl k R) : ∀ {es : List Expr} {gs : Egs × List Nat}, stGs R sx es = some gs → PGs X es (tGs (gd T X) gs.1 gs.2) ∧ es.all notStar = true ∧ gsLen gs.1 es.length
  | [], gs, h => by cases h; exact ⟨simGs_nil, rfl, gsLen_nil⟩
  | e :: es, gs, h => by
    unfold stGs at h
    split at h
    · rename_i hs
      split at h
      · rename_i g gs' h1 h2
        cases h
        obtain ⟨q1, q2, q3⟩ := stGs_ok o r h2
        exact ⟨simGs_cons (r.g X sx e g o h1) q1 hs, by rw [List.all_cons, hs, q2]; rfl, gsLen_cons q3⟩
      · cases h
    · cases h
def stG (cg : Cg) (R : Cp) (sx : Sx) : Expr → Option (Eg × List Nat)
  | .Name x _ => if isLoc sx x then match idx x sx.N with
      | some i => some (gNm i, [i])
      | none => none
    else none
  | .Tuple es _ _ => match stGs R sx es with
    | some gs => some (gTp gs.1, gs.2)
    | none => none
  | .Subscript ob i _ => if noSlice i then match R.e sx ob, R.e sx i with
      | some fo, some fi => some (gSb fo fi fSet, [])
      | _, _ => none
    else none
  | .Attribute ob x _ => match R.e sx ob, idx x cg.an with
    | some f, some i => if cg.xf.contains x then some (gAtE cg.xb.xk f i, []) else some (gAt cg.tb.fk f i, [])
    | _, _ => none
  | _ => none
theorem stG_ok (o : Ok cg T dd cl k sx X) (r : CpOk cg T dd cl k R) {a : Expr} {f : Eg × List Nat} (h : stG cg R sx a = some f) : PG X a (tG (gd T X) f.1 f.2) := by
  unfold stG at h
  split at h
  · split at h
    · rename_i hl
      split at h
      · rename_i i hi
        cases h
        obtain ⟨q1, q2⟩ := o.loc hl
        exact simG_name o.nd (o.slot hi) q1 q2
      · cases h
    · cases h
  · split at h
    · rename_i gs h1
      cases h
      obtain ⟨q1, q2, q3⟩ := stGs_ok o r h1
      exact simG_tup o.g.calm q1 q2 q3
    · cases h
  · split at h
    · rename_i hn
      split at h
      · rename_i fo fi h1 h2
        cases h
        exact simG_sub (r.e X sx _ fo o h1) (r.e X sx _ fi o h2) (o_set (hu_of o.g.room)) hn
      · cases h
    · cases h
  · split at h
    · rename_i f' i h1 h2
      have e := o.att h2
      subst e
      split at h
      · cases h
        exact simG_attrE o.g.x.ok (r.e X sx _ f' o h1)
      · cases h
        exact simG_attr o.g.cls (r.e X sx _ f' o h1)
    · cases h
  · cases h
/-! ### what a loop runs over -/
def isTup : Expr → Bool
  | .Tuple _ _ _ => true
  | _ => false
def stI (cg : Cg) (R : Cp) (sx : Sx) (tg : Expr) : Expr → Option Ei
  | .Call (.Name x p) args [] pos =>
    if x = "range" then if isGl sx x && cg.nb.contains x && args.all notStar then match args with
        | [a] => match R.e sx a with
          | some fa => some (iRng1 fa)
          | none => none
        | [a, b] => match R.e sx a, R.e sx b with
          | some fa, some fb => some (iRng2 fa fb)
          | _, _ => none
        | [a, b, c] => match R.e sx a, R.e sx b, R.e sx c with
          | some fa, some fb, some fc => some (iRng3 fa fb fc)
          | _, _, _ => none
        | _ => none
      else none
    else if x = "enumerate" then if isTup tg && isGl sx x && cg.nb.contains x && args.all notStar then match args with
        | [a] => match R.e sx a with
          | some fa => some (iEnA fa)
          | none => none
        | _ => none
      else none
    else if x = "zip" then if isTup tg && isGl sx x && cg.nb.contains x && args.all notStar then match args with
        | [a, b] => match R.e sx a, R.e sx b with
          | some fa, some fb => some (iZp fa fb)
          | _, _ => none
        | _ => none
      else none
    else match R.e sx (.Call (.Name x p) args [] pos) with
      | some f => some (iSeq f)
      | none => none
  | a => match R.e sx a with
    | some f => some (iSeq f)
    | none => none
theorem stI_ok (o : Ok cg T dd cl k sx X) (r : CpOk cg T dd cl k R) {tg a : Expr} {f : Ei} (h : stI cg R sx tg a = some f) : PI X tg a (tI (gd T X) f) := by
  unfold stI at h
  split at h
  · split at h
    · rename_i e
      subst e
      split at h
      · rename_i hc
        rw [Bool.and_eq_true, Bool.and_eq_true] at hc
        have hg := o.gl hc.1.1
        have hm := o.g.gnb _ (by simpa using hc.1.2)
        split at h
        · have hs := hc.2
          simp only [List.all_cons, List.all_nil, Bool.and_true] at hs
          split at h
          · rename_i fa h1
            cases h
            exact simI_rng1 hg hm (r.e X sx _ fa o h1) hs
          · cases h
        · have hs := hc.2
          simp only [List.all_cons, List.all_nil, Bool.and_true, Bool.and_eq_true] at hs
          split at h
          · rename_i fa fb h1 h2
            cases h
            exact simI_rng2 hg hm (r.e X sx _ fa o h1) (r.e X sx _ fb o h2) hs.1 hs.2
          · cases h
        · have hs := hc.2
          simp only [List.all_cons, List.all_nil, Bool.and_true, Bool.and_eq_true] at hs
          split at h
          · rename_i fa fb fc h1 h2 h3
            cases h
            exact simI_rng3 hg hm (r.e X sx _ fa o h1) (r.e X sx _ fb o h2) (r.e X sx _ fc o h3) hs.1 hs.2.1 hs.2.2
          · cases h
        · cases h
      · cases h
    · split at h
      · rename_i e
        subst e
        split at h
        · rename_i hc
          rw [Bool.and_eq_true, Bool.and_eq_true, Bool.and_eq_true] at hc
          have hg := o.gl hc.1.1.2
          have hm := o.g.gnb _ (by simpa using hc.1.2)
          have ht := hc.1.1.1
          split at h
          · have hs := hc.2
            simp only [List.all_cons, List.all_nil, Bool.and_true] at hs
            split at h
            · rename_i fa h1
              cases h
              cases tg <;> first | (cases ht; done) | exact simI_enumA hg hm (r.e X sx _ fa o h1) hs
            · cases h
          · cases h
        · cases h
      · split at h
        · rename_i e
          subst e
          split at h
          · rename_i hc
            rw [Bool.and_eq_true, Bool.and_eq_true, Bool.and_eq_true] at hc
            have hg := o.gl hc.1.1.2
            have hm := o.g.gnb _ (by simpa using hc.1.2)
            have ht := hc.1.1.1
            split at h
            · have hs := hc.2
              simp only [List.all_cons, List.all_nil, Bool.and_true, Bool.and_eq_true] at hs
              split at h
              · rename_i fa fb h1 h2
                cases h
                cases tg <;> first | (cases ht; done) | exact simI_zip hg hm (r.e X sx _ fa o h1) (r.e X sx _ fb o h2) hs.1 hs.2
              · cases h
            · cases h
          · cases h
        · split at h
          · rename_i f' h1
            cases h
            exact simI_seq (r.e X sx _ f' o h1)
          · cases h
  · split at h
    · rename_i f' h1
      cases h
      exact simI_seq (r.e X sx _ f' o h1)
    · cases h
end
end Eng
set_option Elab.async false
set_option linter.all false
set_option maxRecDepth 100000
set_option autoImplicit false
/-! E19: the translation of statements, and the whole. -/
namespace Eng
open PySem PySem.Spec PyProof.Rows L2
section
variable {cg : Cg} {T : TabI} {dd : Dd} {cl : CallT} {k : Nat} {sx : Sx} {X : Cx} {R : Cp}
def stB (R : Cp) (sx : Sx) : List Stmt → Option Es
  | [] => some sNil
  | [a] => R.s sx a
  | a :: b :: r => match R.s sx a, stB R sx (b :: r) with
    | some f, some g => some (sSeq f g)
    | _, _ => none
theorem stB_ok (o : Ok cg T dd cl k sx X) (r : CpOk cg T dd cl k R) : ∀ {ss : List Stmt} {f : Es}, stB R sx ss = some f → PSs X ss (tS (gd T X) f)
  | [], f, h => by cases h; exact simSs_nil
  | [a], f, h => simSs_one (r.s X sx a f o h)
  | a :: b :: ss, f, h => by
    unfold stB at h
    split at h
    · rename_i x y h1 h2
      cases h
      exact simSs_cons (r.s X sx a x o h1) (stB_ok o r h2)
    · cases h
/-! ### assignments -/
theorem simS_asg' {G : Gd} {e tg : Expr} {fe : Ev} {pos : Pos} {g : Eg} {ws : List Nat} (he : PE X e (tE G fe)) (hg : PG X tg (tG G g ws)) (hc : swapsWith e (some tg) pos.line X.env = pure false) (hw : swappedStores [tg] e X.env = pure none) (hs : notStar tg = true) : PS X (.Assign [tg] e pos) (tS G (sAsg fe g)) :=
  ps_imp (ps_asg he hg hc hw (assignEach_cons hs)) tAsg_of
def isName : Expr → Bool
  | .Name _ _ => true
  | _ => false
def swN (sx : Sx) (line : Nat) : Expr → Option Str
  | .Name id pos => if sx.sc.names.lookup id == some .local && pos.line == line then some id else none
  | _ => none
/-- what swappedStores says -/
def swS (sx : Sx) (ts vs : List Expr) : Option (Option (List Str)) :=
  if !(ts.length == 2 || ts.length == 3) || vs.length != ts.length then some none
  else if vs.any (fun | .Starred .. => true | _ => false) then some none
  else if (ts.filterMap (swN sx ((ts.head?.map (·.pos.line)).getD 0))).length != ts.length || (ts.filterMap (swN sx ((ts.head?.map (·.pos.line)).getD 0))).eraseDups.length != (ts.filterMap (swN sx ((ts.head?.map (·.pos.line)).getD 0))).length then some none
  else if vs.all (foldedForSure 8) then some none
  else if vs.all (constantsAlone 8) then none
  else some (some (ts.filterMap (swN sx ((ts.head?.map (·.pos.line)).getD 0))))
theorem Ok.bk (o : Ok cg T dd cl k sx X) : X.env.blockKind = .function := by
  unfold Env.blockKind
  rw [o.s.sc, o.s.kind]
  rfl
theorem sw_gen {ts vs : List Expr} {z : Option (List Str)} (h : swS sx ts vs = some z) (f : Expr → Option Str) (hf : f = swN sx ((ts.head?.map (·.pos.line)).getD 0)) (u : Sem Unit) :
    (if (!(ts.length == 2 || ts.length == 3) || vs.length != ts.length || ScopeKind.function != ScopeKind.function) = true then (pure none : Sem (Option (List Str)))
      else if (vs.any (fun | .Starred .. => true | _ => false)) = true then pure none
      else if ((List.filterMap f ts).length != ts.length || (List.filterMap f ts).eraseDups.length != (List.filterMap f ts).length) = true then pure none
      else if vs.all (foldedForSure 8) = true then pure none
      else if vs.all (constantsAlone 8) = true then (do u; pure (some (List.filterMap f ts)))
      else pure (some (List.filterMap f ts))) = pure z := by
  subst hf
  unfold swS at h
  have e0 : (ScopeKind.function != ScopeKind.function) = false := rfl
  rw [e0, Bool.or_false]
  split at h
  · rename_i q; cases h; rw [if_pos q]
  · rename_i q
    rw [if_neg q]
    split at h
    · rename_i q; cases h; rw [if_pos q]
    · rename_i q
      rw [if_neg q]
      split at h
      · rename_i q; cases h; rw [if_pos q]
      · rename_i q
        rw [if_neg q]
        split at h
        · rename_i q; cases h; rw [if_pos q]
        · rename_i q
          rw [if_neg q]
          split at h
          · cases h
          · rename_i q; cases h; rw [if_neg q]
theorem swS_ok (o : Ok cg T dd cl k sx X) {ts vs : List Expr} {a b : Nat} {p q : Pos} {z : Option (List Str)} (h : swS sx ts vs = some z) : swappedStores [.Tuple ts a p] (.Tuple vs b q) X.env = pure z := by
  unfold swappedStores
  simp only [o.bk]
  refine sw_gen h _ ?_ _
  funext e
  cases e <;> first | rfl | (unfold swN Env.kindOf; rw [o.s.sc])
/-- name = [..] on one line -/
def swL (sx : Sx) (y : Str) (py : Pos) (cp : Pos) (scope : Scope) : Bool := sx.sc.names.lookup y == some .local && py.line == cp.line && !(scope.names.any fun (n, kd) => n == y && (kd == .local || kd == .cell))
theorem swL_ok (o : Ok cg T dd cl k sx X) {elt : Expr} {gens : List Comprehension} {scope : Scope} {cp py : Pos} {y : Str} {l : Nat} : swapsWith (.ListComp elt gens scope cp) (some (.Name y py)) l X.env = pure (swL sx y py cp scope) := by
  show (pure (X.env.blockKind == .function && X.env.kindOf y == some .local && py.line == cp.line && !(scope.names.any fun (n, kd) => n == y && (kd == .local || kd == .cell))) : Sem Bool) = _
  rw [o.bk]
  unfold Env.kindOf swL
  rw [o.s.sc]
  rfl
def stAsg (R : Cp) (sx : Sx) (tg e : Expr) : Option Es := match tg, e with
  | .Name y py, .ListComp elt gens scope cp => match stLc R sx elt gens scope, R.g sx (.Name y py) with
    | some f, some g => if swL sx y py cp scope then match idx y sx.N with
        | some i => some (sAsg f (gNm i))
        | none => none
      else some (sAsg f g.1)
    | _, _ => none
  | .Tuple ts _ _, .Tuple vs _ _ => match swS sx ts vs with
    | none => none
    | some none => match R.e sx e, R.g sx tg with
      | some f, some g => some (sAsg f g.1)
      | _, _ => none
    | some (some ns) => match ts, vs with
      | [.Name x _, .Name y _], [a, b] => match idx x sx.N, idx y sx.N, stA R sx [a, b] with
        | some i, some j, some as => if i ≠ j ∧ ns = [x, y] ∧ sx.sc.names.lookup x = some .local ∧ sx.sc.names.lookup y = some .local then some (sPar2 i j as) else none
        | _, _, _ => none
      | [.Name x _, .Name y _, .Name w _], [a, b, c] => match idx x sx.N, idx y sx.N, idx w sx.N, stA R sx [a, b, c] with
        | some i, some j, some l, some as => if (i ≠ j ∧ i ≠ l ∧ j ≠ l) ∧ ns = [x, y, w] ∧ sx.sc.names.lookup x = some .local ∧ sx.sc.names.lookup y = some .local ∧ sx.sc.names.lookup w = some .local then some (sPar3 i j l as) else none
        | _, _, _, _ => none
      | _, _ => none
  | tg, e => if notStar tg && !isComp e && (notTup tg || notTup e) then match R.e sx e, R.g sx tg with
      | some f, some g => some (sAsg f g.1)
      | _, _ => none
    else none
theorem stAsg_ok (o : Ok cg T dd cl k sx X) (r : CpOk cg T dd cl k R) {tg e : Expr} {pos : Pos} {f : Es} (h : stAsg R sx tg e = some f) : PS X (.Assign [tg] e pos) (tS (gd T X) f) := by
  unfold stAsg at h
  split at h
  · rename_i y py elt gens scope cp
    split at h
    · rename_i f' g h1 h2
      split at h
      · rename_i hsw
        split at h
        · rename_i i hi
          cases h
          obtain ⟨tg, iter, ifs, fi, g, ws, ft, fe, own, rfl, rfl, hi', ok, hs, hw, hg, ht, he⟩ := stLc_parts o r h1
          have hl : X.env.scope.names.lookup y = some .local := by
            unfold swL at hsw
            rw [Bool.and_eq_true, Bool.and_eq_true] at hsw
            rw [o.s.sc]
            simpa using hsw.1.1
          exact simS_setLc o.g.calm o.nd (o.slot hi) hl (by rw [swL_ok o, hsw]) hi' ok hg ht he hs hw
        · cases h
      · rename_i hsw
        cases h
        exact simS_asg' (stLc_ok o r h1) (r.g X sx _ g o h2) (by rw [swL_ok o, eq_false_of_ne_true hsw]) (swapped_no rfl) rfl
    · cases h
  · rename_i ts kt pt vs k2 pt2
    split at h
    · cases h
    · rename_i hsw
      split at h
      · rename_i f' g h1 h2
        cases h
        exact simS_asg' (r.e X sx _ f' o h1) (r.g X sx _ g o h2) rfl (swS_ok o hsw) rfl
      · cases h
    · rename_i ns hsw
      have hw := swS_ok (a := kt) (b := k2) (p := pt) (q := pt2) o hsw
      split at h
      · split at h
        · rename_i i j as h1 h2 h3
          split at h
          · rename_i hc
            cases h
            obtain ⟨c1, c2, c3, c4⟩ := hc
            subst c2
            exact simS_par2 o.g.calm o.nd (o.slot h1) (o.slot h2) c1 (by rw [o.s.sc]; exact c3) (by rw [o.s.sc]; exact c4) (stA_ok o r h3).1 hw
          · cases h
        · cases h
      · split at h
        · rename_i i j l as h1 h2 h3 h4
          split at h
          · rename_i hc
            cases h
            obtain ⟨⟨c1, c2, c3⟩, c4, c5, c6, c7⟩ := hc
            subst c4
            exact simS_par3 o.g.calm o.nd (o.slot h1) (o.slot h2) (o.slot h3) c1 c2 c3 (by rw [o.s.sc]; exact c5) (by rw [o.s.sc]; exact c6) (by rw [o.s.sc]; exact c7) (stA_ok o r h4).1 hw
          · cases h
        · cases h
      · cases h
  · split at h
    · rename_i hc
      rw [Bool.and_eq_true, Bool.and_eq_true] at hc
      split at h
      · rename_i f' g h1 h2
        cases h
        exact simS_asg (r.e X sx _ f' o h1) (r.g X sx _ g o h2) (by simpa using hc.1.2) (swapped_no hc.2) hc.1.1
      · cases h
    · cases h
/-! ### all statements -/
def stS (cg : Cg) (R : Cp) (sx : Sx) : Stmt → Option Es
  | .Return (some e) _ => match R.e sx e with
    | some f => some (sRet f)
    | none => none
  | .Return none _ => some sRetN
  | .Expr e _ => if isComp e then none else match R.e sx e with
    | some f => some (sExpr f)
    | none => none
  | .If c a b _ => match R.t sx c, stB R sx a, stB R sx b with
    | some t, some x, some y => some (sIf t x y)
    | _, _, _ => none
  | .Pass _ => some sNil
  | .Break _ => some sBrk
  | .Continue _ => some sCnt
  | .Assign [tg] e _ => stAsg R sx tg e
  | .For tg iter body [] _ => if notSet iter then match R.i sx tg iter, R.g sx tg, stB R sx body with
      | some fi, some g, some b => some (sFor fi g.1 b)
      | _, _, _ => none
    else none
  | .While c body [] _ => match R.t sx c, stB R sx body with
    | some t, some b => some (sWh t b cg.wh)
    | _, _ => none
  | _ => none
theorem stS_ok (o : Ok cg T dd cl k sx X) (r : CpOk cg T dd cl k R) {a : Stmt} {f : Es} (h : stS cg R sx a = some f) : PS X a (tS (gd T X) f) := by
  unfold stS at h
  split at h
  · split at h
    · rename_i f' h1
      cases h
      exact simS_ret (r.e X sx _ f' o h1)
    · cases h
  · cases h; exact simS_retN
  · split at h
    · cases h
    · rename_i hc
      split at h
      · rename_i f' h1
        cases h
        exact simS_expr (r.e X sx _ f' o h1) (eq_false_of_ne_true hc)
      · cases h
  · split at h
    · rename_i t x y h1 h2 h3
      cases h
      exact simS_if (r.t X sx _ t o h1) (stB_ok o r h2) (stB_ok o r h3)
    · cases h
  · cases h; exact simS_pass
  · cases h; exact simS_brk
  · cases h; exact simS_cnt
  · exact stAsg_ok o r h
  · split at h
    · rename_i hs
      split at h
      · rename_i fi g b h1 h2 h3
        cases h
        exact simS_for o.g.xe o.g.calm (r.i X sx _ _ fi o h1) (r.g X sx _ g o h2) (stB_ok o r h3) hs
      · cases h
    · cases h
  · split at h
    · rename_i t b h1 h2
      cases h
      exact simS_while o.g.xe (r.t X sx _ t o h1) (stB_ok o r h2)
    · cases h
  · cases h
/-! ### the whole -/
def orF {α : Type} (x : Option α) (d : α) : Option α := match x with
  | some a => some a
  | none => some d
theorem orF_of {α : Type} {x : Option α} {d y : α} (h : orF x d = some y) : x = some y ∨ y = d := by
  unfold orF at h
  split at h
  · exact .inl h
  · cases h; exact .inr rfl
def comp (cg : Cg) (cl : CallT) : Nat → Cp
  | 0 => Cp.nil
  | n + 1 => ⟨fun sx a => orF (stE cg cl (comp cg cl n) sx a) eFail, fun sx a => orF (stT cg cl (comp cg cl n) sx a) tFail, fun sx a => orF (stG cg (comp cg cl n) sx a) (gFail, []), fun sx tg a => orF (stI cg (comp cg cl n) sx tg a) iFail, fun sx a => orF (stS cg (comp cg cl n) sx a) sFail⟩
theorem comp_ok : ∀ n, CpOk cg T dd cl k (comp cg cl n)
  | 0 => ⟨fun _ _ _ _ _ h => (by cases h), fun _ _ _ _ _ h => (by cases h), fun _ _ _ _ _ h => (by cases h), fun _ _ _ _ _ _ h => (by cases h), fun _ _ _ _ _ h => (by cases h)⟩
  | n + 1 => by
    refine ⟨fun X sx a f o h => ?_, fun X sx a f o h => ?_, fun X sx a f o h => ?_, fun X sx tg a f o h => ?_, fun X sx a f o h => ?_⟩
    · rcases orF_of h with h | rfl
      · exact stE_ok o (comp_ok n) h
      · exact sim_fail
    · rcases orF_of h with h | rfl
      · exact stT_ok o (comp_ok n) h
      · exact simT_fail
    · rcases orF_of h with h | rfl
      · exact stG_ok o (comp_ok n) h
      · exact simG_fail
    · rcases orF_of h with h | rfl
      · exact stI_ok o (comp_ok n) h
      · exact simI_fail
    · rcases orF_of h with h | rfl
      · exact stS_ok o (comp_ok n) h
      · exact simS_fail
/-- a def's body -/
def compB (cg : Cg) (cl : CallT) (n : Nat) (N : List Str) (sc : Scope) (ss : List Stmt) : Option Es := stB (comp cg cl n) ⟨N, sc, fun _ => true⟩ ss
theorem compB_ok {n : Nat} {N : List Str} {sc : Scope} {ss : List Stmt} {f : Es} (o : Ok cg T dd cl k ⟨N, sc, fun _ => true⟩ X) (h : compB cg cl n N sc ss = some f) : PSs X ss (tS (gd T X) f) := stB_ok o (comp_ok n) h
end
end Eng
set_option Elab.async false
set_option linter.all false
set_option maxRecDepth 100000
set_option autoImplicit false
/-! E20: the defs, by the depth of calls. -/
namespace Eng
open PySem PySem.Spec PyProof.Rows L2
structure Fn where
  N : List Str
  ps : List Str
  st : Stmt
  body : CallT → Es
def finish (r : Rs Fl) : Rs D := bnd r fun fl st => match fl with
  | .rt d => some (d, st)
  | .nx _ => some (.non, st)
  | _ => none
def callAt (tbl : List Fn) : Nat → CallT
  | 0 => fun _ _ _ => none
  | n + 1 => fun f ds st => match tbl[f]? with
    | none => none
    | some F => if ds.length = F.ps.length then finish (F.body (callAt tbl n) (ds.map some ++ List.replicate (F.N.length - ds.length) none) st) else none
theorem env_start {G : Gd} {H : Hp} {ι : List Addr} {N : List Str} {ds : List D} {vs : List V} (r : RelDs G H ι ds vs) : EnvOk G H ι (ds.map some ++ List.replicate (N.length - ds.length) none) (L2.start N vs) := by
  unfold L2.start
  refine ⟨by simp [r.length], fun i d h => ?_⟩
  by_cases hi : i < ds.length
  · rw [List.getElem?_append_left (by simpa using hi), List.getElem?_map] at h
    cases q : ds[i]? with
    | none => rw [q] at h; cases h
    | some z =>
      rw [q] at h
      cases h
      obtain ⟨v, hv, rv⟩ := r.get q
      refine ⟨v, ?_, rv⟩
      rw [List.getElem?_append_left (by rw [List.length_map, ← r.length]; exact hi), List.getElem?_map, hv]
      rfl
  · rw [List.getElem?_append_right (by simpa using Nat.le_of_not_lt hi)] at h
    have := List.mem_of_getElem? h
    rw [List.mem_replicate] at this
    cases this.2
/-- what the text gives, without a place -/
structure GFix (cg : Cg) (T : TabI) (dd : Dd) (K : PySem.W.Frag) (mg : Str → Option Value) : Prop where
  cls : ClsOk K T cg.tb dd
  eq : EqOk K T cg.eqm dd
  ne : NeOk K T cg.eqm
  nm : ∀ (i : Nat) (x : Str), cg.an[i]? = some x → T.nm i = x
  mtf : ∀ c m f, cg.tb.mt c m = some f → f < cg.nfn
  inf : ∀ c f, cg.tb.ini c = some (some f) → f < cg.nfn
  eqf : ∀ c f, cg.eqm c = some f → f < cg.nfn
  gdf : ∀ x f, cg.gn.lookup x = some (.df f) → f < cg.nfn ∧ mg x = some (.ref (dd.fa f)) ∧ PySem.W.keepIn K (.ref (dd.fa f)) = true
  gcl : ∀ x c, cg.gn.lookup x = some (.cl c) → ∃ Ca, T.ca c = some Ca ∧ mg x = some (.ref Ca)
  gkd : ∀ x d, cg.gn.lookup x = some (.kd d) → ∃ v u, mg x = some u ∧ RelV v u ∧ ∀ G H ι, RelD G H ι d v
  gnb : ∀ x, x ∈ cg.nb → mg x = none
  kbs : ∀ f ks, (f, ks) ∈ cg.kb → KBinds K (dd.fd f) (dd.ps f) ks (fun a b => a ++ b) (fun a b => a ++ b)
  x : XAll cg T dd K mg
structure FunOk (cg : Cg) (dd : Dd) (K : PySem.W.Frag) (fl : Nat) (f : Nat) (F : Fn) : Prop where
  fn : ∃ x qual, Fun K x qual F.st (dd.fa f) (dd.fd f)
  sc : FnScope F.N F.ps (defScope F.st)
  ps : dd.ps f = F.ps
  bi : Binds K (dd.fd f) (dd.ps f) []
  cm : ∀ cl, compB cg cl fl F.N (defScope F.st) (defBody F.st) = some (F.body cl)
section
variable {cg : Cg} {T : TabI} {dd : Dd} {K : PySem.W.Frag} {mg : Str → Option Value} {base : Heap} {P : Program} {w : World} {tbl : List Fn} {fl : Nat}
theorem callAt_len (hF : ∀ (f : Nat) (F : Fn), tbl[f]? = some F → FunOk cg dd K fl f F) {n f : Nat} {ds : List D} {st : List O} {z : D × List O} (h : callAt tbl n f ds st = some z) : ds.length = (dd.ps f).length := by
  cases n with
  | zero => cases h
  | succ n =>
    unfold callAt at h
    split at h
    · cases h
    · rename_i F hf
      split at h
      · rename_i hl
        rw [(hF f F hf).ps]
        exact hl
      · cases h
theorem all_ok (hn : tbl.length = cg.nfn) (G : GFix cg T dd K mg) (hF : ∀ (f : Nat) (F : Fn), tbl[f]? = some F → FunOk cg dd K fl f F) : ∀ n f, f < cg.nfn → FnOk P w K mg base CX0 ((cg.nq + 2) * n) (dd.fa f) (dd.fd f) (dd.ps f) (spD ⟨K, mg, T⟩ (callAt tbl n) (dd.ps f).length f)
  | 0, f, hf => by
    refine ⟨fun vs H Q E h => ?_, fun A outer s H args us vs Q E _ _ _ _ h => ?_⟩
    · obtain ⟨ι, st, ds, d, st', S, rd, hl, hc, aft⟩ := h
      cases hc
    · obtain ⟨ι, st, ds, d, st', S, rd, hl, hc, aft⟩ := h
      cases hc
  | n + 1, f, hf => by
    have hf' : f < tbl.length := by rw [hn]; exact hf
    have hT : tbl[f]? = some tbl[f] := List.getElem?_eq_getElem hf'
    generalize tbl[f] = F at hT
    have FO := hF f F hT
    obtain ⟨x, qual, Fu⟩ := FO.fn
    have e : (cg.nq + 2) * (n + 1) = ((cg.nq + 2) * n + cg.nq + 1) + 1 := by rw [Nat.mul_add]; omega
    rw [e]
    have hps := FO.ps
    rw [hps]
    refine Fu.ok FO.sc (fun vs H Q E h => ?_) (fun cdv A outer s H vs Q E hr h => ?_)
    · obtain ⟨ι, st, ds, d, st', S, rd, hl, hc, aft⟩ := h
      rw [← rd.length]
      exact hl
    · obtain ⟨ι, st, ds, d, st', S, rd, hl, hc, aft⟩ := h
      unfold callAt at hc
      rw [hT] at hc
      dsimp only at hc
      rw [if_pos hl] at hc
      have o : Ok cg T dd (callAt tbl n) ((cg.nq + 2) * n) ⟨F.N, defScope F.st, fun _ => true⟩ (cxOf CX0 P w K mg base F.N qual (defScope F.st) (dd.fa f) cdv A outer s H E).nox := by
        refine ⟨⟨G.cls, G.eq, G.ne, G.nm, fun f' hf' => ⟨all_ok hn G hF n f' hf', ?_⟩, G.mtf, G.inf, G.eqf, fun f ds st z h => callAt_len hF h, G.gdf, G.gcl, fun x d h => ?_, G.gnb, G.kbs, hr, rfl, rfl, G.x⟩, ⟨rfl, FO.sc.nd, rfl, FO.sc.kind, fun _ _ => rfl⟩⟩
        · have h2 : f' < tbl.length := by rw [hn]; exact hf'
          exact (hF f' tbl[f'] (List.getElem?_eq_getElem h2)).bi
        · obtain ⟨v, u, h1, h2, h3⟩ := G.gkd x d h
          exact ⟨v, u, h1, h2, fun H ι => h3 _ H ι⟩
      refine ⟨_, compB_ok o (FO.cm (callAt tbl n)), ?_⟩
      obtain ⟨fl', st1, e1, e2⟩ := bnd_of hc
      refine ⟨ι, st, _, fl', st1, ⟨S, env_start rd⟩, e1, ?_⟩
      cases fl' with
      | rt d' => cases e2; exact aft
      | nx env' => cases e2; exact fun ι' H' σ' p k S' _ _ => aft ι' H' .non p k S' .non
      | bk env' => cases e2
      | ct env' => cases e2
end
end Eng
set_option Elab.async false
set_option linter.all false
set_option maxRecDepth 100000
set_option autoImplicit false
/-! E21: the tables as lists, and one check of all that the classes must be. -/
namespace Eng
open PySem PySem.Spec PyProof.Rows L2
structure Tl where
  an : List Str
  fks : List (List Nat)
  mts : List (List (Nat × Nat))
  ini : List (Option (Option Nat))
  sub : List (List Nat)
  eqs : List (Option Nat)
  xks : List (List Nat) := []
  xms : List (List (Nat × Nat)) := []
  xis : List (Option (Option Nat)) := []
  xss : List (List Nat) := []
def Tl.tb (t : Tl) : Tb := ⟨fun c i => (t.fks.getD c []).contains i, fun c m => (t.mts.getD c []).lookup m, fun c => t.ini.getD c none, fun c d => (t.sub.getD c []).contains d⟩
def Tl.eqm (t : Tl) : Nat → Option Nat := fun c => t.eqs.getD c none
def Tl.xb (t : Tl) : Xb := ⟨fun c i => (t.xks.getD c []).contains i, fun c m => (t.xms.getD c []).lookup m, fun c => t.xis.getD c none, fun c d => (t.xss.getD c []).contains d⟩
def tabOf (t : Tl) (cas : List Addr) (xas : List Addr := []) : TabI := ⟨fun c => cas[c]?, fun c => xas[c]?, fun i => t.an.getD i Str.empty, t.an.length⟩
def bts : List BT := [.int, .bool, .str, .list, .tuple, .dict, .none]
theorem bts_all (b : BT) : b ∈ bts := by cases b <;> decide
def oneChk (K : PySem.W.Frag) (t : Tl) (fas cas : List Addr) (c : Nat) (C : Addr) : Bool :=
  PySem.W.plainGet K C Str.empty && PySem.W.hasDictIn K C && PySem.W.plainOver K C && decide (PySem.W.findIn K (.ref C) "__setattr__" = some (some (.builtin "object.__setattr__"))) &&
  ((t.fks.getD c []).all fun i => decide (i < t.an.length) && decide (PySem.W.findIn K (.ref C) (t.an.getD i Str.empty) = some none)) &&
  ((t.mts.getD c []).all fun p => decide (p.1 < t.an.length) && decide (PySem.W.findIn K (.ref C) (t.an.getD p.1 Str.empty) = some (some (.ref (fas.getD p.2 0)))) && PySem.W.isFn K (.ref (fas.getD p.2 0)) && PySem.W.keepIn K (.ref (fas.getD p.2 0))) &&
  (match t.ini.getD c none with
    | none => true
    | some none => PySem.W.makesIn K C && decide (PySem.W.findIn K (.ref C) "__init__" = some (some (.builtin "object.__init__"))) && PySem.W.keepIn K (.ref C)
    | some (some f) => PySem.W.makesIn K C && decide (PySem.W.findIn K (.ref C) "__init__" = some (some (.ref (fas.getD f 0)))) && PySem.W.isFn K (.ref (fas.getD f 0)) && PySem.W.keepIn K (.ref C)) &&
  (decide (PySem.W.findIn K (.ref C) "__class__" = some (some (.builtin "object.__class__"))) && decide (PySem.W.specialIn K (.builtin "object.__class__") "__get__" = some (some (.builtin "getset_descriptor.__get__"))) &&
    decide (PySem.W.takesIn K (.builtin "object.__class__") = some true) && decide (PySem.W.mroIn K C (.type "object") = some true)) &&
  (cas.zipIdx.all fun p => decide (PySem.W.kitOne K (.ref C) (.ref p.1) = some ((t.sub.getD c []).contains p.2))) &&
  (bts.all fun b => (decide (b = .none) || decide (PySem.W.kitOne K (.ref C) (.type b.name) = some false)) && decide (PySem.W.kitOne K (.type b.name) (.ref C) = some false) && decide (PySem.W.subIn K (.ref C) (.type b.name) = some false)) &&
  (match t.eqs.getD c none with
    | none => true
    | some f => decide (PySem.W.findIn K (.ref C) "__eq__" = some (some (.ref (fas.getD f 0)))) && PySem.W.isFn K (.ref (fas.getD f 0)) && decide (PySem.W.findIn K (.ref C) "__ne__" = some (some (.builtin "object.__ne__"))) &&
      (cas.all fun D => PySem.W.notFirst K C (.ref D)) && (bts.all fun b => PySem.W.notFirst K C (.type b.name)))
def clsChk (K : PySem.W.Frag) (t : Tl) (fas cas : List Addr) : Bool := cas.zipIdx.all fun p => oneChk K t fas cas p.2 p.1
def ndChk (t : Tl) (nfn : Nat) : Bool := decide t.an.Nodup && (t.mts.all fun l => l.all fun p => decide (p.2 < nfn)) && (t.ini.all fun i => match i with | some (some f) => decide (f < nfn) | _ => true) && (t.eqs.all fun i => match i with | some f => decide (f < nfn) | none => true)
theorem mem_zip {α : Type} {l : List α} {c : Nat} {x : α} (h : l[c]? = some x) : (x, c) ∈ l.zipIdx := by
  rw [List.mem_zipIdx_iff_getElem?]
  exact h
theorem lookup_in {α β : Type} [BEq α] [LawfulBEq α] {k : α} {v : β} : ∀ {l : List (α × β)}, l.lookup k = some v → (k, v) ∈ l
  | [], h => by cases h
  | (a, b) :: r, h => by
    rw [List.lookup_cons] at h
    split at h
    · rename_i e
      cases h
      rw [beq_iff_eq] at e
      subst e
      exact List.mem_cons_self ..
    · exact List.mem_cons_of_mem _ (lookup_in h)
theorem getD_in {α : Type} {l : List α} {d x : α} {c : Nat} (h : l.getD c d = x) (hx : x ≠ d) : x ∈ l := by
  rw [List.getD_eq_getElem?_getD] at h
  cases q : l[c]? with
  | none => rw [q] at h; exact absurd h.symm hx
  | some y =>
    rw [q] at h
    have h : y = x := h
    subst h
    exact List.mem_of_getElem? q
section
variable {K : PySem.W.Frag} {t : Tl} {fas cas : List Addr} {dd : Dd}
theorem one_of {c : Nat} {C : Addr} (h : clsChk K t fas cas = true) (e : cas[c]? = some C) : oneChk K t fas cas c C = true := List.all_eq_true.mp h (C, c) (mem_zip e)
theorem clsOk_of {xas : List Addr} (h : clsChk K t fas cas = true) {nfn : Nat} (hn : ndChk t nfn = true) (hf : ∀ f, dd.fa f = fas.getD f 0) : ClsOk K (tabOf t cas xas) t.tb dd ∧ EqOk K (tabOf t cas xas) t.eqm dd ∧ NeOk K (tabOf t cas xas) t.eqm := by
  unfold ndChk at hn
  simp only [Bool.and_eq_true] at hn
  have hnd : t.an.Nodup := of_decide_eq_true hn.1.1.1
  refine ⟨⟨?_, ?_, ?_, ?_, ?_, ?_, ?_, ?_, ?_, ?_⟩, ⟨?_, ?_, ?_, ?_⟩, ⟨?_⟩⟩
  · intro i j hi hj e
    have hi : i < t.an.length := hi
    have hj : j < t.an.length := hj
    have e : t.an.getD i Str.empty = t.an.getD j Str.empty := e
    rw [List.getD_eq_getElem?_getD, List.getD_eq_getElem?_getD, List.getElem?_eq_getElem hi, List.getElem?_eq_getElem hj] at e
    have e : t.an[i] = t.an[j] := e
    exact (List.getElem_inj hnd).mp e
  · intro c C e
    have q := one_of h e
    unfold oneChk at q
    simp only [Bool.and_eq_true, decide_eq_true_eq] at q
    exact ⟨q.1.1.1.1.1.1.1.1.1.1, q.1.1.1.1.1.1.1.1.1.2, q.1.1.1.1.1.1.1.1.2, q.1.1.1.1.1.1.1.2⟩
  · intro c i C hk e
    have q := one_of h e
    unfold oneChk at q
    simp only [Bool.and_eq_true, decide_eq_true_eq] at q
    have q := List.all_eq_true.mp q.1.1.1.1.1.1.2 i (by have : (t.fks.getD c []).contains i = true := hk; simpa using this)
    simp only [Bool.and_eq_true, decide_eq_true_eq] at q
    exact ⟨q.1, q.2⟩
  · intro c m f C hk e
    have q := one_of h e
    unfold oneChk at q
    simp only [Bool.and_eq_true, decide_eq_true_eq] at q
    have q := List.all_eq_true.mp q.1.1.1.1.1.2 (m, f) (lookup_in hk)
    simp only [Bool.and_eq_true, decide_eq_true_eq] at q
    rw [hf f]
    exact ⟨q.1.1.1, q.1.1.2, q.1.2, q.2⟩
  · intro c f C hk e
    have q := one_of h e
    unfold oneChk at q
    simp only [Bool.and_eq_true, decide_eq_true_eq] at q
    have q := q.1.1.1.1.2
    have hk : t.ini.getD c none = some (some f) := hk
    rw [hk] at q
    simp only [Bool.and_eq_true, decide_eq_true_eq] at q
    rw [hf f]
    exact ⟨q.1.1.1, q.1.1.2, q.1.2, q.2⟩
  · intro c C hk e
    have q := one_of h e
    unfold oneChk at q
    simp only [Bool.and_eq_true, decide_eq_true_eq] at q
    have q := q.1.1.1.1.2
    have hk : t.ini.getD c none = some none := hk
    rw [hk] at q
    simp only [Bool.and_eq_true, decide_eq_true_eq] at q
    exact ⟨q.1.1, q.1.2, q.2⟩
  · intro c C e
    have q := one_of h e
    unfold oneChk at q
    simp only [Bool.and_eq_true, decide_eq_true_eq] at q
    have q := q.1.1.1.2
    exact ⟨q.1.1.1, q.1.1.2, q.1.2, q.2⟩
  · intro c c' C C' e e'
    have q := one_of h e
    unfold oneChk at q
    simp only [Bool.and_eq_true, decide_eq_true_eq] at q
    exact of_decide_eq_true (List.all_eq_true.mp q.1.1.2 (C', c') (mem_zip e'))
  · intro c C e b hb
    have q := one_of h e
    unfold oneChk at q
    simp only [Bool.and_eq_true, decide_eq_true_eq] at q
    have q := List.all_eq_true.mp q.1.2 b (bts_all b)
    simp only [Bool.and_eq_true, Bool.or_eq_true, decide_eq_true_eq] at q
    rcases q.1.1 with z | z
    · exact absurd z hb
    · exact z
  · intro c C e b
    have q := one_of h e
    unfold oneChk at q
    simp only [Bool.and_eq_true, decide_eq_true_eq] at q
    have q := List.all_eq_true.mp q.1.2 b (bts_all b)
    simp only [Bool.and_eq_true, Bool.or_eq_true, decide_eq_true_eq] at q
    exact q.1.2
  · intro c f C hk e
    have q := one_of h e
    unfold oneChk at q
    simp only [Bool.and_eq_true, decide_eq_true_eq] at q
    have q := q.2
    have hk : t.eqs.getD c none = some f := hk
    rw [hk] at q
    simp only [Bool.and_eq_true, decide_eq_true_eq] at q
    rw [hf f]
    exact ⟨q.1.1.1.1, q.1.1.1.2⟩
  · intro c c' C C' f hk e e'
    have q := one_of h e
    unfold oneChk at q
    simp only [Bool.and_eq_true, decide_eq_true_eq] at q
    have q := q.2
    have hk : t.eqs.getD c none = some f := hk
    rw [hk] at q
    simp only [Bool.and_eq_true, decide_eq_true_eq] at q
    exact List.all_eq_true.mp q.1.2 C' (List.mem_of_getElem? e')
  · intro c C f hk e b
    have q := one_of h e
    unfold oneChk at q
    simp only [Bool.and_eq_true, decide_eq_true_eq] at q
    have q := q.2
    have hk : t.eqs.getD c none = some f := hk
    rw [hk] at q
    simp only [Bool.and_eq_true, decide_eq_true_eq] at q
    exact List.all_eq_true.mp q.2 b (bts_all b)
  · intro c C e b
    have q := one_of h e
    unfold oneChk at q
    simp only [Bool.and_eq_true, decide_eq_true_eq] at q
    have q := List.all_eq_true.mp q.1.2 b (bts_all b)
    simp only [Bool.and_eq_true, Bool.or_eq_true, decide_eq_true_eq] at q
    exact q.2
  · intro c f C hk e
    have q := one_of h e
    unfold oneChk at q
    simp only [Bool.and_eq_true, decide_eq_true_eq] at q
    have q0 := q.1.1.1.2
    have q := q.2
    have hk : t.eqs.getD c none = some f := hk
    rw [hk] at q
    simp only [Bool.and_eq_true, decide_eq_true_eq] at q
    exact ⟨q.1.1.2, q0.2⟩
theorem nd_mt {nfn : Nat} (hn : ndChk t nfn = true) : ∀ c m f, t.tb.mt c m = some f → f < nfn := by
  intro c m f h
  unfold ndChk at hn
  simp only [Bool.and_eq_true] at hn
  have h1 := lookup_in (show (t.mts.getD c []).lookup m = some f from h)
  have h2 : t.mts.getD c [] ∈ t.mts := getD_in rfl (by intro z; rw [z] at h1; cases h1)
  exact of_decide_eq_true (List.all_eq_true.mp (List.all_eq_true.mp hn.1.1.2 _ h2) (m, f) h1)
theorem nd_in {nfn : Nat} (hn : ndChk t nfn = true) : ∀ c f, t.tb.ini c = some (some f) → f < nfn := by
  intro c f h
  unfold ndChk at hn
  simp only [Bool.and_eq_true] at hn
  have h2 := getD_in (show t.ini.getD c none = some (some f) from h) (by simp)
  have := List.all_eq_true.mp hn.1.2 _ h2
  exact of_decide_eq_true this
theorem nd_eq {nfn : Nat} (hn : ndChk t nfn = true) : ∀ c f, t.eqm c = some f → f < nfn := by
  intro c f h
  unfold ndChk at hn
  simp only [Bool.and_eq_true] at hn
  have h2 := getD_in (show t.eqs.getD c none = some f from h) (by simp)
  have := List.all_eq_true.mp hn.2 _ h2
  exact of_decide_eq_true this
end
/-! ### exception classes -/
def oexB (K : PySem.W.Frag) (C : Addr) : Bool :=
  (match K.lookup C with
    | some ⟨.type "type", _, .cls cd, sl⟩ =>
      (match cd.mro, sl.toList with
        | .ref C0 :: bm, [_, _, _, _, some (.builtin nw), _] => (C0 == C && nw == "ValueError.__new__") && (!cd.hasDel && cd.hasDict && PySem.HandSPX.refsVE bm)
        | _, _ => false)
    | _ => false) &&
  (decide (PySem.W.findIn K (.ref C) "__setattr__" = some (some (.builtin "object.__setattr__"))) && decide (PySem.W.subIn K (.ref C) (.type "BaseException") = some true) && decide (PySem.W.typeIn K (.ref C) = some (.type "type")) && PySem.W.keepIn K (.ref C))
theorem oexB_ok {K : PySem.W.Frag} {C : Addr} (h : oexB K C = true) : OexC K C := by
  unfold oexB at h
  rw [Bool.and_eq_true] at h
  obtain ⟨q, h⟩ := h
  simp only [Bool.and_eq_true, decide_eq_true_eq] at h
  refine ⟨?_, h.1.1.1, h.1.1.2, h.1.2, h.2⟩
  split at q
  · rename_i dd cd sl ho
    split at q
    · rename_i C0 bm k0 k1 k2 k3 n k5 hm hs
      simp only [Bool.and_eq_true, beq_iff_eq, Bool.not_eq_true'] at q
      obtain ⟨⟨rfl, rfl⟩, ⟨hdel, hdc⟩, hbm⟩ := q
      obtain ⟨nm, bs, mro, ns, qn, hd, sn, sub, ab, col, del⟩ := cd
      dsimp only at hm hdel hdc
      subst hm hdel hdc
      have hsl : sl = #[k0, k1, k2, k3, some (.builtin "ValueError.__new__"), k5] := by
        obtain ⟨l⟩ := sl
        dsimp only at hs
        rw [hs]
      subst hsl
      exact ⟨nm, qn, ns, bs, bm, sn, sub, ab, col, dd, k0, k1, k2, k3, k5, ho, hbm⟩
    · cases q
  · cases q
def excB (K : PySem.W.Frag) (C : Addr) : Bool :=
  (decide (PySem.W.findIn K (.ref C) "__getattribute__" = some (some (.builtin "BaseException.__getattribute__"))) && decide (PySem.W.findIn K (.ref C) "__getattr__" = some none) && decide (PySem.W.subIn K (.ref C) (.type "BaseException") = some true) && PySem.W.hasDictIn K C) &&
  (decide (PySem.W.findIn K (.ref C) "__class__" = some (some (.builtin "object.__class__"))) && decide (PySem.W.specialIn K (.builtin "object.__class__") "__get__" = some (some (.builtin "getset_descriptor.__get__"))) &&
    decide (PySem.W.takesIn K (.builtin "object.__class__") = some true) && decide (PySem.W.mroIn K C (.type "object") = some true))
theorem excB_ok {K : PySem.W.Frag} {C : Addr} (h : excB K C = true) : L2.ExcC K C := by
  unfold excB at h
  simp only [Bool.and_eq_true, decide_eq_true_eq] at h
  exact ⟨h.1.1.1.1, h.1.1.1.2, h.1.1.2, h.1.2, h.2.1.1.1, h.2.1.1.2, h.2.1.2, h.2.2⟩
def oneX (K : PySem.W.Frag) (t : Tl) (fas xas : List Addr) (c : Nat) (C : Addr) : Bool :=
  (oexB K C && excB K C) &&
  (((t.xks.getD c []).all fun i => decide (i < t.an.length) && decide (PySem.W.findIn K (.ref C) (t.an.getD i Str.empty) = some none)) &&
  ((t.xms.getD c []).all fun p => decide (p.1 < t.an.length) && decide (PySem.W.findIn K (.ref C) (t.an.getD p.1 Str.empty) = some (some (.ref (fas.getD p.2 0)))) && PySem.W.isFn K (.ref (fas.getD p.2 0)) && PySem.W.keepIn K (.ref (fas.getD p.2 0)))) &&
  (match t.xis.getD c none with
    | none => true
    | some none => PySem.W.excIn K C PySem.HandSPX.veTail "ValueError.__new__"
    | some (some f) => decide (PySem.W.findIn K (.ref C) "__init__" = some (some (.ref (fas.getD f 0)))) && decide (PySem.W.typeIn K (.ref (fas.getD f 0)) = some (.type "function"))) &&
  ((xas.zipIdx.all fun p => decide (PySem.W.kitOne K (.ref C) (.ref p.1) = some ((t.xss.getD c []).contains p.2))) && decide (PySem.W.kitOne K (.ref C) (.type "ValueError") = some true))
def xChk (K : PySem.W.Frag) (t : Tl) (fas xas : List Addr) : Bool := xas.zipIdx.all fun p => oneX K t fas xas p.2 p.1
def xnChk (t : Tl) (nfn : Nat) : Bool := (t.xms.all fun l => l.all fun p => decide (p.2 < nfn)) && (t.xis.all fun i => match i with | some (some f) => decide (f < nfn) | _ => true)
section
variable {K : PySem.W.Frag} {t : Tl} {fas cas xas : List Addr} {dd : Dd}
theorem xcOk_of (h : xChk K t fas xas = true) (hf : ∀ f, dd.fa f = fas.getD f 0) : XcOk K (tabOf t cas xas) t.xb dd := by
  have one : ∀ {c : Nat} {C : Addr}, xas[c]? = some C → oneX K t fas xas c C = true := fun {c C} e => List.all_eq_true.mp h (C, c) (mem_zip e)
  refine ⟨?_, ?_, ?_, ?_, ?_, ?_, ?_, ?_⟩
  · intro c C e
    have q := one e
    unfold oneX at q
    simp only [Bool.and_eq_true] at q
    exact oexB_ok q.1.1.1.1
  · intro c C e
    have q := one e
    unfold oneX at q
    simp only [Bool.and_eq_true] at q
    exact excB_ok q.1.1.1.2
  · intro c i C hk e
    have q := one e
    unfold oneX at q
    simp only [Bool.and_eq_true] at q
    have q := List.all_eq_true.mp q.1.1.2.1 i (by have : (t.xks.getD c []).contains i = true := hk; simpa using this)
    simp only [Bool.and_eq_true, decide_eq_true_eq] at q
    exact ⟨q.1, q.2⟩
  · intro c m f C hk e
    have q := one e
    unfold oneX at q
    simp only [Bool.and_eq_true] at q
    have q := List.all_eq_true.mp q.1.1.2.2 (m, f) (lookup_in hk)
    simp only [Bool.and_eq_true, decide_eq_true_eq] at q
    rw [hf f]
    exact ⟨q.1.1.1, q.1.1.2, q.1.2, q.2⟩
  · intro c f C hk e
    have q := one e
    unfold oneX at q
    simp only [Bool.and_eq_true] at q
    have q := q.1.2
    have hk : t.xis.getD c none = some (some f) := hk
    rw [hk] at q
    simp only [Bool.and_eq_true, decide_eq_true_eq] at q
    rw [hf f]
    exact q
  · intro c C hk e
    have q := one e
    unfold oneX at q
    simp only [Bool.and_eq_true] at q
    have q := q.1.2
    have hk : t.xis.getD c none = some none := hk
    rw [hk] at q
    exact q
  · intro c c' C C' e e'
    have q := one e
    unfold oneX at q
    simp only [Bool.and_eq_true] at q
    exact of_decide_eq_true (List.all_eq_true.mp q.2.1 (C', c') (mem_zip e'))
  · intro c C e
    have q := one e
    unfold oneX at q
    simp only [Bool.and_eq_true] at q
    exact of_decide_eq_true q.2.2
theorem xn_mt {nfn : Nat} (hn : xnChk t nfn = true) : ∀ c m f, t.xb.xm c m = some f → f < nfn := by
  intro c m f h
  unfold xnChk at hn
  rw [Bool.and_eq_true] at hn
  have h1 := lookup_in (show (t.xms.getD c []).lookup m = some f from h)
  have h2 : t.xms.getD c [] ∈ t.xms := getD_in rfl fun z => by rw [z] at h1; cases h1
  exact of_decide_eq_true (List.all_eq_true.mp (List.all_eq_true.mp hn.1 _ h2) (m, f) h1)
theorem xn_in {nfn : Nat} (hn : xnChk t nfn = true) : ∀ c f, t.xb.xi c = some (some f) → f < nfn := by
  intro c f h
  unfold xnChk at hn
  rw [Bool.and_eq_true] at hn
  have h2 := getD_in (show t.xis.getD c none = some (some f) from h) (by simp)
  exact of_decide_eq_true (List.all_eq_true.mp hn.2 _ h2)
theorem ps_small {psl : List (List Str)} (h : (psl.all fun l => decide (l.length < 100)) = true) (f : Nat) : (psl.getD f []).length < 100 := by
  rw [List.getD_eq_getElem?_getD]
  cases e : psl[f]? with
  | none => decide
  | some l => exact of_decide_eq_true (List.all_eq_true.mp h l (List.mem_of_getElem? e))
end
/-! ### the law's end -/
def spEnd (K : PySem.W.Frag) (m : Nat) : Sp := fun vs H Q _ => ∃ (a : Addr) (ns : List Int), vs = [.ref a] ∧ SqF K H a (ns.map V.int) ∧ ns.length ≤ m ∧ (∀ z ∈ ns, Builtin.Int.intBits z ≤ 1048576) ∧ ∀ H', Q (.bl true) H'
theorem rel_nums {G : Gd} {H : Hp} {ι : List Addr} : ∀ ns : List Int, RelDs G H ι (ns.map D.int) (ns.map V.int)
  | [] => .nil
  | n :: r => .cons (.int n) (rel_nums r)
theorem law_end {l : PySem.W.OpenLaw} {m n k li fl : Nat} {q : Program} {loose : List Str} {XP : (Str → Option Value) → Heap → Prop} {YP : World → Heap → Prop} {d : DefRec} {Kf : Params → PySem.W.Frag} {x : Str} {cg : Cg} {tbl : List Fn}
    (hn : l.most = some m) (hn2 : m ≤ sizeLine) (hdf : d.params.defaults = []) (hk : k = (cg.nq + 2) * n) (hr : Room k callerA) (htl : tbl.length = cg.nfn) (hli : li < cg.nfn) (hY : ∀ (w : World) (h : Heap), YP w h → (Kf w.params).In h)
    (F : ∀ (w : World) (mg : Str → Option Value) (fa : Addr) (h : Heap), (Kf w.params).In h → h.Ns mainGlobals mg → mg d.name = some (.ref fa) →
      ∃ (T : TabI) (dd : Dd), GFix cg T dd (Kf w.params) mg ∧ (∀ (f : Nat) (F : Fn), tbl[f]? = some F → FunOk cg dd (Kf w.params) fl f F) ∧ dd.fa li = fa ∧ dd.ps li = [x] ∧ ∀ (s : Shared) (u : Value), BindsTo s (dd.fd li) ⟨[u], []⟩ [(x, u)])
    (law : ∀ ns : List Int, ns.length ≤ m → (∀ z ∈ ns, Builtin.Int.intBits z ≤ 1048576) → ∃ st', callAt tbl n li [.rol (ns.map D.int)] [] = some (.bl true, st')) :
    PySem.W.WalkO q loose XP YP l.row.toRowW d [] (fun f vs => PySem.call f vs) := by
  refine L2.walk_ofB (n := m) (k := k) (x := x) (CX := fun _ => CX0) (sp := fun w => spEnd (Kf w.params) m) hn hn2 hdf hr hY (fun w mg fa h KX G hmg => ?_) (fun w H a ns hl hb hO hS => ?_) fun _ _ _ _ _ z => z
  · obtain ⟨T, dd, GF, FO, e1, e2, hb⟩ := F w mg fa h KX G hmg
    refine ⟨dd.fd li, hb, fun base _ _ => ?_⟩
    have ok := all_ok (P := l.prog) (w := w) (base := base) htl GF FO n li hli
    rw [e1, e2] at ok
    rw [hk]
    refine ok.imp fun vs H Q E h => ?_
    obtain ⟨a, ns, rfl, hS, hl, hb, hq⟩ := h
    obtain ⟨st', hc⟩ := law ns hl hb
    exact ⟨[], [], [.rol (ns.map D.int)], .bl true, st', ⟨rfl, List.nodup_nil, fun n a o h1 _ => by cases h1⟩, .cons (.rol hS (rel_nums ns)) .nil, rfl, hc, fun ι' H' x _ _ _ r => by cases r; exact hq H'⟩
  · refine ⟨a, ns, rfl, ?_, hl, hb, fun _ => rfl⟩
    rcases hS with hS | hS
    · rcases hS with hS | hS
      · rcases hO a with z | ⟨o, xs, z⟩
        · rw [z] at hS; cases hS
        · rw [z] at hS; cases hS
      · exact .inl hS
    · exact .inr hS
end Eng
set_option Elab.async false
set_option linter.all false
set_option maxRecDepth 100000
set_option autoImplicit false
/-! E22: a law of the form «for ..: body; return e», every turn from an empty store. -/
namespace Eng
open PySem PySem.Spec PyProof.Rows L2
/-- the law's slots at the start -/
def env0 (N : List Str) (ns : List Int) : Sl := some (.rol (ns.map D.int)) :: List.replicate (N.length - 1) none
theorem st_nil {G : Gd} {H : Hp} : StOk G H [] [] := ⟨rfl, List.nodup_nil, fun n a o h1 _ => by cases h1⟩
theorem rol_any {G : Gd} {H : Hp} {ι : List Addr} {ns : List Int} {x : V} (r : RelD G H ι (.rol (ns.map D.int)) x) : ∃ a, x = .ref a ∧ SqF G.K H a (ns.map V.int) := by
  cases r with
  | rol h q => exact ⟨_, rfl, by rw [← rel_ints q]; exact h⟩
/-- what a law's loop must do -/
structure LawPure (N : List Str) (m : Nat) (fi : Ei) (g : Eg) (fb : Es) (fe : Ev) : Prop where
  go : ∀ ns : List Int, ns.length ≤ m → (∀ z ∈ ns, Builtin.Int.intBits z ≤ 1048576) → ∃ src : Src, fi (env0 N ns) [] = some (src, []) ∧ src.get src.len [] = some none ∧
    (∀ i, i < src.len → ∃ d env1, src.get i [] = some (some d) ∧ g d (env0 N ns) [] = some (env1, []) ∧ ∃ fl st' env', fb env1 [] = some (fl, st') ∧ (fl = .nx env' ∨ fl = .ct env') ∧ env'[0]? = some (some (.rol (ns.map D.int)))) ∧
    ∃ st', fe (env0 N ns) [] = some (.bl true, st')
section
variable {cg : Cg} {T : TabI} {dd : Dd} {K : PySem.W.Frag} {mg : Str → Option Value} {base : Heap} {P : Program} {w : World} {tbl : List Fn} {fl : Nat}
theorem env0_ok {G : Gd} {H : Hp} {N : List Str} {ns : List Int} {σ : L2.St} {a : Addr} (hl : σ.length = (N.length - 1) + 1) (h0 : σ[0]? = some (some (.ref a))) (hS : SqF G.K H a (ns.map V.int)) : EnvOk G H [] (env0 N ns) σ := by
  refine ⟨by unfold env0; simp [hl], fun i d h => ?_⟩
  unfold env0 at h
  cases i with
  | zero => cases h; exact ⟨_, h0, .rol hS (rel_nums ns)⟩
  | succ i =>
    have := List.mem_of_getElem? (show (List.replicate (N.length - 1) (none : Option D))[i]? = some (some d) from h)
    rw [List.mem_replicate] at this
    cases this.2
theorem law_fn {n m : Nat} {xx qual x : Str} {st : Stmt} {fa : Addr} {fd : FuncData} {N : List Str} {tg iter e : Expr} {body : List Stmt} {p1 p2 : Pos} {fi : Ei} {g : Eg} {ws : List Nat} {fb : Es} {fe : Ev}
    (Fu : Fun K xx qual st fa fd) (sc : FnScope N [x] (defScope st)) (hbd : defBody st = [.For tg iter body [] p1, .Return (some e) p2]) (hs : notSet iter = true)
    (hi : (comp cg (callAt tbl n) fl).i ⟨N, defScope st, fun _ => true⟩ tg iter = some fi) (hg : (comp cg (callAt tbl n) fl).g ⟨N, defScope st, fun _ => true⟩ tg = some (g, ws)) (hb : compB cg (callAt tbl n) fl N (defScope st) body = some fb) (he : (comp cg (callAt tbl n) fl).e ⟨N, defScope st, fun _ => true⟩ e = some fe)
    (hn : tbl.length = cg.nfn) (G : GFix cg T dd K mg) (hF : ∀ (f : Nat) (F : Fn), tbl[f]? = some F → FunOk cg dd K fl f F) (law : LawPure N m fi g fb fe) :
    FnOk P w K mg base CX0 ((cg.nq + 2) * n + cg.nq + 2) fa fd [x] (spEnd K m) := by
  refine Fu.ok sc (fun vs H Q E h => ?_) (fun cdv A outer s H vs Q E hr h => ?_)
  · obtain ⟨a, ns, rfl, _⟩ := h
    rfl
  · obtain ⟨a, ns, rfl, hS, hl, hbt, hq⟩ := h
    obtain ⟨src, e1, e2, e3, st9, e4⟩ := law.go ns hl hbt
    have o : Ok cg T dd (callAt tbl n) ((cg.nq + 2) * n) ⟨N, defScope st, fun _ => true⟩ (cxOf CX0 P w K mg base N qual (defScope st) fa cdv A outer s H E).nox := by
      refine ⟨⟨G.cls, G.eq, G.ne, G.nm, fun f' hf' => ⟨all_ok hn G hF n f' hf', ?_⟩, G.mtf, G.inf, G.eqf, fun f ds st z h => callAt_len hF h, G.gdf, G.gcl, fun x d h => ?_, G.gnb, G.kbs, hr, rfl, rfl, G.x⟩, ⟨rfl, sc.nd, rfl, sc.kind, fun _ _ => rfl⟩⟩
      · have h2 : f' < tbl.length := by rw [hn]; exact hf'
        exact (hF f' tbl[f'] (List.getElem?_eq_getElem h2)).bi
      · obtain ⟨v, u, h1, h2, h3⟩ := G.gkd x d h
        exact ⟨v, u, h1, h2, fun H ι => h3 _ H ι⟩
    have R := comp_ok (T := T) (dd := dd) (cg := cg) (cl := callAt tbl n) (k := (cg.nq + 2) * n) fl
    rw [hbd]
    refine ⟨_, pss_cons (ps_for (by rw [o.g.xe]; exact PassesOwn.never) o.g.calm (R.i _ _ _ _ _ o hi) (R.g _ _ _ _ o hg) (compB_ok o hb) (folded_no hs)) (pss_one (simS_ret (R.e _ _ _ _ o he))), ?_⟩
    have hNl : N.length = (N.length - 1) + 1 := by
      have := congrArg List.length sc.pre
      simp at this
      omega
    have sl : (L2.start N [.ref a]).length = (N.length - 1) + 1 := by unfold L2.start; simp
    have EO := env0_ok (G := gd T (cxOf CX0 P w K mg base N qual (defScope st) fa cdv A outer s H E).nox) (N := N) sl (by unfold L2.start; rfl) hS
    refine ⟨[], [], env0 N ns, src, [], ⟨st_nil, EO⟩, e1, fun ι1 H1 J p k S sim => ?_⟩
    have z1 : ι1 = [] := by have := S.len; simpa using this
    subst z1
    have hS1 : SqF K H1 a (ns.map V.int) := k.rol a _ hS
    refine ⟨fun i m σ2 H2 => σ2.length = (N.length - 1) + 1 ∧ (∃ a, σ2[0]? = some (some (.ref a)) ∧ SqF K H2 a (ns.map V.int)) ∧ i + m = src.len ∧ Keep K H1 H2, ⟨src.len, sl, ⟨a, by unfold L2.start; rfl, hS1⟩, Nat.zero_add _, Keep.refl⟩, ?_⟩
    rintro i m σ2 H2 ⟨hl2, ⟨a2, h02, hS2⟩, hm, k2⟩
    have EO2 := env0_ok (G := gd T (cxOf CX0 P w K mg base N qual (defScope st) fa cdv A outer s H E).nox) (N := N) hl2 h02 hS2
    obtain ⟨sg, ss⟩ := sim i [] H2 [] List.prefix_rfl k2 st_nil
    cases m with
    | zero =>
      have hi : i = src.len := hm
      subst hi
      refine .inl ⟨ss e2, ?_⟩
      exact ⟨[], [], env0 N ns, .rt (.bl true), st9, ⟨st_nil, EO2⟩, by show bnd (fe (env0 N ns) []) _ = _; rw [e4]; rfl, fun ι' H' x _ _ _ r => by cases r; exact hq H'⟩
    | succ m =>
      obtain ⟨d, env1, q1, q2, fl4, st4, env4, q3, q4, q5⟩ := e3 i (by omega)
      obtain ⟨go, yl⟩ := sg d q1
      refine .inr ⟨go, fun σ' H' => σ'.length = (N.length - 1) + 1 ∧ (∃ a, σ'[0]? = some (some (.ref a)) ∧ SqF K H' a (ns.map V.int)) ∧ (i + 1) + m = src.len ∧ Keep K H1 H', fun σ' H' w => ⟨m, Nat.lt_succ_self m, w⟩, fun x H' y => ?_⟩
      obtain ⟨k3, S3, r3⟩ := yl x H' y
      refine ⟨[], [], env0 N ns, d, env1, [], ⟨S3, EO2.mono List.prefix_rfl k3⟩, r3, q2, fun ι4 H4 σ4 p4 k4 S4 E4 kp => ?_⟩
      have z4 : ι4 = [] := by have := S4.len; simpa using this
      subst z4
      have hl4 : σ4.length = (N.length - 1) + 1 := kp.1.trans hl2
      refine ⟨[], [], env1, fl4, st4, ⟨S4, E4⟩, q3, ?_⟩
      rw [hl4]
      have fin : ∀ ι5 H5 σ5, Keep K H4 H5 → EnvOk (gd T (cxOf CX0 P w K mg base N qual (defScope st) fa cdv A outer s H E).nox) H5 ι5 env4 σ5 → σ5.length = (N.length - 1) + 1 → σ5.length = (N.length - 1) + 1 ∧ (∃ a, σ5[0]? = some (some (.ref a)) ∧ SqF K H5 a (ns.map V.int)) ∧ (i + 1) + m = src.len ∧ Keep K H1 H5 := by
        intro ι5 H5 σ5 k5 E5 l5
        obtain ⟨x, hx, rx⟩ := E5.get 0 _ q5
        obtain ⟨a5, rfl, h5⟩ := rol_any rx
        exact ⟨l5, ⟨a5, hx, h5⟩, by omega, k2.trans (k3.trans (k4.trans k5))⟩
      rcases q4 with rfl | rfl
      · exact fun ι5 H5 σ5 p5 k5 S5 E5 l5 => fin ι5 H5 σ5 k5 E5 l5
      · exact fun ι5 H5 σ5 p5 k5 S5 E5 l5 => fin ι5 H5 σ5 k5 E5 l5
end
theorem law_walk {l : PySem.W.OpenLaw} {m n k fl : Nat} {q : Program} {loose : List Str} {XP : (Str → Option Value) → Heap → Prop} {YP : World → Heap → Prop} {d : DefRec} {Kf : Params → PySem.W.Frag} {cg : Cg} {tbl : List Fn}
    {xx qual x : Str} {st : Stmt} {N : List Str} {tg iter e : Expr} {body : List Stmt} {p1 p2 : Pos} {fi : Ei} {g : Eg} {ws : List Nat} {fb : Es} {fe : Ev}
    (hn : l.most = some m) (hn2 : m ≤ sizeLine) (hdf : d.params.defaults = []) (hk : k = (cg.nq + 2) * n + cg.nq + 2) (hr : Room k callerA) (htl : tbl.length = cg.nfn) (hY : ∀ (w : World) (h : Heap), YP w h → (Kf w.params).In h)
    (sc : FnScope N [x] (defScope st)) (hbd : defBody st = [.For tg iter body [] p1, .Return (some e) p2]) (hs : notSet iter = true)
    (hi : (comp cg (callAt tbl n) fl).i ⟨N, defScope st, fun _ => true⟩ tg iter = some fi) (hg : (comp cg (callAt tbl n) fl).g ⟨N, defScope st, fun _ => true⟩ tg = some (g, ws)) (hb : compB cg (callAt tbl n) fl N (defScope st) body = some fb) (he : (comp cg (callAt tbl n) fl).e ⟨N, defScope st, fun _ => true⟩ e = some fe)
    (law : LawPure N m fi g fb fe)
    (F : ∀ (w : World) (mg : Str → Option Value) (fa : Addr) (h : Heap), (Kf w.params).In h → h.Ns mainGlobals mg → mg d.name = some (.ref fa) →
      ∃ (T : TabI) (dd : Dd) (fd : FuncData), GFix cg T dd (Kf w.params) mg ∧ (∀ (f : Nat) (F : Fn), tbl[f]? = some F → FunOk cg dd (Kf w.params) fl f F) ∧ Fun (Kf w.params) xx qual st fa fd ∧ ∀ (s : Shared) (u : Value), BindsTo s fd ⟨[u], []⟩ [(x, u)]) :
    PySem.W.WalkO q loose XP YP l.row.toRowW d [] (fun f vs => PySem.call f vs) := by
  refine L2.walk_ofB (n := m) (k := k) (x := x) (CX := fun _ => CX0) (sp := fun w => spEnd (Kf w.params) m) hn hn2 hdf hr hY (fun w mg fa h KX G hmg => ?_) (fun w H a ns hl hb hO hS => ?_) fun _ _ _ _ _ z => z
  · obtain ⟨T, dd, fd, GF, FO, Fu, hbi⟩ := F w mg fa h KX G hmg
    refine ⟨fd, hbi, fun base _ _ => ?_⟩
    rw [hk]
    exact law_fn Fu sc hbd hs hi hg hb he htl GF FO law
  · refine ⟨a, ns, rfl, ?_, hl, hb, fun _ => rfl⟩
    rcases hS with hS | hS
    · rcases hS with hS | hS
      · rcases hO a with z | ⟨o, xs, z⟩
        · rw [z] at hS; cases hS
        · rw [z] at hS; cases hS
      · exact .inl hS
    · exact .inr hS
end Eng
set_option Elab.async false
set_option linter.all false
set_option maxRecDepth 100000
set_option autoImplicit false
/-! E23: reading evaluators: what is wanted of a result. -/
namespace Eng
open PySem PySem.Spec PyProof.Rows L2
/-- a result with what is wanted of it -/
def W {α : Type} (r : Rs α) (Q : α → List O → Prop) : Prop := ∃ a st, r = some (a, st) ∧ Q a st
@[simp] theorem W_some {α : Type} {a : α} {st : List O} {Q : α → List O → Prop} : W (some (a, st)) Q ↔ Q a st := by
  unfold W
  constructor
  · rintro ⟨b, s, e, q⟩; cases e; exact q
  · intro q; exact ⟨a, st, rfl, q⟩
@[simp] theorem W_bnd {α β : Type} {r : Rs α} {f : α → List O → Rs β} {Q : β → List O → Prop} : W (bnd r f) Q ↔ W r fun a st => W (f a st) Q := by
  unfold W
  constructor
  · rintro ⟨b, s, e, q⟩
    obtain ⟨a, s1, e1, e2⟩ := bnd_of e
    exact ⟨a, s1, e1, b, s, e2, q⟩
  · rintro ⟨a, s1, e1, b, s, e2, q⟩
    exact ⟨b, s, by rw [e1]; exact e2, q⟩
theorem W.mono {α : Type} {r : Rs α} {Q Q' : α → List O → Prop} (h : W r Q) (i : ∀ a st, Q a st → Q' a st) : W r Q' := by
  obtain ⟨a, st, e, q⟩ := h
  exact ⟨a, st, e, i a st q⟩
theorem mulOk_r {i j : Int} (h : j.natAbs < 2 ^ 64) : mulOk i j = true := by
  unfold mulOk
  simp only [Bool.or_eq_true, decide_eq_true_eq]
  exact .inl (.inr h)
theorem mulOk_l {i j : Int} (h : i.natAbs < 2 ^ 64) : mulOk i j = true := by
  unfold mulOk
  simp only [Bool.or_eq_true, decide_eq_true_eq]
  exact .inl (.inl h)
theorem callW {tbl : List Fn} {n f : Nat} {F : Fn} {ds : List D} {st : List O} {Q : D → List O → Prop} (hF : tbl[f]? = some F) (hl : ds.length = F.ps.length) (h : W (finish (F.body (callAt tbl n) (ds.map some ++ List.replicate (F.N.length - ds.length) none) st)) Q) : W (callAt tbl (n + 1) f ds st) Q := by
  unfold callAt
  rw [hF]
  dsimp only
  rw [if_pos hl]
  exact h
section
variable {f g : F2} {a b c : Ev} {as kw : Ea} {t u : Et} {env : Sl} {st : List O} {i j n m : Nat} {d : D} {sa sb : Es} {eg : Eg} {cl : CallT} {xs : List D} {p q : Int}
@[simp] theorem eq_eB : eB f a b env st = bnd (a env st) fun x st => bnd (b env st) fun y st => f x y st := rfl
@[simp] theorem eq_eSlot : eSlot i env st = (match env[i]? with | some (some d) => some (d, st) | _ => none) := rfl
@[simp] theorem eq_eC : eC d env st = some (d, st) := rfl
@[simp] theorem eq_eU {f1 : D → List O → Rs D} : eU f1 a env st = bnd (a env st) fun x st => f1 x st := rfl
@[simp] theorem eq_aNil : aNil env st = some ([], st) := rfl
@[simp] theorem eq_aCons : aCons a as env st = bnd (a env st) fun x st => bnd (as env st) fun xs st => some (x :: xs, st) := rfl
@[simp] theorem eq_aApp : aApp as kw env st = bnd (as env st) fun xs st => bnd (kw env st) fun ys st => some (xs ++ ys, st) := rfl
@[simp] theorem eq_eTup : eTup as env st = bnd (as env st) fun xs st => if xs.length ≤ sizeLine then some (.tup xs, st) else none := rfl
@[simp] theorem eq_eLst : eLst as env st = bnd (as env st) fun xs st => if xs.length ≤ sizeLine then some (.ref st.length, st ++ [.lst xs]) else none := rfl
@[simp] theorem eq_eBf {fb : Fb} : eBf fb as env st = bnd (as env st) fun ds st => fb ds st := rfl
@[simp] theorem eq_eCall : eCall cl n as env st = bnd (as env st) fun ds st => cl n ds st := rfl
@[simp] theorem eq_eIf : eIf t a b env st = bnd (t env st) fun k st => (match k with | true => a env st | false => b env st) := rfl
@[simp] theorem eq_tB : tB a env st = bnd (a env st) fun d st => (match d with | .bl b => some (b, st) | _ => none) := rfl
@[simp] theorem eq_tV : tV a env st = bnd (a env st) fun d st => (match truth st d with | some b => some (b, st) | none => none) := rfl
@[simp] theorem eq_tNo : tNo t env st = bnd (t env st) fun b st => some (!b, st) := rfl
@[simp] theorem eq_tAn : tAn t u env st = bnd (t env st) fun b st => (match b with | true => u env st | false => some (false, st)) := rfl
@[simp] theorem eq_tOr : Eng.tOr t u env st = bnd (t env st) fun b st => (match b with | true => some (true, st) | false => u env st) := rfl
@[simp] theorem eq_tYs : tYs env st = some (true, st) := rfl
@[simp] theorem eq_sNil : sNil env st = some (.nx env, st) := rfl
@[simp] theorem eq_sSeq : sSeq sa sb env st = bnd (sa env st) fun fl st => (match fl with | .nx env => sb env st | f => some (f, st)) := rfl
@[simp] theorem eq_sRet : sRet a env st = bnd (a env st) fun d st => some (.rt d, st) := rfl
@[simp] theorem eq_sExpr : sExpr a env st = bnd (a env st) fun _ st => some (.nx env, st) := rfl
@[simp] theorem eq_sIf : sIf t sa sb env st = bnd (t env st) fun k st => (match k with | true => sa env st | false => sb env st) := rfl
@[simp] theorem eq_sAsg : sAsg a eg env st = bnd (a env st) fun d st => bnd (eg d env st) fun env st => some (.nx env, st) := rfl
@[simp] theorem eq_gNm : gNm i d env st = some (env.set i (some d), st) := rfl
@[simp] theorem eq_gSb {f3 : F3} : gSb a b f3 d env st = bnd (a env st) fun o st => bnd (b env st) fun j st => (match f3 o j d st with | some st => some (env, st) | none => none) := rfl
@[simp] theorem eq_sPar2 : sPar2 i j as env st = bnd (as env st) fun ds st => (match ds with | [x, y] => some (.nx ((env.set i (some x)).set j (some y)), st) | _ => none) := rfl
@[simp] theorem eq_sPar3 : sPar3 i j n as env st = bnd (as env st) fun ds st => (match ds with | [x, y, z] => some (.nx (((env.set i (some x)).set j (some y)).set n (some z)), st) | _ => none) := rfl
@[simp] theorem eq_eMb {fm : Fm} : eMb fm a as env st = bnd (a env st) fun x st => (match lstOf st x with | some _ => bnd (as env st) fun ds st => fm x ds st | none => none) := rfl
@[simp] theorem eq_finish_rt : finish (some (.rt d, st)) = some (d, st) := rfl
theorem W_finish {r : Rs Fl} {Q : D → List O → Prop} (h : W r fun fl st => match fl with | .rt d => Q d st | .nx _ => Q .non st | _ => False) : W (finish r) Q := by
  obtain ⟨fl, st, rfl, q⟩ := h
  cases fl with
  | rt d => exact ⟨d, st, rfl, q⟩
  | nx e => exact ⟨.non, st, rfl, q⟩
  | bk e => exact q.elim
  | ct e => exact q.elim
@[simp] theorem fAdd_int : fAdd (.int p) (.int q) st = some (.int (p + q), st) := rfl
@[simp] theorem fSub_int : fSub (.int p) (.int q) st = some (.int (p - q), st) := rfl
@[simp] theorem fMul_int (h : mulOk p q = true) : fMul (.int p) (.int q) st = some (.int (p * q), st) := by
  unfold fMul; simp [h]
@[simp] theorem fMod_int (h : 0 < q) : fMod (.int p) (.int q) st = some (.int (p % q), st) := by
  unfold fMod; simp [h]
theorem log2_small {q : Int} (h : q.natAbs < 2 ^ 64) : q.natAbs.log2 < 9000 := by
  by_cases z : q.natAbs = 0
  · rw [z]; decide
  · have := (Nat.log2_lt z).mpr h
    omega
@[simp] theorem fDiv_int (h : 0 < q) (h2 : q.natAbs < 2 ^ 64) : fDiv (.int p) (.int q) st = some (.int (p / q), st) := by
  unfold fDiv; simp [h, log2_small h2]
@[simp] theorem fPow_int {k : Nat} (h : k ≤ 1000000) (h2 : p.natAbs < 2 ^ 64) : fPow (.int p) (.int k) st = some (.int (p ^ k), st) := by
  unfold fPow
  dsimp only
  rw [if_pos ⟨by omega, by omega, h2⟩]
  rfl
@[simp] theorem fInt_int : fInt [.int p] st = some (.int p, st) := rfl
@[simp] theorem fNeg_int : fNeg (.int p) st = some (.int (-p), st) := rfl
@[simp] theorem fLt_int : fLt (.int p) (.int q) st = some (.bl (decide (p < q)), st) := rfl
@[simp] theorem fLe_int : fLe (.int p) (.int q) st = some (.bl (decide (p ≤ q)), st) := rfl
@[simp] theorem fGt_int : fGt (.int p) (.int q) st = some (.bl (decide (q < p)), st) := rfl
@[simp] theorem fGe_int : fGe (.int p) (.int q) st = some (.bl (decide (q ≤ p)), st) := rfl
@[simp] theorem truth_bl {b : Bool} : truth st (.bl b) = some b := rfl
theorem fIx_lst {k : Int} (h : st[n]? = some (.lst xs)) : fIx (.ref n) (.int k) st = (match atI xs k with | some d => some (d, st) | none => none) := by
  unfold fIx; simp [h] <;> rfl
@[simp] theorem fIx_rol {k : Int} : fIx (.rol xs) (.int k) st = (match atI xs k with | some d => some (d, st) | none => none) := rfl
@[simp] theorem fIx_tup {k : Int} : fIx (.tup xs) (.int k) st = (match atI xs k with | some d => some (d, st) | none => none) := rfl
theorem fSet_lst {k : Int} (h : st[n]? = some (.lst xs)) : fSet (.ref n) (.int k) d st = (match ixN xs.length k with | some j => some (st.set n (.lst (xs.set j d))) | none => none) := by
  unfold fSet; simp [h] <;> rfl
theorem fTup_lst (h : st[n]? = some (.lst xs)) : fTup [.ref n] st = some (.tup xs, st) := by
  unfold fTup; simp [lstOf, h]
@[simp] theorem fTup_tup : fTup [.tup xs] st = some (.tup xs, st) := rfl
theorem fLst_lst (h : st[n]? = some (.lst xs)) : fLst [.ref n] st = some (.ref st.length, st ++ [.lst xs]) := by
  unfold fLst; simp [seqOf, lstOf, h]
@[simp] theorem fLst_tup : fLst [.tup xs] st = some (.ref st.length, st ++ [.lst xs]) := rfl
theorem fLen_lst (h : st[n]? = some (.lst xs)) : fLen [.ref n] st = some (.int xs.length, st) := by
  unfold fLen; simp [h]
@[simp] theorem fLen_rol : fLen [.rol xs] st = some (.int xs.length, st) := rfl
@[simp] theorem fLen_tup : fLen [.tup xs] st = some (.int xs.length, st) := rfl
@[simp] theorem fMax_int : fMax [.int p, .int q] st = some (.int (if q > p then q else p), st) := rfl
@[simp] theorem fMin_int : fMin [.int p, .int q] st = some (.int (if q < p then q else p), st) := rfl
theorem mApp_lst (h : st[n]? = some (.lst xs)) (hl : xs.length < sizeLine) : mApp (.ref n) [d] st = some (.non, st.set n (.lst (xs ++ [d]))) := by
  unfold mApp; simp [h, hl]
theorem lstOf_lst (h : st[n]? = some (.lst xs)) : lstOf st (.ref n) = some xs := by
  unfold lstOf; simp [h]
end
/-! ### loops -/
theorem forN_ind {src : Src} {g : Eg} {b : Es} (I : Nat → Sl → List O → Prop) (Q : Fl → List O → Prop) (hstop : ∀ env st, I src.len env st → src.get src.len st = some none ∧ Q (.nx env) st)
    (hstep : ∀ i env st, i < src.len → I i env st → ∃ d, src.get i st = some (some d) ∧ W (g d env st) fun env st => W (b env st) fun fl st => match fl with
      | .nx env => I (i + 1) env st
      | .ct env => I (i + 1) env st
      | .bk env => Q (.nx env) st
      | .rt d => Q (.rt d) st) : ∀ k i env st, i + k = src.len → I i env st → W (forN src g b k i env st) Q
  | 0, i, env, st, e, h => by
    have e : i = src.len := e
    subst e
    obtain ⟨h1, h2⟩ := hstop env st h
    unfold forN
    rw [h1]
    exact ⟨_, _, rfl, h2⟩
  | k + 1, i, env, st, e, h => by
    obtain ⟨d, h1, env1, st1, h2, fl, st2, h3, h4⟩ := hstep i env st (by omega) h
    unfold forN
    rw [h1]
    dsimp only
    rw [h2, bnd_some, h3, bnd_some]
    cases fl with
    | nx env => exact forN_ind I Q hstop hstep k (i + 1) env st2 (by omega) h4
    | ct env => exact forN_ind I Q hstop hstep k (i + 1) env st2 (by omega) h4
    | bk env => exact ⟨_, _, rfl, h4⟩
    | rt d => exact ⟨_, _, rfl, h4⟩
theorem W_for {it : Ei} {g : Eg} {b : Es} {env : Sl} {st : List O} {Q : Fl → List O → Prop} (h : W (it env st) fun src st => W (forN src g b src.len 0 env st) Q) : W (sFor it g b env st) Q := by
  unfold sFor
  rw [W_bnd]
  exact h
theorem lcN_ind {src : Src} {g : Eg} {t : Et} {e : Ev} {L : Nat} {env0 : Sl} (I : Nat → List D → List O → Prop) (Q : List O → Prop) (hstop : ∀ acc st, I src.len acc st → src.get src.len st = some none ∧ (st[L]? = some (.lst acc) → Q st))
    (hacc : ∀ i acc st, I i acc st → st[L]? = some (.lst acc) ∧ acc.length < sizeLine)
    (hstep : ∀ i acc st, i < src.len → I i acc st → ∃ d, src.get i st = some (some d) ∧ W (g d env0 st) fun env st => W (t env st) fun b st => match b with
      | true => W (e env st) fun x st => st[L]? = some (.lst acc) ∧ I (i + 1) (acc ++ [x]) (st.set L (.lst (acc ++ [x])))
      | false => I (i + 1) acc st) : ∀ k i acc st, i + k = src.len → I i acc st → ∃ st', lcN src g t e L env0 k i st = some st' ∧ Q st'
  | 0, i, acc, st, e', h => by
    have e' : i = src.len := e'
    subst e'
    obtain ⟨h1, h2⟩ := hstop acc st h
    unfold lcN
    rw [h1]
    exact ⟨st, rfl, h2 (hacc _ _ _ h).1⟩
  | k + 1, i, acc, st, e', h => by
    obtain ⟨d, h1, env1, st1, h2, b, st2, h3, h4⟩ := hstep i acc st (by omega) h
    unfold lcN
    rw [h1]
    dsimp only
    rw [h2, bnd_some, h3, bnd_some]
    cases b with
    | false => exact lcN_ind I Q hstop hacc hstep k (i + 1) acc st2 (by omega) h4
    | true =>
      obtain ⟨x, st3, h5, h6, h7⟩ := h4
      dsimp only
      rw [h5, bnd_some, h6]
      dsimp only
      rw [if_pos (hacc _ _ _ h).2]
      exact lcN_ind I Q hstop hacc hstep k (i + 1) (acc ++ [x]) _ (by omega) h7
end Eng
set_option Elab.async false
set_option linter.all false
set_option maxRecDepth 100000
set_option autoImplicit false
/-! E24: reading evaluators, more: stores that grow, instances, loops over sequences, data. -/
namespace Eng
open PySem PySem.Spec PyProof.Rows L2
/-! ### stores that grow -/
def Ext (st st' : List O) : Prop := ∀ (n : Nat) (o : O), st[n]? = some o → st'[n]? = some o
/-- all but one object -/
def ExtB (L : Nat) (st st' : List O) : Prop := ∀ (n : Nat) (o : O), n ≠ L → st[n]? = some o → st'[n]? = some o
theorem lt_of_get {α : Type} {l : List α} {n : Nat} {o : α} (h : l[n]? = some o) : n < l.length := (List.getElem?_eq_some_iff.mp h).1
section
variable {st st1 st' t : List O} {n L : Nat} {o a b : O}
theorem Ext.refl : Ext st st := fun _ _ h => h
theorem Ext.trans (h : Ext st st1) (k : Ext st1 st') : Ext st st' := fun n o e => k n o (h n o e)
theorem Ext.app : Ext st (st ++ t) := fun n o e => by rw [List.getElem?_append_left (lt_of_get e)]; exact e
theorem Ext.le (h : Ext st st') : st.length ≤ st'.length := by
  rcases Nat.eq_zero_or_pos st.length with e | e
  · omega
  · have := lt_of_get (h (st.length - 1) _ (List.getElem?_eq_getElem (by omega)))
    omega
theorem Ext.setNew (h : Ext st st') (hn : st.length ≤ n) : Ext st (st'.set n o) := fun m p e => by
  rw [List.getElem?_set_ne (by have := lt_of_get e; omega)]
  exact h m p e
theorem Ext.toB (h : Ext st st') : ExtB L st st' := fun n o _ e => h n o e
theorem ExtB.trans (h : ExtB L st st1) (k : ExtB L st1 st') : ExtB L st st' := fun n o q e => k n o q (h n o q e)
theorem ExtB.set : ExtB L st (st.set L o) := fun n p q e => by rw [List.getElem?_set_ne (fun z => q z.symm)]; exact e
@[simp] theorem set_end : (st ++ [a]).set st.length b = st ++ [b] := by simp
theorem get_app' {α : Type} {l r : List α} {n : Nat} {o : α} (h : l[n]? = some o) : (l ++ r)[n]? = some o := by
  rw [List.getElem?_append_left (lt_of_get h)]
  exact h
theorem get_set' {α : Type} {l : List α} {n : Nat} {o p : α} (h : l[n]? = some o) : (l.set n p)[n]? = some p := List.getElem?_set_self (lt_of_get h)
theorem get_setne {α : Type} {l : List α} {n m : Nat} {o p : α} (h : l[n]? = some o) (hn : m ≠ n) : (l.set m p)[n]? = some o := by
  rw [List.getElem?_set_ne hn]
  exact h
end
theorem callB {tbl : List Fn} {n f : Nat} {N ps : List Str} {s : Stmt} {body : CallT → Es} {ds : List D} {env : Sl} {st : List O} {Q : D → List O → Prop} (hF : tbl[f]? = some ⟨N, ps, s, body⟩) (hl : ds.length = ps.length) (he : ds.map some ++ List.replicate (N.length - ds.length) none = env)
    (h : W (body (callAt tbl n) env st) fun fl st => match fl with | .rt d => Q d st | .nx _ => Q .non st | _ => False) : W (callAt tbl (n + 1) f ds st) Q := by
  refine callW hF hl (W_finish ?_)
  rw [he]
  exact h
/-! ### all pairs -/
inductive All2 {α β : Type} (P : α → β → Prop) : List α → List β → Prop where
  | nil : All2 P [] []
  | cons {a : α} {b : β} {as : List α} {bs : List β} (h : P a b) (t : All2 P as bs) : All2 P (a :: as) (b :: bs)
theorem All2.imp {α β : Type} {P Q : α → β → Prop} (i : ∀ a b, P a b → Q a b) : ∀ {as : List α} {bs : List β}, All2 P as bs → All2 Q as bs
  | _, _, .nil => .nil
  | _, _, .cons h t => .cons (i _ _ h) (t.imp i)
theorem All2.snoc {α β : Type} {P : α → β → Prop} {a : α} {b : β} (h : P a b) : ∀ {as : List α} {bs : List β}, All2 P as bs → All2 P (as ++ [a]) (bs ++ [b])
  | _, _, .nil => .cons h .nil
  | _, _, .cons h' t => .cons h' (t.snoc h)
theorem All2.append {α β : Type} {P : α → β → Prop} {cs : List α} {ds : List β} (k : All2 P cs ds) : ∀ {as : List α} {bs : List β}, All2 P as bs → All2 P (as ++ cs) (bs ++ ds)
  | _, _, .nil => k
  | _, _, .cons h' t => .cons h' (All2.append k t)
theorem All2.len {α β : Type} {P : α → β → Prop} : ∀ {as : List α} {bs : List β}, All2 P as bs → as.length = bs.length
  | _, _, .nil => rfl
  | _, _, .cons _ t => congrArg (· + 1) t.len
theorem All2.get {α β : Type} {P : α → β → Prop} : ∀ {as : List α} {bs : List β} {i : Nat} {a : α}, All2 P as bs → as[i]? = some a → ∃ b, bs[i]? = some b ∧ P a b
  | _, _, i, a, .nil, h => by cases h
  | _, _, 0, a, .cons h' t, h => by cases h; exact ⟨_, rfl, h'⟩
  | _, _, i + 1, a, .cons h' t, h => t.get (i := i) (by simpa using h)
theorem All2.get' {α β : Type} {P : α → β → Prop} : ∀ {as : List α} {bs : List β} {i : Nat} {b : β}, All2 P as bs → bs[i]? = some b → ∃ a, as[i]? = some a ∧ P a b
  | _, _, i, a, .nil, h => by cases h
  | _, _, 0, a, .cons h' t, h => by cases h; exact ⟨_, rfl, h'⟩
  | _, _, i + 1, a, .cons h' t, h => t.get' (i := i) (by simpa using h)
theorem All2.take {α β : Type} {P : α → β → Prop} : ∀ {as : List α} {bs : List β} (n : Nat), All2 P as bs → All2 P (as.take n) (bs.take n)
  | _, _, 0, _ => .nil
  | _, _, _ + 1, .nil => .nil
  | _, _, n + 1, .cons h t => .cons h (t.take n)
theorem All2.map {α β γ δ : Type} {P : α → β → Prop} {Q : γ → δ → Prop} {f : α → γ} {g : β → δ} (i : ∀ a b, P a b → Q (f a) (g b)) : ∀ {as : List α} {bs : List β}, All2 P as bs → All2 Q (as.map f) (bs.map g)
  | _, _, .nil => .nil
  | _, _, .cons h t => .cons (i _ _ h) (t.map i)
theorem All2.of_map {α β : Type} {P : α → β → Prop} {f : α → β} : ∀ {as : List α}, (∀ a ∈ as, P a (f a)) → All2 P as (as.map f)
  | [], _ => .nil
  | a :: as, h => .cons (h a (by simp)) (All2.of_map fun x m => h x (by simp [m]))
theorem take_snoc {α : Type} {l : List α} {i : Nat} {x : α} (h : l[i]? = some x) : l.take (i + 1) = l.take i ++ [x] := by
  rw [List.take_add_one, h]
  rfl
/-! ### what is walked -/
def SrcIs (src : Src) (st : List O) (xs : List D) : Prop := src.len = xs.length ∧ ∀ st', Ext st st' → ∀ i, src.get i st' = some xs[i]?
def Items (st : List O) (d : D) (xs : List D) : Prop := d = .tup xs ∨ d = .rol xs ∨ ∃ n, d = .ref n ∧ st[n]? = some (.lst xs)
section
variable {st st1 st' : List O} {d x : D} {xs ys : List D} {e a b : Ev} {env : Sl} {n i : Nat} {p : Int}
theorem Items.ext (h : Items st d xs) (k : Ext st st') : Items st' d xs := by
  rcases h with h | h | ⟨n, h1, h2⟩
  · exact .inl h
  · exact .inr (.inl h)
  · exact .inr (.inr ⟨n, h1, k n _ h2⟩)
theorem Items.tup : Items st (.tup xs) xs := .inl rfl
theorem Items.rol : Items st (.rol xs) xs := .inr (.inl rfl)
theorem Items.lst (h : st[n]? = some (.lst xs)) : Items st (.ref n) xs := .inr (.inr ⟨n, rfl, h⟩)
theorem src_lst (h : st[n]? = some (.lst xs)) : SrcIs (srcLst n xs.length) st xs := ⟨rfl, fun st' k i => by
  show (match st'[n]? with | some (.lst xs) => some xs[i]? | _ => none) = _
  rw [k n _ h]⟩
theorem src_of : SrcIs (srcOf xs) st xs := ⟨rfl, fun _ _ _ => rfl⟩
theorem Items.walk (h : Items st d xs) : ∃ src, walkD st d = some src ∧ SrcIs src st xs := by
  rcases h with rfl | rfl | ⟨n, rfl, h⟩
  · exact ⟨_, rfl, src_of⟩
  · exact ⟨_, rfl, src_of⟩
  · refine ⟨srcLst n xs.length, ?_, src_lst h⟩
    show (match st[n]? with | some (.lst xs) => some (srcLst n xs.length) | _ => none) = _
    rw [h]
theorem iSeq_is (he : e env st = some (d, st1)) (h : Items st1 d xs) : ∃ src, iSeq e env st = some (src, st1) ∧ SrcIs src st1 xs := by
  obtain ⟨src, h1, h2⟩ := h.walk
  refine ⟨src, ?_, h2⟩
  unfold iSeq
  rw [he, bnd_some, h1]
def rngD (n : Nat) : List D := (List.range n).map fun i => D.int (i : Nat)
theorem rngD_get : (rngD n)[i]? = if i < n then some (.int (i : Nat)) else none := by
  unfold rngD
  rw [List.getElem?_map]
  by_cases h : i < n
  · rw [List.getElem?_range h, if_pos h]; rfl
  · rw [if_neg h, List.getElem?_eq_none (by simpa using h)]; rfl
@[simp] theorem rngD_len : (rngD n).length = n := by unfold rngD; simp
theorem src_rng : SrcIs (srcRng 0 n) st (rngD n) := ⟨by simp [srcRng], fun st' _ i => by
  rw [rngD_get]
  show some (if i < n then some (D.int (0 + (i : Nat))) else none) = _
  rw [Int.zero_add]⟩
theorem iRng1_is (he : e env st = some (.int (n : Int), st1)) (hn : n < 2 ^ 62) : ∃ src, iRng1 e env st = some (src, st1) ∧ SrcIs src st1 (rngD n) := by
  refine ⟨srcRng 0 n, ?_, src_rng⟩
  unfold iRng1
  rw [he, bnd_some]
  dsimp only
  have : rngOk 0 (n : Int) = true := by unfold rngOk; simp; omega
  rw [if_pos this, Int.toNat_natCast]
def enuD (xs : List D) : List D := xs.zipIdx.map fun p => D.tup [.int (p.2 : Nat), p.1]
theorem enuD_get : (enuD xs)[i]? = (xs[i]?).map fun x => D.tup [.int (i : Nat), x] := by
  unfold enuD
  rw [List.getElem?_map, List.getElem?_zipIdx]
  cases xs[i]? <;> simp
@[simp] theorem enuD_len : (enuD xs).length = xs.length := by unfold enuD; simp
theorem lstSrc_is (h : Items st d xs) (hd : ∀ ys, d ≠ .tup ys) : ∃ src, lstSrc st d = some src ∧ SrcIs src st xs := by
  rcases h with rfl | rfl | ⟨n, rfl, h⟩
  · exact absurd rfl (hd xs)
  · exact ⟨_, rfl, src_of⟩
  · refine ⟨srcLst n xs.length, ?_, src_lst h⟩
    show (match st[n]? with | some (.lst xs) => some (srcLst n xs.length) | _ => none) = _
    rw [h]
theorem iEnu_is (he : e env st = some (d, st1)) (h : Items st1 d xs) (hd : ∀ ys, d ≠ .tup ys) : ∃ src, iEnu e env st = some (src, st1) ∧ SrcIs src st1 (enuD xs) := by
  obtain ⟨src, h1, h2⟩ := lstSrc_is h hd
  refine ⟨srcEnum src, ?_, by simp [srcEnum, h2.1], fun st' k i => ?_⟩
  · unfold iEnu
    rw [he, bnd_some, h1]
  · rw [enuD_get]
    show (match src.get i st' with | some (some d) => some (some (D.tup [.int (i : Nat), d])) | some none => some none | none => none) = _
    rw [h2.2 st' k i]
    cases xs[i]? <;> rfl
end
/-! ### loops -/
section
variable {it : Ei} {g : Eg} {t : Et} {e : Ev} {own : List Nat} {env : Sl} {st st1 : List O} {src : Src} {xs : List D} {b : Es}
/-- a for loop over what stays as it is -/
theorem W_forE {Q : Fl → List O → Prop} (hit : it env st = some (src, st1)) (hs : SrcIs src st1 xs) (I : Nat → Sl → List O → Prop) (hI : ∀ i env s, I i env s → Ext st1 s) (h0 : I 0 env st1)
    (hstep : ∀ i env s x, xs[i]? = some x → I i env s → W (g x env s) fun env s => W (b env s) fun fl s => match fl with
      | .nx env => I (i + 1) env s
      | .ct env => I (i + 1) env s
      | .bk env => Q (.nx env) s
      | .rt d => Q (.rt d) s) (hq : ∀ env s, I xs.length env s → Q (.nx env) s) : W (sFor it g b env st) Q := by
  refine W_for ⟨src, st1, hit, ?_⟩
  refine forN_ind I Q (fun env s h => ?_) (fun i env s hi h => ?_) src.len 0 env st1 (Nat.zero_add _) h0
  · rw [hs.1] at h ⊢
    exact ⟨by rw [hs.2 s (hI _ _ _ h)]; simp, hq env s h⟩
  · rw [hs.1] at hi
    refine ⟨xs[i], ?_, hstep i env s xs[i] (List.getElem?_eq_getElem hi) h⟩
    rw [hs.2 s (hI _ _ _ h), List.getElem?_eq_getElem hi]
/-- the same where the source is read anew -/
theorem W_forI {Q : Fl → List O → Prop} (hit : it env st = some (src, st1)) (hl : src.len = xs.length) (I : Nat → Sl → List O → Prop) (hI : ∀ i env s, I i env s → src.get i s = some xs[i]?) (h0 : I 0 env st1)
    (hstep : ∀ i env s x, xs[i]? = some x → I i env s → W (g x env s) fun env s => W (b env s) fun fl s => match fl with
      | .nx env => I (i + 1) env s
      | .ct env => I (i + 1) env s
      | .bk env => Q (.nx env) s
      | .rt d => Q (.rt d) s) (hq : ∀ env s, I xs.length env s → Q (.nx env) s) : W (sFor it g b env st) Q := by
  refine W_for ⟨src, st1, hit, ?_⟩
  refine forN_ind I Q (fun env s h => ?_) (fun i env s hi h => ?_) src.len 0 env st1 (Nat.zero_add _) h0
  · rw [hl] at h ⊢
    exact ⟨by rw [hI _ _ _ h]; simp, hq env s h⟩
  · rw [hl] at hi
    refine ⟨xs[i], ?_, hstep i env s xs[i] (List.getElem?_eq_getElem hi) h⟩
    rw [hI _ _ _ h, List.getElem?_eq_getElem hi]
/-- a list comprehension whose parts change nothing that there was -/
theorem W_lcE {Q : D → List O → Prop} (hx : xs.length < sizeLine) (hit : it env st = some (src, st1)) (hs : SrcIs src st1 xs) (P : Nat → List D → List O → Prop) (h0 : P 0 [] (st1 ++ [.lst []]))
    (hP : ∀ i acc s s', ExtB st1.length s s' → P i acc s → P i acc s')
    (hstep : ∀ i acc s x, xs[i]? = some x → Ext st1 s → s[st1.length]? = some (.lst acc) → P i acc s → W (g x (wipeD env own) s) fun env2 s2 => W (t env2 s2) fun b s3 => match b with
      | true => W (e env2 s3) fun y s4 => Ext s s4 ∧ P (i + 1) (acc ++ [y]) s4
      | false => Ext s s3 ∧ P (i + 1) acc s3)
    (hq : ∀ acc s, Ext st1 s → s[st1.length]? = some (.lst acc) → P xs.length acc s → Q (.ref st1.length) s) : W (eLc it g t e own env st) Q := by
  have key : ∃ st', lcN src g t e st1.length (wipeD env own) src.len 0 (st1 ++ [.lst []]) = some st' ∧ Q (.ref st1.length) st' := by
    refine lcN_ind (src := src) (L := st1.length) (env0 := wipeD env own) (fun i acc s => Ext st1 s ∧ s[st1.length]? = some (.lst acc) ∧ acc.length ≤ i ∧ i ≤ xs.length ∧ P i acc s) (fun s => Q (.ref st1.length) s) ?_ ?_ ?_ src.len 0 [] _ (Nat.zero_add _) ⟨Ext.app, by simp, Nat.le_refl _, Nat.zero_le _, h0⟩
    · rintro acc s ⟨h1, h2, h3, h4, h5⟩
      rw [hs.1] at h5 ⊢
      exact ⟨by rw [hs.2 s h1]; simp, fun _ => hq acc s h1 h2 h5⟩
    · rintro i acc s ⟨h1, h2, h3, h4, h5⟩
      exact ⟨h2, by omega⟩
    · rintro i acc s hi ⟨h1, h2, h3, h4, h5⟩
      rw [hs.1] at hi
      refine ⟨xs[i], by rw [hs.2 s h1, List.getElem?_eq_getElem hi], ?_⟩
      refine (hstep i acc s xs[i] (List.getElem?_eq_getElem hi) h1 h2 h5).mono fun env2 s2 q => q.mono fun b s3 q => ?_
      cases b with
      | true =>
        refine W.mono q fun y s4 q => ?_
        have h6 := q.1 _ _ h2
        exact ⟨h6, (h1.trans q.1).setNew (Nat.le_refl _), get_set' h6, by simp; omega, by omega, hP _ _ _ _ ExtB.set q.2⟩
      | false => exact ⟨h1.trans q.1, q.1 _ _ h2, by omega, by omega, q.2⟩
  obtain ⟨st', h1, h2⟩ := key
  unfold eLc
  rw [hit, bnd_some]
  rw [h1]
  exact ⟨_, _, rfl, h2⟩
end
/-! ### more readings -/
theorem slK {k : Nat} (h : k ≤ 5000) : k ≤ sizeLine := Nat.le_trans h (by unfold sizeLine; decide)
theorem slL {k : Nat} (h : k ≤ 5000) : k < sizeLine := Nat.lt_of_le_of_lt h (by unfold sizeLine; decide)
@[simp] theorem sl0 : (0 ≤ sizeLine) = True := eq_true (slK (by decide))
@[simp] theorem sl1 : (1 ≤ sizeLine) = True := eq_true (slK (by decide))
@[simp] theorem sl2 : (2 ≤ sizeLine) = True := eq_true (slK (by decide))
@[simp] theorem sl3 : (3 ≤ sizeLine) = True := eq_true (slK (by decide))
@[simp] theorem sl4 : (4 ≤ sizeLine) = True := eq_true (slK (by decide))
@[simp] theorem sl5 : (5 ≤ sizeLine) = True := eq_true (slK (by decide))
@[simp] theorem sl6 : (6 ≤ sizeLine) = True := eq_true (slK (by decide))
@[simp] theorem sl7 : (7 ≤ sizeLine) = True := eq_true (slK (by decide))
@[simp] theorem sl8 : (8 ≤ sizeLine) = True := eq_true (slK (by decide))
@[simp] theorem sl9 : (9 ≤ sizeLine) = True := eq_true (slK (by decide))
@[simp] theorem sl10 : (10 ≤ sizeLine) = True := eq_true (slK (by decide))
@[simp] theorem sl11 : (11 ≤ sizeLine) = True := eq_true (slK (by decide))
@[simp] theorem sl12 : (12 ≤ sizeLine) = True := eq_true (slK (by decide))
@[simp] theorem sl13 : (13 ≤ sizeLine) = True := eq_true (slK (by decide))
@[simp] theorem sl14 : (14 ≤ sizeLine) = True := eq_true (slK (by decide))
@[simp] theorem sl15 : (15 ≤ sizeLine) = True := eq_true (slK (by decide))
@[simp] theorem sl16 : (16 ≤ sizeLine) = True := eq_true (slK (by decide))
@[simp] theorem sl17 : (17 ≤ sizeLine) = True := eq_true (slK (by decide))
@[simp] theorem sl18 : (18 ≤ sizeLine) = True := eq_true (slK (by decide))
@[simp] theorem sl19 : (19 ≤ sizeLine) = True := eq_true (slK (by decide))
@[simp] theorem sl20 : (20 ≤ sizeLine) = True := eq_true (slK (by decide))
@[simp] theorem sl21 : (21 ≤ sizeLine) = True := eq_true (slK (by decide))
@[simp] theorem sl22 : (22 ≤ sizeLine) = True := eq_true (slK (by decide))
@[simp] theorem sl23 : (23 ≤ sizeLine) = True := eq_true (slK (by decide))
@[simp] theorem sl24 : (24 ≤ sizeLine) = True := eq_true (slK (by decide))
@[simp] theorem sl25 : (25 ≤ sizeLine) = True := eq_true (slK (by decide))
@[simp] theorem sl26 : (26 ≤ sizeLine) = True := eq_true (slK (by decide))
@[simp] theorem sl27 : (27 ≤ sizeLine) = True := eq_true (slK (by decide))
@[simp] theorem sl28 : (28 ≤ sizeLine) = True := eq_true (slK (by decide))
@[simp] theorem sl29 : (29 ≤ sizeLine) = True := eq_true (slK (by decide))
@[simp] theorem sl30 : (30 ≤ sizeLine) = True := eq_true (slK (by decide))
@[simp] theorem sl31 : (31 ≤ sizeLine) = True := eq_true (slK (by decide))
@[simp] theorem sl32 : (32 ≤ sizeLine) = True := eq_true (slK (by decide))

section
variable {f g : F2} {a b c : Ev} {as kw : Ea} {t u : Et} {env : Sl} {st : List O} {i j n m : Nat} {d : D} {sa sb : Es} {eg : Eg} {egs : Egs} {cl : CallT} {xs : List D} {p q : Int} {fk : Nat → Nat → Bool} {mt : Nat → Nat → Option Nat}
@[simp] theorem eq_eMake : eMake cl n m as env st = bnd (as env st) fun ds st => bnd (cl m (.ref st.length :: ds) (st ++ [.ins n []])) fun r st' => (match r with | .non => some (.ref st.length, st') | _ => none) := rfl
@[simp] theorem eq_eMake0 : eMake0 n env st = some (.ref st.length, st ++ [.ins n []]) := rfl
@[simp] theorem eq_gTp : gTp egs (.tup xs) env st = egs xs env st := rfl
@[simp] theorem eq_gsNil : gsNil [] env st = some (env, st) := rfl
@[simp] theorem eq_gsCons : gsCons eg egs (d :: xs) env st = bnd (eg d env st) fun env st => egs xs env st := rfl
@[simp] theorem eq_eAnd : eAnd a b env st = bnd (a env st) fun x st => (match x with | .bl true => b env st | .bl false => some (.bl false, st) | _ => none) := rfl
@[simp] theorem eq_eOr : eOr a b env st = bnd (a env st) fun x st => (match x with | .bl false => b env st | .bl true => some (.bl true, st) | _ => none) := rfl
@[simp] theorem eq_eNot : eNot a env st = bnd (a env st) fun x st => (match x with | .bl b => some (.bl !b, st) | _ => none) := rfl
@[simp] theorem eq_oNone : oNone env st = some (none, st) := rfl
@[simp] theorem eq_sBrk : sBrk env st = some (.bk env, st) := rfl
@[simp] theorem eq_sCnt : sCnt env st = some (.ct env, st) := rfl
@[simp] theorem eq_sRetN : sRetN env st = some (.rt .non, st) := rfl
end
end Eng
set_option Elab.async false
set_option linter.all false
set_option maxRecDepth 100000
set_option autoImplicit false
/-! E25: equality of data, settled_tuple. -/
namespace Eng
open PySem PySem.Spec PyProof.Rows L2
/-! ### data -/
def okP (p : PyData) : Bool := p.canLay0 && decide (p.depth ≤ 64)
section
variable {cl : CallT} {eqm : Nat → Option Nat} {n : Nat} {x y : D} {st : List O} {p q : PyData}
theorem okP_of (h : okP p = true) : p.canLay0 = true ∧ p.depth ≤ 64 := by
  unfold okP at h
  rw [Bool.and_eq_true, decide_eq_true_eq] at h
  exact h
theorem fEqO_data (hx : toPy st 8 x = some p) (hy : toPy st 8 y = some q) (hp : okP p = true) (hq : okP q = true) : fEqO cl eqm n x y st = some (.bl (PyData.eqv p q), st) := by
  obtain ⟨a, b⟩ := okP_of hp
  obtain ⟨c, _⟩ := okP_of hq
  unfold fEqO rcN
  rw [hx, hy]
  dsimp only
  rw [a, c, decide_eq_true b]
  rfl
theorem fNeO_data (hx : toPy st 8 x = some p) (hy : toPy st 8 y = some q) (hp : okP p = true) (hq : okP q = true) : fNeO cl eqm n x y st = some (.bl (!PyData.eqv p q), st) := by
  obtain ⟨a, b⟩ := okP_of hp
  obtain ⟨c, _⟩ := okP_of hq
  unfold fNeO
  rw [hx, hy]
  dsimp only
  rw [a, c, decide_eq_true b]
  rfl
@[simp] theorem fEqO_int {i j : Int} : fEqO cl eqm n (.int i) (.int j) st = some (.bl (decide (i = j)), st) := by
  rw [fEqO_data (p := .int i) (q := .int j) rfl rfl rfl rfl]
  have : PyData.eqv (.int i) (.int j) = decide (i = j) := by
    rw [show PyData.eqv (.int i) (.int j) = (i == j) from rfl]
    rfl
  rw [this]
@[simp] theorem fNeO_int {i j : Int} : fNeO cl eqm n (.int i) (.int j) st = some (.bl (decide (i ≠ j)), st) := by
  rw [fNeO_data (p := .int i) (q := .int j) rfl rfl rfl rfl]
  have : PyData.eqv (.int i) (.int j) = decide (i = j) := by
    rw [show PyData.eqv (.int i) (.int j) = (i == j) from rfl]
    rfl
  rw [this]
  simp
end
theorem W_eq {α : Type} {r : Rs α} {a : α} {st : List O} (h : W r fun d s => d = a ∧ s = st) : r = some (a, st) := by
  obtain ⟨x, y, e, h1, h2⟩ := h
  rw [e, h1, h2]
/-! ### settled_tuple -/
def setB (sub : Nat → Nat → Bool) (f : Nat) (cl : CallT) : Es := sRet (eBf fTup (aCons (eLc (iSeq (eSlot 0)) (gNm 1) tYs (eIf (tV (eBf (fIsi sub) (aCons (eSlot 1) (aCons (eTup (aCons (eC (.ty .list)) (aCons (eC (.ty .tuple)) aNil))) aNil)))) (eCall cl f (aCons (eSlot 1) aNil)) (eSlot 1)) [1]) aNil))
def isL : Tg → Bool
  | .b .list => true
  | .b .tuple => true
  | _ => false
def Plain (st : List O) (x : D) : Prop := ∃ t, tagOf st x = some t ∧ isL t = false
def Sett (st : List O) : Nat → D → D → Prop
  | 0, x, y => y = x ∧ Plain st x
  | k + 1, x, y => (y = x ∧ Plain st x) ∨ ∃ xs ys, Items st x xs ∧ y = .tup ys ∧ xs.length < sizeLine ∧ All2 (Sett st k) xs ys
section
variable {st st' : List O} {x y : D} {t : Tg} {xs : List D}
def tagO : O → Option Tg
  | .lst _ => some (.b .list)
  | .dK _ => some (.b .dict)
  | .dT _ => some (.b .dict)
  | .ins c _ => some (.c c)
  | _ => none
theorem tagOf_ref {n : Nat} {o : O} (h : st[n]? = some o) : tagOf st (.ref n) = tagO o := by
  unfold tagOf
  dsimp only
  rw [h]
  cases o <;> rfl
theorem tagOf_ext (h : tagOf st x = some t) (e : Ext st st') : tagOf st' x = some t := by
  cases x with
  | ref n =>
    cases q : st[n]? with
    | none =>
      unfold tagOf at h
      dsimp only at h
      rw [q] at h
      cases h
    | some o => rw [tagOf_ref (e n o q)]; rw [tagOf_ref q] at h; exact h
  | _ => exact h
theorem Plain.ext (h : Plain st x) (e : Ext st st') : Plain st' x := let ⟨t, a, b⟩ := h; ⟨t, tagOf_ext a e, b⟩
theorem Sett.ext (e : Ext st st') : ∀ {k : Nat} {x y : D}, Sett st k x y → Sett st' k x y
  | 0, _, _, h => ⟨h.1, h.2.ext e⟩
  | k + 1, _, _, h => by
    rcases h with h | ⟨xs, ys, a, b, c, d⟩
    · exact .inl ⟨h.1, h.2.ext e⟩
    · exact .inr ⟨xs, ys, a.ext e, b, c, d.imp fun _ _ q => Sett.ext e q⟩
theorem isi_lt {sub : Nat → Nat → Bool} (h : tagOf st x = some t) : fIsi sub [x, .tup [.ty .list, .ty .tuple]] st = some (.bl (isL t), st) := by
  unfold fIsi
  dsimp only
  rw [h]
  cases t with
  | b a => cases a <;> rfl
  | c k => rfl
theorem Items.tag (h : Items st x xs) : ∃ t, tagOf st x = some t ∧ isL t = true := by
  rcases h with rfl | rfl | ⟨n, rfl, h⟩
  · exact ⟨_, rfl, rfl⟩
  · exact ⟨_, rfl, rfl⟩
  · exact ⟨.b .list, tagOf_ref h, rfl⟩
variable {tbl : List Fn} {f : Nat} {sub : Nat → Nat → Bool} {s : Stmt} {x0 : Str}
theorem settled_ok (hF : tbl[f]? = some ⟨["things", "one"], ["things"], s, setB sub f⟩) (n : Nat) : ∀ (k : Nat) (x : D) (xs ys : List D) (st : List O), Items st x xs → xs.length < sizeLine → All2 (Sett st k) xs ys → ∀ Q : D → List O → Prop, (∀ st', Ext st st' → Q (.tup ys) st') → W (callAt tbl (n + k + 1) f [x] st) Q := by
  intro k
  induction k with
  | zero =>
    intro x xs ys st hI hl hA Q hQ
    refine callW hF rfl (W_finish ?_)
    change W (setB sub f _ [some x, none] st) _
    unfold setB
    simp only [eq_sRet, W_bnd, eq_eBf, eq_aCons, eq_aNil]
    obtain ⟨src, e1, e2⟩ := iSeq_is (e := eSlot 0) (env := [some x, none]) (st := st) (st1 := st) rfl hI
    refine W_lcE (xs := xs) hl e1 e2 (fun i acc s => acc = ys.take i) rfl (fun _ _ _ _ _ z => z) ?_ ?_
    · rintro i acc s z hz hE hL rfl
      obtain ⟨w, hw, rfl, t, q1, q2⟩ := hA.get hz
      simp only [eq_gNm, W_some, eq_tYs, eq_eIf, W_bnd, eq_tV, eq_eBf, eq_aCons, eq_aNil, eq_eTup, eq_eC, eq_eSlot]
      have e3 : ((wipeD [some x, none] [1]).set 1 (some w))[1]? = some (some w) := rfl
      rw [e3]
      simp only [W_some, List.length_cons, List.length_nil]
      rw [if_pos (by unfold sizeLine; decide)]
      simp only [W_some]
      rw [isi_lt (tagOf_ext q1 hE), q2]
      simp only [W_some, truth_bl]
      exact ⟨Ext.refl, by rw [take_snoc hw]⟩
    · rintro acc s hE hL rfl
      simp only [W_some]
      rw [hA.len, List.take_length] at hL
      rw [fTup_lst hL]
      simp only [W_some]
      exact hQ s hE
  | succ k ih =>
    intro x xs ys st hI hl hA Q hQ
    refine callW hF rfl (W_finish ?_)
    change W (setB sub f _ [some x, none] st) _
    unfold setB
    simp only [eq_sRet, W_bnd, eq_eBf, eq_aCons, eq_aNil]
    obtain ⟨src, e1, e2⟩ := iSeq_is (e := eSlot 0) (env := [some x, none]) (st := st) (st1 := st) rfl hI
    refine W_lcE (xs := xs) hl e1 e2 (fun i acc s => acc = ys.take i) rfl (fun _ _ _ _ _ z => z) ?_ ?_
    · rintro i acc s z hz hE hL rfl
      obtain ⟨w, hw, hS⟩ := hA.get hz
      simp only [eq_gNm, W_some, eq_tYs, eq_eIf, W_bnd, eq_tV, eq_eBf, eq_aCons, eq_aNil, eq_eTup, eq_eC, eq_eSlot]
      have e3 : ((wipeD [some x, none] [1]).set 1 (some z))[1]? = some (some z) := rfl
      rw [e3]
      simp only [W_some, List.length_cons, List.length_nil]
      rw [if_pos (by unfold sizeLine; decide)]
      simp only [W_some]
      rcases hS with ⟨rfl, t, q1, q2⟩ | ⟨xs2, ys2, q1, rfl, q3, q4⟩
      · rw [isi_lt (tagOf_ext q1 hE), q2]
        simp only [W_some, truth_bl]
        exact ⟨Ext.refl, by rw [take_snoc hw]⟩
      · obtain ⟨t, t1, t2⟩ := (q1.ext hE).tag
        rw [isi_lt t1, t2]
        simp only [W_some, truth_bl, eq_eCall, W_bnd, eq_aCons, eq_eSlot, eq_aNil]
        rw [e3]
        simp only [W_some]
        exact ih z xs2 ys2 s (q1.ext hE) q3 (q4.imp fun _ _ q => q.ext hE) _ fun s4 h4 => ⟨h4, by rw [take_snoc hw]⟩
    · rintro acc s hE hL rfl
      simp only [W_some]
      rw [hA.len, List.take_length] at hL
      rw [fTup_lst hL]
      simp only [W_some]
      exact hQ s hE
end
end Eng
set_option Elab.async false
set_option linter.all false
set_option maxRecDepth 100000
set_option autoImplicit false
/-! E26: texts of signs below 128; numbers as texts. -/
namespace Eng
open PySem PySem.Spec PyProof.Rows L2 TL
def ascB (x : Str) : Bool := (tl x).all (· < 128)
def Asc (x : Str) : Prop := ascB x = true
theorem asc_of {x : Str} (h : ascB x = true) : Asc x := h
theorem Asc.iff {x : Str} : Asc x ↔ ∀ c ∈ tl x, c < 128 := by
  unfold Asc ascB
  rw [List.all_eq_true]
  simp
theorem Asc.ok {x : Str} (h : Asc x) : okP (.str x) = true := by
  have e : PyData.strOk x = true := by
    unfold PyData.strOk
    rw [Array.all_eq_true_iff_forall_mem]
    intro c hc
    have := Asc.iff.mp h c (by simpa [tl] using hc)
    simp
    omega
  unfold okP
  rw [show PyData.canLay0 (.str x) = true from e]
  rfl
theorem Asc.app {x y : Str} (h : Asc x) (k : Asc y) : Asc (x ++ y) := by
  rw [Asc.iff] at *
  intro c hc
  rw [tl_append, List.mem_append] at hc
  rcases hc with hc | hc
  · exact h c hc
  · exact k c hc
section
variable {cl : CallT} {eqm : Nat → Option Nat} {n : Nat} {x y : Str} {st : List O}
theorem eqv_str : PyData.eqv (.str x) (.str y) = decide (x = y) := by
  rw [show PyData.eqv (.str x) (.str y) = (x == y) from rfl]
  by_cases h : x = y
  · subst h; simp
  · simp [h]
theorem eqS (hx : Asc x) (hy : Asc y) : fEqO cl eqm n (.str x) (.str y) st = some (.bl (decide (x = y)), st) := by
  rw [fEqO_data (p := .str x) (q := .str y) rfl rfl hx.ok hy.ok, eqv_str]
theorem neS (hx : Asc x) (hy : Asc y) : fNeO cl eqm n (.str x) (.str y) st = some (.bl (!decide (x = y)), st) := by
  rw [fNeO_data (p := .str x) (q := .str y) rfl rfl hx.ok hy.ok, eqv_str]
end
theorem All2.impM {α β : Type} {P Q : α → β → Prop} : ∀ {as : List α} {bs : List β}, (∀ a b, b ∈ bs → P a b → Q a b) → All2 P as bs → All2 Q as bs
  | _, _, _, .nil => .nil
  | _, _, i, .cons h t => .cons (i _ _ (by simp) h) (All2.impM (fun a b m => i a b (by simp [m])) t)
theorem Items.walk2 {st : List O} {d : D} {xs : List D} (h : Items st d xs) : ∃ src, walkD st d = some src ∧ src.len = xs.length ∧ ∀ s, Items s d xs → ∀ i, src.get i s = some xs[i]? := by
  rcases h with rfl | rfl | ⟨n, rfl, h⟩
  · exact ⟨srcOf xs, rfl, rfl, fun _ _ _ => rfl⟩
  · exact ⟨srcOf xs, rfl, rfl, fun _ _ _ => rfl⟩
  · refine ⟨srcLst n xs.length, ?_, rfl, fun s hs i => ?_⟩
    · show (match st[n]? with | some (.lst xs) => some (srcLst n xs.length) | _ => none) = _
      rw [h]
    · rcases hs with e | e | ⟨m, e, hs⟩
      · cases e
      · cases e
      · cases e
        show (match s[n]? with | some (.lst xs) => some xs[i]? | _ => none) = _
        rw [hs]
theorem iSeq_on {st st1 : List O} {d : D} {xs : List D} {e : Ev} {env : Sl} (he : e env st = some (d, st1)) (h : Items st1 d xs) : ∃ src, iSeq e env st = some (src, st1) ∧ src.len = xs.length ∧ ∀ s, Items s d xs → ∀ i, src.get i s = some xs[i]? := by
  obtain ⟨src, h1, h2⟩ := h.walk2
  refine ⟨src, ?_, h2⟩
  unfold iSeq
  rw [he, bnd_some, h1]
theorem eSplit_val {a b : Ev} {env : Sl} {st st1 st2 : List O} {z w : Str} (ha : a env st = some (.str z, st1)) (hb : b env st1 = some (.str w, st2)) (hw : (w.length == 0) = false) (hz : z.length ≤ 4000) : eSplit a b env st = some (.ref st2.length, st2 ++ [.lst ((Txt.split z w).map D.str)]) := by
  unfold eSplit
  rw [ha, bnd_some]
  simp only
  rw [hb, bnd_some]
  simp only
  rw [if_pos ⟨hw, slK (by omega)⟩]
/-- range(max(1, min(c, len(script)))) -/
theorem rng_law {c : Nat} (hc : 1 ≤ c ∧ c ≤ 100) {N : List Str} {ns : List Int} (hl : ns.length ≤ 63) : ∃ k : Nat, k ≤ ns.length + 1 ∧ k ≤ c ∧ Eng.iRng1 (eBf fMax (aCons (eC (.int 1)) (aCons (eBf fMin (aCons (eC (.int (c : Int))) (aCons (eBf fLen (aCons (eSlot 0) aNil)) aNil))) aNil))) (env0 N ns) [] = some (srcRng 0 k, []) := by
  have e : (if (1 : Int) < (if (ns.length : Int) < (c : Int) then (ns.length : Int) else (c : Int)) then (if (ns.length : Int) < (c : Int) then (ns.length : Int) else (c : Int)) else 1) = ((if 1 < (if ns.length < c then ns.length else c) then (if ns.length < c then ns.length else c) else 1 : Nat) : Int) := by
    repeat' split
    all_goals omega
  generalize hk : (if 1 < (if ns.length < c then ns.length else c) then (if ns.length < c then ns.length else c) else 1 : Nat) = k at e
  have h1 : k ≤ ns.length + 1 := by
    rw [← hk]
    repeat' split
    all_goals omega
  have h2 : k ≤ c := by
    rw [← hk]
    repeat' split
    all_goals omega
  refine ⟨k, h1, h2, ?_⟩
  unfold Eng.iRng1
  simp only [env0, eq_eBf, eq_aCons, eq_eC, eq_aNil, bnd_some, eq_eSlot, List.getElem?_cons_zero, fLen_rol, fMin_int, fMax_int, List.length_map]
  rw [show (if (if (c : Int) > (ns.length : Int) then (ns.length : Int) else (c : Int)) > 1 then (if (c : Int) > (ns.length : Int) then (ns.length : Int) else (c : Int)) else 1) = (k : Int) from e]
  rw [if_pos (by unfold rngOk; simp; omega), Int.toNat_natCast]
theorem get_end {α : Type} {l : List α} {o : α} : (l ++ [o])[l.length]? = some o := by simp
theorem fAdd_lst {st : List O} {a b : Nat} {xs ys : List D} (ha : st[a]? = some (.lst xs)) (hb : st[b]? = some (.lst ys)) (hl : xs.length + ys.length ≤ 5000) : fAdd (.ref a) (.ref b) st = some (.ref st.length, st ++ [.lst (xs ++ ys)]) := by
  unfold fAdd
  simp only [lstOf_lst ha, lstOf_lst hb]
  rw [if_pos (slK hl)]
/-! ### numbers -/
abbrev sI (i : Int) : Str := Str.ofString (toString i)
theorem tl_nat (n : Nat) : tl (sI (n : Int)) = numL n := tl_num n
theorem tl_neg {n : Nat} (h : 0 < n) : tl (sI (-(n : Int))) = 45 :: numL n := by
  obtain ⟨m, rfl⟩ : ∃ m, n = m + 1 := ⟨n - 1, by omega⟩
  have e : (-((m + 1 : Nat) : Int)) = Int.negSucc m := rfl
  have e2 : toString (Int.negSucc m) = "-" ++ toString (m + 1) := rfl
  have e3 : tl (Str.ofString (toString (m + 1))) = numL (m + 1) := tl_num (m + 1)
  rw [tl_ofString] at e3
  unfold sI
  rw [e, e2, tl_ofString, String.toList_append, List.map_append, e3]
  rfl
theorem numL_dig {n c : Nat} (h : c ∈ numL n) : 48 ≤ c ∧ c ≤ 57 := by
  by_cases z : c < 48 ∨ 57 < c
  · exact absurd h (numL_free z)
  · omega
theorem numL_head : ∀ {n : Nat}, 0 < n → ∃ d r, numL n = d :: r ∧ d ≠ 48 := by
  intro n
  induction n using Nat.strongRecOn with
  | _ n ih =>
    intro h
    by_cases h10 : n < 10
    · exact ⟨48 + n, [], numL_lt h10, by omega⟩
    · obtain ⟨d, r, e, hd⟩ := ih (n / 10) (by omega) (by omega)
      refine ⟨d, r ++ [48 + n % 10], ?_, hd⟩
      rw [numL_step (by omega), e]
      rfl
theorem sI_nat_asc (n : Nat) : Asc (sI (n : Int)) := by
  rw [Asc.iff, tl_nat]
  intro c hc
  have := numL_dig hc
  omega
theorem sI_cases (i : Int) : (∃ n : Nat, i = (n : Int) ∧ tl (sI i) = numL n) ∨ ∃ n : Nat, 0 < n ∧ i = -(n : Int) ∧ tl (sI i) = 45 :: numL n := by
  by_cases h : 0 ≤ i
  · obtain ⟨n, rfl⟩ : ∃ n : Nat, i = (n : Int) := ⟨i.toNat, by omega⟩
    exact .inl ⟨n, rfl, tl_nat n⟩
  · refine .inr ⟨(-i).toNat, by omega, by omega, ?_⟩
    have e : i = -(((-i).toNat : Nat) : Int) := by omega
    have := tl_neg (n := (-i).toNat) (by omega)
    rw [← e] at this
    exact this
theorem sI_sign {i : Int} {c : Nat} (h : c ∈ tl (sI i)) : c = 45 ∨ (48 ≤ c ∧ c ≤ 57) := by
  rcases sI_cases i with ⟨n, _, e⟩ | ⟨n, _, _, e⟩
  · rw [e] at h; exact .inr (numL_dig h)
  · rw [e] at h
    rcases List.mem_cons.mp h with z | z
    · exact .inl z
    · exact .inr (numL_dig z)
theorem sI_asc (i : Int) : Asc (sI i) := by
  rw [Asc.iff]
  intro c hc
  rcases sI_sign hc with z | z <;> omega
theorem log_small {i : Int} (h : i.natAbs < 10 ^ 60) : i.natAbs.log2 < 1920 := by
  by_cases z : i.natAbs = 0
  · rw [z]; decide
  · have := (Nat.log2_lt z (k := 200)).mpr (Nat.lt_trans h (by decide))
    omega
theorem tl_jn (y : Str) (parts : List Str) : tl (Txt.join y parts) = joinL (tl y) (parts.map tl) := by rw [join_eq, tl_join]
theorem joinL_mem {S : List Nat} {c : Nat} : ∀ {ps : List (List Nat)}, c ∈ joinL S ps → c ∈ S ∨ ∃ p ∈ ps, c ∈ p
  | [], h => by cases h
  | [p], h => .inr ⟨p, by simp, h⟩
  | p :: q :: r, h => by
    unfold joinL at h
    rcases List.mem_append.mp h with h | h
    · exact .inr ⟨p, by simp, h⟩
    · rcases List.mem_append.mp h with h | h
      · exact .inl h
      · rcases joinL_mem h with z | ⟨w, m, z⟩
        · exact .inl z
        · exact .inr ⟨w, by simp at m ⊢; exact .inr m, z⟩
theorem asc_jn {y : Str} {parts : List Str} (hy : Asc y) (hp : ∀ p ∈ parts, Asc p) : Asc (Txt.join y parts) := by
  rw [Asc.iff]
  intro c hc
  rw [tl_jn] at hc
  rcases joinL_mem hc with z | ⟨w, m, z⟩
  · exact Asc.iff.mp hy c z
  · obtain ⟨p, hp1, rfl⟩ := List.mem_map.mp m
    exact Asc.iff.mp (hp p hp1) c z
theorem sI_len {i : Int} (h : i.natAbs < 10 ^ 60) : (sI i).length ≤ 61 := by
  rw [len_tl]
  rcases sI_cases i with ⟨n, e, q⟩ | ⟨n, _, e, q⟩
  · rw [q]
    have := numL_len (n := n) (k := 60) (by decide) (by omega)
    omega
  · rw [q, List.length_cons]
    have := numL_len (n := n) (k := 60) (by decide) (by omega)
    omega
theorem sum_le {M : Nat} : ∀ {ys : List Str}, (∀ y ∈ ys, y.length ≤ M) → (ys.map (·.length)).sum ≤ ys.length * M
  | [], _ => by simp
  | y :: r, h => by
    have h1 := sum_le (M := M) (ys := r) fun z hz => h z (by simp [hz])
    have h2 := h y (by simp)
    rw [List.map_cons, List.sum_cons, List.length_cons, Nat.succ_mul]
    omega
theorem joinL_len {S : List Nat} {M : Nat} : ∀ {ps : List (List Nat)}, (∀ p ∈ ps, p.length ≤ M) → (joinL S ps).length ≤ ps.length * (M + S.length)
  | [], _ => by simp [joinL]
  | [p], h => by
    have := h p (by simp)
    simp [joinL]
    omega
  | p :: q :: r, h => by
    have h1 := joinL_len (S := S) (M := M) (ps := q :: r) fun z hz => h z (by simp at hz ⊢; exact .inr hz)
    have h2 := h p (by simp)
    unfold joinL
    rw [List.length_append, List.length_append, List.length_cons, Nat.succ_mul]
    omega
theorem toStrs_map : ∀ zs : List Str, toStrs (zs.map D.str) = some zs
  | [] => rfl
  | z :: r => by
    show (match toStrs (r.map D.str) with | some zs => some (z :: zs) | none => none) = _
    rw [toStrs_map r]
theorem seqOf_lst {st : List O} {k : Nat} {xs : List D} (h : st[k]? = some (.lst xs)) : seqOf st (.ref k) = some xs := by
  show lstOf st (.ref k) = some xs
  exact lstOf_lst h
theorem map_take {α β : Type} {f : α → β} {l : List α} {i : Nat} {x : α} (h : l[i]? = some x) : (l.take i).map f ++ [f x] = (l.take (i + 1)).map f := by
  rw [take_snoc h]
  simp
end Eng
set_option Elab.async false
set_option linter.all false
set_option maxRecDepth 100000
set_option autoImplicit false
/-! E27: a layout that is made. -/
namespace Eng
open PySem PySem.Spec PyProof.Rows L2
def numB (sub : Nat → Nat → Bool) (cl : CallT) : Es := sRet (eAnd (eBf (fIsi sub) (aCons (eSlot 0) (aCons (eC (.ty .int)) aNil))) (eNot (eBf (fIsi sub) (aCons (eSlot 0) (aCons (eC (.ty .bool)) aNil)))))
def chkB (eqm : Nat → Option Nat) (nq fN : Nat) (cl : CallT) : Es := sIf (Eng.tOr (tNo (tV (eCall cl fN (aCons (eSlot 0) aNil)))) (Eng.tOr (tNo (tB (eCh fLe fLe (eC (.int 4)) (eSlot 0) (eC (.int 12))))) (tB (eB (fEqO cl eqm nq) (eB fMod (eSlot 0) (eC (.int 2))) (eC (.int 1)))))) sFail sNil
def layIn (fk : Nat → Nat → Bool) (eqm : Nat → Option Nat) (nq sp fN : Nat) (cl : CallT) : Es :=
  sSeq (sIf (Eng.tOr (tNo (tV (eCall cl fN (aCons (eSlot 6) aNil)))) (Eng.tOr (tB (eB fLt (eSlot 6) (eC (.int 0)))) (tB (eB (fInO cl eqm nq false) (eSlot 6) (eFld fk (eSlot 0) sp)))))
        sFail
        sNil)
      (sAsg (eTup (aCons (eSlot 3) (aCons (eSlot 5) aNil))) (gSb (eFld fk (eSlot 0) sp) (eSlot 6) fSet))
def layB (fk : Nat → Nat → Bool) (eqm : Nat → Option Nat) (nq wi li sp fS fC fN : Nat) (cl : CallT) : Es :=
  (sSeq (sAsg (eSlot 1) (gAt fk (eSlot 0) wi))
  (sSeq (sAsg (eCall cl fS (aCons (eSlot 2) aNil)) (gAt fk (eSlot 0) li))
  (sSeq (sExpr (eCall cl fC (aCons (eSlot 1) aNil)))
  (sSeq (sFor (iEnA (eFld fk (eSlot 0) li)) (gTp (gsCons (gNm 3) (gsCons (gNm 4) gsNil)))
    (sIf (tNo (tB (eCh fLe fLe (eC (.int 1)) (eBf fLen (aCons (eSlot 4) aNil)) (eSlot 1))))
      sFail
      sNil))
  (sSeq (sAsg eDict0 (gAt fk (eSlot 0) sp))
  (sSeq (sFor (iEnA (eFld fk (eSlot 0) li)) (gTp (gsCons (gNm 3) (gsCons (gNm 4) gsNil)))
    (sFor (iEnA (eSlot 4)) (gTp (gsCons (gNm 5) (gsCons (gNm 6) gsNil)))
      (layIn fk eqm nq sp fN cl)))
  (sFor (iRng1 (eBf fLen (aCons (eFld fk (eSlot 0) sp) aNil))) (gNm 6)
    (sIf (tB (eB (fInO cl eqm nq true) (eSlot 6) (eFld fk (eSlot 0) sp)))
      sFail
      sNil))))))))
structure LayT (tbl : List Fn) (sub fk : Nat → Nat → Bool) (eqm : Nat → Option Nat) (nq c wi li sp fN fS fC fL : Nat) : Prop where
  hN : ∃ s, tbl[fN]? = some ⟨["thing"], ["thing"], s, numB sub⟩
  hS : ∃ s, tbl[fS]? = some ⟨["things", "one"], ["things"], s, setB sub fS⟩
  hC : ∃ s, tbl[fC]? = some ⟨["width"], ["width"], s, chkB eqm nq fN⟩
  hL : ∃ s, tbl[fL]? = some ⟨["self", "width", "lines", "index", "line", "word", "place"], ["self", "width", "lines"], s, layB fk eqm nq wi li sp fS fC fN⟩
  kw : fk c wi = true
  kl : fk c li = true
  ks : fk c sp = true
  d1 : wi ≠ li
  d2 : wi ≠ sp
  d3 : li ≠ sp
def natT (l : List Nat) : D := .tup (l.map fun p : Nat => D.int (p : Int))
def rowS (i : Nat) (l : List Nat) : List (Key × D) := l.zipIdx.map fun p => (Sum.inl (p.1 : Int), D.tup [.int (i : Nat), .int (p.2 : Nat)])
def spotsOf (lines : List (List Nat)) : List (Key × D) := (lines.zipIdx.map fun q => rowS q.2 q.1).flatten
structure LinesOk (w : Nat) (lines : List (List Nat)) : Prop where
  w1 : 4 ≤ w ∧ w ≤ 12
  w2 : w % 2 = 0
  len : ∀ l ∈ lines, 1 ≤ l.length ∧ l.length ≤ w
  nd : lines.flatten.Nodup
  all : ∀ i, i < lines.flatten.length → i ∈ lines.flatten
  few : lines.flatten.length ≤ 1000
  few2 : lines.length ≤ 1000
section
variable {tbl : List Fn} {sub fk : Nat → Nat → Bool} {eqm : Nat → Option Nat} {nq c wi li sp fN fS fC fL : Nat}
theorem num_ok (hN : ∃ s, tbl[fN]? = some ⟨["thing"], ["thing"], s, numB sub⟩) (n : Nat) {i : Int} {st : List O} : callAt tbl (n + 1) fN [.int i] st = some (.bl true, st) := by
  obtain ⟨s, hN⟩ := hN
  refine W_eq (callB hN rfl rfl ?_)
  have e1 : fIsi sub [.int i, .ty .int] st = some (.bl true, st) := rfl
  have e2 : fIsi sub [.int i, .ty .bool] st = some (.bl false, st) := rfl
  simp [numB, e1, e2]
theorem chk_ok (L : LayT tbl sub fk eqm nq c wi li sp fN fS fC fL) (n : Nat) {w : Nat} {st : List O} (h1 : 4 ≤ w ∧ w ≤ 12) (h2 : w % 2 = 0) : callAt tbl (n + 2) fC [.int (w : Int)] st = some (.non, st) := by
  obtain ⟨s, hC⟩ := L.hC
  refine W_eq (callB hC rfl rfl ?_)
  have c1 : (4 : Int) ≤ (w : Int) := by omega
  have c2 : (w : Int) ≤ 12 := by omega
  have c3 : ¬ (w : Int) % 2 = 1 := by omega
  simp [chkB, num_ok L.hN n, eCh, c1, c2, c3]
theorem rowS_len (i : Nat) (l : List Nat) : (rowS i l).length = l.length := by unfold rowS; simp
theorem keys_rowS (i : Nat) (l : List Nat) : (rowS i l).map (·.1) = l.map fun p : Nat => (Sum.inl (p : Int) : Key) := by
  unfold rowS
  apply List.ext_getElem?
  intro k
  simp only [List.getElem?_map, List.getElem?_zipIdx]
  cases l[k]? <;> simp
theorem spots_snoc {lines : List (List Nat)} {l : List Nat} : spotsOf (lines ++ [l]) = spotsOf lines ++ rowS lines.length l := by
  unfold spotsOf
  rw [List.zipIdx_append]
  simp
theorem keys_spots : ∀ lines : List (List Nat), (spotsOf lines).map (·.1) = lines.flatten.map fun p : Nat => (Sum.inl (p : Int) : Key) := by
  intro lines
  suffices h : ∀ k, (spotsOf (lines.take k)).map (·.1) = (lines.take k).flatten.map fun p : Nat => (Sum.inl (p : Int) : Key) by
    have := h lines.length
    rwa [List.take_length] at this
  intro k
  induction k with
  | zero => rfl
  | succ k ih =>
    cases e : lines[k]? with
    | none =>
      have hl := List.getElem?_eq_none_iff.mp e
      rw [List.take_of_length_le (by omega)]
      rwa [List.take_of_length_le (by omega)] at ih
    | some l => rw [take_snoc e, spots_snoc, List.map_append, ih, keys_rowS]; simp
theorem valK_none {κ α : Type} [DecidableEq κ] {k : κ} : ∀ {kvs : List (κ × α)}, k ∉ kvs.map (·.1) → valK kvs k = none
  | [], _ => rfl
  | (a, v) :: r, h => by
    simp at h
    unfold valK
    rw [if_neg (fun e => h.1 e.symm)]
    exact valK_none (by simpa using h.2)
theorem valK_isSome {κ α : Type} [DecidableEq κ] {k : κ} : ∀ {kvs : List (κ × α)}, k ∈ kvs.map (·.1) → (valK kvs k).isSome = true
  | [], h => by cases h
  | (a, v) :: r, h => by
    unfold valK
    by_cases e : a = k
    · rw [if_pos e]; rfl
    · rw [if_neg e]
      refine valK_isSome ?_
      rcases List.mem_cons.mp h with z | z
      · exact absurd z.symm e
      · exact z
theorem putKD_new {κ α : Type} [DecidableEq κ] {k : κ} {v : α} {kvs : List (κ × α)} (h : k ∉ kvs.map (·.1)) : putKD kvs k v = kvs ++ [(k, v)] := by
  unfold putKD
  rw [if_neg]
  intro z
  rw [List.any_eq_true] at z
  obtain ⟨p, hp, e⟩ := z
  exact h (List.mem_map.mpr ⟨p, hp, of_decide_eq_true e⟩)
theorem fInO_dK {cl : CallT} {neg : Bool} {p : Int} {st : List O} {a : Nat} {kvs : List (Key × D)} (h : st[a]? = some (.dK kvs)) : fInO cl eqm nq neg (.int p) (.ref a) st = some (.bl (ng neg (valK kvs (.inl p)).isSome), st) := by
  have e : fIn neg (.int p) (.ref a) st = some (.bl (ng neg (valK kvs (.inl p)).isSome), st) := by
    unfold fIn
    simp only [h]
    rfl
  unfold fInO
  rw [e]
end
end Eng
set_option Elab.async false
set_option linter.all false
set_option maxRecDepth 100000
set_option autoImplicit false
/-! E28: things, and trees of things, compared. -/
namespace Eng
open PySem PySem.Spec PyProof.Rows L2
inductive Tr where
  | lf (p : PyData)
  | tup (ts : List Tr)
  | ob (c : Nat) (ts : List Tr)
mutual
def Tr.py : Tr → Option PyData
  | .lf p => some p
  | .tup ts => match Tr.pyL ts with
    | some ps => some (.tuple ps)
    | none => none
  | .ob _ _ => none
def Tr.pyL : List Tr → Option (List PyData)
  | [] => some []
  | t :: ts => match Tr.py t, Tr.pyL ts with
    | some p, some ps => some (p :: ps)
    | _, _ => none
end
mutual
def Tr.cmp : Tr → Tr → Option Bool
  | .lf p, .lf q => some (PyData.eqv p q)
  | .tup ts, .tup us => Tr.cmpL ts us
  | .ob c ts, .ob d us => if c = d then Tr.cmpL ts us else some false
  | .ob _ _, .lf _ => some false
  | .ob _ _, .tup _ => some false
  | .lf _, .ob _ _ => some false
  | .tup _, .ob _ _ => some false
  | .lf _, .tup _ => none
  | .tup _, .lf _ => none
def Tr.cmpL : List Tr → List Tr → Option Bool
  | [], [] => some true
  | t :: ts, u :: us => match Tr.cmp t u with
    | some true => Tr.cmpL ts us
    | some false => some false
    | none => none
  | [], _ :: _ => some false
  | _ :: _, [] => some false
end
mutual
def Tr.fit (nq : Nat) : Nat → Nat → Tr → Bool
  | _, _, .lf _ => true
  | m, n, .tup ts => decide (1 ≤ n) && Tr.fitL nq m (n - 1) ts
  | m, n, .ob _ ts => decide (1 ≤ n) && decide (2 ≤ m) && Tr.fitL nq (m - 1) (nq - 1) ts
def Tr.fitL (nq : Nat) : Nat → Nat → List Tr → Bool
  | _, _, [] => true
  | m, n, t :: ts => Tr.fit nq m n t && Tr.fitL nq m n ts
end
def atm : D → Option PyData
  | .non => some .none
  | .bl b => some (.bool b)
  | .int i => some (.int i)
  | .str x => some (.str x)
  | _ => none
def getAll (fs : List (Nat × D)) : List Nat → Option (List D)
  | [] => some []
  | i :: r => match getI fs i, getAll fs r with
    | some d, some ds => some (d :: ds)
    | _, _ => none
structure Thg where
  cs : List Nat
  cn : Nat → Str
  fl : Nat → List Nat
  aC : Nat
  aF : Nat
def Thg.fc (G : Thg) (c : Nat) (fs : List (Nat × D)) : Option (List D) := if c ∈ G.cs ∧ getI fs G.aC = none ∧ getI fs G.aF = none then getAll fs (G.fl c) else none
mutual
def Tr.Is (G : Thg) (st : List O) : Tr → D → Prop
  | .lf p, d => atm d = some p ∧ PyData.canLay0 p = true
  | .tup ts, d => ∃ ds, d = .tup ds ∧ Tr.IsL G st ts ds
  | .ob c ts, d => ∃ k fs ds, d = .ref k ∧ st[k]? = some (.ins c fs) ∧ G.fc c fs = some ds ∧ Tr.IsL G st ts ds
def Tr.IsL (G : Thg) (st : List O) : List Tr → List D → Prop
  | [], [] => True
  | t :: ts, d :: ds => Tr.Is G st t d ∧ Tr.IsL G st ts ds
  | [], _ :: _ => False
  | _ :: _, [] => False
end
section
variable {G : Thg} {st st' : List O}
mutual
theorem Tr.Is.ext (E : Ext st st') : ∀ {t : Tr} {d : D}, t.Is G st d → t.Is G st' d
  | .lf p, d, h => by unfold Tr.Is at h ⊢; exact h
  | .tup ts, d, h => by
    unfold Tr.Is at h ⊢
    obtain ⟨ds, e, h⟩ := h
    exact ⟨ds, e, Tr.IsL.ext E h⟩
  | .ob c ts, d, h => by
    unfold Tr.Is at h ⊢
    obtain ⟨k, fs, ds, e, a, b, h⟩ := h
    exact ⟨k, fs, ds, e, E _ _ a, b, Tr.IsL.ext E h⟩
theorem Tr.IsL.ext (E : Ext st st') : ∀ {ts : List Tr} {ds : List D}, Tr.IsL G st ts ds → Tr.IsL G st' ts ds
  | [], [], _ => by unfold Tr.IsL; trivial
  | t :: ts, d :: ds, h => by
    unfold Tr.IsL at h ⊢
    exact ⟨Tr.Is.ext E h.1, Tr.IsL.ext E h.2⟩
  | [], _ :: _, h => by unfold Tr.IsL at h; exact h.elim
  | _ :: _, [], h => by unfold Tr.IsL at h; exact h.elim
end
mutual
theorem Tr.Is.fn : ∀ {t u : Tr} {d : D}, t.Is G st d → u.Is G st d → t = u
  | .lf p, .lf q, d, h, k => by
    unfold Tr.Is at h k
    have := h.1.symm.trans k.1
    cases this
    rfl
  | .lf p, .tup us, d, h, k => by
    unfold Tr.Is at h k
    obtain ⟨ds, rfl, _⟩ := k
    cases h.1
  | .lf p, .ob c us, d, h, k => by
    unfold Tr.Is at h k
    obtain ⟨j, fs, ds, rfl, _⟩ := k
    cases h.1
  | .tup ts, .lf p, d, h, k => by
    unfold Tr.Is at h k
    obtain ⟨ds, rfl, _⟩ := h
    cases k.1
  | .ob c us, .lf p, d, h, k => by
    unfold Tr.Is at h k
    obtain ⟨j, fs, ds, rfl, _⟩ := h
    cases k.1
  | .tup ts, .tup us, d, h, k => by
    unfold Tr.Is at h k
    obtain ⟨ds, rfl, h⟩ := h
    obtain ⟨es, e, k⟩ := k
    cases e
    rw [Tr.IsL.fn h k]
  | .tup ts, .ob c us, d, h, k => by
    unfold Tr.Is at h k
    obtain ⟨j, fs, ds, rfl, _⟩ := k
    obtain ⟨es, e, _⟩ := h
    cases e
  | .ob c us, .tup ts, d, h, k => by
    unfold Tr.Is at h k
    obtain ⟨j, fs, ds, rfl, _⟩ := h
    obtain ⟨es, e, _⟩ := k
    cases e
  | .ob c ts, .ob c' us, d, h, k => by
    unfold Tr.Is at h k
    obtain ⟨j, fs, ds, rfl, a, b, h⟩ := h
    obtain ⟨j', fs', ds', e, a', b', k⟩ := k
    cases e
    rw [a] at a'
    cases a'
    rw [b] at b'
    cases b'
    rw [Tr.IsL.fn h k]
theorem Tr.IsL.fn : ∀ {ts us : List Tr} {ds : List D}, Tr.IsL G st ts ds → Tr.IsL G st us ds → ts = us
  | [], [], _, _, _ => rfl
  | [], _ :: _, [], _, k => by unfold Tr.IsL at k; exact k.elim
  | [], _ :: _, _ :: _, h, _ => by unfold Tr.IsL at h; exact h.elim
  | _ :: _, [], [], h, _ => by unfold Tr.IsL at h; exact h.elim
  | _ :: _, [], _ :: _, _, k => by unfold Tr.IsL at k; exact k.elim
  | _ :: _, _ :: _, [], h, _ => by unfold Tr.IsL at h; exact h.elim
  | t :: ts, u :: us, d :: ds, h, k => by
    unfold Tr.IsL at h k
    rw [Tr.Is.fn h.1 k.1, Tr.IsL.fn h.2 k.2]
end
mutual
theorem Tr.cmp_refl : ∀ {t : Tr} {d : D}, t.Is G st d → t.cmp t = some true
  | .lf p, d, h => by
    unfold Tr.Is at h
    unfold Tr.cmp
    rw [PySem.SeqAt.eqv_refl _ h.2]
  | .tup ts, d, h => by
    unfold Tr.Is at h
    obtain ⟨ds, rfl, h⟩ := h
    unfold Tr.cmp
    exact Tr.cmpL_refl h
  | .ob c ts, d, h => by
    unfold Tr.Is at h
    obtain ⟨j, fs, ds, rfl, a, b, h⟩ := h
    unfold Tr.cmp
    rw [if_pos rfl]
    exact Tr.cmpL_refl h
theorem Tr.cmpL_refl : ∀ {ts : List Tr} {ds : List D}, Tr.IsL G st ts ds → Tr.cmpL ts ts = some true
  | [], _, _ => by unfold Tr.cmpL; rfl
  | _ :: _, [], h => by unfold Tr.IsL at h; exact h.elim
  | t :: ts, d :: ds, h => by
    unfold Tr.IsL at h
    unfold Tr.cmpL
    rw [Tr.cmp_refl h.1]
    exact Tr.cmpL_refl h.2
end
theorem toPy_atm {d : D} {p : PyData} (h : atm d = some p) : ∀ k : Nat, toPy st k d = some p := by
  intro k
  cases d <;> simp only [atm] at h <;> first | (cases h; done) | (cases h; cases k <;> rfl)
mutual
theorem Tr.toPy_is {nq : Nat} : ∀ {t : Tr} {d : D} {m n k : Nat}, t.Is G st d → t.fit nq m n = true → n ≤ k → toPy st k d = t.py
  | .lf p, d, m, n, k, h, _, _ => by
    unfold Tr.Is at h
    unfold Tr.py
    exact toPy_atm h.1 k
  | .tup ts, d, m, n, k, h, f, hk => by
    unfold Tr.Is at h
    obtain ⟨ds, rfl, h⟩ := h
    unfold Tr.fit at f
    rw [Bool.and_eq_true, decide_eq_true_eq] at f
    cases k with
    | zero => omega
    | succ k =>
      unfold Tr.py
      rw [← Tr.toPyL_is (k := k) h f.2 (by omega)]
      rfl
  | .ob c ts, d, m, n, k, h, f, hk => by
    unfold Tr.Is at h
    obtain ⟨j, fs, ds, rfl, a, b, h⟩ := h
    unfold Tr.py
    cases k with
    | zero => rfl
    | succ k =>
      show (match st[j]? with | some (.lst xs) => (match toPyL (toPy st k) xs with | some ps => some (PyData.list ps) | none => none) | _ => none) = none
      rw [a]
theorem Tr.toPyL_is {nq : Nat} : ∀ {ts : List Tr} {ds : List D} {m n k : Nat}, Tr.IsL G st ts ds → Tr.fitL nq m n ts = true → n ≤ k → toPyL (toPy st k) ds = Tr.pyL ts
  | [], [], _, _, _, _, _, _ => by unfold Tr.pyL; rfl
  | [], _ :: _, _, _, _, h, _, _ => by unfold Tr.IsL at h; exact h.elim
  | _ :: _, [], _, _, _, h, _, _ => by unfold Tr.IsL at h; exact h.elim
  | t :: ts, d :: ds, m, n, k, h, f, hk => by
    unfold Tr.IsL at h
    unfold Tr.fitL at f
    rw [Bool.and_eq_true] at f
    unfold toPyL Tr.pyL
    rw [Tr.toPy_is h.1 f.1 hk, Tr.toPyL_is h.2 f.2 hk]
    all_goals (cases t.py <;> cases Tr.pyL ts <;> rfl)
end
mutual
theorem Tr.py_ok {nq : Nat} : ∀ {t : Tr} {d : D} {m n : Nat} {p : PyData}, t.Is G st d → t.fit nq m n = true → t.py = some p → p.canLay0 = true ∧ p.depth ≤ n
  | .lf q, d, m, n, p, h, _, e => by
    unfold Tr.Is at h
    unfold Tr.py at e
    cases e
    refine ⟨h.2, ?_⟩
    obtain ⟨h, _⟩ := h
    cases d <;> simp only [atm] at h <;> first | (cases h; done) | (cases h; exact Nat.zero_le _)
  | .tup ts, d, m, n, p, h, f, e => by
    unfold Tr.Is at h
    obtain ⟨ds, rfl, h⟩ := h
    unfold Tr.fit at f
    rw [Bool.and_eq_true, decide_eq_true_eq] at f
    unfold Tr.py at e
    cases e1 : Tr.pyL ts with
    | none => rw [e1] at e; cases e
    | some ps =>
      rw [e1] at e
      cases e
      have := Tr.pyL_ok h f.2 e1
      exact ⟨this.1, by show PyData.depthAll ps + 1 ≤ n; omega⟩
  | .ob c ts, d, m, n, p, h, f, e => by unfold Tr.py at e; cases e
theorem Tr.pyL_ok {nq : Nat} : ∀ {ts : List Tr} {ds : List D} {m n : Nat} {ps : List PyData}, Tr.IsL G st ts ds → Tr.fitL nq m n ts = true → Tr.pyL ts = some ps → PyData.canLayAll0 ps = true ∧ PyData.depthAll ps ≤ n
  | [], [], _, _, _, _, _, e => by unfold Tr.pyL at e; cases e; exact ⟨rfl, Nat.zero_le _⟩
  | [], _ :: _, _, _, _, h, _, _ => by unfold Tr.IsL at h; exact h.elim
  | _ :: _, [], _, _, _, h, _, _ => by unfold Tr.IsL at h; exact h.elim
  | t :: ts, d :: ds, m, n, ps, h, f, e => by
    unfold Tr.IsL at h
    unfold Tr.fitL at f
    rw [Bool.and_eq_true] at f
    unfold Tr.pyL at e
    cases e1 : Tr.py t with
    | none => rw [e1] at e; cases e
    | some p =>
      cases e2 : Tr.pyL ts with
      | none => rw [e1, e2] at e; cases e
      | some qs =>
        rw [e1, e2] at e
        cases e
        have a := Tr.py_ok h.1 f.1 e1
        have b := Tr.pyL_ok h.2 f.2 e2
        refine ⟨?_, ?_⟩
        · show (p.canLay0 && PyData.canLayAll0 qs) = true
          rw [a.1, b.1]; rfl
        · show max p.depth (PyData.depthAll qs) ≤ n
          omega
end
mutual
theorem Tr.cmp_py : ∀ {t u : Tr} {p q : PyData} {b : Bool}, t.py = some p → u.py = some q → t.cmp u = some b → PyData.eqv p q = b
  | .lf p, .lf q, _, _, b, h, k, e => by
    unfold Tr.py at h k
    cases h
    cases k
    unfold Tr.cmp at e
    cases e
    rfl
  | .lf _, .tup _, _, _, _, _, _, e => by unfold Tr.cmp at e; cases e
  | .tup _, .lf _, _, _, _, _, _, e => by unfold Tr.cmp at e; cases e
  | .ob _ _, _, _, _, _, h, _, _ => by unfold Tr.py at h; cases h
  | .lf _, .ob _ _, _, _, _, _, k, _ => by unfold Tr.py at k; cases k
  | .tup _, .ob _ _, _, _, _, _, k, _ => by unfold Tr.py at k; cases k
  | .tup ts, .tup us, p, q, b, h, k, e => by
    unfold Tr.py at h k
    unfold Tr.cmp at e
    cases e1 : Tr.pyL ts with
    | none => rw [e1] at h; cases h
    | some ps =>
      cases e2 : Tr.pyL us with
      | none => rw [e2] at k; cases k
      | some qs =>
        rw [e1] at h
        rw [e2] at k
        cases h
        cases k
        exact Tr.cmpL_py e1 e2 e
theorem Tr.cmpL_py : ∀ {ts us : List Tr} {ps qs : List PyData} {b : Bool}, Tr.pyL ts = some ps → Tr.pyL us = some qs → Tr.cmpL ts us = some b → PyData.eqvAll ps qs = b
  | [], [], _, _, _, h, k, e => by unfold Tr.pyL at h k; cases h; cases k; unfold Tr.cmpL at e; cases e; rfl
  | [], u :: us, _, qs, _, h, k, e => by
    unfold Tr.pyL at h k
    cases h
    unfold Tr.cmpL at e
    cases e
    cases e1 : Tr.py u with
    | none => rw [e1] at k; cases k
    | some p =>
      cases e2 : Tr.pyL us with
      | none => rw [e1, e2] at k; cases k
      | some ps => rw [e1, e2] at k; cases k; rfl
  | t :: ts, [], ps, _, _, h, k, e => by
    unfold Tr.pyL at h k
    cases k
    unfold Tr.cmpL at e
    cases e
    cases e1 : Tr.py t with
    | none => rw [e1] at h; cases h
    | some p =>
      cases e2 : Tr.pyL ts with
      | none => rw [e1, e2] at h; cases h
      | some ps => rw [e1, e2] at h; cases h; rfl
  | t :: ts, u :: us, ps, qs, b, h, k, e => by
    unfold Tr.pyL at h k
    unfold Tr.cmpL at e
    cases e1 : Tr.py t with
    | none => rw [e1] at h; cases h
    | some p =>
      cases e2 : Tr.pyL ts with
      | none => rw [e1, e2] at h; cases h
      | some ps =>
        rw [e1, e2] at h
        cases h
        cases e3 : Tr.py u with
        | none => rw [e3] at k; cases k
        | some q =>
          cases e4 : Tr.pyL us with
          | none => rw [e3, e4] at k; cases k
          | some qs =>
            rw [e3, e4] at k
            cases k
            show (PyData.eqv p q && PyData.eqvAll ps qs) = b
            cases e5 : Tr.cmp t u with
            | none => rw [e5] at e; cases e
            | some r =>
              rw [Tr.cmp_py e1 e3 e5]
              rw [e5] at e
              cases r with
              | false => cases e; rfl
              | true => rw [Tr.cmpL_py e2 e4 e]; rfl
end
/-! ### the table's part -/
def eqB (sub : Nat → Nat → Bool) (mt : Nat → Nat → Option Nat) (eqm : Nat → Option Nat) (nq cT aC aF : Nat) (cl : CallT) : Es :=
  (sSeq (sIf (Eng.tOr (tNo (tV (eBf (fIsi sub) (aCons (eSlot 1) (aCons (eC (.cls cT)) aNil))))) (tB (eB (fNeO cl eqm nq) (eMeth cl mt (eSlot 0) aC aNil) (eMeth cl mt (eSlot 1) aC aNil))))
    (sRet (eC (.bl false)))
    sNil)
  (sRet (eB (fEqO cl eqm nq) (eMeth cl mt (eSlot 0) aF aNil) (eMeth cl mt (eSlot 1) aF aNil))))
structure ThT (tbl : List Fn) (sub : Nat → Nat → Bool) (mt : Nat → Nat → Option Nat) (eqm : Nat → Option Nat) (nq cT fE : Nat) (G : Thg) : Prop where
  hE : ∃ s, tbl[fE]? = some ⟨["self", "other"], ["self", "other"], s, eqB sub mt eqm nq cT G.aC G.aF⟩
  eqm : ∀ c ∈ G.cs, eqm c = some fE
  sub : ∀ c ∈ G.cs, sub c cT = true
  cn : ∀ c ∈ G.cs, ∃ f, mt c G.aC = some f ∧ ∀ (n k : Nat) (fs : List (Nat × D)) (st : List O), st[k]? = some (.ins c fs) → callAt tbl (n + 1) f [.ref k] st = some (.str (G.cn c), st)
  fc : ∀ c ∈ G.cs, ∃ f, mt c G.aF = some f ∧ ∀ (n k : Nat) (fs : List (Nat × D)) (ds : List D) (st : List O), st[k]? = some (.ins c fs) → getAll fs (G.fl c) = some ds → callAt tbl (n + 1) f [.ref k] st = some (.tup ds, st)
  inj : ∀ c ∈ G.cs, ∀ d ∈ G.cs, G.cn c = G.cn d → c = d
  asc : ∀ c ∈ G.cs, Asc (G.cn c)
  nq1 : 1 ≤ nq
  nq4 : nq ≤ 8
theorem fc_of {c : Nat} {fs : List (Nat × D)} {ds : List D} (h : G.fc c fs = some ds) : c ∈ G.cs ∧ getI fs G.aC = none ∧ getI fs G.aF = none ∧ getAll fs (G.fl c) = some ds := by
  unfold Thg.fc at h
  split at h
  · rename_i k; exact ⟨k.1, k.2.1, k.2.2, h⟩
  · cases h
variable {tbl : List Fn} {sub : Nat → Nat → Bool} {mt : Nat → Nat → Option Nat} {eqm : Nat → Option Nat} {nq cT fE : Nat}
theorem fc_meth {cl : CallT} {env : Sl} {i k f c a : Nat} {fs : List (Nat × D)} (he : env[i]? = some (some (.ref k))) (hk : st[k]? = some (.ins c fs)) (hm : mt c a = some f) (hg : getI fs a = none) : eMeth cl mt (eSlot i) a aNil env st = cl f [.ref k] st := by
  unfold eMeth
  have : eSlot i env st = some (.ref k, st) := by unfold eSlot; rw [he]
  rw [this]
  simp only [bnd_some, hk, hm, hg]
  rfl
/-- == of a thing and what is none -/
theorem eq_other (T : ThT tbl sub mt eqm nq cT fE G) {k : Nat} {e : D} {t : BT} (m : Nat) (he : tagOf st e = some (.b t)) : callAt tbl (m + 1) fE [.ref k, e] st = some (.bl false, st) := by
  obtain ⟨s, hE⟩ := T.hE
  refine W_eq (callB hE rfl rfl ?_)
  have e1 : fIsi sub [e, .cls cT] st = some (.bl false, st) := by
    unfold fIsi
    dsimp only
    rw [he]
    rfl
  simp [eqB, e1]
/-- == of two things -/
theorem eq_things (T : ThT tbl sub mt eqm nq cT fE G) {j k c c' : Nat} {fs fs' : List (Nat × D)} {ds ds' : List D} {b : Bool} (m : Nat) (h1 : st[j]? = some (.ins c fs)) (h2 : st[k]? = some (.ins c' fs')) (f1 : G.fc c fs = some ds) (f2 : G.fc c' fs' = some ds') (hr : c = c' → rcN (callAt tbl (m + 1)) eqm nq (.tup ds) (.tup ds') st = some (b, st)) :
    callAt tbl (m + 2) fE [.ref j, .ref k] st = some (.bl (if c = c' then b else false), st) := by
  obtain ⟨s, hE⟩ := T.hE
  obtain ⟨a1, a2, a3, a4⟩ := fc_of f1
  obtain ⟨b1, b2, b3, b4⟩ := fc_of f2
  obtain ⟨g1, m1, c1⟩ := T.cn c a1
  obtain ⟨g2, m2, c2⟩ := T.cn c' b1
  obtain ⟨g3, m3, c3⟩ := T.fc c a1
  obtain ⟨g4, m4, c4⟩ := T.fc c' b1
  refine W_eq (callB hE rfl rfl ?_)
  have e1 : fIsi sub [.ref k, .cls cT] st = some (.bl true, st) := by
    unfold fIsi
    dsimp only
    rw [tagOf_ref h2]
    show (match (some (sub c' cT) : Option Bool) with | some b => some (D.bl b, st) | none => none) = _
    rw [T.sub c' b1]
  have x1 := fc_meth (cl := callAt tbl (m + 1)) (env := [some (.ref j), some (.ref k)]) (i := 0) rfl h1 m1 a2
  have x2 := fc_meth (cl := callAt tbl (m + 1)) (env := [some (.ref j), some (.ref k)]) (i := 1) rfl h2 m2 b2
  have x3 := fc_meth (cl := callAt tbl (m + 1)) (env := [some (.ref j), some (.ref k)]) (i := 0) rfl h1 m3 a3
  have x4 := fc_meth (cl := callAt tbl (m + 1)) (env := [some (.ref j), some (.ref k)]) (i := 1) rfl h2 m4 b3
  rw [c1 m j fs st h1] at x1
  rw [c2 m k fs' st h2] at x2
  rw [c3 m j fs ds st h1 a4] at x3
  rw [c4 m k fs' ds' st h2 b4] at x4
  have e2 := neS (cl := callAt tbl (m + 1)) (eqm := eqm) (n := nq) (st := st) (T.asc c a1) (T.asc c' b1)
  by_cases hc : c = c'
  · have e3 : fEqO (callAt tbl (m + 1)) eqm nq (.tup ds) (.tup ds') st = some (.bl b, st) := by
      unfold fEqO
      rw [hr hc, bnd_some]
    have e4 : G.cn c = G.cn c' := by rw [hc]
    rw [decide_eq_true e4] at e2
    simp [eqB, e1, x1, x2, e2, x3, x4, e3]
    simp [hc]
  · have e4 : ¬ G.cn c = G.cn c' := fun z => hc (T.inj c a1 c' b1 z)
    rw [decide_eq_false e4] at e2
    simp [eqB, e1, x1, x2, e2]
    simp [hc]
theorem rc_tup {cl : CallT} {m n : Nat} {ts us : List Tr} {ds es : List D} {b : Bool} (hn : n ≤ 7) (f1 : Tr.fitL nq m n ts = true) (f2 : Tr.fitL nq m n us = true) (h1 : Tr.IsL G st ts ds) (h2 : Tr.IsL G st us es) (hc : Tr.cmpL ts us = some b) (hr : eqTs (ebq (rcN cl eqm n)) ds es st = some (b, st)) :
    rcN cl eqm (n + 1) (.tup ds) (.tup es) st = some (b, st) := by
  have t1 : toPy st 8 (.tup ds) = (Tr.tup ts).py := Tr.toPy_is (G := G) (nq := nq) (m := m) (n := n + 1) (by unfold Tr.Is; exact ⟨ds, rfl, h1⟩) (by unfold Tr.fit; simp [f1]) (by omega)
  have t2 : toPy st 8 (.tup es) = (Tr.tup us).py := Tr.toPy_is (G := G) (nq := nq) (m := m) (n := n + 1) (by unfold Tr.Is; exact ⟨es, rfl, h2⟩) (by unfold Tr.fit; simp [f2]) (by omega)
  unfold rcN
  rw [t1, t2]
  cases e1 : (Tr.tup ts).py with
  | none => cases e2 : (Tr.tup us).py <;> exact hr
  | some p =>
    cases e2 : (Tr.tup us).py with
    | none => exact hr
    | some q =>
      have o1 := Tr.py_ok (G := G) (st := st) (d := .tup ds) (nq := nq) (m := m) (n := n + 1) (by unfold Tr.Is; exact ⟨ds, rfl, h1⟩) (by unfold Tr.fit; simp [f1]) e1
      have o2 := Tr.py_ok (G := G) (st := st) (d := .tup es) (nq := nq) (m := m) (n := n + 1) (by unfold Tr.Is; exact ⟨es, rfl, h2⟩) (by unfold Tr.fit; simp [f2]) e2
      dsimp only
      rw [o1.1, o2.1, decide_eq_true (show p.depth ≤ 64 by omega), Tr.cmp_py e1 e2 (by unfold Tr.cmp; exact hc)]
      rfl
theorem atm_tag {d : D} {p : PyData} (h : atm d = some p) : ∃ t, tagOf st d = some (.b t) := by
  cases d <;> simp only [atm] at h <;> first | (cases h; done) | exact ⟨_, rfl⟩
theorem rc_owq (T : ThT tbl sub mt eqm nq cT fE G) {cl : CallT} {c k : Nat} {e : D} {t : Tg} {b : Bool} (hc : c ∈ G.cs) (he : tagOf st e = some t) (h : cl fE [.ref k, e] st = some (.bl b, st)) : owq cl eqm c (.ref k) e st = some (b, st) := by
  unfold owq
  rw [he]
  simp only [Option.isNone_some, Bool.false_eq_true, if_false, T.eqm c hc, h, bnd_some]
theorem ins_noPy {j c : Nat} {fs : List (Nat × D)} (h : st[j]? = some (.ins c fs)) : toPy st 8 (.ref j) = none := by
  show (match st[j]? with | some (.lst xs) => (match toPyL (toPy st 7) xs with | some ps => some (PyData.list ps) | none => none) | _ => none) = none
  rw [h]
theorem rc_ins {cl : CallT} {n j c : Nat} {fs : List (Nat × D)} {e : D} (h : st[j]? = some (.ins c fs)) : rcN cl eqm (n + 1) (.ref j) e st = owq cl eqm c (.ref j) e st := by
  unfold rcN
  rw [ins_noPy h]
  simp only [h]
theorem rc_insR {cl : CallT} {n j c : Nat} {fs : List (Nat × D)} {d : D} (h : st[j]? = some (.ins c fs)) (hd : (∃ p, atm d = some p) ∨ ∃ ds, d = .tup ds) : rcN cl eqm (n + 1) d (.ref j) st = owq cl eqm c (.ref j) d st := by
  unfold rcN
  rw [ins_noPy h]
  rcases hd with ⟨p, hd⟩ | ⟨ds, rfl⟩
  · cases d <;> simp only [atm] at hd <;> first | (cases hd; done) | (cases toPy st 8 _ <;> simp only [h])
  · cases toPy st 8 (.tup ds) <;> simp only [h]
mutual
theorem Tr.rc (T : ThT tbl sub mt eqm nq cT fE G) : ∀ (t u : Tr) (m n : Nat) (d e : D) (b : Bool), n ≤ 8 → t.fit nq m n = true → u.fit nq m n = true → t.Is G st d → u.Is G st e → t.cmp u = some b → rcN (callAt tbl m) eqm n d e st = some (b, st)
  | .lf p, .lf q, m, n, d, e, b, hn, _, _, h, k, hc => by
    unfold Tr.Is at h k
    unfold rcN
    rw [toPy_atm h.1, toPy_atm k.1]
    dsimp only
    have o1 := Tr.py_ok (G := G) (st := st) (nq := nq) (t := .lf p) (d := d) (m := 0) (n := 0) (p := p) (by unfold Tr.Is; exact h) (by unfold Tr.fit; rfl) (by unfold Tr.py; rfl)
    rw [h.2, k.2, decide_eq_true (show p.depth ≤ 64 by omega)]
    unfold Tr.cmp at hc
    cases hc
    rfl
  | .lf _, .tup _, _, _, _, _, _, _, _, _, _, _, hc => by unfold Tr.cmp at hc; cases hc
  | .tup _, .lf _, _, _, _, _, _, _, _, _, _, _, hc => by unfold Tr.cmp at hc; cases hc
  | .tup ts, .tup us, m, n, d, e, b, hn, f1, f2, h, k, hc => by
    unfold Tr.Is at h k
    obtain ⟨ds, rfl, h⟩ := h
    obtain ⟨es, rfl, k⟩ := k
    unfold Tr.fit at f1 f2
    rw [Bool.and_eq_true, decide_eq_true_eq] at f1 f2
    unfold Tr.cmp at hc
    obtain ⟨n', rfl⟩ : ∃ n', n = n' + 1 := ⟨n - 1, by omega⟩
    exact rc_tup (by omega) f1.2 f2.2 h k hc (Tr.rcL T ts us m n' ds es b (by omega) f1.2 f2.2 h k hc)
  | .ob c ts, .ob c' us, m, n, d, e, b, hn, f1, f2, h, k, hc => by
    unfold Tr.Is at h k
    obtain ⟨j, fs, ds, rfl, a1, a2, h⟩ := h
    obtain ⟨j', fs', ds', rfl, b1, b2, k⟩ := k
    unfold Tr.fit at f1 f2
    simp only [Bool.and_eq_true, decide_eq_true_eq] at f1 f2
    unfold Tr.cmp at hc
    obtain ⟨n', rfl⟩ : ∃ n', n = n' + 1 := ⟨n - 1, by omega⟩
    obtain ⟨m', rfl⟩ : ∃ m', m = m' + 2 := ⟨m - 2, by omega⟩
    have q1 := T.nq1
    have q4 := T.nq4
    rw [rc_ins a1]
    refine rc_owq T (fc_of a2).1 (tagOf_ref b1) ?_
    by_cases hcc : c = c'
    · rw [if_pos hcc] at hc
      have z1 := Tr.rcL T ts us (m' + 1) (nq - 1) ds ds' b (by omega) f1.2 f2.2 h k hc
      have z2 := rc_tup (m := m' + 1) (n := nq - 1) (by omega) f1.2 f2.2 h k hc z1
      rw [Nat.sub_add_cancel q1] at z2
      have := eq_things T (b := b) m' a1 b1 a2 b2 fun _ => z2
      rw [if_pos hcc] at this
      exact this
    · rw [if_neg hcc] at hc
      cases hc
      have := eq_things T (b := false) m' a1 b1 a2 b2 fun z => absurd z hcc
      rw [if_neg hcc] at this
      exact this
  | .ob c ts, .lf p, m, n, d, e, b, hn, f1, f2, h, k, hc => by
    unfold Tr.Is at h k
    obtain ⟨j, fs, ds, rfl, a1, a2, h⟩ := h
    unfold Tr.fit at f1
    simp only [Bool.and_eq_true, decide_eq_true_eq] at f1
    unfold Tr.cmp at hc
    cases hc
    obtain ⟨n', rfl⟩ : ∃ n', n = n' + 1 := ⟨n - 1, by omega⟩
    obtain ⟨m', rfl⟩ : ∃ m', m = m' + 1 := ⟨m - 1, by omega⟩
    obtain ⟨t, ht⟩ := atm_tag (st := st) k.1
    rw [rc_ins a1]
    exact rc_owq T (fc_of a2).1 ht (eq_other T m' ht)
  | .ob c ts, .tup us, m, n, d, e, b, hn, f1, f2, h, k, hc => by
    unfold Tr.Is at h k
    obtain ⟨j, fs, ds, rfl, a1, a2, h⟩ := h
    obtain ⟨es, rfl, k⟩ := k
    unfold Tr.fit at f1
    simp only [Bool.and_eq_true, decide_eq_true_eq] at f1
    unfold Tr.cmp at hc
    cases hc
    obtain ⟨n', rfl⟩ : ∃ n', n = n' + 1 := ⟨n - 1, by omega⟩
    obtain ⟨m', rfl⟩ : ∃ m', m = m' + 1 := ⟨m - 1, by omega⟩
    rw [rc_ins a1]
    exact rc_owq T (fc_of a2).1 rfl (eq_other T m' (e := .tup es) (t := .tuple) rfl)
  | .lf p, .ob c ts, m, n, d, e, b, hn, f1, f2, h, k, hc => by
    unfold Tr.Is at h k
    obtain ⟨j, fs, ds, rfl, a1, a2, k⟩ := k
    unfold Tr.fit at f2
    simp only [Bool.and_eq_true, decide_eq_true_eq] at f2
    unfold Tr.cmp at hc
    cases hc
    obtain ⟨n', rfl⟩ : ∃ n', n = n' + 1 := ⟨n - 1, by omega⟩
    obtain ⟨m', rfl⟩ : ∃ m', m = m' + 1 := ⟨m - 1, by omega⟩
    obtain ⟨t, ht⟩ := atm_tag (st := st) h.1
    rw [rc_insR a1 (.inl ⟨p, h.1⟩)]
    exact rc_owq T (fc_of a2).1 ht (eq_other T m' ht)
  | .tup us, .ob c ts, m, n, d, e, b, hn, f1, f2, h, k, hc => by
    unfold Tr.Is at h k
    obtain ⟨j, fs, ds, rfl, a1, a2, k⟩ := k
    obtain ⟨es, rfl, h⟩ := h
    unfold Tr.fit at f2
    simp only [Bool.and_eq_true, decide_eq_true_eq] at f2
    unfold Tr.cmp at hc
    cases hc
    obtain ⟨n', rfl⟩ : ∃ n', n = n' + 1 := ⟨n - 1, by omega⟩
    obtain ⟨m', rfl⟩ : ∃ m', m = m' + 1 := ⟨m - 1, by omega⟩
    rw [rc_insR a1 (.inr ⟨es, rfl⟩)]
    exact rc_owq T (fc_of a2).1 rfl (eq_other T m' (e := .tup es) (t := .tuple) rfl)
theorem Tr.rcL (T : ThT tbl sub mt eqm nq cT fE G) : ∀ (ts us : List Tr) (m n : Nat) (ds es : List D) (b : Bool), n ≤ 8 → Tr.fitL nq m n ts = true → Tr.fitL nq m n us = true → Tr.IsL G st ts ds → Tr.IsL G st us es → Tr.cmpL ts us = some b → eqTs (ebq (rcN (callAt tbl m) eqm n)) ds es st = some (b, st)
  | [], [], m, n, [], [], b, _, _, _, _, _, hc => by unfold Tr.cmpL at hc; cases hc; rfl
  | [], u :: us, m, n, [], e :: es, b, _, _, _, _, _, hc => by unfold Tr.cmpL at hc; cases hc; rfl
  | t :: ts, [], m, n, d :: ds, [], b, _, _, _, _, _, hc => by unfold Tr.cmpL at hc; cases hc; rfl
  | [], _, _, _, _ :: _, _, _, _, _, _, h, _, _ => by unfold Tr.IsL at h; exact h.elim
  | _ :: _, _, _, _, [], _, _, _, _, _, h, _, _ => by unfold Tr.IsL at h; exact h.elim
  | _, [], _, _, _, _ :: _, _, _, _, _, _, k, _ => by unfold Tr.IsL at k; exact k.elim
  | _, _ :: _, _, _, _, [], _, _, _, _, _, k, _ => by unfold Tr.IsL at k; exact k.elim
  | t :: ts, u :: us, m, n, d :: ds, e :: es, b, hn, f1, f2, h, k, hc => by
    unfold Tr.IsL at h k
    unfold Tr.fitL at f1 f2
    rw [Bool.and_eq_true] at f1 f2
    unfold Tr.cmpL at hc
    have one : ∀ r, t.cmp u = some r → ebq (rcN (callAt tbl m) eqm n) d e st = some (r, st) := fun r hr => by
      unfold ebq
      split
      · rename_i hs
        have hde : d = e := by
          cases d <;> cases e <;> simp only [sameRef] at hs <;> first | (cases hs; done) | (rw [of_decide_eq_true hs])
        subst hde
        have := Tr.Is.fn h.1 k.1
        subst this
        rw [Tr.cmp_refl h.1] at hr
        cases hr
        rfl
      · exact Tr.rc T t u m n d e r hn f1.1 f2.1 h.1 k.1 hr
    cases e5 : Tr.cmp t u with
    | none => rw [e5] at hc; cases hc
    | some r =>
      rw [e5] at hc
      unfold eqTs
      rw [one r e5, bnd_some]
      cases r with
      | false => cases hc; rfl
      | true => exact Tr.rcL T ts us m n ds es b hn f1.2 f2.2 h.2 k.2 hc
end
theorem Tr.eqO (T : ThT tbl sub mt eqm nq cT fE G) {t u : Tr} {m : Nat} {d e : D} {b : Bool} (f1 : t.fit nq m nq = true) (f2 : u.fit nq m nq = true) (h : t.Is G st d) (k : u.Is G st e) (hc : t.cmp u = some b) : fEqO (callAt tbl m) eqm nq d e st = some (.bl b, st) := by
  unfold fEqO
  rw [Tr.rc T t u m nq d e b T.nq4 f1 f2 h k hc, bnd_some]
theorem Tr.neO (T : ThT tbl sub mt eqm nq cT fE G) {u : Tr} {c m : Nat} {ts : List Tr} {d e : D} {b : Bool} (f1 : (Tr.ob c ts).fit nq m nq = true) (f2 : u.fit nq m nq = true) (h : (Tr.ob c ts).Is G st d) (k : u.Is G st e) (hc : (Tr.ob c ts).cmp u = some b) : fNeO (callAt tbl m) eqm nq d e st = some (.bl (!b), st) := by
  have := Tr.rc T _ u m nq d e b T.nq4 f1 f2 h k hc
  unfold Tr.Is at h
  obtain ⟨j, fs, ds, rfl, a1, a2, h⟩ := h
  have q1 := T.nq1
  obtain ⟨q, rfl⟩ : ∃ q, nq = q + 1 := ⟨nq - 1, by omega⟩
  rw [rc_ins a1] at this
  unfold fNeO
  rw [ins_noPy a1]
  simp only
  unfold nwq
  simp only [a1]
  rw [this, bnd_some]
theorem Tr.neT (T : ThT tbl sub mt eqm nq cT fE G) {m : Nat} {ts us : List Tr} {ds es : List D} {b : Bool} (hn : nq ≤ 7) (f1 : Tr.fitL nq m nq ts = true) (f2 : Tr.fitL nq m nq us = true) (h : Tr.IsL G st ts ds) (k : Tr.IsL G st us es) (hc : Tr.cmpL ts us = some b) : fNeO (callAt tbl m) eqm nq (.tup ds) (.tup es) st = some (.bl (!b), st) := by
  have hr := Tr.rcL T ts us m nq ds es b (by omega) f1 f2 h k hc
  have t1 : toPy st 8 (.tup ds) = (Tr.tup ts).py := Tr.toPy_is (G := G) (nq := nq) (m := m) (n := nq + 1) (by unfold Tr.Is; exact ⟨ds, rfl, h⟩) (by unfold Tr.fit; simp [f1]) (by omega)
  have t2 : toPy st 8 (.tup es) = (Tr.tup us).py := Tr.toPy_is (G := G) (nq := nq) (m := m) (n := nq + 1) (by unfold Tr.Is; exact ⟨es, rfl, k⟩) (by unfold Tr.fit; simp [f2]) (by omega)
  have fin : nwq (callAt tbl m) eqm nq (.tup ds) (.tup es) st = some (.bl (!b), st) := by
    unfold nwq
    simp only
    rw [hr, bnd_some]
  unfold fNeO
  rw [t1, t2]
  cases e1 : (Tr.tup ts).py with
  | none => cases e2 : (Tr.tup us).py <;> exact fin
  | some p =>
    cases e2 : (Tr.tup us).py with
    | none => exact fin
    | some q =>
      have o1 := Tr.py_ok (G := G) (st := st) (d := .tup ds) (nq := nq) (m := m) (n := nq + 1) (by unfold Tr.Is; exact ⟨ds, rfl, h⟩) (by unfold Tr.fit; simp [f1]) e1
      have o2 := Tr.py_ok (G := G) (st := st) (d := .tup es) (nq := nq) (m := m) (n := nq + 1) (by unfold Tr.Is; exact ⟨es, rfl, k⟩) (by unfold Tr.fit; simp [f2]) e2
      dsimp only
      rw [o1.1, o2.1, decide_eq_true (show p.depth ≤ 64 by omega), Tr.cmp_py e1 e2 (by unfold Tr.cmp; exact hc)]
      rfl
end
end Eng
set_option Elab.async false
set_option linter.all false
set_option maxRecDepth 100000
set_option autoImplicit false
/-! E29: a layout is made. -/
namespace Eng
open PySem PySem.Spec PyProof.Rows L2
theorem iEnA_is {st st1 : List O} {d : D} {xs : List D} {e : Ev} {env : Sl} (he : e env st = some (d, st1)) (h : Items st1 d xs) : ∃ src, iEnA e env st = some (src, st1) ∧ SrcIs src st1 (enuD xs) := by
  have fin : ∀ src : Src, SrcIs src st1 xs → SrcIs (srcEnum src) st1 (enuD xs) := fun src h2 => by
    refine ⟨by simp [srcEnum, h2.1], fun st' k i => ?_⟩
    rw [enuD_get]
    show (match src.get i st' with | some (some d) => some (some (D.tup [.int (i : Nat), d])) | some none => some none | none => none) = _
    rw [h2.2 st' k i]
    cases xs[i]? <;> rfl
  by_cases hd : ∀ ys, d ≠ .tup ys
  · obtain ⟨src, h1, h2⟩ := lstSrc_is h hd
    refine ⟨srcEnum src, ?_, fin src h2⟩
    unfold iEnA
    rw [he, bnd_some]
    cases d <;> first | (exact absurd rfl (hd _)) | (simp only [h1])
  · have : ∃ ys, d = .tup ys := Classical.byContradiction fun z => hd fun ys e => z ⟨ys, e⟩
    obtain ⟨ys, rfl⟩ := this
    have : ys = xs := by
      rcases h with e | e | ⟨n, e, _⟩
      · cases e; rfl
      · cases e
      · cases e
    subst this
    refine ⟨srcEnum (srcOf ys), ?_, fin _ src_of⟩
    unfold iEnA
    rw [he, bnd_some]
theorem gAt_set {fk : Nat → Nat → Bool} {env : Sl} {st : List O} {L c i : Nat} {fs : List (Nat × D)} {d : D} (he : env[0]? = some (some (.ref L))) (h : st[L]? = some (.ins c fs)) (hk : fk c i = true) (hf : fs.length < 1000) : gAt fk (eSlot 0) i d env st = some (env, st.set L (.ins c (putI i d fs))) := by
  unfold gAt
  have : eSlot 0 env st = some (.ref L, st) := by unfold eSlot; rw [he]
  rw [this, bnd_some]
  simp only [h, hk, hf, decide_true, Bool.and_self, if_true]
theorem eFld_get {fk : Nat → Nat → Bool} {env : Sl} {st : List O} {L c i j : Nat} {fs : List (Nat × D)} {d : D} (he : env[j]? = some (some (.ref L))) (h : st[L]? = some (.ins c fs)) (hk : fk c i = true) (hg : getI fs i = some d) : eFld fk (eSlot j) i env st = some (d, st) := by
  unfold eFld
  have : eSlot j env st = some (.ref L, st) := by unfold eSlot; rw [he]
  rw [this, bnd_some]
  simp only [h, hk, hg, if_true]
theorem fSet_dK {st : List O} {a : Nat} {kvs : List (Key × D)} {p : Int} {v : D} (h : st[a]? = some (.dK kvs)) (hl : kvs.length ≤ 5000) : fSet (.ref a) (.int p) v st = some (st.set a (.dK (putKD kvs (.inl p) v))) := by
  unfold fSet
  simp only [h]
  show (if kvs.length < sizeLine then some (st.set a (.dK (putKD kvs (.inl p) v))) else none) = _
  rw [if_pos (slL hl)]
theorem enu_get {xs : List D} {i : Nat} {x : D} (h : (enuD xs)[i]? = some x) : ∃ y, xs[i]? = some y ∧ x = .tup [.int (i : Nat), y] := by
  rw [enuD_get] at h
  cases e : xs[i]? with
  | none => rw [e] at h; cases h
  | some y => rw [e] at h; cases h; exact ⟨y, rfl, rfl⟩
theorem map_get {α : Type} {f : α → D} {l : List α} {i : Nat} {x : D} (h : (l.map f)[i]? = some x) : ∃ y, l[i]? = some y ∧ x = f y := by
  rw [List.getElem?_map] at h
  cases e : l[i]? with
  | none => rw [e] at h; cases h
  | some y => rw [e] at h; cases h; exact ⟨y, rfl, rfl⟩
theorem rowS_snoc (i : Nat) (l : List Nat) (p : Nat) : rowS i (l ++ [p]) = rowS i l ++ [(Sum.inl (p : Int), D.tup [.int (i : Nat), .int (l.length : Nat)])] := by
  unfold rowS
  rw [List.zipIdx_append]
  simp
theorem len_spots (lines : List (List Nat)) : (spotsOf lines).length = lines.flatten.length := by
  have := congrArg List.length (keys_spots lines)
  rw [List.length_map, List.length_map] at this
  exact this
section
variable {tbl : List Fn} {sub fk : Nat → Nat → Bool} {eqm : Nat → Option Nat} {nq c wi li sp fN fS fC fL : Nat}
theorem layIn_ok (T : LayT tbl sub fk eqm nq c wi li sp fN fS fC fL) (n : Nat) {L d p i j : Nat} {fs : List (Nat × D)} {kvs : List (Key × D)} {a1 a2 a4 : Option D} {s : List O} (h1 : s[L]? = some (.ins c fs)) (h2 : getI fs sp = some (.ref d)) (h3 : s[d]? = some (.dK kvs)) (hp : (Sum.inl (p : Int) : Key) ∉ kvs.map (·.1)) (hl : kvs.length ≤ 5000) :
    layIn fk eqm nq sp fN (callAt tbl (n + 1)) [some (.ref L), a1, a2, some (.int (i : Nat)), a4, some (.int (j : Nat)), some (.int (p : Nat))] s = some (.nx [some (.ref L), a1, a2, some (.int (i : Nat)), a4, some (.int (j : Nat)), some (.int (p : Nat))], s.set d (.dK (kvs ++ [(.inl (p : Int), .tup [.int (i : Nat), .int (j : Nat)])]))) := by
  have e1 : eFld fk (eSlot 0) sp [some (.ref L), a1, a2, some (.int (i : Nat)), a4, some (.int (j : Nat)), some (.int (p : Nat))] s = some (.ref d, s) := eFld_get rfl h1 T.ks h2
  have e2 : fInO (callAt tbl (n + 1)) eqm nq false (.int (p : Int)) (.ref d) s = some (.bl false, s) := by
    rw [fInO_dK h3, valK_none hp]
    rfl
  have e3 := num_ok T.hN n (i := (p : Int)) (st := s)
  have e4 : ¬ (p : Int) < 0 := by omega
  have e5 := fSet_dK (v := .tup [.int (i : Nat), .int (j : Nat)]) (p := (p : Int)) h3 hl
  rw [putKD_new hp] at e5
  have z2 : (2 : Nat) ≤ sizeLine := slK (by omega)
  refine W_eq ?_
  unfold layIn
  simp [e1, e2, e3, e4, e5, z2]
theorem spots_new {lines : List (List Nat)} (nd : lines.flatten.Nodup) {i j p : Nat} {l : List Nat} (hi : lines[i]? = some l) (hj : l[j]? = some p) : (Sum.inl (p : Int) : Key) ∉ (spotsOf (lines.take i) ++ rowS i (l.take j)).map (·.1) := by
  rw [List.map_append, keys_spots, keys_rowS]
  intro hm
  have hd : lines.take i ++ l :: lines.drop (i + 1) = lines := by
    have := List.take_append_drop i lines
    rw [List.drop_eq_getElem_cons (lt_of_get hi)] at this
    rw [show l = lines[i]'(lt_of_get hi) from by have := (List.getElem?_eq_some_iff.mp hi).2; exact this.symm]
    exact this
  have hl : l.take j ++ p :: l.drop (j + 1) = l := by
    have := List.take_append_drop j l
    rw [List.drop_eq_getElem_cons (lt_of_get hj)] at this
    rw [show p = l[j]'(lt_of_get hj) from by have := (List.getElem?_eq_some_iff.mp hj).2; exact this.symm]
    exact this
  rw [← hd] at nd
  simp only [List.flatten_append, List.flatten_cons] at nd
  rw [← hl] at nd
  rw [List.mem_append, List.mem_map, List.mem_map] at hm
  have n1 := List.nodup_append.mp nd
  have n2 := List.nodup_append.mp n1.2.1
  have n3 := List.nodup_append.mp n2.1
  rcases hm with ⟨q, hq, e⟩ | ⟨q, hq, e⟩
  · have : q = p := by injection e with e; omega
    subst this
    exact n1.2.2 q hq q (by simp) rfl
  · have : q = p := by injection e with e; omega
    subst this
    exact n3.2.2 q hq q (by simp) rfl
theorem len_part {lines : List (List Nat)} {i j : Nat} {l : List Nat} (hi : lines[i]? = some l) : (spotsOf (lines.take i) ++ rowS i (l.take j)).length ≤ lines.flatten.length := by
  rw [List.length_append, len_spots, rowS_len]
  have hd : lines.take i ++ l :: lines.drop (i + 1) = lines := by
    have := List.take_append_drop i lines
    rw [List.drop_eq_getElem_cons (lt_of_get hi)] at this
    rw [show l = lines[i]'(lt_of_get hi) from by have := (List.getElem?_eq_some_iff.mp hi).2; exact this.symm]
    exact this
  have : lines.flatten.length = (lines.take i).flatten.length + (l.length + (lines.drop (i + 1)).flatten.length) := by
    conv => lhs; rw [← hd]
    simp only [List.flatten_append, List.flatten_cons, List.length_append]
  rw [List.length_take]
  omega
theorem layout_ok (T : LayT tbl sub fk eqm nq c wi li sp fN fS fC fL) (n : Nat) {w : Nat} {lines : List (List Nat)} (K : LinesOk w lines) {x : D} {xs : List D} {st : List O} (hx : Items st x xs) (hs : All2 (Sett st 1) xs (lines.map natT)) {Q : D → List O → Prop}
    (hq : ∀ (s : List O) (d : Nat), Ext st s → s[st.length]? = some (.ins c [(wi, .int (w : Nat)), (li, .tup (lines.map natT)), (sp, .ref d)]) → s[d]? = some (.dK (spotsOf lines)) → Q .non s) :
    W (callAt tbl (n + 3) fL [.ref st.length, .int (w : Nat), x] (st ++ [.ins c []])) Q := by
  obtain ⟨sL, hL⟩ := T.hL
  obtain ⟨sS, hS⟩ := T.hS
  refine callB hL rfl rfl ?_
  unfold layB
  have hlen := hs.len
  rw [List.length_map] at hlen
  simp only [eq_sSeq, W_bnd]
  -- width
  have g0 : (st ++ [O.ins c []])[st.length]? = some (.ins c []) := get_end
  rw [eq_sAsg]
  simp only [eq_eSlot, List.map_cons, List.map_nil, List.cons_append, List.nil_append, List.getElem?_cons_succ, List.getElem?_cons_zero, bnd_some]
  rw [gAt_set (L := st.length) rfl g0 T.kw (by simp)]
  simp only [bnd_some, W_some]
  have g1 : ((st ++ [O.ins c []]).set st.length (O.ins c (putI wi (.int (w : Nat)) [])))[st.length]? = some (.ins c [(wi, .int (w : Nat))]) := get_set' g0
  have E1 : Ext st ((st ++ [O.ins c []]).set st.length (O.ins c (putI wi (.int (w : Nat)) []))) := Ext.app.setNew (Nat.le_refl _)
  generalize (st ++ [O.ins c []]).set st.length (O.ins c (putI wi (.int (w : Nat)) [])) = s1 at g1 E1 ⊢
  -- lines
  rw [eq_sAsg]
  simp only [W_bnd, eq_eCall, eq_aCons, eq_aNil, eq_eSlot, List.getElem?_cons_succ, List.getElem?_cons_zero, bnd_some, W_some]
  have f2 := K.few2
  refine settled_ok hS n 1 x xs (lines.map natT) s1 (hx.ext E1) (slL (by omega)) (hs.imp fun _ _ z => z.ext E1) _ fun s2 E2 => ?_
  have g2 := E2 _ _ g1
  have E2' := E1.trans E2
  rw [gAt_set (L := st.length) rfl g2 T.kl (by simp)]
  simp only [bnd_some, W_some]
  have g3 : (s2.set st.length (O.ins c (putI li (.tup (lines.map natT)) [(wi, .int (w : Nat))])))[st.length]? = some (.ins c [(wi, .int (w : Nat)), (li, .tup (lines.map natT))]) := by
    rw [get_set' g2]
    simp [putI, T.d1]
  have E3 : Ext st (s2.set st.length (O.ins c (putI li (.tup (lines.map natT)) [(wi, .int (w : Nat))]))) := E2'.setNew (Nat.le_refl _)
  generalize s2.set st.length (O.ins c (putI li (.tup (lines.map natT)) [(wi, .int (w : Nat))])) = s3 at g3 E3 ⊢
  -- the width is looked at
  rw [eq_sExpr]
  simp only [W_bnd, eq_eCall, eq_aCons, eq_aNil, eq_eSlot, List.getElem?_cons_succ, List.getElem?_cons_zero, bnd_some, W_some]
  rw [chk_ok T n K.w1 K.w2]
  simp only [bnd_some, W_some]
  -- the lines' sizes
  have gl : getI [(wi, D.int (w : Nat)), (li, D.tup (lines.map natT))] li = some (.tup (lines.map natT)) := by
    simp [getI, T.d1]
  obtain ⟨src, i1, i2⟩ := iEnA_is (e := eFld fk (eSlot 0) li) (env := [some (.ref st.length), some (.int (w : Nat)), some x, none, none, none, none]) (xs := lines.map natT) (eFld_get rfl g3 T.kl gl) Items.tup
  refine W_forE (xs := enuD (lines.map natT)) i1 i2 (fun _ env s => s = s3 ∧ ∃ a b, env = [some (.ref st.length), some (.int (w : Nat)), some x, a, b, none, none]) (fun i env s h => h.1 ▸ Ext.refl) ⟨rfl, _, _, rfl⟩ ?_ ?_
  · rintro i env s y hy ⟨rfl, a, b, rfl⟩
    obtain ⟨y', hy', rfl⟩ := enu_get hy
    obtain ⟨l, hl, rfl⟩ := map_get hy'
    have hll := K.len l (List.mem_of_getElem? hl)
    have e1 : fLen [natT l] s = some (.int (l.length : Nat), s) := by
      show some (D.int ((l.map fun p : Nat => D.int (p : Int)).length : Nat), s) = _
      rw [List.length_map]
    have c1 : (1 : Int) ≤ (l.length : Int) := by omega
    have c2 : (l.length : Int) ≤ (w : Int) := by omega
    simp [e1, eCh, c1, c2]
  · rintro env s ⟨rfl, a, b, rfl⟩
    simp only
    -- spots
    rw [eq_sAsg]
    simp only [W_bnd]
    have hll : st.length < s.length := lt_of_get g3
    have g4 : (s ++ [O.dK []])[st.length]? = some (.ins c [(wi, .int (w : Nat)), (li, .tup (lines.map natT))]) := get_app' g3
    refine (W_some (a := D.ref s.length) (st := s ++ [O.dK []])).mpr ?_
    rw [gAt_set (L := st.length) rfl g4 T.ks (by simp)]
    simp only [bnd_some, W_some]
    have g5 : ((s ++ [O.dK []]).set st.length (O.ins c (putI sp (.ref s.length) [(wi, .int (w : Nat)), (li, .tup (lines.map natT))])))[st.length]? = some (.ins c [(wi, .int (w : Nat)), (li, .tup (lines.map natT)), (sp, .ref s.length)]) := by
      rw [get_set' g4]
      simp [putI, T.d2, T.d3]
    have g6 : ((s ++ [O.dK []]).set st.length (O.ins c (putI sp (.ref s.length) [(wi, .int (w : Nat)), (li, .tup (lines.map natT))])))[s.length]? = some (.dK []) := get_setne get_end (by omega)
    have E5 : Ext st ((s ++ [O.dK []]).set st.length (O.ins c (putI sp (.ref s.length) [(wi, .int (w : Nat)), (li, .tup (lines.map natT))]))) := (E3.trans Ext.app).setNew (Nat.le_refl _)
    generalize (s ++ [O.dK []]).set st.length (O.ins c (putI sp (.ref s.length) [(wi, .int (w : Nat)), (li, .tup (lines.map natT))])) = s5 at g5 g6 E5 ⊢
    generalize s.length = d at g5 g6 hll ⊢
    have gs : getI [(wi, D.int (w : Nat)), (li, D.tup (lines.map natT)), (sp, D.ref d)] sp = some (.ref d) := by simp [getI, T.d2, T.d3]
    have gl2 : getI [(wi, D.int (w : Nat)), (li, D.tup (lines.map natT)), (sp, D.ref d)] li = some (.tup (lines.map natT)) := by simp [getI, T.d1]
    have fw := K.few
    obtain ⟨src, i1, i2⟩ := iEnA_is (e := eFld fk (eSlot 0) li) (env := [some (.ref st.length), some (.int (w : Nat)), some x, a, b, none, none]) (xs := lines.map natT) (eFld_get rfl g5 T.kl gl2) Items.tup
    have src_t : ∀ (s s' : List O) (j : Nat), src.get j s = src.get j s' := fun s s' j => by
      have : src = srcEnum (srcOf (lines.map natT)) := by
        have z := i1
        unfold iEnA at z
        rw [eFld_get rfl g5 T.kl gl2, bnd_some] at z
        cases z
        rfl
      subst this
      rfl
    rw [W_bnd]
    refine W_forI (xs := enuD (lines.map natT)) i1 i2.1 (fun i env s => Ext st s ∧ s[st.length]? = some (.ins c [(wi, .int (w : Nat)), (li, .tup (lines.map natT)), (sp, .ref d)]) ∧ s[d]? = some (.dK (spotsOf (lines.take i))) ∧ ∃ a b p q, env = [some (.ref st.length), some (.int (w : Nat)), some x, a, b, p, q])
      (fun i env s h => by rw [src_t s s5]; exact i2.2 s5 Ext.refl i) ⟨E5, g5, g6, _, _, _, _, rfl⟩ ?_ ?_
    · rintro i env s y hy ⟨F1, F2, F3, a, b, p, q, rfl⟩
      obtain ⟨y', hy', rfl⟩ := enu_get hy
      obtain ⟨l, hl, rfl⟩ := map_get hy'
      simp only [eq_gTp, eq_gsCons, eq_gNm, bnd_some, eq_gsNil, W_some, List.set_cons_succ, List.set_cons_zero]
      obtain ⟨src2, j1, j2⟩ := iEnA_is (e := eSlot 4) (env := [some (.ref st.length), some (.int (w : Nat)), some x, some (.int (i : Nat)), some (natT l), p, q]) (st := s) (st1 := s) (xs := l.map fun p : Nat => D.int (p : Int)) rfl Items.tup
      have src_t2 : ∀ (s s' : List O) (j : Nat), src2.get j s = src2.get j s' := fun s s' j => by
        have : src2 = srcEnum (srcOf (l.map fun p : Nat => D.int (p : Int))) := by
          cases j1
          rfl
        subst this
        rfl
      refine W_forI (xs := enuD (l.map fun p : Nat => D.int (p : Int))) j1 j2.1 (fun j env s => Ext st s ∧ s[st.length]? = some (.ins c [(wi, .int (w : Nat)), (li, .tup (lines.map natT)), (sp, .ref d)]) ∧ s[d]? = some (.dK (spotsOf (lines.take i) ++ rowS i (l.take j))) ∧ ∃ p q, env = [some (.ref st.length), some (.int (w : Nat)), some x, some (.int (i : Nat)), some (natT l), p, q])
        (fun j env s' h => by rw [src_t2 s' s]; exact j2.2 s Ext.refl j) ⟨F1, F2, by simpa [rowS] using F3, _, _, rfl⟩ ?_ ?_
      · rintro j env s y hy ⟨F1, F2, F3, p, q, rfl⟩
        obtain ⟨y', hy', rfl⟩ := enu_get hy
        obtain ⟨pl, hp, rfl⟩ := map_get hy'
        simp only [eq_gTp, eq_gsCons, eq_gNm, bnd_some, eq_gsNil, W_some, List.set_cons_succ, List.set_cons_zero]
        have hlp := len_part (j := j) hl
        rw [layIn_ok T (n + 1) F2 gs F3 (spots_new K.nd hl hp) (by omega)]
        simp only [W_some]
        have hdL : d ≠ st.length := fun z => by rw [z, F2] at F3; cases F3
        refine ⟨F1.setNew (by omega), get_setne F2 hdL, ?_, _, _, rfl⟩
        rw [get_set' F3, take_snoc hp, rowS_snoc, List.length_take, Nat.min_eq_left (Nat.le_of_lt (lt_of_get hp))]
        simp
      · rintro env s ⟨F1, F2, F3, p, q, rfl⟩
        refine ⟨F1, F2, ?_, _, _, _, _, rfl⟩
        rw [F3, take_snoc hl, spots_snoc, List.length_take, Nat.min_eq_left (Nat.le_of_lt (lt_of_get hl))]
        simp
    · rintro env s ⟨F1, F2, F3, a, b, p, q, rfl⟩
      have F3' : s[d]? = some (.dK (spotsOf lines)) := by
        rw [F3]
        simp
      simp only
      have e1 : eFld fk (eSlot 0) sp [some (.ref st.length), some (.int (w : Nat)), some x, a, b, p, q] s = some (.ref d, s) := eFld_get rfl F2 T.ks gs
      obtain ⟨src, k1, k2⟩ := iRng1_is (e := eBf fLen (aCons (eFld fk (eSlot 0) sp) aNil)) (env := [some (.ref st.length), some (.int (w : Nat)), some x, a, b, p, q]) (st := s) (st1 := s) (n := lines.flatten.length) (by
        simp only [eq_eBf, eq_aCons, eq_aNil, e1, bnd_some]
        show (match s[d]? with | some (.lst xs) => some (D.int xs.length, s) | some (.dK kvs) => some (.int kvs.length, s) | _ => none) = _
        rw [F3']
        simp only
        rw [len_spots]) (by omega)
      refine W_forE (xs := rngD lines.flatten.length) k1 k2 (fun _ env s' => s' = s ∧ ∃ q, env = [some (.ref st.length), some (.int (w : Nat)), some x, a, b, p, q]) (fun i env s h => h.1 ▸ Ext.refl) ⟨rfl, _, rfl⟩ ?_ ?_
      · rintro i env s' y hy ⟨rfl, q, rfl⟩
        rw [rngD_get] at hy
        split at hy
        · rename_i hi
          cases hy
          have e2 : eFld fk (eSlot 0) sp [some (.ref st.length), some (.int (w : Nat)), some x, a, b, p, some (.int (i : Nat))] s' = some (.ref d, s') := eFld_get rfl F2 T.ks gs
          have e3 : fInO (callAt tbl (n + 2)) eqm nq true (.int (i : Int)) (.ref d) s' = some (.bl false, s') := by
            rw [fInO_dK F3', valK_isSome]
            · rfl
            · rw [keys_spots]
              exact List.mem_map.mpr ⟨i, K.all i hi, rfl⟩
          simp [e2, e3]
        · cases hy
      · rintro env s' ⟨rfl, q, rfl⟩
        exact hq s' d F1 F2 F3'
end
end Eng
set_option Elab.async false
set_option linter.all false
set_option maxRecDepth 100000
set_option autoImplicit false
namespace Law
open PySem PySem.Spec PyProof.Rows L2 Eng
/-! the text by places, the tables (printed by gen.py) -/
def top (i : Nat) : Stmt := PySem.Challenge.pw_lastheap_k01_errors_of_the_package.main.body.getD i (.Pass ⟨0, 0, 0, 0⟩)
def tl : Tl where
  an := ["told", "line", "column", "fault", "place", "what", "count", "time"]
  fks := []
  mts := []
  ini := []
  sub := []
  eqs := []
  xks := [[], [1, 2], [3], [4], [5, 6], [], [4], [6], [], [4], [7], [6], [], [], [], [4]]
  xms := [[(0, 0)], [(0, 2)], [(0, 4)], [(0, 6)], [(0, 8)], [(0, 9)], [(0, 11)], [(0, 13)], [(0, 14)], [(0, 16)], [(0, 18)], [(0, 20)], [(0, 21)], [(0, 22)], [(0, 23)], [(0, 25)]]
  xis := [some none, some (some 1), some (some 3), some (some 5), some (some 7), some none, some (some 10), some (some 12), some none, some (some 15), some (some 17), some (some 19), some none, some none, some none, some (some 24)]
  xss := [[0], [1, 0], [2, 0], [3, 0], [4, 0], [5, 0], [6, 0], [7, 0], [8, 0], [9, 0], [10, 0], [11, 0], [12, 0], [13, 0], [14, 0], [15, 0]]
def cg : Cg where
  gn := [("HeapError", .xc 0), ("Malformed", .xc 1), ("Faulty", .xc 2), ("Misfit", .xc 3), ("BadCount", .xc 4), ("Shape", .xc 5), ("Other", .xc 6), ("Wide", .xc 7), ("NoImage", .xc 8), ("NoPlace", .xc 9), ("BadLine", .xc 10), ("Large", .xc 11), ("Busy", .xc 12), ("Idle", .xc 13), ("NoBack", .xc 14), ("BadText", .xc 15), ("_law_mixed", .df 26), ("_law_source", .df 27), ("_law_take", .df 28), ("_law_pick", .df 29), ("_law_marks", .df 30), ("_law_all", .df 31), ("_law_all_named", .df 32), ("_law_fields", .df 33), ("_law_right", .df 34)]
  nb := ["int", "len", "isinstance", "enumerate", "range", "all", "ValueError"]
  an := tl.an
  ms := []
  nfn := 36
  tb := tl.tb
  eqm := tl.eqm
  nq := 4
  kb := []
  wh := 100
  xb := tl.xb
  xf := ["line", "column", "fault", "place", "what", "count", "time"]
  xm := ["told"]
  xkb := [(7, ["count", "what"], true), (5, ["place"], false), (3, ["fault"], false), (1, ["column", "line"], true), (17, ["time"], false), (15, ["place"], false), (12, ["count"], false), (10, ["place"], false), (24, ["place"], false), (19, ["count"], false)]
def b0 (cl : CallT) : Es :=
  (sRet (eC (.str "refused")))
def b1 (cl : CallT) : Es :=
  (sSeq (sAsg (eSlot 1) (gAtE cg.xb.xk (eSlot 0) 1))
  (sAsg (eSlot 2) (gAtE cg.xb.xk (eSlot 0) 2)))
def b2 (cl : CallT) : Es :=
  (sRet (eC (.str "refused malformed")))
def b3 (cl : CallT) : Es :=
  (sAsg (eSlot 1) (gAtE cg.xb.xk (eSlot 0) 3))
def b4 (cl : CallT) : Es :=
  (sRet (eC (.str "refused faulty")))
def b5 (cl : CallT) : Es :=
  (sAsg (eSlot 1) (gAtE cg.xb.xk (eSlot 0) 4))
def b6 (cl : CallT) : Es :=
  (sRet (eC (.str "refused misfit")))
def b7 (cl : CallT) : Es :=
  (sSeq (sAsg (eSlot 1) (gAtE cg.xb.xk (eSlot 0) 5))
  (sAsg (eSlot 2) (gAtE cg.xb.xk (eSlot 0) 6)))
def b8 (cl : CallT) : Es :=
  (sRet (eC (.str "refused badcount")))
def b9 (cl : CallT) : Es :=
  (sRet (eC (.str "refused shape")))
def b10 (cl : CallT) : Es :=
  (sAsg (eSlot 1) (gAtE cg.xb.xk (eSlot 0) 4))
def b11 (cl : CallT) : Es :=
  (sRet (eC (.str "refused other")))
def b12 (cl : CallT) : Es :=
  (sAsg (eSlot 1) (gAtE cg.xb.xk (eSlot 0) 6))
def b13 (cl : CallT) : Es :=
  (sRet (eC (.str "refused wide")))
def b14 (cl : CallT) : Es :=
  (sRet (eC (.str "refused noimage")))
def b15 (cl : CallT) : Es :=
  (sAsg (eSlot 1) (gAtE cg.xb.xk (eSlot 0) 4))
def b16 (cl : CallT) : Es :=
  (sRet (eC (.str "refused noplace")))
def b17 (cl : CallT) : Es :=
  (sAsg (eSlot 1) (gAtE cg.xb.xk (eSlot 0) 7))
def b18 (cl : CallT) : Es :=
  (sRet (eC (.str "refused badline")))
def b19 (cl : CallT) : Es :=
  (sAsg (eSlot 1) (gAtE cg.xb.xk (eSlot 0) 6))
def b20 (cl : CallT) : Es :=
  (sRet (eC (.str "refused large")))
def b21 (cl : CallT) : Es :=
  (sRet (eC (.str "refused busy")))
def b22 (cl : CallT) : Es :=
  (sRet (eC (.str "refused idle")))
def b23 (cl : CallT) : Es :=
  (sRet (eC (.str "refused noback")))
def b24 (cl : CallT) : Es :=
  (sAsg (eSlot 1) (gAtE cg.xb.xk (eSlot 0) 4))
def b25 (cl : CallT) : Es :=
  (sRet (eC (.str "refused badtext")))
def b26 (cl : CallT) : Es :=
  (sSeq (sAsg (eB fMod (eBf fInt (aCons (eB fMul (eB fAdd (eB fMod (eBf fInt (aCons (eSlot 0) aNil)) (eC (.int 2147483646))) (eC (.int 1))) (eB fAdd (eB fMul (eSlot 1) (eC (.int 7919))) (eC (.int 104729)))) aNil)) (eC (.int 2147483647))) (gNm 2))
  (sSeq (sAsg (eB fMod (eBf fInt (aCons (eB fMul (eB fAdd (eSlot 2) (eB fMul (eB fMod (eBf fInt (aCons (eB fDiv (eSlot 0) (eC (.int 2147483646))) aNil)) (eC (.int 1000003))) (eB fAdd (eSlot 1) (eC (.int 31))))) (eC (.int 48271))) aNil)) (eC (.int 2147483629))) (gNm 2))
  (sSeq (sAsg (eB fMod (eBf fInt (aCons (eB fMul (eSlot 2) (eB fAdd (eB fAdd (eB fDiv (eSlot 2) (eC (.int 1013))) (eC (.int 69621))) (eSlot 1))) aNil)) (eC (.int 2147483587))) (gNm 2))
  (sRet (eB fMod (eBf fInt (aCons (eB fMul (eSlot 2) (eB fAdd (eB fDiv (eSlot 2) (eC (.int 2003))) (eC (.int 40692)))) aNil)) (eC (.int 2147483563)))))))
def b27 (cl : CallT) : Es :=
  (sRet (eLst (aCons (eSlot 0) (aCons (eSlot 0) (aCons (eC (.int 0)) aNil)))))
def b28 (cl : CallT) : Es :=
  (sSeq (sIf (tB (eB fGe (eB fIx (eSlot 0) (eC (.int 0))) (eB fPow (eC (.int 10)) (eC (.int 18)))))
    (sSeq (sAsg (eB fMod (eBf fInt (aCons (eB fIx (eSlot 0) (eC (.int 0))) aNil)) (eSlot 1)) (gNm 2))
    (sSeq (sAsg (eB fDiv (eB fIx (eSlot 0) (eC (.int 0))) (eSlot 1)) (gSb (eSlot 0) (eC (.int 0)) fSet))
    (sRet (eSlot 2))))
    sNil)
  (sSeq (sAsg (eB fAdd (eB fIx (eSlot 0) (eC (.int 2))) (eC (.int 1))) (gSb (eSlot 0) (eC (.int 2)) fSet))
  (sRet (eB fMod (eBf fInt (aCons (eCall cl 26 (aCons (eB fIx (eSlot 0) (eC (.int 1))) (aCons (eB fIx (eSlot 0) (eC (.int 2))) aNil))) aNil)) (eSlot 1)))))
def b29 (cl : CallT) : Es :=
  (sRet (eB fIx (eSlot 1) (eCall cl 28 (aCons (eSlot 0) (aCons (eBf fLen (aCons (eSlot 1) aNil)) aNil)))))
def b30 (cl : CallT) : Es :=
  (sSeq (sAsg (eLst (aCons (eIsE (fun c => cg.xb.xs c 1) (eSlot 0)) (aCons (eIsE (fun c => cg.xb.xs c 2) (eSlot 0)) (aCons (eIsE (fun c => cg.xb.xs c 3) (eSlot 0)) (aCons (eIsE (fun c => cg.xb.xs c 4) (eSlot 0)) aNil))))) (gNm 1))
  (sSeq (sAsg (eB fAdd (eSlot 1) (eLst (aCons (eIsE (fun c => cg.xb.xs c 5) (eSlot 0)) (aCons (eIsE (fun c => cg.xb.xs c 6) (eSlot 0)) (aCons (eIsE (fun c => cg.xb.xs c 7) (eSlot 0)) (aCons (eIsE (fun c => cg.xb.xs c 8) (eSlot 0)) aNil)))))) (gNm 1))
  (sSeq (sAsg (eB fAdd (eSlot 1) (eLst (aCons (eIsE (fun c => cg.xb.xs c 9) (eSlot 0)) (aCons (eIsE (fun c => cg.xb.xs c 10) (eSlot 0)) (aCons (eIsE (fun c => cg.xb.xs c 11) (eSlot 0)) (aCons (eIsE (fun c => cg.xb.xs c 12) (eSlot 0)) aNil)))))) (gNm 1))
  (sSeq (sAsg (eB fAdd (eSlot 1) (eLst (aCons (eIsE (fun c => cg.xb.xs c 13) (eSlot 0)) (aCons (eIsE (fun c => cg.xb.xs c 14) (eSlot 0)) (aCons (eIsE (fun c => cg.xb.xs c 15) (eSlot 0)) aNil))))) (gNm 1))
  (sRet (eLc (iEnA (eSlot 1)) (gTp (gsCons (gNm 2) (gsCons (gNm 3) gsNil))) (tV (eSlot 3)) (eSlot 2) [2, 3]))))))
def b31 (cl : CallT) : Es :=
  (sSeq (sAsg (eLst (aCons (eMakeE cl 1 1 (aCons (eSlot 0) (aCons (eSlot 1) aNil))) (aCons (eMakeE cl 2 3 (aCons (eSlot 0) aNil)) (aCons (eMakeE cl 3 5 (aCons (eSlot 0) aNil)) (aCons (eMakeE cl 4 7 (aCons (eSlot 0) (aCons (eSlot 1) aNil))) (aCons (eMakeE0 5) (aCons (eMakeE cl 6 10 (aCons (eSlot 0) aNil)) (aCons (eMakeE cl 7 12 (aCons (eSlot 0) aNil)) aNil)))))))) (gNm 2))
  (sRet (eB fAdd (eSlot 2) (eLst (aCons (eMakeE0 8) (aCons (eMakeE cl 9 15 (aCons (eSlot 0) aNil)) (aCons (eMakeE cl 10 17 (aCons (eSlot 0) aNil)) (aCons (eMakeE cl 11 19 (aCons (eSlot 0) aNil)) (aCons (eMakeE0 12) (aCons (eMakeE0 13) (aCons (eMakeE0 14) (aCons (eMakeE cl 15 24 (aCons (eSlot 0) aNil)) aNil))))))))))))
def b32 (cl : CallT) : Es :=
  (sSeq (sAsg (eLst (aCons (eMakeEK cl 1 1 true (aCons (eSlot 1) (aCons (eSlot 0) aNil))) (aCons (eMakeEK cl 2 3 false (aCons (eSlot 0) aNil)) (aCons (eMakeEK cl 3 5 false (aCons (eSlot 0) aNil)) (aCons (eMakeEK cl 4 7 true (aCons (eSlot 1) (aCons (eSlot 0) aNil))) aNil))))) (gNm 2))
  (sSeq (sAsg (eB fAdd (eSlot 2) (eLst (aCons (eMakeE0 5) (aCons (eMakeEK cl 6 10 false (aCons (eSlot 0) aNil)) (aCons (eMakeEK cl 7 12 false (aCons (eSlot 0) aNil)) (aCons (eMakeE0 8) (aCons (eMakeEK cl 9 15 false (aCons (eSlot 0) aNil)) (aCons (eMakeEK cl 10 17 false (aCons (eSlot 0) aNil)) aNil)))))))) (gNm 2))
  (sRet (eB fAdd (eSlot 2) (eLst (aCons (eMakeEK cl 11 19 false (aCons (eSlot 0) aNil)) (aCons (eMakeE0 12) (aCons (eMakeE0 13) (aCons (eMakeE0 14) (aCons (eMakeEK cl 15 24 false (aCons (eSlot 0) aNil)) aNil))))))))))
def b33 (cl : CallT) : Es :=
  (sSeq (sAsg (eLst (aCons (eFldE cg.xb.xk (eB fIx (eSlot 0) (eC (.int 0))) 1) (aCons (eFldE cg.xb.xk (eB fIx (eSlot 0) (eC (.int 0))) 2) (aCons (eFldE cg.xb.xk (eB fIx (eSlot 0) (eC (.int 1))) 3) (aCons (eFldE cg.xb.xk (eB fIx (eSlot 0) (eC (.int 2))) 4) (aCons (eFldE cg.xb.xk (eB fIx (eSlot 0) (eC (.int 3))) 5) (aCons (eFldE cg.xb.xk (eB fIx (eSlot 0) (eC (.int 3))) 6) (aCons (eFldE cg.xb.xk (eB fIx (eSlot 0) (eC (.int 5))) 4) aNil)))))))) (gNm 1))
  (sRet (eB fAdd (eSlot 1) (eLst (aCons (eFldE cg.xb.xk (eB fIx (eSlot 0) (eC (.int 6))) 6) (aCons (eFldE cg.xb.xk (eB fIx (eSlot 0) (eC (.int 8))) 4) (aCons (eFldE cg.xb.xk (eB fIx (eSlot 0) (eC (.int 9))) 7) (aCons (eFldE cg.xb.xk (eB fIx (eSlot 0) (eC (.int 10))) 6) (aCons (eFldE cg.xb.xk (eB fIx (eSlot 0) (eC (.int 14))) 4) aNil)))))))))
def b34 (cl : CallT) : Es :=
  (sSeq (sAsg (eLst (aCons (eC (.str "malformed")) (aCons (eC (.str "faulty")) (aCons (eC (.str "misfit")) (aCons (eC (.str "badcount")) (aCons (eC (.str "shape")) (aCons (eC (.str "other")) (aCons (eC (.str "wide")) (aCons (eC (.str "noimage")) (aCons (eC (.str "noplace")) (aCons (eC (.str "badline")) aNil))))))))))) (gNm 2))
  (sSeq (sAsg (eB fAdd (eSlot 2) (eLst (aCons (eC (.str "large")) (aCons (eC (.str "busy")) (aCons (eC (.str "idle")) (aCons (eC (.str "noback")) (aCons (eC (.str "badtext")) aNil))))))) (gNm 2))
  (sSeq (sFor (iSeq (eTup (aCons (eCall cl 31 (aCons (eSlot 0) (aCons (eSlot 1) aNil))) (aCons (eCall cl 32 (aCons (eSlot 0) (aCons (eSlot 1) aNil))) aNil)))) (gNm 3)
    (sSeq (sIf (tB (eB (fNeO cl cg.eqm cg.nq) (eLc (iSeq (eSlot 3)) (gNm 4) tYs (eCall cl 30 (aCons (eSlot 4) aNil)) [4]) (eLc (iRng1 (eC (.int 15))) (gNm 5) tYs (eLst (aCons (eSlot 5) aNil)) [5])))
      (sRet (eC (.bl false)))
      sNil)
    (sSeq (sIf (tB (eB (fNeO cl cg.eqm cg.nq) (eLc (iSeq (eSlot 3)) (gNm 4) tYs (eMethE cl cg.xb.xm (eSlot 4) 0 aNil) [4]) (eLc (iSeq (eSlot 2)) (gNm 6) tYs (eB fAdd (eC (.str "refused ")) (eSlot 6)) [6])))
      (sRet (eC (.bl false)))
      sNil)
    (sSeq (sIf (tNo (tV (eBf fAll (aCons (eLc (iSeq (eSlot 3)) (gNm 4) tYs (eAnd (eIsE (fun c => cg.xb.xs c 0) (eSlot 4)) (eIsE (fun _ => true) (eSlot 4))) [4]) aNil))))
      (sRet (eC (.bl false)))
      sNil)
    (sIf (tB (eB (fNeO cl cg.eqm cg.nq) (eCall cl 33 (aCons (eSlot 3) aNil)) (eLst (aCons (eSlot 0) (aCons (eSlot 1) (aCons (eSlot 0) (aCons (eSlot 0) (aCons (eSlot 0) (aCons (eSlot 1) (aCons (eSlot 0) (aCons (eSlot 0) (aCons (eSlot 0) (aCons (eSlot 0) (aCons (eSlot 0) (aCons (eSlot 0) aNil)))))))))))))))
      (sRet (eC (.bl false)))
      sNil)))))
  (sRet (eC (.bl true))))))
def b35 (cl : CallT) : Es :=
  (sSeq (sFor (iSeq (eSl (eB fAdd (eSlot 0) (eLst (aCons (eC (.int 0)) aNil))) oNone (oSome (eC (.int 4))))) (gNm 1)
    (sSeq (sAsg (eCall cl 27 (aCons (eSlot 1) aNil)) (gNm 2))
    (sFor (iRng1 (eC (.int 3))) (gNm 3)
      (sSeq (sAsg (eCall cl 29 (aCons (eSlot 2) (aCons (eLst (aCons (eC (.int 0)) (aCons (eU fNeg (eC (.int 1))) (aCons (eB fPow (eC (.int 10)) (eC (.int 30))) (aCons (eC .non) (aCons (eC (.str "what")) (aCons (eLst (aCons (eC (.int 1)) aNil)) (aCons (eTup (aCons (eC (.int 2)) (aCons (eC (.int 3)) aNil))) (aCons eDict0 (aCons (eC (.bl true)) (aCons (eCall cl 28 (aCons (eSlot 2) (aCons (eB fPow (eC (.int 10)) (eC (.int 9))) aNil))) aNil))))))))))) aNil))) (gNm 4))
      (sIf (tNo (tV (eCall cl 34 (aCons (eSlot 4) (aCons (eCall cl 28 (aCons (eSlot 2) (aCons (eB fPow (eC (.int 10)) (eC (.int 9))) aNil))) aNil)))))
        (sRet (eC (.bl false)))
        sNil)))))
  (sRet (eC (.bl true))))
abbrev st0 : Stmt := inClass (top 1) 0
abbrev st1 : Stmt := inClass (top 2) 0
abbrev st2 : Stmt := inClass (top 2) 1
abbrev st3 : Stmt := inClass (top 3) 0
abbrev st4 : Stmt := inClass (top 3) 1
abbrev st5 : Stmt := inClass (top 4) 0
abbrev st6 : Stmt := inClass (top 4) 1
abbrev st7 : Stmt := inClass (top 5) 0
abbrev st8 : Stmt := inClass (top 5) 1
abbrev st9 : Stmt := inClass (top 6) 0
abbrev st10 : Stmt := inClass (top 7) 0
abbrev st11 : Stmt := inClass (top 7) 1
abbrev st12 : Stmt := inClass (top 8) 0
abbrev st13 : Stmt := inClass (top 8) 1
abbrev st14 : Stmt := inClass (top 9) 0
abbrev st15 : Stmt := inClass (top 10) 0
abbrev st16 : Stmt := inClass (top 10) 1
abbrev st17 : Stmt := inClass (top 11) 0
abbrev st18 : Stmt := inClass (top 11) 1
abbrev st19 : Stmt := inClass (top 12) 0
abbrev st20 : Stmt := inClass (top 12) 1
abbrev st21 : Stmt := inClass (top 13) 0
abbrev st22 : Stmt := inClass (top 14) 0
abbrev st23 : Stmt := inClass (top 15) 0
abbrev st24 : Stmt := inClass (top 16) 0
abbrev st25 : Stmt := inClass (top 16) 1
abbrev st26 : Stmt := top 18
abbrev st27 : Stmt := top 19
abbrev st28 : Stmt := top 20
abbrev st29 : Stmt := top 21
abbrev st30 : Stmt := top 22
abbrev st31 : Stmt := top 23
abbrev st32 : Stmt := top 24
abbrev st33 : Stmt := top 25
abbrev st34 : Stmt := top 26
abbrev st35 : Stmt := top 27
def tbl : List Fn := [⟨["self"], ["self"], st0, b0⟩, ⟨["self", "line", "column"], ["self", "line", "column"], st1, b1⟩, ⟨["self"], ["self"], st2, b2⟩, ⟨["self", "fault"], ["self", "fault"], st3, b3⟩, ⟨["self"], ["self"], st4, b4⟩, ⟨["self", "place"], ["self", "place"], st5, b5⟩, ⟨["self"], ["self"], st6, b6⟩, ⟨["self", "what", "count"], ["self", "what", "count"], st7, b7⟩, ⟨["self"], ["self"], st8, b8⟩, ⟨["self"], ["self"], st9, b9⟩, ⟨["self", "place"], ["self", "place"], st10, b10⟩, ⟨["self"], ["self"], st11, b11⟩, ⟨["self", "count"], ["self", "count"], st12, b12⟩, ⟨["self"], ["self"], st13, b13⟩, ⟨["self"], ["self"], st14, b14⟩, ⟨["self", "place"], ["self", "place"], st15, b15⟩, ⟨["self"], ["self"], st16, b16⟩, ⟨["self", "time"], ["self", "time"], st17, b17⟩, ⟨["self"], ["self"], st18, b18⟩, ⟨["self", "count"], ["self", "count"], st19, b19⟩, ⟨["self"], ["self"], st20, b20⟩, ⟨["self"], ["self"], st21, b21⟩, ⟨["self"], ["self"], st22, b22⟩, ⟨["self"], ["self"], st23, b23⟩, ⟨["self", "place"], ["self", "place"], st24, b24⟩, ⟨["self"], ["self"], st25, b25⟩, ⟨["_law_cell", "_law_draw", "_law_figure"], ["_law_cell", "_law_draw"], st26, b26⟩, ⟨["_law_cell"], ["_law_cell"], st27, b27⟩, ⟨["_law_source_here", "_law_bound", "_law_drawn"], ["_law_source_here", "_law_bound"], st28, b28⟩, ⟨["_law_source_here", "_law_options"], ["_law_source_here", "_law_options"], st29, b29⟩, ⟨["_law_e", "_law_marks_here", "_law_k", "_law_mark"], ["_law_e"], st30, b30⟩, ⟨["_law_one", "_law_two", "_law_found"], ["_law_one", "_law_two"], st31, b31⟩, ⟨["_law_one", "_law_two", "_law_found"], ["_law_one", "_law_two"], st32, b32⟩, ⟨["_law_some", "_law_found"], ["_law_some"], st33, b33⟩, ⟨["_law_one", "_law_two", "_law_titles", "_law_some", "_law_e", "_law_k", "_law_title"], ["_law_one", "_law_two"], st34, b34⟩, ⟨["_law_script", "_law_cell", "_law_source_here", "_law_turn", "_law_one"], ["_law_script"], st35, b35⟩]
def cl : CallT := callAt tbl 10
/-! the translation gives the bodies -/
theorem cm0 (cl : CallT) : compB cg cl 40 ["self"] (defScope st0) (defBody st0) = some (b0 cl) := by kernel_rfl
theorem cm1 (cl : CallT) : compB cg cl 40 ["self", "line", "column"] (defScope st1) (defBody st1) = some (b1 cl) := by kernel_rfl
theorem cm2 (cl : CallT) : compB cg cl 40 ["self"] (defScope st2) (defBody st2) = some (b2 cl) := by kernel_rfl
theorem cm3 (cl : CallT) : compB cg cl 40 ["self", "fault"] (defScope st3) (defBody st3) = some (b3 cl) := by kernel_rfl
theorem cm4 (cl : CallT) : compB cg cl 40 ["self"] (defScope st4) (defBody st4) = some (b4 cl) := by kernel_rfl
theorem cm5 (cl : CallT) : compB cg cl 40 ["self", "place"] (defScope st5) (defBody st5) = some (b5 cl) := by kernel_rfl
theorem cm6 (cl : CallT) : compB cg cl 40 ["self"] (defScope st6) (defBody st6) = some (b6 cl) := by kernel_rfl
theorem cm7 (cl : CallT) : compB cg cl 40 ["self", "what", "count"] (defScope st7) (defBody st7) = some (b7 cl) := by kernel_rfl
theorem cm8 (cl : CallT) : compB cg cl 40 ["self"] (defScope st8) (defBody st8) = some (b8 cl) := by kernel_rfl
theorem cm9 (cl : CallT) : compB cg cl 40 ["self"] (defScope st9) (defBody st9) = some (b9 cl) := by kernel_rfl
theorem cm10 (cl : CallT) : compB cg cl 40 ["self", "place"] (defScope st10) (defBody st10) = some (b10 cl) := by kernel_rfl
theorem cm11 (cl : CallT) : compB cg cl 40 ["self"] (defScope st11) (defBody st11) = some (b11 cl) := by kernel_rfl
theorem cm12 (cl : CallT) : compB cg cl 40 ["self", "count"] (defScope st12) (defBody st12) = some (b12 cl) := by kernel_rfl
theorem cm13 (cl : CallT) : compB cg cl 40 ["self"] (defScope st13) (defBody st13) = some (b13 cl) := by kernel_rfl
theorem cm14 (cl : CallT) : compB cg cl 40 ["self"] (defScope st14) (defBody st14) = some (b14 cl) := by kernel_rfl
theorem cm15 (cl : CallT) : compB cg cl 40 ["self", "place"] (defScope st15) (defBody st15) = some (b15 cl) := by kernel_rfl
theorem cm16 (cl : CallT) : compB cg cl 40 ["self"] (defScope st16) (defBody st16) = some (b16 cl) := by kernel_rfl
theorem cm17 (cl : CallT) : compB cg cl 40 ["self", "time"] (defScope st17) (defBody st17) = some (b17 cl) := by kernel_rfl
theorem cm18 (cl : CallT) : compB cg cl 40 ["self"] (defScope st18) (defBody st18) = some (b18 cl) := by kernel_rfl
theorem cm19 (cl : CallT) : compB cg cl 40 ["self", "count"] (defScope st19) (defBody st19) = some (b19 cl) := by kernel_rfl
theorem cm20 (cl : CallT) : compB cg cl 40 ["self"] (defScope st20) (defBody st20) = some (b20 cl) := by kernel_rfl
theorem cm21 (cl : CallT) : compB cg cl 40 ["self"] (defScope st21) (defBody st21) = some (b21 cl) := by kernel_rfl
theorem cm22 (cl : CallT) : compB cg cl 40 ["self"] (defScope st22) (defBody st22) = some (b22 cl) := by kernel_rfl
theorem cm23 (cl : CallT) : compB cg cl 40 ["self"] (defScope st23) (defBody st23) = some (b23 cl) := by kernel_rfl
theorem cm24 (cl : CallT) : compB cg cl 40 ["self", "place"] (defScope st24) (defBody st24) = some (b24 cl) := by kernel_rfl
theorem cm25 (cl : CallT) : compB cg cl 40 ["self"] (defScope st25) (defBody st25) = some (b25 cl) := by kernel_rfl
theorem cm26 (cl : CallT) : compB cg cl 40 ["_law_cell", "_law_draw", "_law_figure"] (defScope st26) (defBody st26) = some (b26 cl) := by kernel_rfl
theorem cm27 (cl : CallT) : compB cg cl 40 ["_law_cell"] (defScope st27) (defBody st27) = some (b27 cl) := by kernel_rfl
theorem cm28 (cl : CallT) : compB cg cl 40 ["_law_source_here", "_law_bound", "_law_drawn"] (defScope st28) (defBody st28) = some (b28 cl) := by kernel_rfl
theorem cm29 (cl : CallT) : compB cg cl 40 ["_law_source_here", "_law_options"] (defScope st29) (defBody st29) = some (b29 cl) := by kernel_rfl
theorem cm30 (cl : CallT) : compB cg cl 40 ["_law_e", "_law_marks_here", "_law_k", "_law_mark"] (defScope st30) (defBody st30) = some (b30 cl) := by kernel_rfl
theorem cm31 (cl : CallT) : compB cg cl 40 ["_law_one", "_law_two", "_law_found"] (defScope st31) (defBody st31) = some (b31 cl) := by kernel_rfl
theorem cm32 (cl : CallT) : compB cg cl 40 ["_law_one", "_law_two", "_law_found"] (defScope st32) (defBody st32) = some (b32 cl) := by kernel_rfl
theorem cm33 (cl : CallT) : compB cg cl 40 ["_law_some", "_law_found"] (defScope st33) (defBody st33) = some (b33 cl) := by kernel_rfl
theorem cm34 (cl : CallT) : compB cg cl 40 ["_law_one", "_law_two", "_law_titles", "_law_some", "_law_e", "_law_k", "_law_title"] (defScope st34) (defBody st34) = some (b34 cl) := by kernel_rfl
theorem cm35 (cl : CallT) : compB cg cl 40 ["_law_script", "_law_cell", "_law_source_here", "_law_turn", "_law_one"] (defScope st35) (defBody st35) = some (b35 cl) := by kernel_rfl
theorem sc0 : FnScope ["self"] ["self"] (defScope st0) := ⟨rfl, rfl, rfl, by decide +kernel, rfl, by decide +kernel, by decide +kernel⟩
theorem sc1 : FnScope ["self", "line", "column"] ["self", "line", "column"] (defScope st1) := ⟨rfl, rfl, rfl, by decide +kernel, rfl, by decide +kernel, by decide +kernel⟩
theorem sc2 : FnScope ["self"] ["self"] (defScope st2) := ⟨rfl, rfl, rfl, by decide +kernel, rfl, by decide +kernel, by decide +kernel⟩
theorem sc3 : FnScope ["self", "fault"] ["self", "fault"] (defScope st3) := ⟨rfl, rfl, rfl, by decide +kernel, rfl, by decide +kernel, by decide +kernel⟩
theorem sc4 : FnScope ["self"] ["self"] (defScope st4) := ⟨rfl, rfl, rfl, by decide +kernel, rfl, by decide +kernel, by decide +kernel⟩
theorem sc5 : FnScope ["self", "place"] ["self", "place"] (defScope st5) := ⟨rfl, rfl, rfl, by decide +kernel, rfl, by decide +kernel, by decide +kernel⟩
theorem sc6 : FnScope ["self"] ["self"] (defScope st6) := ⟨rfl, rfl, rfl, by decide +kernel, rfl, by decide +kernel, by decide +kernel⟩
theorem sc7 : FnScope ["self", "what", "count"] ["self", "what", "count"] (defScope st7) := ⟨rfl, rfl, rfl, by decide +kernel, rfl, by decide +kernel, by decide +kernel⟩
theorem sc8 : FnScope ["self"] ["self"] (defScope st8) := ⟨rfl, rfl, rfl, by decide +kernel, rfl, by decide +kernel, by decide +kernel⟩
theorem sc9 : FnScope ["self"] ["self"] (defScope st9) := ⟨rfl, rfl, rfl, by decide +kernel, rfl, by decide +kernel, by decide +kernel⟩
theorem sc10 : FnScope ["self", "place"] ["self", "place"] (defScope st10) := ⟨rfl, rfl, rfl, by decide +kernel, rfl, by decide +kernel, by decide +kernel⟩
theorem sc11 : FnScope ["self"] ["self"] (defScope st11) := ⟨rfl, rfl, rfl, by decide +kernel, rfl, by decide +kernel, by decide +kernel⟩
theorem sc12 : FnScope ["self", "count"] ["self", "count"] (defScope st12) := ⟨rfl, rfl, rfl, by decide +kernel, rfl, by decide +kernel, by decide +kernel⟩
theorem sc13 : FnScope ["self"] ["self"] (defScope st13) := ⟨rfl, rfl, rfl, by decide +kernel, rfl, by decide +kernel, by decide +kernel⟩
theorem sc14 : FnScope ["self"] ["self"] (defScope st14) := ⟨rfl, rfl, rfl, by decide +kernel, rfl, by decide +kernel, by decide +kernel⟩
theorem sc15 : FnScope ["self", "place"] ["self", "place"] (defScope st15) := ⟨rfl, rfl, rfl, by decide +kernel, rfl, by decide +kernel, by decide +kernel⟩
theorem sc16 : FnScope ["self"] ["self"] (defScope st16) := ⟨rfl, rfl, rfl, by decide +kernel, rfl, by decide +kernel, by decide +kernel⟩
theorem sc17 : FnScope ["self", "time"] ["self", "time"] (defScope st17) := ⟨rfl, rfl, rfl, by decide +kernel, rfl, by decide +kernel, by decide +kernel⟩
theorem sc18 : FnScope ["self"] ["self"] (defScope st18) := ⟨rfl, rfl, rfl, by decide +kernel, rfl, by decide +kernel, by decide +kernel⟩
theorem sc19 : FnScope ["self", "count"] ["self", "count"] (defScope st19) := ⟨rfl, rfl, rfl, by decide +kernel, rfl, by decide +kernel, by decide +kernel⟩
theorem sc20 : FnScope ["self"] ["self"] (defScope st20) := ⟨rfl, rfl, rfl, by decide +kernel, rfl, by decide +kernel, by decide +kernel⟩
theorem sc21 : FnScope ["self"] ["self"] (defScope st21) := ⟨rfl, rfl, rfl, by decide +kernel, rfl, by decide +kernel, by decide +kernel⟩
theorem sc22 : FnScope ["self"] ["self"] (defScope st22) := ⟨rfl, rfl, rfl, by decide +kernel, rfl, by decide +kernel, by decide +kernel⟩
theorem sc23 : FnScope ["self"] ["self"] (defScope st23) := ⟨rfl, rfl, rfl, by decide +kernel, rfl, by decide +kernel, by decide +kernel⟩
theorem sc24 : FnScope ["self", "place"] ["self", "place"] (defScope st24) := ⟨rfl, rfl, rfl, by decide +kernel, rfl, by decide +kernel, by decide +kernel⟩
theorem sc25 : FnScope ["self"] ["self"] (defScope st25) := ⟨rfl, rfl, rfl, by decide +kernel, rfl, by decide +kernel, by decide +kernel⟩
theorem sc26 : FnScope ["_law_cell", "_law_draw", "_law_figure"] ["_law_cell", "_law_draw"] (defScope st26) := ⟨rfl, rfl, rfl, by decide +kernel, rfl, by decide +kernel, by decide +kernel⟩
theorem sc27 : FnScope ["_law_cell"] ["_law_cell"] (defScope st27) := ⟨rfl, rfl, rfl, by decide +kernel, rfl, by decide +kernel, by decide +kernel⟩
theorem sc28 : FnScope ["_law_source_here", "_law_bound", "_law_drawn"] ["_law_source_here", "_law_bound"] (defScope st28) := ⟨rfl, rfl, rfl, by decide +kernel, rfl, by decide +kernel, by decide +kernel⟩
theorem sc29 : FnScope ["_law_source_here", "_law_options"] ["_law_source_here", "_law_options"] (defScope st29) := ⟨rfl, rfl, rfl, by decide +kernel, rfl, by decide +kernel, by decide +kernel⟩
theorem sc30 : FnScope ["_law_e", "_law_marks_here", "_law_k", "_law_mark"] ["_law_e"] (defScope st30) := ⟨rfl, rfl, rfl, by decide +kernel, rfl, by decide +kernel, by decide +kernel⟩
theorem sc31 : FnScope ["_law_one", "_law_two", "_law_found"] ["_law_one", "_law_two"] (defScope st31) := ⟨rfl, rfl, rfl, by decide +kernel, rfl, by decide +kernel, by decide +kernel⟩
theorem sc32 : FnScope ["_law_one", "_law_two", "_law_found"] ["_law_one", "_law_two"] (defScope st32) := ⟨rfl, rfl, rfl, by decide +kernel, rfl, by decide +kernel, by decide +kernel⟩
theorem sc33 : FnScope ["_law_some", "_law_found"] ["_law_some"] (defScope st33) := ⟨rfl, rfl, rfl, by decide +kernel, rfl, by decide +kernel, by decide +kernel⟩
theorem sc34 : FnScope ["_law_one", "_law_two", "_law_titles", "_law_some", "_law_e", "_law_k", "_law_title"] ["_law_one", "_law_two"] (defScope st34) := ⟨rfl, rfl, rfl, by decide +kernel, rfl, by decide +kernel, by decide +kernel⟩
theorem sc35 : FnScope ["_law_script", "_law_cell", "_law_source_here", "_law_turn", "_law_one"] ["_law_script"] (defScope st35) := ⟨rfl, rfl, rfl, by decide +kernel, rfl, by decide +kernel, by decide +kernel⟩
theorem xkb0 {K : PySem.W.Frag} {f : Addr} {fd : FuncData} (F : Fun K "__init__" "BadCount.__init__" st7 f fd) : KSw K fd ["self", "what", "count"] ["count", "what"] true := by
  obtain ⟨oc, od, kV, doc, pm, an, cdv, ct, osl, rfl, lk, hcd⟩ := F.ex
  intro s self ws _ hl
  match ws, hl with
  | [_, _], _ => exact .of_eq rfl
theorem xkb1 {K : PySem.W.Frag} {f : Addr} {fd : FuncData} (F : Fun K "__init__" "Misfit.__init__" st5 f fd) : KSw K fd ["self", "place"] ["place"] false := by
  obtain ⟨oc, od, kV, doc, pm, an, cdv, ct, osl, rfl, lk, hcd⟩ := F.ex
  intro s self ws _ hl
  match ws, hl with
  | [_], _ => exact .of_eq rfl
theorem xkb2 {K : PySem.W.Frag} {f : Addr} {fd : FuncData} (F : Fun K "__init__" "Faulty.__init__" st3 f fd) : KSw K fd ["self", "fault"] ["fault"] false := by
  obtain ⟨oc, od, kV, doc, pm, an, cdv, ct, osl, rfl, lk, hcd⟩ := F.ex
  intro s self ws _ hl
  match ws, hl with
  | [_], _ => exact .of_eq rfl
theorem xkb3 {K : PySem.W.Frag} {f : Addr} {fd : FuncData} (F : Fun K "__init__" "Malformed.__init__" st1 f fd) : KSw K fd ["self", "line", "column"] ["column", "line"] true := by
  obtain ⟨oc, od, kV, doc, pm, an, cdv, ct, osl, rfl, lk, hcd⟩ := F.ex
  intro s self ws _ hl
  match ws, hl with
  | [_, _], _ => exact .of_eq rfl
theorem xkb4 {K : PySem.W.Frag} {f : Addr} {fd : FuncData} (F : Fun K "__init__" "BadLine.__init__" st17 f fd) : KSw K fd ["self", "time"] ["time"] false := by
  obtain ⟨oc, od, kV, doc, pm, an, cdv, ct, osl, rfl, lk, hcd⟩ := F.ex
  intro s self ws _ hl
  match ws, hl with
  | [_], _ => exact .of_eq rfl
theorem xkb5 {K : PySem.W.Frag} {f : Addr} {fd : FuncData} (F : Fun K "__init__" "NoPlace.__init__" st15 f fd) : KSw K fd ["self", "place"] ["place"] false := by
  obtain ⟨oc, od, kV, doc, pm, an, cdv, ct, osl, rfl, lk, hcd⟩ := F.ex
  intro s self ws _ hl
  match ws, hl with
  | [_], _ => exact .of_eq rfl
theorem xkb6 {K : PySem.W.Frag} {f : Addr} {fd : FuncData} (F : Fun K "__init__" "Wide.__init__" st12 f fd) : KSw K fd ["self", "count"] ["count"] false := by
  obtain ⟨oc, od, kV, doc, pm, an, cdv, ct, osl, rfl, lk, hcd⟩ := F.ex
  intro s self ws _ hl
  match ws, hl with
  | [_], _ => exact .of_eq rfl
theorem xkb7 {K : PySem.W.Frag} {f : Addr} {fd : FuncData} (F : Fun K "__init__" "Other.__init__" st10 f fd) : KSw K fd ["self", "place"] ["place"] false := by
  obtain ⟨oc, od, kV, doc, pm, an, cdv, ct, osl, rfl, lk, hcd⟩ := F.ex
  intro s self ws _ hl
  match ws, hl with
  | [_], _ => exact .of_eq rfl
theorem xkb8 {K : PySem.W.Frag} {f : Addr} {fd : FuncData} (F : Fun K "__init__" "BadText.__init__" st24 f fd) : KSw K fd ["self", "place"] ["place"] false := by
  obtain ⟨oc, od, kV, doc, pm, an, cdv, ct, osl, rfl, lk, hcd⟩ := F.ex
  intro s self ws _ hl
  match ws, hl with
  | [_], _ => exact .of_eq rfl
theorem xkb9 {K : PySem.W.Frag} {f : Addr} {fd : FuncData} (F : Fun K "__init__" "Large.__init__" st19 f fd) : KSw K fd ["self", "count"] ["count"] false := by
  obtain ⟨oc, od, kV, doc, pm, an, cdv, ct, osl, rfl, lk, hcd⟩ := F.ex
  intro s self ws _ hl
  match ws, hl with
  | [_], _ => exact .of_eq rfl
/-! what the top has written -/
section
variable {K : PySem.W.Frag} {mg : Str → Option Value} {h : Heap}
set_option maxHeartbeats 0 in
theorem all_mk (X : K.In h) (G : h.Ns mainGlobals mg) {fa D0 D1 D2 D3 D4 D5 D6 D7 D8 D9 D10 D11 D12 D13 D14 D15 f0 f1 f2 f3 f4 f5 f6 f7 f8 f9 f10 f11 f12 f13 f14 f15 f16 f17 f18 f19 f20 f21 f22 f23 f24 f25 f26 f27 f28 f29 f30 f31 f32 f33 f34 f35 : Addr} (hfa : mg "law" = some (.ref fa))
    {od0 an0 od1 an1 od2 an2 od3 an3 od4 an4 od5 an5 od6 an6 od7 an7 od8 an8 od9 an9 od10 an10 od11 an11 od12 an12 od13 an13 od14 an14 od15 an15 od16 an16 od17 an17 od18 an18 od19 an19 od20 an20 od21 an21 od22 an22 od23 an23 od24 an24 od25 an25 od26 an26 od27 an27 od28 an28 od29 an29 od30 an30 od31 an31 od32 an32 od33 an33 od34 an34 od35 an35 : Option Addr} {sl0 sl1 sl2 sl3 sl4 sl5 sl6 sl7 sl8 sl9 sl10 sl11 sl12 sl13 sl14 sl15 sl16 sl17 sl18 sl19 sl20 sl21 sl22 sl23 sl24 sl25 sl26 sl27 sl28 sl29 sl30 sl31 sl32 sl33 sl34 sl35 : Array (Option Value)} {oc0 kV0 dc0 pm0 cd0 ct0 oc1 kV1 dc1 pm1 cd1 ct1 oc2 kV2 dc2 pm2 cd2 ct2 oc3 kV3 dc3 pm3 cd3 ct3 oc4 kV4 dc4 pm4 cd4 ct4 oc5 kV5 dc5 pm5 cd5 ct5 oc6 kV6 dc6 pm6 cd6 ct6 oc7 kV7 dc7 pm7 cd7 ct7 oc8 kV8 dc8 pm8 cd8 ct8 oc9 kV9 dc9 pm9 cd9 ct9 oc10 kV10 dc10 pm10 cd10 ct10 oc11 kV11 dc11 pm11 cd11 ct11 oc12 kV12 dc12 pm12 cd12 ct12 oc13 kV13 dc13 pm13 cd13 ct13 oc14 kV14 dc14 pm14 cd14 ct14 oc15 kV15 dc15 pm15 cd15 ct15 oc16 kV16 dc16 pm16 cd16 ct16 oc17 kV17 dc17 pm17 cd17 ct17 oc18 kV18 dc18 pm18 cd18 ct18 oc19 kV19 dc19 pm19 cd19 ct19 oc20 kV20 dc20 pm20 cd20 ct20 oc21 kV21 dc21 pm21 cd21 ct21 oc22 kV22 dc22 pm22 cd22 ct22 oc23 kV23 dc23 pm23 cd23 ct23 oc24 kV24 dc24 pm24 cd24 ct24 oc25 kV25 dc25 pm25 cd25 ct25 oc26 kV26 dc26 pm26 cd26 ct26 oc27 kV27 dc27 pm27 cd27 ct27 oc28 kV28 dc28 pm28 cd28 ct28 oc29 kV29 dc29 pm29 cd29 ct29 oc30 kV30 dc30 pm30 cd30 ct30 oc31 kV31 dc31 pm31 cd31 ct31 oc32 kV32 dc32 pm32 cd32 ct32 oc33 kV33 dc33 pm33 cd33 ct33 oc34 kV34 dc34 pm34 cd34 ct34 oc35 kV35 dc35 pm35 cd35 ct35 : Value}
    (aD0 : PySem.W.nsIn K mainGlobals "HeapError" = some (some (.ref D0)))
    (aD1 : PySem.W.nsIn K mainGlobals "Malformed" = some (some (.ref D1)))
    (aD2 : PySem.W.nsIn K mainGlobals "Faulty" = some (some (.ref D2)))
    (aD3 : PySem.W.nsIn K mainGlobals "Misfit" = some (some (.ref D3)))
    (aD4 : PySem.W.nsIn K mainGlobals "BadCount" = some (some (.ref D4)))
    (aD5 : PySem.W.nsIn K mainGlobals "Shape" = some (some (.ref D5)))
    (aD6 : PySem.W.nsIn K mainGlobals "Other" = some (some (.ref D6)))
    (aD7 : PySem.W.nsIn K mainGlobals "Wide" = some (some (.ref D7)))
    (aD8 : PySem.W.nsIn K mainGlobals "NoImage" = some (some (.ref D8)))
    (aD9 : PySem.W.nsIn K mainGlobals "NoPlace" = some (some (.ref D9)))
    (aD10 : PySem.W.nsIn K mainGlobals "BadLine" = some (some (.ref D10)))
    (aD11 : PySem.W.nsIn K mainGlobals "Large" = some (some (.ref D11)))
    (aD12 : PySem.W.nsIn K mainGlobals "Busy" = some (some (.ref D12)))
    (aD13 : PySem.W.nsIn K mainGlobals "Idle" = some (some (.ref D13)))
    (aD14 : PySem.W.nsIn K mainGlobals "NoBack" = some (some (.ref D14)))
    (aD15 : PySem.W.nsIn K mainGlobals "BadText" = some (some (.ref D15)))
    (a0 : PySem.W.findIn K (.ref D0) "told" = some (some (.ref f0)))
    (l0 : K.lookup f0 = some ⟨oc0, od0, .func (PySem.W.fnOf "told" "HeapError.told" (defArgs st0) (defBody st0) (defScope st0) .none kV0 dc0 pm0 an0 cd0 ct0), sl0⟩)
    (c0 : PySem.W.codeIn K cd0 "HeapError.told" = true) (k0 : PySem.W.keepIn K (.ref f0) = true)
    (a1 : PySem.W.findIn K (.ref D1) "__init__" = some (some (.ref f1)))
    (l1 : K.lookup f1 = some ⟨oc1, od1, .func (PySem.W.fnOf "__init__" "Malformed.__init__" (defArgs st1) (defBody st1) (defScope st1) .none kV1 dc1 pm1 an1 cd1 ct1), sl1⟩)
    (c1 : PySem.W.codeIn K cd1 "Malformed.__init__" = true) (k1 : PySem.W.keepIn K (.ref f1) = true)
    (a2 : PySem.W.findIn K (.ref D1) "told" = some (some (.ref f2)))
    (l2 : K.lookup f2 = some ⟨oc2, od2, .func (PySem.W.fnOf "told" "Malformed.told" (defArgs st2) (defBody st2) (defScope st2) .none kV2 dc2 pm2 an2 cd2 ct2), sl2⟩)
    (c2 : PySem.W.codeIn K cd2 "Malformed.told" = true) (k2 : PySem.W.keepIn K (.ref f2) = true)
    (a3 : PySem.W.findIn K (.ref D2) "__init__" = some (some (.ref f3)))
    (l3 : K.lookup f3 = some ⟨oc3, od3, .func (PySem.W.fnOf "__init__" "Faulty.__init__" (defArgs st3) (defBody st3) (defScope st3) .none kV3 dc3 pm3 an3 cd3 ct3), sl3⟩)
    (c3 : PySem.W.codeIn K cd3 "Faulty.__init__" = true) (k3 : PySem.W.keepIn K (.ref f3) = true)
    (a4 : PySem.W.findIn K (.ref D2) "told" = some (some (.ref f4)))
    (l4 : K.lookup f4 = some ⟨oc4, od4, .func (PySem.W.fnOf "told" "Faulty.told" (defArgs st4) (defBody st4) (defScope st4) .none kV4 dc4 pm4 an4 cd4 ct4), sl4⟩)
    (c4 : PySem.W.codeIn K cd4 "Faulty.told" = true) (k4 : PySem.W.keepIn K (.ref f4) = true)
    (a5 : PySem.W.findIn K (.ref D3) "__init__" = some (some (.ref f5)))
    (l5 : K.lookup f5 = some ⟨oc5, od5, .func (PySem.W.fnOf "__init__" "Misfit.__init__" (defArgs st5) (defBody st5) (defScope st5) .none kV5 dc5 pm5 an5 cd5 ct5), sl5⟩)
    (c5 : PySem.W.codeIn K cd5 "Misfit.__init__" = true) (k5 : PySem.W.keepIn K (.ref f5) = true)
    (a6 : PySem.W.findIn K (.ref D3) "told" = some (some (.ref f6)))
    (l6 : K.lookup f6 = some ⟨oc6, od6, .func (PySem.W.fnOf "told" "Misfit.told" (defArgs st6) (defBody st6) (defScope st6) .none kV6 dc6 pm6 an6 cd6 ct6), sl6⟩)
    (c6 : PySem.W.codeIn K cd6 "Misfit.told" = true) (k6 : PySem.W.keepIn K (.ref f6) = true)
    (a7 : PySem.W.findIn K (.ref D4) "__init__" = some (some (.ref f7)))
    (l7 : K.lookup f7 = some ⟨oc7, od7, .func (PySem.W.fnOf "__init__" "BadCount.__init__" (defArgs st7) (defBody st7) (defScope st7) .none kV7 dc7 pm7 an7 cd7 ct7), sl7⟩)
    (c7 : PySem.W.codeIn K cd7 "BadCount.__init__" = true) (k7 : PySem.W.keepIn K (.ref f7) = true)
    (a8 : PySem.W.findIn K (.ref D4) "told" = some (some (.ref f8)))
    (l8 : K.lookup f8 = some ⟨oc8, od8, .func (PySem.W.fnOf "told" "BadCount.told" (defArgs st8) (defBody st8) (defScope st8) .none kV8 dc8 pm8 an8 cd8 ct8), sl8⟩)
    (c8 : PySem.W.codeIn K cd8 "BadCount.told" = true) (k8 : PySem.W.keepIn K (.ref f8) = true)
    (a9 : PySem.W.findIn K (.ref D5) "told" = some (some (.ref f9)))
    (l9 : K.lookup f9 = some ⟨oc9, od9, .func (PySem.W.fnOf "told" "Shape.told" (defArgs st9) (defBody st9) (defScope st9) .none kV9 dc9 pm9 an9 cd9 ct9), sl9⟩)
    (c9 : PySem.W.codeIn K cd9 "Shape.told" = true) (k9 : PySem.W.keepIn K (.ref f9) = true)
    (a10 : PySem.W.findIn K (.ref D6) "__init__" = some (some (.ref f10)))
    (l10 : K.lookup f10 = some ⟨oc10, od10, .func (PySem.W.fnOf "__init__" "Other.__init__" (defArgs st10) (defBody st10) (defScope st10) .none kV10 dc10 pm10 an10 cd10 ct10), sl10⟩)
    (c10 : PySem.W.codeIn K cd10 "Other.__init__" = true) (k10 : PySem.W.keepIn K (.ref f10) = true)
    (a11 : PySem.W.findIn K (.ref D6) "told" = some (some (.ref f11)))
    (l11 : K.lookup f11 = some ⟨oc11, od11, .func (PySem.W.fnOf "told" "Other.told" (defArgs st11) (defBody st11) (defScope st11) .none kV11 dc11 pm11 an11 cd11 ct11), sl11⟩)
    (c11 : PySem.W.codeIn K cd11 "Other.told" = true) (k11 : PySem.W.keepIn K (.ref f11) = true)
    (a12 : PySem.W.findIn K (.ref D7) "__init__" = some (some (.ref f12)))
    (l12 : K.lookup f12 = some ⟨oc12, od12, .func (PySem.W.fnOf "__init__" "Wide.__init__" (defArgs st12) (defBody st12) (defScope st12) .none kV12 dc12 pm12 an12 cd12 ct12), sl12⟩)
    (c12 : PySem.W.codeIn K cd12 "Wide.__init__" = true) (k12 : PySem.W.keepIn K (.ref f12) = true)
    (a13 : PySem.W.findIn K (.ref D7) "told" = some (some (.ref f13)))
    (l13 : K.lookup f13 = some ⟨oc13, od13, .func (PySem.W.fnOf "told" "Wide.told" (defArgs st13) (defBody st13) (defScope st13) .none kV13 dc13 pm13 an13 cd13 ct13), sl13⟩)
    (c13 : PySem.W.codeIn K cd13 "Wide.told" = true) (k13 : PySem.W.keepIn K (.ref f13) = true)
    (a14 : PySem.W.findIn K (.ref D8) "told" = some (some (.ref f14)))
    (l14 : K.lookup f14 = some ⟨oc14, od14, .func (PySem.W.fnOf "told" "NoImage.told" (defArgs st14) (defBody st14) (defScope st14) .none kV14 dc14 pm14 an14 cd14 ct14), sl14⟩)
    (c14 : PySem.W.codeIn K cd14 "NoImage.told" = true) (k14 : PySem.W.keepIn K (.ref f14) = true)
    (a15 : PySem.W.findIn K (.ref D9) "__init__" = some (some (.ref f15)))
    (l15 : K.lookup f15 = some ⟨oc15, od15, .func (PySem.W.fnOf "__init__" "NoPlace.__init__" (defArgs st15) (defBody st15) (defScope st15) .none kV15 dc15 pm15 an15 cd15 ct15), sl15⟩)
    (c15 : PySem.W.codeIn K cd15 "NoPlace.__init__" = true) (k15 : PySem.W.keepIn K (.ref f15) = true)
    (a16 : PySem.W.findIn K (.ref D9) "told" = some (some (.ref f16)))
    (l16 : K.lookup f16 = some ⟨oc16, od16, .func (PySem.W.fnOf "told" "NoPlace.told" (defArgs st16) (defBody st16) (defScope st16) .none kV16 dc16 pm16 an16 cd16 ct16), sl16⟩)
    (c16 : PySem.W.codeIn K cd16 "NoPlace.told" = true) (k16 : PySem.W.keepIn K (.ref f16) = true)
    (a17 : PySem.W.findIn K (.ref D10) "__init__" = some (some (.ref f17)))
    (l17 : K.lookup f17 = some ⟨oc17, od17, .func (PySem.W.fnOf "__init__" "BadLine.__init__" (defArgs st17) (defBody st17) (defScope st17) .none kV17 dc17 pm17 an17 cd17 ct17), sl17⟩)
    (c17 : PySem.W.codeIn K cd17 "BadLine.__init__" = true) (k17 : PySem.W.keepIn K (.ref f17) = true)
    (a18 : PySem.W.findIn K (.ref D10) "told" = some (some (.ref f18)))
    (l18 : K.lookup f18 = some ⟨oc18, od18, .func (PySem.W.fnOf "told" "BadLine.told" (defArgs st18) (defBody st18) (defScope st18) .none kV18 dc18 pm18 an18 cd18 ct18), sl18⟩)
    (c18 : PySem.W.codeIn K cd18 "BadLine.told" = true) (k18 : PySem.W.keepIn K (.ref f18) = true)
    (a19 : PySem.W.findIn K (.ref D11) "__init__" = some (some (.ref f19)))
    (l19 : K.lookup f19 = some ⟨oc19, od19, .func (PySem.W.fnOf "__init__" "Large.__init__" (defArgs st19) (defBody st19) (defScope st19) .none kV19 dc19 pm19 an19 cd19 ct19), sl19⟩)
    (c19 : PySem.W.codeIn K cd19 "Large.__init__" = true) (k19 : PySem.W.keepIn K (.ref f19) = true)
    (a20 : PySem.W.findIn K (.ref D11) "told" = some (some (.ref f20)))
    (l20 : K.lookup f20 = some ⟨oc20, od20, .func (PySem.W.fnOf "told" "Large.told" (defArgs st20) (defBody st20) (defScope st20) .none kV20 dc20 pm20 an20 cd20 ct20), sl20⟩)
    (c20 : PySem.W.codeIn K cd20 "Large.told" = true) (k20 : PySem.W.keepIn K (.ref f20) = true)
    (a21 : PySem.W.findIn K (.ref D12) "told" = some (some (.ref f21)))
    (l21 : K.lookup f21 = some ⟨oc21, od21, .func (PySem.W.fnOf "told" "Busy.told" (defArgs st21) (defBody st21) (defScope st21) .none kV21 dc21 pm21 an21 cd21 ct21), sl21⟩)
    (c21 : PySem.W.codeIn K cd21 "Busy.told" = true) (k21 : PySem.W.keepIn K (.ref f21) = true)
    (a22 : PySem.W.findIn K (.ref D13) "told" = some (some (.ref f22)))
    (l22 : K.lookup f22 = some ⟨oc22, od22, .func (PySem.W.fnOf "told" "Idle.told" (defArgs st22) (defBody st22) (defScope st22) .none kV22 dc22 pm22 an22 cd22 ct22), sl22⟩)
    (c22 : PySem.W.codeIn K cd22 "Idle.told" = true) (k22 : PySem.W.keepIn K (.ref f22) = true)
    (a23 : PySem.W.findIn K (.ref D14) "told" = some (some (.ref f23)))
    (l23 : K.lookup f23 = some ⟨oc23, od23, .func (PySem.W.fnOf "told" "NoBack.told" (defArgs st23) (defBody st23) (defScope st23) .none kV23 dc23 pm23 an23 cd23 ct23), sl23⟩)
    (c23 : PySem.W.codeIn K cd23 "NoBack.told" = true) (k23 : PySem.W.keepIn K (.ref f23) = true)
    (a24 : PySem.W.findIn K (.ref D15) "__init__" = some (some (.ref f24)))
    (l24 : K.lookup f24 = some ⟨oc24, od24, .func (PySem.W.fnOf "__init__" "BadText.__init__" (defArgs st24) (defBody st24) (defScope st24) .none kV24 dc24 pm24 an24 cd24 ct24), sl24⟩)
    (c24 : PySem.W.codeIn K cd24 "BadText.__init__" = true) (k24 : PySem.W.keepIn K (.ref f24) = true)
    (a25 : PySem.W.findIn K (.ref D15) "told" = some (some (.ref f25)))
    (l25 : K.lookup f25 = some ⟨oc25, od25, .func (PySem.W.fnOf "told" "BadText.told" (defArgs st25) (defBody st25) (defScope st25) .none kV25 dc25 pm25 an25 cd25 ct25), sl25⟩)
    (c25 : PySem.W.codeIn K cd25 "BadText.told" = true) (k25 : PySem.W.keepIn K (.ref f25) = true)
    (a26 : PySem.W.nsIn K mainGlobals "_law_mixed" = some (some (.ref f26)))
    (l26 : K.lookup f26 = some ⟨oc26, od26, .func (PySem.W.fnOf "_law_mixed" "_law_mixed" (defArgs st26) (defBody st26) (defScope st26) .none kV26 dc26 pm26 an26 cd26 ct26), sl26⟩)
    (c26 : PySem.W.codeIn K cd26 "_law_mixed" = true) (k26 : PySem.W.keepIn K (.ref f26) = true)
    (a27 : PySem.W.nsIn K mainGlobals "_law_source" = some (some (.ref f27)))
    (l27 : K.lookup f27 = some ⟨oc27, od27, .func (PySem.W.fnOf "_law_source" "_law_source" (defArgs st27) (defBody st27) (defScope st27) .none kV27 dc27 pm27 an27 cd27 ct27), sl27⟩)
    (c27 : PySem.W.codeIn K cd27 "_law_source" = true) (k27 : PySem.W.keepIn K (.ref f27) = true)
    (a28 : PySem.W.nsIn K mainGlobals "_law_take" = some (some (.ref f28)))
    (l28 : K.lookup f28 = some ⟨oc28, od28, .func (PySem.W.fnOf "_law_take" "_law_take" (defArgs st28) (defBody st28) (defScope st28) .none kV28 dc28 pm28 an28 cd28 ct28), sl28⟩)
    (c28 : PySem.W.codeIn K cd28 "_law_take" = true) (k28 : PySem.W.keepIn K (.ref f28) = true)
    (a29 : PySem.W.nsIn K mainGlobals "_law_pick" = some (some (.ref f29)))
    (l29 : K.lookup f29 = some ⟨oc29, od29, .func (PySem.W.fnOf "_law_pick" "_law_pick" (defArgs st29) (defBody st29) (defScope st29) .none kV29 dc29 pm29 an29 cd29 ct29), sl29⟩)
    (c29 : PySem.W.codeIn K cd29 "_law_pick" = true) (k29 : PySem.W.keepIn K (.ref f29) = true)
    (a30 : PySem.W.nsIn K mainGlobals "_law_marks" = some (some (.ref f30)))
    (l30 : K.lookup f30 = some ⟨oc30, od30, .func (PySem.W.fnOf "_law_marks" "_law_marks" (defArgs st30) (defBody st30) (defScope st30) .none kV30 dc30 pm30 an30 cd30 ct30), sl30⟩)
    (c30 : PySem.W.codeIn K cd30 "_law_marks" = true) (k30 : PySem.W.keepIn K (.ref f30) = true)
    (a31 : PySem.W.nsIn K mainGlobals "_law_all" = some (some (.ref f31)))
    (l31 : K.lookup f31 = some ⟨oc31, od31, .func (PySem.W.fnOf "_law_all" "_law_all" (defArgs st31) (defBody st31) (defScope st31) .none kV31 dc31 pm31 an31 cd31 ct31), sl31⟩)
    (c31 : PySem.W.codeIn K cd31 "_law_all" = true) (k31 : PySem.W.keepIn K (.ref f31) = true)
    (a32 : PySem.W.nsIn K mainGlobals "_law_all_named" = some (some (.ref f32)))
    (l32 : K.lookup f32 = some ⟨oc32, od32, .func (PySem.W.fnOf "_law_all_named" "_law_all_named" (defArgs st32) (defBody st32) (defScope st32) .none kV32 dc32 pm32 an32 cd32 ct32), sl32⟩)
    (c32 : PySem.W.codeIn K cd32 "_law_all_named" = true) (k32 : PySem.W.keepIn K (.ref f32) = true)
    (a33 : PySem.W.nsIn K mainGlobals "_law_fields" = some (some (.ref f33)))
    (l33 : K.lookup f33 = some ⟨oc33, od33, .func (PySem.W.fnOf "_law_fields" "_law_fields" (defArgs st33) (defBody st33) (defScope st33) .none kV33 dc33 pm33 an33 cd33 ct33), sl33⟩)
    (c33 : PySem.W.codeIn K cd33 "_law_fields" = true) (k33 : PySem.W.keepIn K (.ref f33) = true)
    (a34 : PySem.W.nsIn K mainGlobals "_law_right" = some (some (.ref f34)))
    (l34 : K.lookup f34 = some ⟨oc34, od34, .func (PySem.W.fnOf "_law_right" "_law_right" (defArgs st34) (defBody st34) (defScope st34) .none kV34 dc34 pm34 an34 cd34 ct34), sl34⟩)
    (c34 : PySem.W.codeIn K cd34 "_law_right" = true) (k34 : PySem.W.keepIn K (.ref f34) = true)
    (a35 : PySem.W.nsIn K mainGlobals "law" = some (some (.ref f35)))
    (l35 : K.lookup f35 = some ⟨oc35, od35, .func (PySem.W.fnOf "law" "law" (defArgs st35) (defBody st35) (defScope st35) .none kV35 dc35 pm35 an35 cd35 ct35), sl35⟩)
    (c35 : PySem.W.codeIn K cd35 "law" = true) (k35 : PySem.W.keepIn K (.ref f35) = true)
    (z0 : PySem.W.nsIn K mainGlobals "int" = some none)
    (z1 : PySem.W.nsIn K mainGlobals "len" = some none)
    (z2 : PySem.W.nsIn K mainGlobals "isinstance" = some none)
    (z3 : PySem.W.nsIn K mainGlobals "enumerate" = some none)
    (z4 : PySem.W.nsIn K mainGlobals "range" = some none)
    (z5 : PySem.W.nsIn K mainGlobals "all" = some none)
    (z6 : PySem.W.nsIn K mainGlobals "ValueError" = some none)
    (chk : clsChk K tl [f0, f1, f2, f3, f4, f5, f6, f7, f8, f9, f10, f11, f12, f13, f14, f15, f16, f17, f18, f19, f20, f21, f22, f23, f24, f25, f26, f27, f28, f29, f30, f31, f32, f33, f34, f35] [] = true) (xchk : xChk K tl [f0, f1, f2, f3, f4, f5, f6, f7, f8, f9, f10, f11, f12, f13, f14, f15, f16, f17, f18, f19, f20, f21, f22, f23, f24, f25, f26, f27, f28, f29, f30, f31, f32, f33, f34, f35] [D0, D1, D2, D3, D4, D5, D6, D7, D8, D9, D10, D11, D12, D13, D14, D15] = true) :
    ∃ (T : TabI) (dd : Dd), GFix cg T dd K mg ∧ (∀ (f : Nat) (F : Fn), tbl[f]? = some F → FunOk cg dd K 40 f F) ∧ dd.fa 35 = fa ∧ dd.ps 35 = (["_law_script"] : List Str) ∧ ∀ (s : Shared) (u : Value), BindsTo s (dd.fd 35) ⟨[u], []⟩ [("_law_script", u)] := by
  have e : f35 = fa := by have z := (PySem.W.mg_of X G a35).symm.trans hfa; cases z; rfl
  subst e
  have F0 := fun_mk (st := st0) l0 c0 k0
  have F1 := fun_mk (st := st1) l1 c1 k1
  have F2 := fun_mk (st := st2) l2 c2 k2
  have F3 := fun_mk (st := st3) l3 c3 k3
  have F4 := fun_mk (st := st4) l4 c4 k4
  have F5 := fun_mk (st := st5) l5 c5 k5
  have F6 := fun_mk (st := st6) l6 c6 k6
  have F7 := fun_mk (st := st7) l7 c7 k7
  have F8 := fun_mk (st := st8) l8 c8 k8
  have F9 := fun_mk (st := st9) l9 c9 k9
  have F10 := fun_mk (st := st10) l10 c10 k10
  have F11 := fun_mk (st := st11) l11 c11 k11
  have F12 := fun_mk (st := st12) l12 c12 k12
  have F13 := fun_mk (st := st13) l13 c13 k13
  have F14 := fun_mk (st := st14) l14 c14 k14
  have F15 := fun_mk (st := st15) l15 c15 k15
  have F16 := fun_mk (st := st16) l16 c16 k16
  have F17 := fun_mk (st := st17) l17 c17 k17
  have F18 := fun_mk (st := st18) l18 c18 k18
  have F19 := fun_mk (st := st19) l19 c19 k19
  have F20 := fun_mk (st := st20) l20 c20 k20
  have F21 := fun_mk (st := st21) l21 c21 k21
  have F22 := fun_mk (st := st22) l22 c22 k22
  have F23 := fun_mk (st := st23) l23 c23 k23
  have F24 := fun_mk (st := st24) l24 c24 k24
  have F25 := fun_mk (st := st25) l25 c25 k25
  have F26 := fun_mk (st := st26) l26 c26 k26
  have F27 := fun_mk (st := st27) l27 c27 k27
  have F28 := fun_mk (st := st28) l28 c28 k28
  have F29 := fun_mk (st := st29) l29 c29 k29
  have F30 := fun_mk (st := st30) l30 c30 k30
  have F31 := fun_mk (st := st31) l31 c31 k31
  have F32 := fun_mk (st := st32) l32 c32 k32
  have F33 := fun_mk (st := st33) l33 c33 k33
  have F34 := fun_mk (st := st34) l34 c34 k34
  have F35 := fun_mk (st := st35) l35 c35 k35
  have B0 := F0.binds (ps := ["self"]) fun _ _ _ _ _ _ us hl => match us, hl with | [_], _ => rfl
  have B1 := F1.binds (ps := ["self", "line", "column"]) fun _ _ _ _ _ _ us hl => match us, hl with | [_, _, _], _ => rfl
  have B2 := F2.binds (ps := ["self"]) fun _ _ _ _ _ _ us hl => match us, hl with | [_], _ => rfl
  have B3 := F3.binds (ps := ["self", "fault"]) fun _ _ _ _ _ _ us hl => match us, hl with | [_, _], _ => rfl
  have B4 := F4.binds (ps := ["self"]) fun _ _ _ _ _ _ us hl => match us, hl with | [_], _ => rfl
  have B5 := F5.binds (ps := ["self", "place"]) fun _ _ _ _ _ _ us hl => match us, hl with | [_, _], _ => rfl
  have B6 := F6.binds (ps := ["self"]) fun _ _ _ _ _ _ us hl => match us, hl with | [_], _ => rfl
  have B7 := F7.binds (ps := ["self", "what", "count"]) fun _ _ _ _ _ _ us hl => match us, hl with | [_, _, _], _ => rfl
  have B8 := F8.binds (ps := ["self"]) fun _ _ _ _ _ _ us hl => match us, hl with | [_], _ => rfl
  have B9 := F9.binds (ps := ["self"]) fun _ _ _ _ _ _ us hl => match us, hl with | [_], _ => rfl
  have B10 := F10.binds (ps := ["self", "place"]) fun _ _ _ _ _ _ us hl => match us, hl with | [_, _], _ => rfl
  have B11 := F11.binds (ps := ["self"]) fun _ _ _ _ _ _ us hl => match us, hl with | [_], _ => rfl
  have B12 := F12.binds (ps := ["self", "count"]) fun _ _ _ _ _ _ us hl => match us, hl with | [_, _], _ => rfl
  have B13 := F13.binds (ps := ["self"]) fun _ _ _ _ _ _ us hl => match us, hl with | [_], _ => rfl
  have B14 := F14.binds (ps := ["self"]) fun _ _ _ _ _ _ us hl => match us, hl with | [_], _ => rfl
  have B15 := F15.binds (ps := ["self", "place"]) fun _ _ _ _ _ _ us hl => match us, hl with | [_, _], _ => rfl
  have B16 := F16.binds (ps := ["self"]) fun _ _ _ _ _ _ us hl => match us, hl with | [_], _ => rfl
  have B17 := F17.binds (ps := ["self", "time"]) fun _ _ _ _ _ _ us hl => match us, hl with | [_, _], _ => rfl
  have B18 := F18.binds (ps := ["self"]) fun _ _ _ _ _ _ us hl => match us, hl with | [_], _ => rfl
  have B19 := F19.binds (ps := ["self", "count"]) fun _ _ _ _ _ _ us hl => match us, hl with | [_, _], _ => rfl
  have B20 := F20.binds (ps := ["self"]) fun _ _ _ _ _ _ us hl => match us, hl with | [_], _ => rfl
  have B21 := F21.binds (ps := ["self"]) fun _ _ _ _ _ _ us hl => match us, hl with | [_], _ => rfl
  have B22 := F22.binds (ps := ["self"]) fun _ _ _ _ _ _ us hl => match us, hl with | [_], _ => rfl
  have B23 := F23.binds (ps := ["self"]) fun _ _ _ _ _ _ us hl => match us, hl with | [_], _ => rfl
  have B24 := F24.binds (ps := ["self", "place"]) fun _ _ _ _ _ _ us hl => match us, hl with | [_, _], _ => rfl
  have B25 := F25.binds (ps := ["self"]) fun _ _ _ _ _ _ us hl => match us, hl with | [_], _ => rfl
  have B26 := F26.binds (ps := ["_law_cell", "_law_draw"]) fun _ _ _ _ _ _ us hl => match us, hl with | [_, _], _ => rfl
  have B27 := F27.binds (ps := ["_law_cell"]) fun _ _ _ _ _ _ us hl => match us, hl with | [_], _ => rfl
  have B28 := F28.binds (ps := ["_law_source_here", "_law_bound"]) fun _ _ _ _ _ _ us hl => match us, hl with | [_, _], _ => rfl
  have B29 := F29.binds (ps := ["_law_source_here", "_law_options"]) fun _ _ _ _ _ _ us hl => match us, hl with | [_, _], _ => rfl
  have B30 := F30.binds (ps := ["_law_e"]) fun _ _ _ _ _ _ us hl => match us, hl with | [_], _ => rfl
  have B31 := F31.binds (ps := ["_law_one", "_law_two"]) fun _ _ _ _ _ _ us hl => match us, hl with | [_, _], _ => rfl
  have B32 := F32.binds (ps := ["_law_one", "_law_two"]) fun _ _ _ _ _ _ us hl => match us, hl with | [_, _], _ => rfl
  have B33 := F33.binds (ps := ["_law_some"]) fun _ _ _ _ _ _ us hl => match us, hl with | [_], _ => rfl
  have B34 := F34.binds (ps := ["_law_one", "_law_two"]) fun _ _ _ _ _ _ us hl => match us, hl with | [_, _], _ => rfl
  have B35 := F35.binds (ps := ["_law_script"]) fun _ _ _ _ _ _ us hl => match us, hl with | [_], _ => rfl
  let fdl : List FuncData := [PySem.W.fnOf "told" "HeapError.told" (defArgs st0) (defBody st0) (defScope st0) .none kV0 dc0 pm0 an0 cd0 ct0, PySem.W.fnOf "__init__" "Malformed.__init__" (defArgs st1) (defBody st1) (defScope st1) .none kV1 dc1 pm1 an1 cd1 ct1, PySem.W.fnOf "told" "Malformed.told" (defArgs st2) (defBody st2) (defScope st2) .none kV2 dc2 pm2 an2 cd2 ct2, PySem.W.fnOf "__init__" "Faulty.__init__" (defArgs st3) (defBody st3) (defScope st3) .none kV3 dc3 pm3 an3 cd3 ct3, PySem.W.fnOf "told" "Faulty.told" (defArgs st4) (defBody st4) (defScope st4) .none kV4 dc4 pm4 an4 cd4 ct4, PySem.W.fnOf "__init__" "Misfit.__init__" (defArgs st5) (defBody st5) (defScope st5) .none kV5 dc5 pm5 an5 cd5 ct5, PySem.W.fnOf "told" "Misfit.told" (defArgs st6) (defBody st6) (defScope st6) .none kV6 dc6 pm6 an6 cd6 ct6, PySem.W.fnOf "__init__" "BadCount.__init__" (defArgs st7) (defBody st7) (defScope st7) .none kV7 dc7 pm7 an7 cd7 ct7, PySem.W.fnOf "told" "BadCount.told" (defArgs st8) (defBody st8) (defScope st8) .none kV8 dc8 pm8 an8 cd8 ct8, PySem.W.fnOf "told" "Shape.told" (defArgs st9) (defBody st9) (defScope st9) .none kV9 dc9 pm9 an9 cd9 ct9, PySem.W.fnOf "__init__" "Other.__init__" (defArgs st10) (defBody st10) (defScope st10) .none kV10 dc10 pm10 an10 cd10 ct10, PySem.W.fnOf "told" "Other.told" (defArgs st11) (defBody st11) (defScope st11) .none kV11 dc11 pm11 an11 cd11 ct11, PySem.W.fnOf "__init__" "Wide.__init__" (defArgs st12) (defBody st12) (defScope st12) .none kV12 dc12 pm12 an12 cd12 ct12, PySem.W.fnOf "told" "Wide.told" (defArgs st13) (defBody st13) (defScope st13) .none kV13 dc13 pm13 an13 cd13 ct13, PySem.W.fnOf "told" "NoImage.told" (defArgs st14) (defBody st14) (defScope st14) .none kV14 dc14 pm14 an14 cd14 ct14, PySem.W.fnOf "__init__" "NoPlace.__init__" (defArgs st15) (defBody st15) (defScope st15) .none kV15 dc15 pm15 an15 cd15 ct15, PySem.W.fnOf "told" "NoPlace.told" (defArgs st16) (defBody st16) (defScope st16) .none kV16 dc16 pm16 an16 cd16 ct16, PySem.W.fnOf "__init__" "BadLine.__init__" (defArgs st17) (defBody st17) (defScope st17) .none kV17 dc17 pm17 an17 cd17 ct17, PySem.W.fnOf "told" "BadLine.told" (defArgs st18) (defBody st18) (defScope st18) .none kV18 dc18 pm18 an18 cd18 ct18, PySem.W.fnOf "__init__" "Large.__init__" (defArgs st19) (defBody st19) (defScope st19) .none kV19 dc19 pm19 an19 cd19 ct19, PySem.W.fnOf "told" "Large.told" (defArgs st20) (defBody st20) (defScope st20) .none kV20 dc20 pm20 an20 cd20 ct20, PySem.W.fnOf "told" "Busy.told" (defArgs st21) (defBody st21) (defScope st21) .none kV21 dc21 pm21 an21 cd21 ct21, PySem.W.fnOf "told" "Idle.told" (defArgs st22) (defBody st22) (defScope st22) .none kV22 dc22 pm22 an22 cd22 ct22, PySem.W.fnOf "told" "NoBack.told" (defArgs st23) (defBody st23) (defScope st23) .none kV23 dc23 pm23 an23 cd23 ct23, PySem.W.fnOf "__init__" "BadText.__init__" (defArgs st24) (defBody st24) (defScope st24) .none kV24 dc24 pm24 an24 cd24 ct24, PySem.W.fnOf "told" "BadText.told" (defArgs st25) (defBody st25) (defScope st25) .none kV25 dc25 pm25 an25 cd25 ct25, PySem.W.fnOf "_law_mixed" "_law_mixed" (defArgs st26) (defBody st26) (defScope st26) .none kV26 dc26 pm26 an26 cd26 ct26, PySem.W.fnOf "_law_source" "_law_source" (defArgs st27) (defBody st27) (defScope st27) .none kV27 dc27 pm27 an27 cd27 ct27, PySem.W.fnOf "_law_take" "_law_take" (defArgs st28) (defBody st28) (defScope st28) .none kV28 dc28 pm28 an28 cd28 ct28, PySem.W.fnOf "_law_pick" "_law_pick" (defArgs st29) (defBody st29) (defScope st29) .none kV29 dc29 pm29 an29 cd29 ct29, PySem.W.fnOf "_law_marks" "_law_marks" (defArgs st30) (defBody st30) (defScope st30) .none kV30 dc30 pm30 an30 cd30 ct30, PySem.W.fnOf "_law_all" "_law_all" (defArgs st31) (defBody st31) (defScope st31) .none kV31 dc31 pm31 an31 cd31 ct31, PySem.W.fnOf "_law_all_named" "_law_all_named" (defArgs st32) (defBody st32) (defScope st32) .none kV32 dc32 pm32 an32 cd32 ct32, PySem.W.fnOf "_law_fields" "_law_fields" (defArgs st33) (defBody st33) (defScope st33) .none kV33 dc33 pm33 an33 cd33 ct33, PySem.W.fnOf "_law_right" "_law_right" (defArgs st34) (defBody st34) (defScope st34) .none kV34 dc34 pm34 an34 cd34 ct34, PySem.W.fnOf "law" "law" (defArgs st35) (defBody st35) (defScope st35) .none kV35 dc35 pm35 an35 cd35 ct35]
  let dd : Dd := ⟨fun f => [f0, f1, f2, f3, f4, f5, f6, f7, f8, f9, f10, f11, f12, f13, f14, f15, f16, f17, f18, f19, f20, f21, f22, f23, f24, f25, f26, f27, f28, f29, f30, f31, f32, f33, f34, f35].getD f 0, fun f => fdl.getD f (PySem.W.fnOf "law" "law" (defArgs st35) (defBody st35) (defScope st35) .none kV35 dc35 pm35 an35 cd35 ct35), fun f => ([(["self"] : List Str), (["self", "line", "column"] : List Str), (["self"] : List Str), (["self", "fault"] : List Str), (["self"] : List Str), (["self", "place"] : List Str), (["self"] : List Str), (["self", "what", "count"] : List Str), (["self"] : List Str), (["self"] : List Str), (["self", "place"] : List Str), (["self"] : List Str), (["self", "count"] : List Str), (["self"] : List Str), (["self"] : List Str), (["self", "place"] : List Str), (["self"] : List Str), (["self", "time"] : List Str), (["self"] : List Str), (["self", "count"] : List Str), (["self"] : List Str), (["self"] : List Str), (["self"] : List Str), (["self"] : List Str), (["self", "place"] : List Str), (["self"] : List Str), (["_law_cell", "_law_draw"] : List Str), (["_law_cell"] : List Str), (["_law_source_here", "_law_bound"] : List Str), (["_law_source_here", "_law_options"] : List Str), (["_law_e"] : List Str), (["_law_one", "_law_two"] : List Str), (["_law_one", "_law_two"] : List Str), (["_law_some"] : List Str), (["_law_one", "_law_two"] : List Str), (["_law_script"] : List Str)] : List (List Str)).getD f []⟩
  have hnd : ndChk tl 36 = true := by kernel_rfl
  have hxn : xnChk tl 36 = true := by kernel_rfl
  obtain ⟨hC, hE, hN⟩ := clsOk_of (dd := dd) (xas := [D0, D1, D2, D3, D4, D5, D6, D7, D8, D9, D10, D11, D12, D13, D14, D15]) chk hnd (fun f => rfl)
  refine ⟨tabOf tl [] [D0, D1, D2, D3, D4, D5, D6, D7, D8, D9, D10, D11, D12, D13, D14, D15], dd, ⟨hC, hE, hN, ?_, nd_mt hnd, nd_in hnd, nd_eq hnd, ?_, ?_, ?_, ?_, ?_, ⟨xcOk_of xchk (fun f => rfl), xn_mt hxn, xn_in hxn, ps_small (by decide +kernel), ?_, ?_⟩⟩, ?_, rfl, rfl, fun s v => .of_eq rfl⟩
  · intro i x hx
    show tl.an.getD i Str.empty = x
    rw [List.getD_eq_getElem?_getD, show tl.an[i]? = some x from hx]
    rfl
  · intro x f hx
    have hx := lookup_in hx
    simp only [cg, List.mem_cons, Prod.mk.injEq, List.not_mem_nil, or_false, reduceCtorEq, and_false, false_or, Gn.df.injEq] at hx
    rcases hx with ⟨rfl, rfl⟩ | ⟨rfl, rfl⟩ | ⟨rfl, rfl⟩ | ⟨rfl, rfl⟩ | ⟨rfl, rfl⟩ | ⟨rfl, rfl⟩ | ⟨rfl, rfl⟩ | ⟨rfl, rfl⟩ | ⟨rfl, rfl⟩
    · exact ⟨by decide, PySem.W.mg_of X G a26, k26⟩
    · exact ⟨by decide, PySem.W.mg_of X G a27, k27⟩
    · exact ⟨by decide, PySem.W.mg_of X G a28, k28⟩
    · exact ⟨by decide, PySem.W.mg_of X G a29, k29⟩
    · exact ⟨by decide, PySem.W.mg_of X G a30, k30⟩
    · exact ⟨by decide, PySem.W.mg_of X G a31, k31⟩
    · exact ⟨by decide, PySem.W.mg_of X G a32, k32⟩
    · exact ⟨by decide, PySem.W.mg_of X G a33, k33⟩
    · exact ⟨by decide, PySem.W.mg_of X G a34, k34⟩
  · intro x c hx
    have hx := lookup_in hx
    simp only [cg, List.mem_cons, Prod.mk.injEq, List.not_mem_nil, or_false, reduceCtorEq, and_false, false_or, Gn.cl.injEq] at hx
  · intro x d hx
    have hx := lookup_in hx
    simp only [cg, List.mem_cons, Prod.mk.injEq, List.not_mem_nil, or_false, reduceCtorEq, and_false, false_or, Gn.kd.injEq] at hx
  · intro x hx
    simp only [cg, List.mem_cons, List.not_mem_nil, or_false] at hx
    rcases hx with rfl | rfl | rfl | rfl | rfl | rfl | rfl
    · exact PySem.W.mg_none_of X G z0
    · exact PySem.W.mg_none_of X G z1
    · exact PySem.W.mg_none_of X G z2
    · exact PySem.W.mg_none_of X G z3
    · exact PySem.W.mg_none_of X G z4
    · exact PySem.W.mg_none_of X G z5
    · exact PySem.W.mg_none_of X G z6
  · intro f ks hk
    simp only [cg, List.mem_cons, Prod.mk.injEq, List.not_mem_nil, or_false] at hk
  · intro x c hx
    have hx := lookup_in hx
    simp only [cg, List.mem_cons, Prod.mk.injEq, List.not_mem_nil, or_false, reduceCtorEq, and_false, false_or, Gn.xc.injEq] at hx
    rcases hx with ⟨rfl, rfl⟩ | ⟨rfl, rfl⟩ | ⟨rfl, rfl⟩ | ⟨rfl, rfl⟩ | ⟨rfl, rfl⟩ | ⟨rfl, rfl⟩ | ⟨rfl, rfl⟩ | ⟨rfl, rfl⟩ | ⟨rfl, rfl⟩ | ⟨rfl, rfl⟩ | ⟨rfl, rfl⟩ | ⟨rfl, rfl⟩ | ⟨rfl, rfl⟩ | ⟨rfl, rfl⟩ | ⟨rfl, rfl⟩ | ⟨rfl, rfl⟩
    · exact ⟨D0, rfl, PySem.W.mg_of X G aD0⟩
    · exact ⟨D1, rfl, PySem.W.mg_of X G aD1⟩
    · exact ⟨D2, rfl, PySem.W.mg_of X G aD2⟩
    · exact ⟨D3, rfl, PySem.W.mg_of X G aD3⟩
    · exact ⟨D4, rfl, PySem.W.mg_of X G aD4⟩
    · exact ⟨D5, rfl, PySem.W.mg_of X G aD5⟩
    · exact ⟨D6, rfl, PySem.W.mg_of X G aD6⟩
    · exact ⟨D7, rfl, PySem.W.mg_of X G aD7⟩
    · exact ⟨D8, rfl, PySem.W.mg_of X G aD8⟩
    · exact ⟨D9, rfl, PySem.W.mg_of X G aD9⟩
    · exact ⟨D10, rfl, PySem.W.mg_of X G aD10⟩
    · exact ⟨D11, rfl, PySem.W.mg_of X G aD11⟩
    · exact ⟨D12, rfl, PySem.W.mg_of X G aD12⟩
    · exact ⟨D13, rfl, PySem.W.mg_of X G aD13⟩
    · exact ⟨D14, rfl, PySem.W.mg_of X G aD14⟩
    · exact ⟨D15, rfl, PySem.W.mg_of X G aD15⟩
  · intro f ks sw hk
    simp only [cg, List.mem_cons, Prod.mk.injEq, List.not_mem_nil, or_false] at hk
    rcases hk with ⟨rfl, rfl, rfl⟩ | ⟨rfl, rfl, rfl⟩ | ⟨rfl, rfl, rfl⟩ | ⟨rfl, rfl, rfl⟩ | ⟨rfl, rfl, rfl⟩ | ⟨rfl, rfl, rfl⟩ | ⟨rfl, rfl, rfl⟩ | ⟨rfl, rfl, rfl⟩ | ⟨rfl, rfl, rfl⟩ | ⟨rfl, rfl, rfl⟩
    · exact ⟨xkb0 F7, rfl⟩
    · exact ⟨xkb1 F5, rfl⟩
    · exact ⟨xkb2 F3, rfl⟩
    · exact ⟨xkb3 F1, rfl⟩
    · exact ⟨xkb4 F17, rfl⟩
    · exact ⟨xkb5 F15, rfl⟩
    · exact ⟨xkb6 F12, rfl⟩
    · exact ⟨xkb7 F10, rfl⟩
    · exact ⟨xkb8 F24, rfl⟩
    · exact ⟨xkb9 F19, rfl⟩
  · intro f F hF
    match f, hF with
    | 0, hF => cases hF; exact ⟨⟨_, _, F0⟩, sc0, rfl, B0, cm0⟩
    | 1, hF => cases hF; exact ⟨⟨_, _, F1⟩, sc1, rfl, B1, cm1⟩
    | 2, hF => cases hF; exact ⟨⟨_, _, F2⟩, sc2, rfl, B2, cm2⟩
    | 3, hF => cases hF; exact ⟨⟨_, _, F3⟩, sc3, rfl, B3, cm3⟩
    | 4, hF => cases hF; exact ⟨⟨_, _, F4⟩, sc4, rfl, B4, cm4⟩
    | 5, hF => cases hF; exact ⟨⟨_, _, F5⟩, sc5, rfl, B5, cm5⟩
    | 6, hF => cases hF; exact ⟨⟨_, _, F6⟩, sc6, rfl, B6, cm6⟩
    | 7, hF => cases hF; exact ⟨⟨_, _, F7⟩, sc7, rfl, B7, cm7⟩
    | 8, hF => cases hF; exact ⟨⟨_, _, F8⟩, sc8, rfl, B8, cm8⟩
    | 9, hF => cases hF; exact ⟨⟨_, _, F9⟩, sc9, rfl, B9, cm9⟩
    | 10, hF => cases hF; exact ⟨⟨_, _, F10⟩, sc10, rfl, B10, cm10⟩
    | 11, hF => cases hF; exact ⟨⟨_, _, F11⟩, sc11, rfl, B11, cm11⟩
    | 12, hF => cases hF; exact ⟨⟨_, _, F12⟩, sc12, rfl, B12, cm12⟩
    | 13, hF => cases hF; exact ⟨⟨_, _, F13⟩, sc13, rfl, B13, cm13⟩
    | 14, hF => cases hF; exact ⟨⟨_, _, F14⟩, sc14, rfl, B14, cm14⟩
    | 15, hF => cases hF; exact ⟨⟨_, _, F15⟩, sc15, rfl, B15, cm15⟩
    | 16, hF => cases hF; exact ⟨⟨_, _, F16⟩, sc16, rfl, B16, cm16⟩
    | 17, hF => cases hF; exact ⟨⟨_, _, F17⟩, sc17, rfl, B17, cm17⟩
    | 18, hF => cases hF; exact ⟨⟨_, _, F18⟩, sc18, rfl, B18, cm18⟩
    | 19, hF => cases hF; exact ⟨⟨_, _, F19⟩, sc19, rfl, B19, cm19⟩
    | 20, hF => cases hF; exact ⟨⟨_, _, F20⟩, sc20, rfl, B20, cm20⟩
    | 21, hF => cases hF; exact ⟨⟨_, _, F21⟩, sc21, rfl, B21, cm21⟩
    | 22, hF => cases hF; exact ⟨⟨_, _, F22⟩, sc22, rfl, B22, cm22⟩
    | 23, hF => cases hF; exact ⟨⟨_, _, F23⟩, sc23, rfl, B23, cm23⟩
    | 24, hF => cases hF; exact ⟨⟨_, _, F24⟩, sc24, rfl, B24, cm24⟩
    | 25, hF => cases hF; exact ⟨⟨_, _, F25⟩, sc25, rfl, B25, cm25⟩
    | 26, hF => cases hF; exact ⟨⟨_, _, F26⟩, sc26, rfl, B26, cm26⟩
    | 27, hF => cases hF; exact ⟨⟨_, _, F27⟩, sc27, rfl, B27, cm27⟩
    | 28, hF => cases hF; exact ⟨⟨_, _, F28⟩, sc28, rfl, B28, cm28⟩
    | 29, hF => cases hF; exact ⟨⟨_, _, F29⟩, sc29, rfl, B29, cm29⟩
    | 30, hF => cases hF; exact ⟨⟨_, _, F30⟩, sc30, rfl, B30, cm30⟩
    | 31, hF => cases hF; exact ⟨⟨_, _, F31⟩, sc31, rfl, B31, cm31⟩
    | 32, hF => cases hF; exact ⟨⟨_, _, F32⟩, sc32, rfl, B32, cm32⟩
    | 33, hF => cases hF; exact ⟨⟨_, _, F33⟩, sc33, rfl, B33, cm33⟩
    | 34, hF => cases hF; exact ⟨⟨_, _, F34⟩, sc34, rfl, B34, cm34⟩
    | 35, hF => cases hF; exact ⟨⟨_, _, F35⟩, sc35, rfl, B35, cm35⟩
    | n + 36, hF => cases hF
end
end Law
set_option Elab.async false
set_option linter.all false
set_option maxRecDepth 100000
set_option autoImplicit false
namespace Law
open PySem PySem.Spec PyProof.Rows L2 Eng
/-! k01, 1: draws -/
abbrev srcL (x y z : Int) : O := .lst [.int x, .int y, .int z]
theorem at3_0 {u v w : D} : atI [u, v, w] 0 = some u := rfl
theorem at3_1 {u v w : D} : atI [u, v, w] 1 = some v := rfl
theorem at3_2 {u v w : D} : atI [u, v, w] 2 = some w := rfl
theorem mod_b {m : Int} (h : 0 < m) (h2 : m < 2 ^ 63) (x : Int) : (x % m).natAbs < 2 ^ 64 := by
  have h1 := Int.emod_nonneg x (show m ≠ 0 by omega)
  have h2 := Int.emod_lt_of_pos x h
  omega
theorem mixed_ok (n : Nat) {st : List O} {c d : Int} {Q : D → List O → Prop} (hq : ∀ r : Int, Q (.int r) st) : W (callAt tbl (n + 1) 26 [.int c, .int d] st) Q := by
  refine callB (body := b26) rfl rfl rfl ?_
  have m0 : mulOk d 7919 = true := mulOk_r (by decide)
  have m1 : ∀ b : Int, mulOk (c % 2147483646 + 1) b = true := fun b => mulOk_l (by
    have h1 := Int.emod_nonneg c (show (2147483646 : Int) ≠ 0 by decide)
    have h2 := Int.emod_lt_of_pos c (show (0 : Int) < 2147483646 by decide)
    omega)
  have m2 : ∀ a b : Int, mulOk (a % 1000003) b = true := fun a b => mulOk_l (mod_b (by decide) (by decide) a)
  have m3 : ∀ a : Int, mulOk a 48271 = true := fun a => mulOk_r (by decide)
  have m4 : ∀ a b : Int, mulOk (a % 2147483629) b = true := fun a b => mulOk_l (mod_b (by decide) (by decide) a)
  have m5 : ∀ a b : Int, mulOk (a % 2147483587) b = true := fun a b => mulOk_l (mod_b (by decide) (by decide) a)
  simp [b26, m0, m1, m2, m3, m4, m5]
  exact hq _
theorem take_ok (n : Nat) {st : List O} {a : Nat} {x y z m : Int} (h : st[a]? = some (srcL x y z)) (hm : 0 < m) (hm2 : m.natAbs < 2 ^ 64) {Q : D → List O → Prop} (hq : ∀ r x' z' : Int, 0 ≤ r → r < m → Q (.int r) (st.set a (srcL x' y z'))) : W (callAt tbl (n + 2) 28 [.ref a, .int m] st) Q := by
  refine callB (body := b28) rfl rfl rfl ?_
  have h2 : ∀ o : O, (st.set a o)[a]? = some o := fun o => get_set' h
  have i0 : ixN 3 0 = some 0 := rfl
  have i2 : ixN 3 2 = some 2 := rfl
  have p1 : ∀ s : List O, fPow (.int 10) (.int 18) s = some (.int (10 ^ 18), s) := fun s => fPow_int (k := 18) (by decide) (by decide)
  by_cases hx : (10 : Int) ^ 18 ≤ x
  · have hx' : (1000000000000000000 : Int) ≤ x := hx
    simp [b28, fIx_lst h, fSet_lst h, at3_0, i0, hx', hm, hm2, p1]
    exact hq _ _ _ (Int.emod_nonneg _ (by omega)) (Int.emod_lt_of_pos _ hm)
  · have hx' : ¬ (1000000000000000000 : Int) ≤ x := hx
    have h3 : ∀ (xs : List D) (k : Int), fIx (.ref a) (.int k) (st.set a (.lst xs)) = (match atI xs k with | some d => some (d, st.set a (.lst xs)) | none => none) := fun xs k => fIx_lst (h2 _)
    simp [b28, fIx_lst h, fSet_lst h, at3_0, at3_2, i0, i2, hx', h3, at3_1, hm, p1]
    refine mixed_ok n fun r => ?_
    simp [hm]
    exact hq _ _ _ (Int.emod_nonneg _ (by omega)) (Int.emod_lt_of_pos _ hm)
theorem atI_nat {xs : List D} {i : Nat} {d : D} (e : xs[i]? = some d) : atI xs (i : Int) = some d := by
  have hi := lt_of_get e
  unfold atI ixN
  rw [if_pos (Int.natCast_nonneg i), if_pos (by omega)]
  simp [e]
theorem pick_ok (n : Nat) {st : List O} {a k : Nat} {x y z : Int} {xs : List D} (h : st[a]? = some (srcL x y z)) (hk : st[k]? = some (.lst xs)) (hne : xs ≠ []) (hl : xs.length < 1000) (hak : a ≠ k) {Q : D → List O → Prop} (hq : ∀ (d : D) (x' z' : Int), d ∈ xs → Q d (st.set a (srcL x' y z'))) : W (callAt tbl (n + 3) 29 [.ref a, .ref k] st) Q := by
  refine callB (body := b29) rfl rfl rfl ?_
  have hp : 0 < xs.length := List.length_pos_iff.mpr hne
  simp [b29, fLen_lst hk]
  refine take_ok n h (by omega) (by omega) fun r x' z' h1 h2 => ?_
  obtain ⟨i, rfl⟩ : ∃ i : Nat, r = (i : Int) := ⟨r.toNat, by omega⟩
  have hi : i < xs.length := by omega
  have e : xs[i]? = some xs[i] := List.getElem?_eq_getElem hi
  rw [fIx_lst (get_setne hk hak), atI_nat e]
  simp
  exact hq _ _ _ (List.getElem_mem hi)
/-! ### exceptions in the store -/
def ExcAt (st : List O) (r c : Nat) (fs : List (Nat × D)) : Prop := (st[r]? = some (.exc c none) ∧ fs = []) ∨ ∃ m, st[r]? = some (.exc c (some m)) ∧ st[m]? = some (.xds fs)
theorem ExcAt.ext {st st' : List O} {r c : Nat} {fs : List (Nat × D)} (h : ExcAt st r c fs) (e : Ext st st') : ExcAt st' r c fs := by
  rcases h with ⟨h, z⟩ | ⟨m, h1, h2⟩
  · exact .inl ⟨e _ _ h, z⟩
  · exact .inr ⟨m, e _ _ h1, e _ _ h2⟩
theorem isE_at {st : List O} {r c : Nat} {fs : List (Nat × D)} (h : ExcAt st r c fs) (t : Nat → Bool) : isE t (.ref r) st = some (t c) := by
  unfold isE
  rcases h with ⟨h, z⟩ | ⟨m, h1, h2⟩
  · dsimp only
    rw [h]
  · dsimp only
    rw [h1]
    dsimp only
    rw [h2]
theorem q_isE {st : List O} {env : Sl} {i r c : Nat} {fs : List (Nat × D)} (he : env[i]? = some (some (.ref r))) (h : ExcAt st r c fs) (t : Nat → Bool) : eIsE t (eSlot i) env st = some (.bl (t c), st) := by
  unfold eIsE
  rw [eq_eSlot, he]
  dsimp only
  rw [bnd_some, isE_at h]
theorem q_fld {a : Ev} {st : List O} {env : Sl} {i r c : Nat} {fs : List (Nat × D)} {d : D} (he : a env st = some (.ref r, st)) (h : ExcAt st r c fs) (hk : cg.xb.xk c i = true) (hg : getI fs i = some d) : eFldE cg.xb.xk a i env st = some (d, st) := by
  unfold eFldE
  rw [he, bnd_some]
  rcases h with ⟨h, z⟩ | ⟨m, h1, h2⟩
  · subst z
    cases hg
  · dsimp only
    rw [h1]
    dsimp only
    rw [hk, if_pos rfl, h2]
    dsimp only
    rw [hg]
/-- one field -/
theorem init1 {n f c i : Nat} {p : Str} {s : Stmt} {a : D} {st : List O} (hF : tbl[f]? = some ⟨["self", p], ["self", p], s, fun _ => sAsg (eSlot 1) (gAtE cg.xb.xk (eSlot 0) i)⟩) (hk : cg.xb.xk c i = true) :
    callAt tbl (n + 1) f [.ref st.length, a] (st ++ [.exc c none]) = some (.non, st ++ [.exc c (some (st.length + 1)), .xds [(i, a)]]) := by
  refine W_eq (callB hF rfl rfl ?_)
  simp [gAtE, hk]
theorem init2 {n f c i j : Nat} {p q : Str} {s : Stmt} {a b : D} {st : List O} (hF : tbl[f]? = some ⟨["self", p, q], ["self", p, q], s, fun _ => sSeq (sAsg (eSlot 1) (gAtE cg.xb.xk (eSlot 0) i)) (sAsg (eSlot 2) (gAtE cg.xb.xk (eSlot 0) j))⟩) (hk : cg.xb.xk c i = true) (hj : cg.xb.xk c j = true) :
    callAt tbl (n + 1) f [.ref st.length, a, b] (st ++ [.exc c none]) = some (.non, st ++ [.exc c (some (st.length + 1)), .xds [(j, b), (i, a)]]) := by
  refine W_eq (callB hF rfl rfl ?_)
  simp [gAtE, hk, hj]
section
variable {n f c i j k l : Nat} {p q : Str} {s : Stmt} {a b : D} {st : List O} {env : Sl} {sw : Bool}
theorem mk1 (hF : tbl[f]? = some ⟨["self", p], ["self", p], s, fun _ => sAsg (eSlot 1) (gAtE cg.xb.xk (eSlot 0) i)⟩) (hk : cg.xb.xk c i = true) (he : env[k]? = some (some a)) :
    eMakeE (callAt tbl (n + 1)) c f (aCons (eSlot k) aNil) env st = some (.ref st.length, st ++ [.exc c (some (st.length + 1)), .xds [(i, a)]]) := by
  unfold eMakeE
  simp only [eq_aCons, eq_aNil, eq_eSlot, he, bnd_some]
  rw [init1 hF hk, bnd_some]
  rfl
theorem mk1K (hF : tbl[f]? = some ⟨["self", p], ["self", p], s, fun _ => sAsg (eSlot 1) (gAtE cg.xb.xk (eSlot 0) i)⟩) (hk : cg.xb.xk c i = true) (he : env[k]? = some (some a)) :
    eMakeEK (callAt tbl (n + 1)) c f false (aCons (eSlot k) aNil) env st = some (.ref st.length, st ++ [.exc c (some (st.length + 1)), .xds [(i, a)]]) := by
  unfold eMakeEK
  simp only [eq_aCons, eq_aNil, eq_eSlot, he, bnd_some, swD]
  rw [if_neg Bool.false_ne_true, init1 hF hk, bnd_some]
  rfl
theorem mk2 (hF : tbl[f]? = some ⟨["self", p, q], ["self", p, q], s, fun _ => sSeq (sAsg (eSlot 1) (gAtE cg.xb.xk (eSlot 0) i)) (sAsg (eSlot 2) (gAtE cg.xb.xk (eSlot 0) j))⟩) (hk : cg.xb.xk c i = true) (hj : cg.xb.xk c j = true) (he : env[k]? = some (some a)) (he2 : env[l]? = some (some b)) :
    eMakeE (callAt tbl (n + 1)) c f (aCons (eSlot k) (aCons (eSlot l) aNil)) env st = some (.ref st.length, st ++ [.exc c (some (st.length + 1)), .xds [(j, b), (i, a)]]) := by
  unfold eMakeE
  simp only [eq_aCons, eq_aNil, eq_eSlot, he, he2, bnd_some]
  rw [init2 hF hk hj, bnd_some]
  rfl
theorem mk2K (hF : tbl[f]? = some ⟨["self", p, q], ["self", p, q], s, fun _ => sSeq (sAsg (eSlot 1) (gAtE cg.xb.xk (eSlot 0) i)) (sAsg (eSlot 2) (gAtE cg.xb.xk (eSlot 0) j))⟩) (hk : cg.xb.xk c i = true) (hj : cg.xb.xk c j = true) (he : env[k]? = some (some b)) (he2 : env[l]? = some (some a)) :
    eMakeEK (callAt tbl (n + 1)) c f true (aCons (eSlot k) (aCons (eSlot l) aNil)) env st = some (.ref st.length, st ++ [.exc c (some (st.length + 1)), .xds [(j, b), (i, a)]]) := by
  unfold eMakeEK
  simp only [eq_aCons, eq_aNil, eq_eSlot, he, he2, bnd_some, swD, if_true, List.reverse_cons, List.reverse_nil, List.nil_append, List.cons_append]
  rw [init2 hF hk hj, bnd_some]
  rfl
end
end Law
set_option Elab.async false
set_option linter.all false
set_option maxRecDepth 100000
set_option maxHeartbeats 1000000
set_option autoImplicit false
namespace Law
open PySem PySem.Spec PyProof.Rows L2 Eng
/-! k01, 2: all errors are made -/
def flds (c : Nat) (a b : D) : List (Nat × D) := match c with
  | 1 => [(2, b), (1, a)] | 2 => [(3, a)] | 3 => [(4, a)] | 4 => [(6, b), (5, a)] | 5 => [] | 6 => [(4, a)] | 7 => [(6, a)] | 8 => [] | 9 => [(4, a)] | 10 => [(7, a)] | 11 => [(6, a)] | 15 => [(4, a)] | _ => []
/-- the fifteen -/
def Exs (st : List O) (rs : List D) (a b : D) : Prop := rs.length = 15 ∧ ∀ k, k < 15 → ∃ r, rs[k]? = some (.ref r) ∧ ExcAt st r (k + 1) (flds (k + 1) a b)
theorem Exs.ext {st st' : List O} {rs : List D} {a b : D} (h : Exs st rs a b) (e : Ext st st') : Exs st' rs a b := ⟨h.1, fun k hk => let ⟨r, h1, h2⟩ := h.2 k hk; ⟨r, h1, h2.ext e⟩⟩
theorem q_make0 {c : Nat} {env : Sl} {st : List O} : eMakeE0 c env st = some (.ref st.length, st ++ [.exc c none]) := rfl
section
variable {n : Nat} {a b : D} {st : List O} {env : Sl}
theorem M1 {n : Nat} {w : Option D} {st : List O} : eMakeE (callAt tbl (n + 1)) 1 1 (aCons (eSlot 0) (aCons (eSlot 1) aNil)) [some a, some b, w] st = some (.ref st.length, st ++ [.exc 1 (some (st.length + 1)), .xds [(2, b), (1, a)]]) := mk2 rfl rfl rfl rfl rfl
theorem M2 {n : Nat} {w : Option D} {st : List O} : eMakeE (callAt tbl (n + 1)) 2 3 (aCons (eSlot 0) aNil) [some a, some b, w] st = some (.ref st.length, st ++ [.exc 2 (some (st.length + 1)), .xds [(3, a)]]) := mk1 rfl rfl rfl
theorem M3 {n : Nat} {w : Option D} {st : List O} : eMakeE (callAt tbl (n + 1)) 3 5 (aCons (eSlot 0) aNil) [some a, some b, w] st = some (.ref st.length, st ++ [.exc 3 (some (st.length + 1)), .xds [(4, a)]]) := mk1 rfl rfl rfl
theorem M4 {n : Nat} {w : Option D} {st : List O} : eMakeE (callAt tbl (n + 1)) 4 7 (aCons (eSlot 0) (aCons (eSlot 1) aNil)) [some a, some b, w] st = some (.ref st.length, st ++ [.exc 4 (some (st.length + 1)), .xds [(6, b), (5, a)]]) := mk2 rfl rfl rfl rfl rfl
theorem M6 {n : Nat} {w : Option D} {st : List O} : eMakeE (callAt tbl (n + 1)) 6 10 (aCons (eSlot 0) aNil) [some a, some b, w] st = some (.ref st.length, st ++ [.exc 6 (some (st.length + 1)), .xds [(4, a)]]) := mk1 rfl rfl rfl
theorem M7 {n : Nat} {w : Option D} {st : List O} : eMakeE (callAt tbl (n + 1)) 7 12 (aCons (eSlot 0) aNil) [some a, some b, w] st = some (.ref st.length, st ++ [.exc 7 (some (st.length + 1)), .xds [(6, a)]]) := mk1 rfl rfl rfl
theorem M9 {n : Nat} {w : Option D} {st : List O} : eMakeE (callAt tbl (n + 1)) 9 15 (aCons (eSlot 0) aNil) [some a, some b, w] st = some (.ref st.length, st ++ [.exc 9 (some (st.length + 1)), .xds [(4, a)]]) := mk1 rfl rfl rfl
theorem M10 {n : Nat} {w : Option D} {st : List O} : eMakeE (callAt tbl (n + 1)) 10 17 (aCons (eSlot 0) aNil) [some a, some b, w] st = some (.ref st.length, st ++ [.exc 10 (some (st.length + 1)), .xds [(7, a)]]) := mk1 rfl rfl rfl
theorem M11 {n : Nat} {w : Option D} {st : List O} : eMakeE (callAt tbl (n + 1)) 11 19 (aCons (eSlot 0) aNil) [some a, some b, w] st = some (.ref st.length, st ++ [.exc 11 (some (st.length + 1)), .xds [(6, a)]]) := mk1 rfl rfl rfl
theorem M15 {n : Nat} {w : Option D} {st : List O} : eMakeE (callAt tbl (n + 1)) 15 24 (aCons (eSlot 0) aNil) [some a, some b, w] st = some (.ref st.length, st ++ [.exc 15 (some (st.length + 1)), .xds [(4, a)]]) := mk1 rfl rfl rfl
theorem K1 {n : Nat} {w : Option D} {st : List O} : eMakeEK (callAt tbl (n + 1)) 1 1 true (aCons (eSlot 1) (aCons (eSlot 0) aNil)) [some a, some b, w] st = some (.ref st.length, st ++ [.exc 1 (some (st.length + 1)), .xds [(2, b), (1, a)]]) := mk2K rfl rfl rfl rfl rfl
theorem K2 {n : Nat} {w : Option D} {st : List O} : eMakeEK (callAt tbl (n + 1)) 2 3 false (aCons (eSlot 0) aNil) [some a, some b, w] st = some (.ref st.length, st ++ [.exc 2 (some (st.length + 1)), .xds [(3, a)]]) := mk1K rfl rfl rfl
theorem K3 {n : Nat} {w : Option D} {st : List O} : eMakeEK (callAt tbl (n + 1)) 3 5 false (aCons (eSlot 0) aNil) [some a, some b, w] st = some (.ref st.length, st ++ [.exc 3 (some (st.length + 1)), .xds [(4, a)]]) := mk1K rfl rfl rfl
theorem K4 {n : Nat} {w : Option D} {st : List O} : eMakeEK (callAt tbl (n + 1)) 4 7 true (aCons (eSlot 1) (aCons (eSlot 0) aNil)) [some a, some b, w] st = some (.ref st.length, st ++ [.exc 4 (some (st.length + 1)), .xds [(6, b), (5, a)]]) := mk2K rfl rfl rfl rfl rfl
theorem K6 {n : Nat} {w : Option D} {st : List O} : eMakeEK (callAt tbl (n + 1)) 6 10 false (aCons (eSlot 0) aNil) [some a, some b, w] st = some (.ref st.length, st ++ [.exc 6 (some (st.length + 1)), .xds [(4, a)]]) := mk1K rfl rfl rfl
theorem K7 {n : Nat} {w : Option D} {st : List O} : eMakeEK (callAt tbl (n + 1)) 7 12 false (aCons (eSlot 0) aNil) [some a, some b, w] st = some (.ref st.length, st ++ [.exc 7 (some (st.length + 1)), .xds [(6, a)]]) := mk1K rfl rfl rfl
theorem K9 {n : Nat} {w : Option D} {st : List O} : eMakeEK (callAt tbl (n + 1)) 9 15 false (aCons (eSlot 0) aNil) [some a, some b, w] st = some (.ref st.length, st ++ [.exc 9 (some (st.length + 1)), .xds [(4, a)]]) := mk1K rfl rfl rfl
theorem K10 {n : Nat} {w : Option D} {st : List O} : eMakeEK (callAt tbl (n + 1)) 10 17 false (aCons (eSlot 0) aNil) [some a, some b, w] st = some (.ref st.length, st ++ [.exc 10 (some (st.length + 1)), .xds [(7, a)]]) := mk1K rfl rfl rfl
theorem K11 {n : Nat} {w : Option D} {st : List O} : eMakeEK (callAt tbl (n + 1)) 11 19 false (aCons (eSlot 0) aNil) [some a, some b, w] st = some (.ref st.length, st ++ [.exc 11 (some (st.length + 1)), .xds [(6, a)]]) := mk1K rfl rfl rfl
theorem K15 {n : Nat} {w : Option D} {st : List O} : eMakeEK (callAt tbl (n + 1)) 15 24 false (aCons (eSlot 0) aNil) [some a, some b, w] st = some (.ref st.length, st ++ [.exc 15 (some (st.length + 1)), .xds [(4, a)]]) := mk1K rfl rfl rfl
theorem exs_of {t : List O} {rs : List Nat} (hl : rs.length = 15) (h : ∀ k, k < 15 → ∃ r, rs[k]? = some r ∧ ExcAt t r (k + 1) (flds (k + 1) a b)) : Exs t (rs.map D.ref) a b :=
  ⟨by simpa using hl, fun k hk => let ⟨r, h1, h2⟩ := h k hk; ⟨r, by rw [List.getElem?_map, h1]; rfl, h2⟩⟩
theorem all_ok1 (n : Nat) {Q : D → List O → Prop} (hq : ∀ L rs s, Ext st s → s[L]? = some (.lst rs) → Exs s rs a b → Q (.ref L) s) : W (callAt tbl (n + 2) 31 [a, b] st) Q := by
  refine callB (body := b31) rfl rfl rfl ?_
  simp only [b31, List.map_cons, List.map_nil, List.length_cons, List.length_nil, List.cons_append, List.nil_append, Nat.reduceAdd, Nat.reduceSub, List.replicate, eq_sSeq, W_bnd, eq_sAsg, eq_eLst, eq_aCons, eq_aNil, W_some, q_make0, sl4, sl5, sl6, sl7, sl8, if_true, eq_gNm, List.set_cons_succ, List.set_cons_zero, List.append_assoc, List.length_append, Nat.add_assoc, M1, M2, M3, M4, M6, M7, M9, M10, M11, M15]
  generalize hS1 : st ++ _ = s1
  have x1 : ExcAt s1 (st.length) 1 [(2, b), (1, a)] := .inr ⟨st.length + 1, by rw [← hS1]; simp, by rw [← hS1]; simp⟩
  have x2 : ExcAt s1 (st.length + 2) 2 [(3, a)] := .inr ⟨st.length + 3, by rw [← hS1]; simp, by rw [← hS1]; simp⟩
  have x3 : ExcAt s1 (st.length + 4) 3 [(4, a)] := .inr ⟨st.length + 5, by rw [← hS1]; simp, by rw [← hS1]; simp⟩
  have x4 : ExcAt s1 (st.length + 6) 4 [(6, b), (5, a)] := .inr ⟨st.length + 7, by rw [← hS1]; simp, by rw [← hS1]; simp⟩
  have x5 : ExcAt s1 (st.length + 8) 5 [] := .inl ⟨by rw [← hS1]; simp, rfl⟩
  have x6 : ExcAt s1 (st.length + 9) 6 [(4, a)] := .inr ⟨st.length + 10, by rw [← hS1]; simp, by rw [← hS1]; simp⟩
  have x7 : ExcAt s1 (st.length + 11) 7 [(6, a)] := .inr ⟨st.length + 12, by rw [← hS1]; simp, by rw [← hS1]; simp⟩
  have l1 : s1[st.length + 13]? = some (.lst [D.ref st.length, D.ref (st.length + 2), D.ref (st.length + 4), D.ref (st.length + 6), D.ref (st.length + 8), D.ref (st.length + 9), D.ref (st.length + 11)]) := by rw [← hS1]; simp
  have e1 : Ext st s1 := by rw [← hS1]; exact Ext.app
  simp only [eq_sSeq, eq_sAsg, eq_sRet, W_bnd, eq_eB, eq_eSlot, List.getElem?_cons_succ, List.getElem?_cons_zero, W_some, eq_eLst, eq_aCons, eq_aNil, q_make0, sl4, sl5, sl6, sl7, sl8, if_true, List.append_assoc, List.length_append, Nat.add_assoc, List.cons_append, List.nil_append, List.length_cons, List.length_nil, Nat.reduceAdd, eq_gNm, List.set_cons_succ, List.set_cons_zero, M1, M2, M3, M4, M6, M7, M9, M10, M11, M15]
  generalize hS2 : s1 ++ _ = s2
  have x8 : ExcAt s2 (s1.length) 8 [] := .inl ⟨by rw [← hS2]; simp, rfl⟩
  have x9 : ExcAt s2 (s1.length + 1) 9 [(4, a)] := .inr ⟨s1.length + 2, by rw [← hS2]; simp, by rw [← hS2]; simp⟩
  have x10 : ExcAt s2 (s1.length + 3) 10 [(7, a)] := .inr ⟨s1.length + 4, by rw [← hS2]; simp, by rw [← hS2]; simp⟩
  have x11 : ExcAt s2 (s1.length + 5) 11 [(6, a)] := .inr ⟨s1.length + 6, by rw [← hS2]; simp, by rw [← hS2]; simp⟩
  have x12 : ExcAt s2 (s1.length + 7) 12 [] := .inl ⟨by rw [← hS2]; simp, rfl⟩
  have x13 : ExcAt s2 (s1.length + 8) 13 [] := .inl ⟨by rw [← hS2]; simp, rfl⟩
  have x14 : ExcAt s2 (s1.length + 9) 14 [] := .inl ⟨by rw [← hS2]; simp, rfl⟩
  have x15 : ExcAt s2 (s1.length + 10) 15 [(4, a)] := .inr ⟨s1.length + 11, by rw [← hS2]; simp, by rw [← hS2]; simp⟩
  have l2 : s2[s1.length + 12]? = some (.lst [D.ref s1.length, D.ref (s1.length + 1), D.ref (s1.length + 3), D.ref (s1.length + 5), D.ref (s1.length + 7), D.ref (s1.length + 8), D.ref (s1.length + 9), D.ref (s1.length + 10)]) := by rw [← hS2]; simp
  have e2 : Ext s1 s2 := by rw [← hS2]; exact Ext.app
  rw [fAdd_lst (e2 _ _ l1) l2 (by simp)]
  simp only [W_some, eq_gNm, List.set_cons_succ, List.set_cons_zero, List.cons_append, List.nil_append]
  generalize hT2 : s2 ++ _ = t2
  have g2 : Ext s2 t2 := by rw [← hT2]; exact Ext.app
  have m2 : t2[s2.length]? = some (.lst [D.ref st.length, D.ref (st.length + 2), D.ref (st.length + 4), D.ref (st.length + 6), D.ref (st.length + 8), D.ref (st.length + 9), D.ref (st.length + 11), D.ref s1.length, D.ref (s1.length + 1), D.ref (s1.length + 3), D.ref (s1.length + 5), D.ref (s1.length + 7), D.ref (s1.length + 8), D.ref (s1.length + 9), D.ref (s1.length + 10)]) := by rw [← hT2]; simp
  have E : Ext st t2 := e1.trans ((e2).trans g2)
  refine hq _ _ _ E m2 ⟨rfl, fun k hk => ?_⟩
  match k, hk with
  | 0, _ => exact ⟨_, rfl, x1.ext ((e2).trans g2)⟩
  | 1, _ => exact ⟨_, rfl, x2.ext ((e2).trans g2)⟩
  | 2, _ => exact ⟨_, rfl, x3.ext ((e2).trans g2)⟩
  | 3, _ => exact ⟨_, rfl, x4.ext ((e2).trans g2)⟩
  | 4, _ => exact ⟨_, rfl, x5.ext ((e2).trans g2)⟩
  | 5, _ => exact ⟨_, rfl, x6.ext ((e2).trans g2)⟩
  | 6, _ => exact ⟨_, rfl, x7.ext ((e2).trans g2)⟩
  | 7, _ => exact ⟨_, rfl, x8.ext (g2)⟩
  | 8, _ => exact ⟨_, rfl, x9.ext (g2)⟩
  | 9, _ => exact ⟨_, rfl, x10.ext (g2)⟩
  | 10, _ => exact ⟨_, rfl, x11.ext (g2)⟩
  | 11, _ => exact ⟨_, rfl, x12.ext (g2)⟩
  | 12, _ => exact ⟨_, rfl, x13.ext (g2)⟩
  | 13, _ => exact ⟨_, rfl, x14.ext (g2)⟩
  | 14, _ => exact ⟨_, rfl, x15.ext (g2)⟩
theorem named_ok (n : Nat) {Q : D → List O → Prop} (hq : ∀ L rs s, Ext st s → s[L]? = some (.lst rs) → Exs s rs a b → Q (.ref L) s) : W (callAt tbl (n + 2) 32 [a, b] st) Q := by
  refine callB (body := b32) rfl rfl rfl ?_
  simp only [b32, List.map_cons, List.map_nil, List.length_cons, List.length_nil, List.cons_append, List.nil_append, Nat.reduceAdd, Nat.reduceSub, List.replicate, eq_sSeq, W_bnd, eq_sAsg, eq_eLst, eq_aCons, eq_aNil, W_some, q_make0, sl4, sl5, sl6, sl7, sl8, if_true, eq_gNm, List.set_cons_succ, List.set_cons_zero, List.append_assoc, List.length_append, Nat.add_assoc, K1, K2, K3, K4, K6, K7, K9, K10, K11, K15]
  generalize hS1 : st ++ _ = s1
  have x1 : ExcAt s1 (st.length) 1 [(2, b), (1, a)] := .inr ⟨st.length + 1, by rw [← hS1]; simp, by rw [← hS1]; simp⟩
  have x2 : ExcAt s1 (st.length + 2) 2 [(3, a)] := .inr ⟨st.length + 3, by rw [← hS1]; simp, by rw [← hS1]; simp⟩
  have x3 : ExcAt s1 (st.length + 4) 3 [(4, a)] := .inr ⟨st.length + 5, by rw [← hS1]; simp, by rw [← hS1]; simp⟩
  have x4 : ExcAt s1 (st.length + 6) 4 [(6, b), (5, a)] := .inr ⟨st.length + 7, by rw [← hS1]; simp, by rw [← hS1]; simp⟩
  have l1 : s1[st.length + 8]? = some (.lst [D.ref st.length, D.ref (st.length + 2), D.ref (st.length + 4), D.ref (st.length + 6)]) := by rw [← hS1]; simp
  have e1 : Ext st s1 := by rw [← hS1]; exact Ext.app
  simp only [eq_sSeq, eq_sAsg, eq_sRet, W_bnd, eq_eB, eq_eSlot, List.getElem?_cons_succ, List.getElem?_cons_zero, W_some, eq_eLst, eq_aCons, eq_aNil, q_make0, sl4, sl5, sl6, sl7, sl8, if_true, List.append_assoc, List.length_append, Nat.add_assoc, List.cons_append, List.nil_append, List.length_cons, List.length_nil, Nat.reduceAdd, eq_gNm, List.set_cons_succ, List.set_cons_zero, K1, K2, K3, K4, K6, K7, K9, K10, K11, K15]
  generalize hS2 : s1 ++ _ = s2
  have x5 : ExcAt s2 (s1.length) 5 [] := .inl ⟨by rw [← hS2]; simp, rfl⟩
  have x6 : ExcAt s2 (s1.length + 1) 6 [(4, a)] := .inr ⟨s1.length + 2, by rw [← hS2]; simp, by rw [← hS2]; simp⟩
  have x7 : ExcAt s2 (s1.length + 3) 7 [(6, a)] := .inr ⟨s1.length + 4, by rw [← hS2]; simp, by rw [← hS2]; simp⟩
  have x8 : ExcAt s2 (s1.length + 5) 8 [] := .inl ⟨by rw [← hS2]; simp, rfl⟩
  have x9 : ExcAt s2 (s1.length + 6) 9 [(4, a)] := .inr ⟨s1.length + 7, by rw [← hS2]; simp, by rw [← hS2]; simp⟩
  have x10 : ExcAt s2 (s1.length + 8) 10 [(7, a)] := .inr ⟨s1.length + 9, by rw [← hS2]; simp, by rw [← hS2]; simp⟩
  have l2 : s2[s1.length + 10]? = some (.lst [D.ref s1.length, D.ref (s1.length + 1), D.ref (s1.length + 3), D.ref (s1.length + 5), D.ref (s1.length + 6), D.ref (s1.length + 8)]) := by rw [← hS2]; simp
  have e2 : Ext s1 s2 := by rw [← hS2]; exact Ext.app
  rw [fAdd_lst (e2 _ _ l1) l2 (by simp)]
  simp only [W_some, eq_gNm, List.set_cons_succ, List.set_cons_zero, List.cons_append, List.nil_append]
  generalize hT2 : s2 ++ _ = t2
  have g2 : Ext s2 t2 := by rw [← hT2]; exact Ext.app
  have m2 : t2[s2.length]? = some (.lst [D.ref st.length, D.ref (st.length + 2), D.ref (st.length + 4), D.ref (st.length + 6), D.ref s1.length, D.ref (s1.length + 1), D.ref (s1.length + 3), D.ref (s1.length + 5), D.ref (s1.length + 6), D.ref (s1.length + 8)]) := by rw [← hT2]; simp
  try simp only [eq_sSeq, eq_sAsg, eq_sRet, W_bnd, eq_eB, eq_eSlot, List.getElem?_cons_succ, List.getElem?_cons_zero, W_some, eq_eLst, eq_aCons, eq_aNil, q_make0, sl4, sl5, sl6, sl7, sl8, if_true, List.append_assoc, List.length_append, Nat.add_assoc, List.cons_append, List.nil_append, List.length_cons, List.length_nil, Nat.reduceAdd, eq_gNm, List.set_cons_succ, List.set_cons_zero, K1, K2, K3, K4, K6, K7, K9, K10, K11, K15]
  generalize hS3 : t2 ++ _ = s3
  have x11 : ExcAt s3 (t2.length) 11 [(6, a)] := .inr ⟨t2.length + 1, by rw [← hS3]; simp, by rw [← hS3]; simp⟩
  have x12 : ExcAt s3 (t2.length + 2) 12 [] := .inl ⟨by rw [← hS3]; simp, rfl⟩
  have x13 : ExcAt s3 (t2.length + 3) 13 [] := .inl ⟨by rw [← hS3]; simp, rfl⟩
  have x14 : ExcAt s3 (t2.length + 4) 14 [] := .inl ⟨by rw [← hS3]; simp, rfl⟩
  have x15 : ExcAt s3 (t2.length + 5) 15 [(4, a)] := .inr ⟨t2.length + 6, by rw [← hS3]; simp, by rw [← hS3]; simp⟩
  have l3 : s3[t2.length + 7]? = some (.lst [D.ref t2.length, D.ref (t2.length + 2), D.ref (t2.length + 3), D.ref (t2.length + 4), D.ref (t2.length + 5)]) := by rw [← hS3]; simp
  have e3 : Ext t2 s3 := by rw [← hS3]; exact Ext.app
  rw [fAdd_lst (e3 _ _ m2) l3 (by simp)]
  simp only [W_some, eq_gNm, List.set_cons_succ, List.set_cons_zero, List.cons_append, List.nil_append]
  generalize hT3 : s3 ++ _ = t3
  have g3 : Ext s3 t3 := by rw [← hT3]; exact Ext.app
  have m3 : t3[s3.length]? = some (.lst [D.ref st.length, D.ref (st.length + 2), D.ref (st.length + 4), D.ref (st.length + 6), D.ref s1.length, D.ref (s1.length + 1), D.ref (s1.length + 3), D.ref (s1.length + 5), D.ref (s1.length + 6), D.ref (s1.length + 8), D.ref t2.length, D.ref (t2.length + 2), D.ref (t2.length + 3), D.ref (t2.length + 4), D.ref (t2.length + 5)]) := by rw [← hT3]; simp
  have E : Ext st t3 := e1.trans ((((e2).trans g2).trans e3).trans g3)
  refine hq _ _ _ E m3 ⟨rfl, fun k hk => ?_⟩
  match k, hk with
  | 0, _ => exact ⟨_, rfl, x1.ext ((((e2).trans g2).trans e3).trans g3)⟩
  | 1, _ => exact ⟨_, rfl, x2.ext ((((e2).trans g2).trans e3).trans g3)⟩
  | 2, _ => exact ⟨_, rfl, x3.ext ((((e2).trans g2).trans e3).trans g3)⟩
  | 3, _ => exact ⟨_, rfl, x4.ext ((((e2).trans g2).trans e3).trans g3)⟩
  | 4, _ => exact ⟨_, rfl, x5.ext (((g2).trans e3).trans g3)⟩
  | 5, _ => exact ⟨_, rfl, x6.ext (((g2).trans e3).trans g3)⟩
  | 6, _ => exact ⟨_, rfl, x7.ext (((g2).trans e3).trans g3)⟩
  | 7, _ => exact ⟨_, rfl, x8.ext (((g2).trans e3).trans g3)⟩
  | 8, _ => exact ⟨_, rfl, x9.ext (((g2).trans e3).trans g3)⟩
  | 9, _ => exact ⟨_, rfl, x10.ext (((g2).trans e3).trans g3)⟩
  | 10, _ => exact ⟨_, rfl, x11.ext (g3)⟩
  | 11, _ => exact ⟨_, rfl, x12.ext (g3)⟩
  | 12, _ => exact ⟨_, rfl, x13.ext (g3)⟩
  | 13, _ => exact ⟨_, rfl, x14.ext (g3)⟩
  | 14, _ => exact ⟨_, rfl, x15.ext (g3)⟩
end
end Law
set_option Elab.async false
set_option linter.all false
set_option maxRecDepth 100000
set_option maxHeartbeats 1000000
set_option autoImplicit false
namespace Law
open PySem PySem.Spec PyProof.Rows L2 Eng
/-! k01, 3: what an error says -/
theorem xs_dec : ∀ c, c < 16 → ∀ j, j < 16 → 1 ≤ c → 1 ≤ j → cg.xb.xs c j = decide (c = j) := by decide +kernel
theorem xs_dec0 : ∀ c, c < 16 → cg.xb.xs c 0 = true := by decide +kernel
section
variable {st : List O} {r c : Nat} {fs : List (Nat × D)}
theorem marks_ok (n : Nat) (h : ExcAt st r c fs) (h1 : 1 ≤ c) (h2 : c < 16) {Q : D → List O → Prop} (hq : ∀ L s, Ext st s → st.length ≤ L → s[L]? = some (.lst [.int ((c - 1 : Nat) : Int)]) → Q (.ref L) s) : W (callAt tbl (n + 1) 30 [.ref r] st) Q := by
  refine callB (body := b30) rfl rfl rfl ?_
  have q : ∀ (t : Nat → Bool) (s : List O) (w x y : Option D), Ext st s → eIsE t (eSlot 0) [some (.ref r), w, x, y] s = some (.bl (t c), s) := fun t s w x y e => q_isE rfl (h.ext e) t
  have A1 : Ext st st := Ext.refl
  simp only [b30, List.map_cons, List.map_nil, List.length_cons, List.length_nil, List.cons_append, List.nil_append, Nat.reduceAdd, Nat.reduceSub, List.replicate, eq_sSeq, W_bnd, eq_sAsg, eq_eLst, eq_aCons, eq_aNil, q _ _ _ _ _ A1, W_some, sl4, if_true, eq_gNm, List.set_cons_succ, List.set_cons_zero]
  generalize hS1 : st ++ _ = s1
  have l1 : s1[st.length]? = some (.lst [.bl (cg.xb.xs c 1), .bl (cg.xb.xs c 2), .bl (cg.xb.xs c 3), .bl (cg.xb.xs c 4)]) := by rw [← hS1]; simp
  have e1 : Ext st s1 := by rw [← hS1]; exact Ext.app
  simp only [eq_eB, eq_eSlot, List.getElem?_cons_succ, List.getElem?_cons_zero, W_bnd, W_some, eq_eLst, eq_aCons, eq_aNil, q _ _ _ _ _ e1, sl4, if_true, List.length_cons, List.length_nil, Nat.reduceAdd]
  rw [fAdd_lst (get_app' l1) get_end (by simp)]
  simp only [W_some, eq_gNm, List.set_cons_succ, List.set_cons_zero, List.append_assoc, List.cons_append, List.nil_append, List.length_append, List.length_cons, List.length_nil, Nat.reduceAdd]
  generalize hS2 : s1 ++ _ = s2
  have l2 : s2[s1.length + 1]? = some (.lst [.bl (cg.xb.xs c 1), .bl (cg.xb.xs c 2), .bl (cg.xb.xs c 3), .bl (cg.xb.xs c 4), .bl (cg.xb.xs c 5), .bl (cg.xb.xs c 6), .bl (cg.xb.xs c 7), .bl (cg.xb.xs c 8)]) := by rw [← hS2]; simp
  generalize s1.length + 1 = k2 at l2 ⊢
  have e2 : Ext st s2 := e1.trans (by rw [← hS2]; exact Ext.app)
  simp only [eq_eB, eq_eSlot, List.getElem?_cons_succ, List.getElem?_cons_zero, W_bnd, W_some, eq_eLst, eq_aCons, eq_aNil, q _ _ _ _ _ e2, sl4, if_true, List.length_cons, List.length_nil, Nat.reduceAdd]
  rw [fAdd_lst (get_app' l2) get_end (by simp)]
  simp only [W_some, eq_gNm, List.set_cons_succ, List.set_cons_zero, List.append_assoc, List.cons_append, List.nil_append, List.length_append, List.length_cons, List.length_nil, Nat.reduceAdd]
  generalize hS3 : s2 ++ _ = s3
  have l3 : s3[s2.length + 1]? = some (.lst [.bl (cg.xb.xs c 1), .bl (cg.xb.xs c 2), .bl (cg.xb.xs c 3), .bl (cg.xb.xs c 4), .bl (cg.xb.xs c 5), .bl (cg.xb.xs c 6), .bl (cg.xb.xs c 7), .bl (cg.xb.xs c 8), .bl (cg.xb.xs c 9), .bl (cg.xb.xs c 10), .bl (cg.xb.xs c 11), .bl (cg.xb.xs c 12)]) := by rw [← hS3]; simp
  generalize s2.length + 1 = k3 at l3 ⊢
  have e3 : Ext st s3 := e2.trans (by rw [← hS3]; exact Ext.app)
  simp only [eq_eB, eq_eSlot, List.getElem?_cons_succ, List.getElem?_cons_zero, W_bnd, W_some, eq_eLst, eq_aCons, eq_aNil, q _ _ _ _ _ e3, sl3, if_true, List.length_cons, List.length_nil, Nat.reduceAdd]
  rw [fAdd_lst (get_app' l3) get_end (by simp)]
  simp only [W_some, eq_gNm, List.set_cons_succ, List.set_cons_zero, List.append_assoc, List.cons_append, List.nil_append, List.length_append, List.length_cons, List.length_nil, Nat.reduceAdd]
  generalize hS4 : s3 ++ _ = s4
  have l4 : s4[s3.length + 1]? = some (.lst ((List.range 15).map fun j => .bl (cg.xb.xs c (j + 1)))) := by rw [← hS4]; simp [List.range, List.range.loop]
  generalize s3.length + 1 = k4 at l4 ⊢
  have e4 : Ext st s4 := e3.trans (by rw [← hS4]; exact Ext.app)
  simp only [eq_sRet, W_bnd]
  obtain ⟨src, i1, i2⟩ := iEnA_is (e := eSlot 1) (env := [some (.ref r), some (.ref k4), none, none]) (st := s4) (st1 := s4) (d := .ref k4) rfl (Items.lst l4)
  refine W_lcE (by rw [enuD_len]; simp [slL]) i1 i2 (fun i acc s => acc = if c ≤ i then [.int ((c - 1 : Nat) : Int)] else []) (by rw [if_neg (by omega)]) (fun _ _ _ _ _ z => z) ?_ ?_
  · intro i acc s x hx hE hL hP
    rw [enuD_get, List.getElem?_map] at hx
    have hi : i < 15 := by
      by_cases h' : i < 15
      · exact h'
      · rw [List.getElem?_eq_none (by simpa using h')] at hx
        cases hx
    rw [List.getElem?_range hi] at hx
    cases hx
    have hd : cg.xb.xs c (i + 1) = decide (c = i + 1) := xs_dec c h2 (i + 1) (by omega) h1 (by omega)
    dsimp only
    rw [hd]
    simp only [wipeD, List.foldl_cons, List.foldl_nil, List.set_cons_succ, List.set_cons_zero, eq_gTp, eq_gsCons, eq_gsNil, W_bnd, W_some, eq_gNm, eq_tV, eq_eSlot, List.getElem?_cons_succ, List.getElem?_cons_zero, truth_bl]
    by_cases hc : c = i + 1
    · rw [decide_eq_true hc]
      simp only [W_some]
      refine ⟨Ext.refl, ?_⟩
      rw [hP, if_neg (by omega), if_pos (by omega)]
      have : i = c - 1 := by omega
      rw [this]
      rfl
    · rw [decide_eq_false hc]
      refine ⟨Ext.refl, ?_⟩
      rw [hP]
      by_cases hci : c ≤ i
      · rw [if_pos hci, if_pos (by omega)]
      · rw [if_neg hci, if_neg (by omega)]
  · intro acc s hE hL hP
    rw [enuD_len, List.length_map, List.length_range, if_pos (by omega)] at hP
    subst hP
    simp only [W_some]
    exact hq _ _ (e4.trans hE) (Ext.le e4) hL
/-! ### told -/
def told (c : Nat) : Str := match c with
  | 1 => "refused malformed" | 2 => "refused faulty" | 3 => "refused misfit" | 4 => "refused badcount" | 5 => "refused shape" | 6 => "refused other" | 7 => "refused wide" | 8 => "refused noimage" | 9 => "refused noplace" | 10 => "refused badline"
  | 11 => "refused large" | 12 => "refused busy" | 13 => "refused idle" | 14 => "refused noback" | _ => "refused badtext"
theorem cnf (f : Nat) {s : Stmt} {x : Str} (hF : tbl[f]? = some ⟨["self"], ["self"], s, fun _ => sRet (eC (.str x))⟩) (n : Nat) (d : D) (st : List O) : callAt tbl (n + 1) f [d] st = some (.str x, st) := by
  refine W_eq (callB hF rfl rfl ?_)
  simp
theorem told_f (n : Nat) (d : D) (st : List O) : ∀ c, 1 ≤ c → c < 16 → ∃ f, cg.xb.xm c 0 = some f ∧ callAt tbl (n + 1) f [d] st = some (.str (told c), st) := by
  intro c h1 h2
  match c, h1, h2 with
  | 1, _, _ => exact ⟨2, rfl, cnf 2 rfl n d st⟩
  | 2, _, _ => exact ⟨4, rfl, cnf 4 rfl n d st⟩
  | 3, _, _ => exact ⟨6, rfl, cnf 6 rfl n d st⟩
  | 4, _, _ => exact ⟨8, rfl, cnf 8 rfl n d st⟩
  | 5, _, _ => exact ⟨9, rfl, cnf 9 rfl n d st⟩
  | 6, _, _ => exact ⟨11, rfl, cnf 11 rfl n d st⟩
  | 7, _, _ => exact ⟨13, rfl, cnf 13 rfl n d st⟩
  | 8, _, _ => exact ⟨14, rfl, cnf 14 rfl n d st⟩
  | 9, _, _ => exact ⟨16, rfl, cnf 16 rfl n d st⟩
  | 10, _, _ => exact ⟨18, rfl, cnf 18 rfl n d st⟩
  | 11, _, _ => exact ⟨20, rfl, cnf 20 rfl n d st⟩
  | 12, _, _ => exact ⟨21, rfl, cnf 21 rfl n d st⟩
  | 13, _, _ => exact ⟨22, rfl, cnf 22 rfl n d st⟩
  | 14, _, _ => exact ⟨23, rfl, cnf 23 rfl n d st⟩
  | 15, _, _ => exact ⟨25, rfl, cnf 25 rfl n d st⟩
  | c + 16, _, h => exact absurd h (by omega)
theorem q_told {n i : Nat} {env : Sl} (he : env[i]? = some (some (.ref r))) (h : ExcAt st r c fs) (h0 : getI fs 0 = none) (h1 : 1 ≤ c) (h2 : c < 16) : eMethE (callAt tbl (n + 1)) cg.xb.xm (eSlot i) 0 aNil env st = some (.str (told c), st) := by
  obtain ⟨f, e1, e2⟩ := told_f n (.ref r) st c h1 h2
  unfold eMethE
  rw [eq_eSlot, he]
  dsimp only
  rw [bnd_some]
  rcases h with ⟨h, z⟩ | ⟨m, g1, g2⟩
  · dsimp only
    rw [h]
    dsimp only
    rw [e1]
    dsimp only
    rw [show noF st none 0 = true from rfl, if_pos rfl, eq_aNil, bnd_some, e2]
  · dsimp only
    rw [g1]
    dsimp only
    rw [e1]
    dsimp only
    have : noF st (some m) 0 = true := by
      unfold noF
      dsimp only
      rw [g2]
      dsimp only
      rw [h0]
      rfl
    rw [this, if_pos rfl, eq_aNil, bnd_some, e2]
theorem flds0 {a b : D} : ∀ c, c < 16 → getI (flds c a b) 0 = none := by
  intro c hc
  match c, hc with
  | 0, _ | 1, _ | 2, _ | 3, _ | 4, _ | 5, _ | 6, _ | 7, _ | 8, _ | 9, _ | 10, _ | 11, _ | 12, _ | 13, _ | 14, _ | 15, _ => rfl
  | c + 16, h => exact absurd h (by omega)
/-! ### the fields -/
theorem q_ix {L k : Nat} {rs : List D} {env : Sl} {rr : Nat} (he : env[0]? = some (some (.ref L))) (hL : st[L]? = some (.lst rs)) (hr : rs[k]? = some (.ref rr)) : eB fIx (eSlot 0) (eC (.int (k : Int))) env st = some (.ref rr, st) := by
  rw [eq_eB, eq_eSlot, he]
  dsimp only
  rw [bnd_some, eq_eC, bnd_some, fIx_lst hL, atI_nat hr]
theorem fields_ok (n : Nat) {L : Nat} {rs : List D} {a b : D} (hL : st[L]? = some (.lst rs)) (hx : Exs st rs a b) {Q : D → List O → Prop} (hq : ∀ L s, Ext st s → s[L]? = some (.lst [a, b, a, a, a, b, a, a, a, a, a, a]) → Q (.ref L) s) : W (callAt tbl (n + 1) 33 [.ref L] st) Q := by
  refine callB (body := b33) rfl rfl rfl ?_
  have key : ∀ (s : List O) (w : Option D) (k i : Nat) (d : D), Ext st s → k < 15 → cg.xb.xk (k + 1) i = true → getI (flds (k + 1) a b) i = some d → eFldE cg.xb.xk (eB fIx (eSlot 0) (eC (.int (k : Int)))) i [some (.ref L), w] s = some (d, s) := by
    intro s w k i d e hk hxk hg
    obtain ⟨rr, g1, g2⟩ := hx.2 k hk
    exact q_fld (q_ix rfl (e _ _ hL) g1) (g2.ext e) hxk hg
  have f1 : ∀ (s : List O) (w : Option D), Ext st s → eFldE cg.xb.xk (eB fIx (eSlot 0) (eC (.int 0))) 1 [some (.ref L), w] s = some (a, s) := fun s w e => key s w 0 1 a e (by decide) rfl rfl
  have f2 : ∀ (s : List O) (w : Option D), Ext st s → eFldE cg.xb.xk (eB fIx (eSlot 0) (eC (.int 0))) 2 [some (.ref L), w] s = some (b, s) := fun s w e => key s w 0 2 b e (by decide) rfl rfl
  have f3 : ∀ (s : List O) (w : Option D), Ext st s → eFldE cg.xb.xk (eB fIx (eSlot 0) (eC (.int 1))) 3 [some (.ref L), w] s = some (a, s) := fun s w e => key s w 1 3 a e (by decide) rfl rfl
  have f4 : ∀ (s : List O) (w : Option D), Ext st s → eFldE cg.xb.xk (eB fIx (eSlot 0) (eC (.int 2))) 4 [some (.ref L), w] s = some (a, s) := fun s w e => key s w 2 4 a e (by decide) rfl rfl
  have f5 : ∀ (s : List O) (w : Option D), Ext st s → eFldE cg.xb.xk (eB fIx (eSlot 0) (eC (.int 3))) 5 [some (.ref L), w] s = some (a, s) := fun s w e => key s w 3 5 a e (by decide) rfl rfl
  have f6 : ∀ (s : List O) (w : Option D), Ext st s → eFldE cg.xb.xk (eB fIx (eSlot 0) (eC (.int 3))) 6 [some (.ref L), w] s = some (b, s) := fun s w e => key s w 3 6 b e (by decide) rfl rfl
  have f7 : ∀ (s : List O) (w : Option D), Ext st s → eFldE cg.xb.xk (eB fIx (eSlot 0) (eC (.int 5))) 4 [some (.ref L), w] s = some (a, s) := fun s w e => key s w 5 4 a e (by decide) rfl rfl
  have f8 : ∀ (s : List O) (w : Option D), Ext st s → eFldE cg.xb.xk (eB fIx (eSlot 0) (eC (.int 6))) 6 [some (.ref L), w] s = some (a, s) := fun s w e => key s w 6 6 a e (by decide) rfl rfl
  have f9 : ∀ (s : List O) (w : Option D), Ext st s → eFldE cg.xb.xk (eB fIx (eSlot 0) (eC (.int 8))) 4 [some (.ref L), w] s = some (a, s) := fun s w e => key s w 8 4 a e (by decide) rfl rfl
  have f10 : ∀ (s : List O) (w : Option D), Ext st s → eFldE cg.xb.xk (eB fIx (eSlot 0) (eC (.int 9))) 7 [some (.ref L), w] s = some (a, s) := fun s w e => key s w 9 7 a e (by decide) rfl rfl
  have f11 : ∀ (s : List O) (w : Option D), Ext st s → eFldE cg.xb.xk (eB fIx (eSlot 0) (eC (.int 10))) 6 [some (.ref L), w] s = some (a, s) := fun s w e => key s w 10 6 a e (by decide) rfl rfl
  have f12 : ∀ (s : List O) (w : Option D), Ext st s → eFldE cg.xb.xk (eB fIx (eSlot 0) (eC (.int 14))) 4 [some (.ref L), w] s = some (a, s) := fun s w e => key s w 14 4 a e (by decide) rfl rfl
  have E0 : Ext st st := Ext.refl
  simp only [b33, List.map_cons, List.map_nil, List.length_cons, List.length_nil, List.cons_append, List.nil_append, Nat.reduceAdd, Nat.reduceSub, List.replicate, eq_sSeq, W_bnd, eq_sAsg, eq_eLst, eq_aCons, eq_aNil]
  simp only [f1 st none E0, f2 st none E0, f3 st none E0, f4 st none E0, f5 st none E0, f6 st none E0, f7 st none E0, W_some, sl7, if_true, eq_gNm, List.set_cons_succ, List.set_cons_zero, List.length_cons, List.length_nil, Nat.reduceAdd]
  generalize hS1 : st ++ _ = s1
  have l1 : s1[st.length]? = some (.lst [a, b, a, a, a, b, a]) := by rw [← hS1]; simp
  have e1 : Ext st s1 := by rw [← hS1]; exact Ext.app
  simp only [eq_sRet, W_bnd, eq_eB (f := fAdd), eq_eSlot, List.getElem?_cons_succ, List.getElem?_cons_zero, W_some, eq_eLst, eq_aCons, eq_aNil]
  simp only [f8 s1 _ e1, f9 s1 _ e1, f10 s1 _ e1, f11 s1 _ e1, f12 s1 _ e1, W_some, sl5, if_true, List.length_cons, List.length_nil, Nat.reduceAdd]
  rw [fAdd_lst (get_app' l1) get_end (by simp)]
  simp only [W_some, List.cons_append, List.nil_append]
  exact hq _ _ (e1.trans (Ext.app.trans Ext.app)) get_end
end
end Law
set_option Elab.async false
set_option linter.all false
set_option maxRecDepth 100000
set_option maxHeartbeats 1000000
set_option autoImplicit false
namespace Law
open PySem PySem.Spec PyProof.Rows L2 Eng
/-! k01, 4: equal lists -/
section
variable {st : List O} {cl : CallT} {eqm : Nat → Option Nat} {n A B : Nat} {xs ys : List D} {ps : List PyData}
theorem py_list {m k : Nat} (h : st[k]? = some (.lst xs)) (h2 : toPyL (toPy st m) xs = some ps) : toPy st (m + 1) (.ref k) = some (.list ps) := by
  unfold toPy
  rw [h]
  dsimp only
  rw [h2]
theorem ne_data (hA : st[A]? = some (.lst xs)) (hB : st[B]? = some (.lst ys)) (h1 : toPyL (toPy st 7) xs = some ps) (h2 : toPyL (toPy st 7) ys = some ps) (hp : okP (.list ps) = true) : fNeO cl eqm n (.ref A) (.ref B) st = some (.bl false, st) := by
  rw [fNeO_data (py_list hA h1) (py_list hB h2) hp hp, PySem.SeqAt.eqv_refl _ (okP_of hp).1]
  rfl
theorem eqLs_refl {eb : D → D → List O → Rs Bool} (hA : st[A]? = some (.lst xs)) (hB : st[B]? = some (.lst xs)) (h : ∀ x ∈ xs, eb x x st = some (true, st)) : ∀ k i, i + k = xs.length → eqLs eb A B xs.length k i st = some (true, st)
  | 0, i, hk => by
    unfold eqLs
    rw [hA, hB]
    dsimp only
    rw [if_pos ⟨rfl, rfl⟩]
    rw [if_pos (by omega)]
  | k + 1, i, hk => by
    unfold eqLs
    rw [hA, hB]
    dsimp only
    rw [if_pos ⟨rfl, rfl⟩]
    have hi : i < xs.length := by omega
    rw [List.getElem?_eq_getElem hi]
    dsimp only
    rw [h _ (List.getElem_mem hi), bnd_some]
    exact eqLs_refl hA hB h k (i + 1) (by omega)
/-- what may stand in a field -/
def One (st : List O) (a : D) : Prop := (∃ i, a = .int i) ∨ a = .non ∨ a = .str "what" ∨ a = .bl true ∨ a = .tup [.int 2, .int 3] ∨ (∃ k, a = .ref k ∧ st[k]? = some (.lst [.int 1])) ∨ ∃ k, a = .ref k ∧ st[k]? = some (.dK [])
theorem One.ext {st' : List O} {a : D} (h : One st a) (e : Ext st st') : One st' a := by
  rcases h with h | h | h | h | h | ⟨k, h, q⟩ | ⟨k, h, q⟩
  · exact .inl h
  · exact .inr (.inl h)
  · exact .inr (.inr (.inl h))
  · exact .inr (.inr (.inr (.inl h)))
  · exact .inr (.inr (.inr (.inr (.inl h))))
  · exact .inr (.inr (.inr (.inr (.inr (.inl ⟨k, h, e _ _ q⟩)))))
  · exact .inr (.inr (.inr (.inr (.inr (.inr ⟨k, h, e _ _ q⟩)))))
theorem One.py {a : D} (h : One st a) : (∃ p, toPy st 7 a = some p ∧ p.canLay0 = true ∧ p.depth ≤ 1) ∨ ∃ k, a = .ref k ∧ st[k]? = some (.dK []) := by
  rcases h with ⟨i, rfl⟩ | rfl | rfl | rfl | rfl | ⟨k, rfl, q⟩ | h
  · exact .inl ⟨.int i, rfl, rfl, Nat.zero_le _⟩
  · exact .inl ⟨.none, rfl, rfl, by decide⟩
  · exact .inl ⟨.str "what", rfl, by kernel_rfl, by decide⟩
  · exact .inl ⟨.bool true, rfl, rfl, by decide⟩
  · exact .inl ⟨.tuple [.int 2, .int 3], rfl, rfl, by decide⟩
  · exact .inl ⟨.list [.int 1], py_list (m := 6) q rfl, rfl, by decide⟩
  · exact .inr h
theorem ne_fields {a : D} {z : Int} (ha : One st a) (hn : 1 ≤ n) (hA : st[A]? = some (.lst [a, .int z, a, a, a, .int z, a, a, a, a, a, a])) (hB : st[B]? = some (.lst [a, .int z, a, a, a, .int z, a, a, a, a, a, a])) : fNeO cl eqm n (.ref A) (.ref B) st = some (.bl false, st) := by
  have hz : ∀ m, toPy st m (.int z) = some (.int z) := fun m => by cases m <;> rfl
  rcases ha.py with ⟨p, h1, h2, h3⟩ | ⟨k, rfl, hk⟩
  · refine ne_data (ps := [p, .int z, p, p, p, .int z, p, p, p, p, p, p]) hA hB ?_ ?_ ?_
    · simp only [toPyL, h1, hz]
    · simp only [toPyL, h1, hz]
    · unfold okP
      rw [Bool.and_eq_true, decide_eq_true_eq]
      constructor
      · simp [PyData.canLay0, PyData.canLayAll0, h2]
      · show PyData.depthAll [p, .int z, p, p, p, .int z, p, p, p, p, p, p] + 1 ≤ 64
        simp only [PyData.depthAll]
        have d0 : PyData.depth (.int z) = 0 := rfl
        rw [d0]
        omega
  · have t1 : toPy st 7 (.ref k) = none := by
      unfold toPy
      rw [hk]
    have t8 : ∀ m, st[m]? = some (.lst [.ref k, .int z, .ref k, .ref k, .ref k, .int z, .ref k, .ref k, .ref k, .ref k, .ref k, .ref k]) → toPy st 8 (.ref m) = none := by
      intro m hm
      unfold toPy
      rw [hm]
      dsimp only
      simp only [toPyL, t1]
    unfold fNeO
    rw [t8 A hA]
    dsimp only
    unfold nwq
    dsimp only
    rw [hA]
    dsimp only
    rw [hB]
    dsimp only
    rw [if_pos rfl]
    have q : ∀ x ∈ ([.ref k, .int z, .ref k, .ref k, .ref k, .int z, .ref k, .ref k, .ref k, .ref k, .ref k, .ref k] : List D), ebq (rcN cl eqm n) x x st = some (true, st) := by
      intro x hx
      have : x = .ref k ∨ x = .int z := by
        simp only [List.mem_cons, List.not_mem_nil, or_false] at hx
        rcases hx with h | h | h | h | h | h | h | h | h | h | h | h <;> first | exact .inl h | exact .inr h
      rcases this with rfl | rfl
      · unfold ebq
        rw [show Eng.sameRef (.ref k) (.ref k) = true by simp [Eng.sameRef], if_pos rfl]
      · unfold ebq
        rw [show Eng.sameRef (.int z) (.int z) = false from rfl, if_neg Bool.false_ne_true]
        unfold rcN
        rw [hz 8]
        dsimp only
        rw [show PyData.eqv (.int z) (.int z) = true from PySem.SeqAt.eqv_refl _ rfl]
        rfl
    rw [eqLs_refl hA hB q _ 0 (Nat.zero_add _), bnd_some]
    rfl
end
/-- rows of one number each -/
def Rows (st : List O) (acc : List D) (i : Nat) : Prop := acc.length = i ∧ ∀ j, j < i → ∃ L, acc[j]? = some (.ref L) ∧ st[L]? = some (.lst [.int (j : Int)])
theorem py_rows {st : List O} : ∀ {acc : List D} {ks : List Int}, All2 (fun d k => ∃ L, d = .ref L ∧ st[L]? = some (.lst [.int k])) acc ks → toPyL (toPy st 7) acc = some (ks.map fun k => .list [.int k])
  | _, _, .nil => rfl
  | _, _, .cons (a := d) (as := acc) ⟨L, hd, e⟩ h => by
    subst hd
    unfold toPyL
    rw [py_list (m := 6) e rfl, py_rows h]
    rfl
theorem py_strs {st : List O} : ∀ xs : List Str, toPyL (toPy st 7) (xs.map D.str) = some (xs.map PyData.str)
  | [] => rfl
  | x :: xs => by
    show (match toPy st 7 (.str x), toPyL (toPy st 7) (xs.map D.str) with | some p, some ps => some (p :: ps) | _, _ => none) = _
    rw [py_strs xs]
    rfl
end Law
set_option Elab.async false
set_option linter.all false
set_option maxRecDepth 100000
set_option maxHeartbeats 1000000
set_option autoImplicit false
namespace Law
open PySem PySem.Spec PyProof.Rows L2 Eng
/-! k01, 5: all is right -/
abbrev ixs (i : Nat) : List Int := (List.range i).map fun (j : Nat) => (j : Int)
theorem ixs_succ (i : Nat) : ixs (i + 1) = ixs i ++ [(i : Int)] := by
  unfold ixs
  rw [List.range_succ, List.map_append]
  rfl
def RowAt (t : List O) (d : D) (k : Int) : Prop := ∃ L, d = .ref L ∧ t[L]? = some (.lst [.int k])
section
variable {s : List O} {a b : D} {T L : Nat} {rs : List D} {w4 w5 w6 : Option D}
theorem lcM (m : Nat) (hL : s[L]? = some (.lst rs)) (hx : Exs s rs a b) {Q : D → List O → Prop} (hq : ∀ A acc t, Ext s t → t[A]? = some (.lst acc) → All2 (RowAt t) acc (ixs 15) → Q (.ref A) t) :
    W (eLc (iSeq (eSlot 3)) (gNm 4) tYs (eCall (callAt tbl (m + 1)) 30 (aCons (eSlot 4) aNil)) [4] [some a, some b, some (.ref T), some (.ref L), w4, w5, w6] s) Q := by
  obtain ⟨src, i1, i2⟩ := iSeq_is (e := eSlot 3) (env := [some a, some b, some (.ref T), some (.ref L), w4, w5, w6]) (st := s) (st1 := s) (d := .ref L) rfl (Items.lst hL)
  refine W_lcE (by rw [hx.1]; exact slL (by decide)) i1 i2 (fun i acc t => All2 (fun d k => ∃ L, d = .ref L ∧ L ≠ s.length ∧ t[L]? = some (.lst [.int k])) acc (ixs i)) .nil (fun i acc t t' e z => z.imp fun d k ⟨L, h1, h2, h3⟩ => ⟨L, h1, h2, e _ _ h2 h3⟩) ?_ ?_
  · intro i acc t x hxi hE hA hP
    have hi : i < 15 := by rw [← hx.1]; exact lt_of_get hxi
    obtain ⟨r, g1, g2⟩ := hx.2 i hi
    rw [g1] at hxi
    cases hxi
    simp only [wipeD, List.foldl_cons, List.foldl_nil, List.set_cons_succ, List.set_cons_zero, eq_gNm, W_some, eq_tYs, eq_eCall, eq_aCons, eq_aNil, eq_eSlot, List.getElem?_cons_succ, List.getElem?_cons_zero, W_bnd]
    refine marks_ok m (g2.ext hE) (by omega) (by omega) fun K t' e hK hl => ⟨e, ?_⟩
    rw [ixs_succ]
    refine All2.snoc ⟨K, rfl, ?_, ?_⟩ (hP.imp fun d k ⟨L, h1, h2, h3⟩ => ⟨L, h1, h2, e _ _ h3⟩)
    · have := lt_of_get hA
      omega
    · rw [hl, Nat.add_sub_cancel]
  · intro acc t hE hA hP
    rw [hx.1] at hP
    exact hq _ _ _ hE hA (hP.imp fun d k ⟨L, h1, h2, h3⟩ => ⟨L, h1, h3⟩)
theorem lcR {env : Sl} (he : wipeD env [5] = [some a, some b, some (.ref T), some (.ref L), w4, none, w6]) {Q : D → List O → Prop} (hq : ∀ A acc t, Ext s t → t[A]? = some (.lst acc) → All2 (RowAt t) acc (ixs 15) → Q (.ref A) t) :
    W (eLc (iRng1 (eC (.int 15))) (gNm 5) tYs (eLst (aCons (eSlot 5) aNil)) [5] env s) Q := by
  obtain ⟨src, i1, i2⟩ := iRng1_is (e := eC (.int 15)) (env := env) (st := s) (st1 := s) (n := 15) rfl (by decide)
  refine W_lcE (by rw [rngD_len]; exact slL (by decide)) i1 i2 (fun i acc t => All2 (fun d k => ∃ L, d = .ref L ∧ L ≠ s.length ∧ t[L]? = some (.lst [.int k])) acc (ixs i)) .nil (fun i acc t t' e z => z.imp fun d k ⟨L, h1, h2, h3⟩ => ⟨L, h1, h2, e _ _ h2 h3⟩) ?_ ?_
  · intro i acc t x hxi hE hA hP
    rw [rngD_get] at hxi
    split at hxi
    · cases hxi
      rw [he]
      simp only [List.set_cons_succ, List.set_cons_zero, eq_gNm, W_some, eq_tYs, eq_eLst, eq_aCons, eq_aNil, eq_eSlot, List.getElem?_cons_succ, List.getElem?_cons_zero, W_bnd, List.length_cons, List.length_nil, Nat.reduceAdd, sl1, if_true]
      refine ⟨Ext.app, ?_⟩
      rw [ixs_succ]
      have := lt_of_get hA
      exact All2.snoc ⟨t.length, rfl, by omega, get_end⟩ (hP.imp fun d k ⟨L, h1, h2, h3⟩ => ⟨L, h1, h2, get_app' h3⟩)
    · cases hxi
  · intro acc t hE hA hP
    rw [rngD_len] at hP
    exact hq _ _ _ hE hA (hP.imp fun d k ⟨L, h1, h2, h3⟩ => ⟨L, h1, h3⟩)
abbrev tolds (i : Nat) : List Str := (List.range i).map fun j => told (j + 1)
theorem tolds_succ (i : Nat) : tolds (i + 1) = tolds i ++ [told (i + 1)] := by
  unfold tolds
  rw [List.range_succ, List.map_append]
  rfl
theorem lcT (m : Nat) (hL : s[L]? = some (.lst rs)) (hx : Exs s rs a b) {Q : D → List O → Prop} (hq : ∀ A t, Ext s t → t[A]? = some (.lst ((tolds 15).map D.str)) → Q (.ref A) t) :
    W (eLc (iSeq (eSlot 3)) (gNm 4) tYs (eMethE (callAt tbl (m + 1)) cg.xb.xm (eSlot 4) 0 aNil) [4] [some a, some b, some (.ref T), some (.ref L), w4, w5, w6] s) Q := by
  obtain ⟨src, i1, i2⟩ := iSeq_is (e := eSlot 3) (env := [some a, some b, some (.ref T), some (.ref L), w4, w5, w6]) (st := s) (st1 := s) (d := .ref L) rfl (Items.lst hL)
  refine W_lcE (by rw [hx.1]; exact slL (by decide)) i1 i2 (fun i acc t => acc = (tolds i).map D.str) rfl (fun i acc t t' e z => z) ?_ ?_
  · intro i acc t x hxi hE hA hP
    have hi : i < 15 := by rw [← hx.1]; exact lt_of_get hxi
    obtain ⟨r, g1, g2⟩ := hx.2 i hi
    rw [g1] at hxi
    cases hxi
    simp only [wipeD, List.foldl_cons, List.foldl_nil, List.set_cons_succ, List.set_cons_zero, eq_gNm, W_some, eq_tYs]
    rw [q_told (r := r) rfl (g2.ext hE) (flds0 (i + 1) (by omega)) (by omega) (by omega)]
    simp only [W_some]
    refine ⟨Ext.refl, ?_⟩
    rw [hP, tolds_succ, List.map_append]
    rfl
  · intro acc t hE hA hP
    rw [hx.1] at hP
    subst hP
    exact hq _ _ hE hA
theorem lcA (m : Nat) (hL : s[L]? = some (.lst rs)) (hx : Exs s rs a b) {Q : D → List O → Prop} (hq : ∀ A t, Ext s t → t[A]? = some (.lst ((List.replicate 15 true).map D.bl)) → Q (.ref A) t) :
    W (eLc (iSeq (eSlot 3)) (gNm 4) tYs (eAnd (eIsE (fun c => cg.xb.xs c 0) (eSlot 4)) (eIsE (fun _ => true) (eSlot 4))) [4] [some a, some b, some (.ref T), some (.ref L), w4, w5, w6] s) Q := by
  obtain ⟨src, i1, i2⟩ := iSeq_is (e := eSlot 3) (env := [some a, some b, some (.ref T), some (.ref L), w4, w5, w6]) (st := s) (st1 := s) (d := .ref L) rfl (Items.lst hL)
  refine W_lcE (by rw [hx.1]; exact slL (by decide)) i1 i2 (fun i acc t => acc = (List.replicate i true).map D.bl) rfl (fun i acc t t' e z => z) ?_ ?_
  · intro i acc t x hxi hE hA hP
    have hi : i < 15 := by rw [← hx.1]; exact lt_of_get hxi
    obtain ⟨r, g1, g2⟩ := hx.2 i hi
    rw [g1] at hxi
    cases hxi
    simp only [wipeD, List.foldl_cons, List.foldl_nil, List.set_cons_succ, List.set_cons_zero, eq_gNm, W_some, eq_tYs, eq_eAnd, W_bnd]
    rw [q_isE (r := r) rfl (g2.ext hE), xs_dec0 (i + 1) (by omega)]
    simp only [W_some]
    rw [q_isE (r := r) rfl (g2.ext hE)]
    simp only [W_some]
    refine ⟨Ext.refl, ?_⟩
    rw [hP, List.replicate_succ', List.map_append]
    rfl
  · intro acc t hE hA hP
    rw [hx.1] at hP
    subst hP
    exact hq _ _ hE hA
abbrev titles : List Str := ["malformed", "faulty", "misfit", "badcount", "shape", "other", "wide", "noimage", "noplace", "badline", "large", "busy", "idle", "noback", "badtext"]
theorem title_len : ∀ y ∈ titles, y.length ≤ 20 := by decide +kernel
theorem title_told : titles.map (fun x => ("refused " : Str) ++ x) = tolds 15 := by decide +kernel
theorem lcS {env : Sl} (he : wipeD env [6] = [some a, some b, some (.ref T), some (.ref L), w4, w5, none]) (he2 : env[2]? = some (some (.ref T))) (hT : s[T]? = some (.lst (titles.map D.str))) {Q : D → List O → Prop} (hq : ∀ A t, Ext s t → t[A]? = some (.lst ((tolds 15).map D.str)) → Q (.ref A) t) :
    W (eLc (iSeq (eSlot 2)) (gNm 6) tYs (eB fAdd (eC (.str "refused ")) (eSlot 6)) [6] env s) Q := by
  obtain ⟨src, i1, i2⟩ := iSeq_is (e := eSlot 2) (env := env) (st := s) (st1 := s) (d := .ref T) (by rw [eq_eSlot, he2]) (Items.lst hT)
  refine W_lcE (by rw [List.length_map]; exact slL (by decide)) i1 i2 (fun i acc t => acc = ((titles.take i).map fun x => ("refused " : Str) ++ x).map D.str) rfl (fun i acc t t' e z => z) ?_ ?_
  · intro i acc t x hxi hE hA hP
    rw [List.getElem?_map] at hxi
    cases q : titles[i]? with
    | none => rw [q] at hxi; cases hxi
    | some y =>
      rw [q] at hxi
      cases hxi
      rw [he]
      have hy : y.length ≤ 20 := title_len y (List.mem_of_getElem? q)
      have h8 : ("refused " : Str).length = 8 := by kernel_rfl
      have fa : fAdd (.str "refused ") (.str y) t = some (.str (("refused " : Str) ++ y), t) := by
        show (if ("refused " : Str).length + y.length ≤ sizeLine then _ else none) = _
        rw [if_pos (slK (by omega))]
      simp only [List.set_cons_succ, List.set_cons_zero, eq_gNm, W_some, eq_tYs, eq_eB, eq_eC, eq_eSlot, List.getElem?_cons_succ, List.getElem?_cons_zero, W_bnd, fa]
      refine ⟨Ext.refl, ?_⟩
      rw [hP, take_snoc q, List.map_append, List.map_append]
      rfl
  · intro acc t hE hA hP
    rw [List.length_map, show titles.take titles.length = titles from List.take_length, title_told] at hP
    subst hP
    exact hq _ _ hE hA
end
end Law
set_option Elab.async false
set_option linter.all false
set_option maxRecDepth 100000
set_option maxHeartbeats 1000000
set_option autoImplicit false
namespace Law
open PySem PySem.Spec PyProof.Rows L2 Eng
/-! k01, 6: the law -/
theorem ok_rows : okP (.list ((ixs 15).map fun k => .list [.int k])) = true := by decide +kernel
theorem ok_tolds : okP (.list ((tolds 15).map PyData.str)) = true := by decide +kernel
section
variable {s : List O} {a : D} {z : Int} {T L : Nat} {rs : List D} {w4 w5 w6 : Option D}
theorem turn_ok (m : Nat) (ha : One s a) (hL : s[L]? = some (.lst rs)) (hx : Exs s rs a (.int z)) (hT : s[T]? = some (.lst (titles.map D.str))) {Q : Fl → List O → Prop} (hq : ∀ t, Ext s t → Q (.nx [some a, some (.int z), some (.ref T), some (.ref L), w4, w5, w6]) t) :
    W ((sSeq (sIf (tB (eB (fNeO (callAt tbl (m + 2)) cg.eqm cg.nq) (eLc (iSeq (eSlot 3)) (gNm 4) tYs (eCall (callAt tbl (m + 2)) 30 (aCons (eSlot 4) aNil)) [4]) (eLc (iRng1 (eC (.int 15))) (gNm 5) tYs (eLst (aCons (eSlot 5) aNil)) [5])))
      (sRet (eC (.bl false)))
      sNil)
    (sSeq (sIf (tB (eB (fNeO (callAt tbl (m + 2)) cg.eqm cg.nq) (eLc (iSeq (eSlot 3)) (gNm 4) tYs (eMethE (callAt tbl (m + 2)) cg.xb.xm (eSlot 4) 0 aNil) [4]) (eLc (iSeq (eSlot 2)) (gNm 6) tYs (eB fAdd (eC (.str "refused ")) (eSlot 6)) [6])))
      (sRet (eC (.bl false)))
      sNil)
    (sSeq (sIf (tNo (tV (eBf fAll (aCons (eLc (iSeq (eSlot 3)) (gNm 4) tYs (eAnd (eIsE (fun c => cg.xb.xs c 0) (eSlot 4)) (eIsE (fun _ => true) (eSlot 4))) [4]) aNil))))
      (sRet (eC (.bl false)))
      sNil)
    (sIf (tB (eB (fNeO (callAt tbl (m + 2)) cg.eqm cg.nq) (eCall (callAt tbl (m + 2)) 33 (aCons (eSlot 3) aNil)) (eLst (aCons (eSlot 0) (aCons (eSlot 1) (aCons (eSlot 0) (aCons (eSlot 0) (aCons (eSlot 0) (aCons (eSlot 1) (aCons (eSlot 0) (aCons (eSlot 0) (aCons (eSlot 0) (aCons (eSlot 0) (aCons (eSlot 0) (aCons (eSlot 0) aNil)))))))))))))))
      (sRet (eC (.bl false)))
      sNil)))) [some a, some (.int z), some (.ref T), some (.ref L), w4, w5, w6] s) Q := by
  simp only [eq_sSeq, W_bnd, eq_sIf, eq_tB, eq_eB (f := fNeO (callAt tbl (m + 2)) cg.eqm cg.nq)]
  refine lcM (m + 1) hL hx fun A acc t1 E1 hA hr => ?_
  refine lcR (a := a) (b := .int z) (T := T) (L := L) (w4 := w4) (w6 := w6) rfl fun B acc2 t2 E2 hB hr2 => ?_
  rw [ne_data (E2 _ _ hA) hB (py_rows (hr.imp fun d k ⟨K, h1, h2⟩ => ⟨K, h1, E2 _ _ h2⟩)) (py_rows hr2) ok_rows]
  simp only [W_some, eq_sNil, W_bnd]
  have F2 := E1.trans E2
  refine lcT (m + 1) (F2 _ _ hL) (hx.ext F2) fun A2 t3 E3 hA2 => ?_
  have F3 := F2.trans E3
  refine lcS (a := a) (b := .int z) (T := T) (L := L) (w4 := w4) (w5 := w5) rfl rfl (F3 _ _ hT) fun B2 t4 E4 hB2 => ?_
  rw [ne_data (E4 _ _ hA2) hB2 (py_strs _) (py_strs _) ok_tolds]
  simp only [W_some, eq_sNil, eq_tNo, eq_tV, eq_eBf, eq_aCons, eq_aNil, W_bnd]
  have F4 := F3.trans E4
  refine lcA (m + 1) (F4 _ _ hL) (hx.ext F4) fun A3 t5 E5 hA3 => ?_
  have fa : fAll [.ref A3] t5 = some (.bl true, t5) := by
    unfold fAll
    dsimp only
    rw [lstOf_lst hA3]
    rfl
  simp only [W_some, fa, truth_bl, Bool.not_true, eq_sNil, eq_eCall, eq_aCons, eq_aNil, W_bnd, eq_eSlot, List.getElem?_cons_succ, List.getElem?_cons_zero]
  have F5 := F4.trans E5
  refine fields_ok (m + 1) (F5 _ _ hL) (hx.ext F5) fun A4 t6 E6 hA4 => ?_
  simp only [eq_eLst, eq_aCons, eq_aNil, W_bnd, eq_eSlot, List.getElem?_cons_succ, List.getElem?_cons_zero, W_some, List.length_cons, List.length_nil, Nat.reduceAdd, sl12, if_true]
  have F6 := F5.trans E6
  rw [ne_fields ((ha.ext F6).ext Ext.app) (by decide) (get_app' hA4) get_end]
  simp only [W_some, eq_sNil]
  exact hq _ (F6.trans Ext.app)
end
theorem right_ok (m : Nat) {st : List O} {a : D} {z : Int} (ha : One st a) {Q : D → List O → Prop} (hq : ∀ t, Ext st t → Q (.bl true) t) : W (callAt tbl (m + 3) 34 [a, .int z] st) Q := by
  refine callB (body := b34) rfl rfl rfl ?_
  simp only [b34, List.map_cons, List.map_nil, List.length_cons, List.length_nil, List.cons_append, List.nil_append, Nat.reduceAdd, Nat.reduceSub, List.replicate]
  rw [eq_sSeq, W_bnd]
  simp only [eq_sAsg, eq_eLst, eq_aCons, eq_aNil, eq_eC, W_bnd, W_some, sl10, if_true, List.length_cons, List.length_nil, Nat.reduceAdd, eq_gNm, List.set_cons_succ, List.set_cons_zero]
  generalize hS1 : st ++ _ = s1
  have e1 : Ext st s1 := by rw [← hS1]; exact Ext.app
  have l1 : s1[st.length]? = some (.lst ((["malformed", "faulty", "misfit", "badcount", "shape", "other", "wide", "noimage", "noplace", "badline"] : List Str).map D.str)) := by rw [← hS1]; simp
  rw [eq_sSeq, W_bnd]
  simp only [eq_sAsg, eq_eB, eq_eSlot, List.getElem?_cons_succ, List.getElem?_cons_zero, eq_eLst, eq_aCons, eq_aNil, eq_eC, W_bnd, W_some, sl5, if_true, List.length_cons, List.length_nil, Nat.reduceAdd]
  rw [fAdd_lst (get_app' l1) get_end (by simp)]
  simp only [W_some, eq_gNm, List.set_cons_succ, List.set_cons_zero]
  generalize hS2 : s1 ++ _ ++ _ = s2
  have e2 : Ext st s2 := e1.trans (by rw [← hS2]; exact Ext.app.trans Ext.app)
  generalize hk : (s1 ++ [_]).length = T
  have hT : s2[T]? = some (.lst (titles.map D.str)) := by rw [← hS2, ← hk]; exact get_end
  rw [eq_sSeq, W_bnd]
  refine W_for ?_
  simp only [iSeq, W_bnd, eq_eTup, eq_aCons, eq_aNil, eq_eCall, eq_eSlot, List.getElem?_cons_succ, List.getElem?_cons_zero, W_some]
  refine all_ok1 m fun L1 r1 t1 E1 h1 x1 => ?_
  refine named_ok m fun L2 r2 t2 E2 h2 x2 => ?_
  simp only [W_some, List.length_cons, List.length_nil, Nat.reduceAdd, sl2, if_true, walkD]
  refine forN_ind (src := srcOf [.ref L1, .ref L2]) (fun j env s => (∃ o p q r, env = [some a, some (.int z), some (.ref T), o, p, q, r]) ∧ Ext t2 s) _ ?_ ?_ _ 0 _ _ (Nat.zero_add _) ⟨⟨_, _, _, _, rfl⟩, Ext.refl⟩
  · rintro env s ⟨⟨o, p, q, r, rfl⟩, hE⟩
    refine ⟨rfl, ?_⟩
    simp only [eq_sRet, eq_eC, W_bnd, W_some]
    exact hq _ (e2.trans (E1.trans (E2.trans hE)))
  · rintro j env s hj ⟨⟨o, p, q, r, rfl⟩, hE⟩
    have hj : j < 2 := hj
    have key : ∀ (K : Nat) (rs : List D), s[K]? = some (.lst rs) → Exs s rs a (.int z) → ∀ (P : Fl → List O → Prop), (∀ t, Ext s t → P (.nx [some a, some (.int z), some (.ref T), some (.ref K), p, q, r]) t) → W (gNm 3 (.ref K) [some a, some (.int z), some (.ref T), o, p, q, r] s) fun env s => W _ P := fun K rs hK hx P hP => by
      simp only [eq_gNm, W_some, List.set_cons_succ, List.set_cons_zero]
      exact turn_ok m (ha.ext (e2.trans (E1.trans (E2.trans hE)))) hK hx (hE _ _ (E2 _ _ (E1 _ _ hT))) hP
    match j, hj with
    | 0, _ => exact ⟨.ref L1, rfl, key L1 r1 (hE _ _ (E2 _ _ h1)) ((x1.ext E2).ext hE) _ fun t E => ⟨⟨_, _, _, _, rfl⟩, hE.trans E⟩⟩
    | 1, _ => exact ⟨.ref L2, rfl, key L2 r2 (hE _ _ h2) (x2.ext hE) _ fun t E => ⟨⟨_, _, _, _, rfl⟩, hE.trans E⟩⟩
end Law
set_option Elab.async false
set_option linter.all false
set_option maxRecDepth 100000
set_option maxHeartbeats 1000000
set_option autoImplicit false
namespace Law
open PySem PySem.Spec PyProof.Rows L2 Eng
/-! k01, 7: the law -/
theorem source_ok (n : Nat) {st : List O} {i : Int} {Q : D → List O → Prop} (hq : Q (.ref st.length) (st ++ [srcL i i 0])) : W (callAt tbl (n + 1) 27 [.int i] st) Q := by
  refine callB (body := b27) rfl rfl rfl ?_
  simp [b27]
  exact hq
theorem q_dict {env : Sl} {st : List O} : eDict0 env st = some (.ref st.length, st ++ [.dK []]) := rfl
theorem pow9 (s : List O) : fPow (.int 10) (.int 9) s = some (.int (10 ^ 9), s) := fPow_int (k := 9) (by decide) (by decide)
theorem pow30 (s : List O) : fPow (.int 10) (.int 30) s = some (.int (10 ^ 30), s) := fPow_int (k := 30) (by decide) (by decide)
/-- one turn -/
theorem once_ok {s0 s : List O} {c : D} {u : D} {t4 : Option D} {x y z : Int} (h : s[s0.length]? = some (srcL x y z)) (hE : Ext s0 s) {ns : List D} {Q : Fl → List O → Prop}
    (hq : ∀ t d x' y' z', Ext s0 t → t[s0.length]? = some (srcL x' y' z') → Q (.nx [some (.rol ns), some c, some (.ref s0.length), some u, some d]) t) :
    W ((sSeq (sAsg (eCall (callAt tbl 9) 29 (aCons (eSlot 2) (aCons (eLst (aCons (eC (.int 0)) (aCons (eU fNeg (eC (.int 1))) (aCons (eB fPow (eC (.int 10)) (eC (.int 30))) (aCons (eC .non) (aCons (eC (.str "what")) (aCons (eLst (aCons (eC (.int 1)) aNil)) (aCons (eTup (aCons (eC (.int 2)) (aCons (eC (.int 3)) aNil))) (aCons eDict0 (aCons (eC (.bl true)) (aCons (eCall (callAt tbl 9) 28 (aCons (eSlot 2) (aCons (eB fPow (eC (.int 10)) (eC (.int 9))) aNil))) aNil))))))))))) aNil))) (gNm 4))
      (sIf (tNo (tV (eCall (callAt tbl 9) 34 (aCons (eSlot 4) (aCons (eCall (callAt tbl 9) 28 (aCons (eSlot 2) (aCons (eB fPow (eC (.int 10)) (eC (.int 9))) aNil))) aNil)))))
        (sRet (eC (.bl false)))
        sNil)) [some (.rol ns), some c, some (.ref s0.length), some u, t4] s) Q := by
  have hl := lt_of_get h
  simp only [eq_sSeq, W_bnd, eq_sAsg, eq_eCall, eq_aCons, eq_aNil, eq_eSlot, List.getElem?_cons_succ, List.getElem?_cons_zero, W_some, eq_eLst, eq_eC, eq_eU, fNeg_int, eq_eB, pow30, pow9, List.length_cons, List.length_nil, Nat.reduceAdd, sl1, sl2, if_true, eq_eTup, q_dict]
  refine take_ok 7 (get_app' (get_app' h)) (by decide) (by decide) fun r x1 z1 r1 r2 => ?_
  have hS1 : ((s ++ [O.lst [D.int 1]]) ++ [O.dK []]).set s0.length (srcL x1 y z1) = (s.set s0.length (srcL x1 y z1)) ++ [O.lst [D.int 1], O.dK []] := by
    rw [List.append_assoc, List.set_append_left _ _ hl]
    rfl
  rw [hS1]
  have g1 : (s.set s0.length (srcL x1 y z1))[s0.length]? = some (srcL x1 y z1) := get_set' h
  have e1 : Ext s0 (s.set s0.length (srcL x1 y z1)) := hE.setNew (Nat.le_refl _)
  have len1 : (s.set s0.length (srcL x1 y z1)).length = s.length := List.length_set ..
  generalize s.set s0.length (srcL x1 y z1) = s1 at g1 e1 len1 ⊢
  rw [← len1]
  rw [← len1] at hl
  simp only [W_some, List.length_append, List.length_cons, List.length_nil, Nat.reduceAdd, sl10, if_true, List.append_assoc, List.cons_append, List.nil_append]
  generalize hS2 : s1 ++ _ = s2
  have e2 : Ext s1 s2 := by rw [← hS2]; exact Ext.app
  have a1 : s2[s1.length]? = some (.lst [.int 1]) := by rw [← hS2]; simp
  have a2 : s2[s1.length + 1]? = some (.dK []) := by rw [← hS2]; simp
  have a3 : s2[s1.length + 2]? = some (.lst [D.int 0, D.int (-1), D.int (10 ^ 30), D.non, D.str "what", D.ref s1.length, D.tup [D.int 2, D.int 3], D.ref (s1.length + 1), D.bl true, D.int r]) := by rw [← hS2]; simp [len1]
  refine pick_ok 6 (e2 _ _ g1) a3 (by simp) (by simp) (by omega) fun d x2 z2 hd => ?_
  have l2 : s1.length < s2.length := lt_of_get a1
  have n1 : s1.length ≠ s0.length := by omega
  have one : One (s2.set s0.length (srcL x2 y z2)) d := by
    simp only [List.mem_cons, List.not_mem_nil, or_false] at hd
    rcases hd with rfl | rfl | rfl | rfl | rfl | rfl | rfl | rfl | rfl | rfl
    · exact .inl ⟨_, rfl⟩
    · exact .inl ⟨_, rfl⟩
    · exact .inl ⟨_, rfl⟩
    · exact .inr (.inl rfl)
    · exact .inr (.inr (.inl rfl))
    · exact .inr (.inr (.inr (.inr (.inr (.inl ⟨_, rfl, get_setne a1 (by omega)⟩)))))
    · exact .inr (.inr (.inr (.inr (.inl rfl))))
    · exact .inr (.inr (.inr (.inr (.inr (.inr ⟨_, rfl, get_setne a2 (by omega)⟩)))))
    · exact .inr (.inr (.inr (.inl rfl)))
    · exact .inl ⟨_, rfl⟩
  have g3 : (s2.set s0.length (srcL x2 y z2))[s0.length]? = some (srcL x2 y z2) := get_set' (e2 _ _ g1)
  have e3 : Ext s0 (s2.set s0.length (srcL x2 y z2)) := (e1.trans e2).setNew (Nat.le_refl _)
  have one2 : ∀ x3 z3, One ((s2.set s0.length (srcL x2 y z2)).set s0.length (srcL x3 y z3)) d := by
    intro x3 z3
    rcases one with h | h | h | h | h | ⟨k, h, q⟩ | ⟨k, h, q⟩
    · exact .inl h
    · exact .inr (.inl h)
    · exact .inr (.inr (.inl h))
    · exact .inr (.inr (.inr (.inl h)))
    · exact .inr (.inr (.inr (.inr (.inl h))))
    · refine .inr (.inr (.inr (.inr (.inr (.inl ⟨k, h, get_setne q ?_⟩)))))
      intro e
      rw [← e, g3] at q
      cases q
    · refine .inr (.inr (.inr (.inr (.inr (.inr ⟨k, h, get_setne q ?_⟩)))))
      intro e
      rw [← e, g3] at q
      cases q
  generalize s2.set s0.length (srcL x2 y z2) = s3 at g3 e3 one2 ⊢
  simp only [W_some, eq_gNm, List.set_cons_succ, List.set_cons_zero, eq_sIf, W_bnd, eq_tNo, eq_tV, eq_eCall, eq_aCons, eq_aNil, eq_eSlot, List.getElem?_cons_succ, List.getElem?_cons_zero, eq_eB, eq_eC, pow9]
  refine take_ok 7 g3 (by decide) (by decide) fun r3 x3 z3 _ _ => ?_
  have g4 : (s3.set s0.length (srcL x3 y z3))[s0.length]? = some (srcL x3 y z3) := get_set' g3
  have e4 : Ext s0 (s3.set s0.length (srcL x3 y z3)) := e3.setNew (Nat.le_refl _)
  have o4 := one2 x3 z3
  generalize s3.set s0.length (srcL x3 y z3) = s4 at g4 e4 o4 ⊢
  try simp only [W_some]
  refine right_ok 6 o4 fun t E => ?_
  simp only [truth_bl, W_some, Bool.not_true, eq_sNil]
  exact hq _ _ _ _ _ (e4.trans E) (E _ _ g4)
theorem law_pure : ∀ ns : List Int, ns.length ≤ 63 → (∀ z ∈ ns, Builtin.Int.intBits z ≤ 1048576) → ∃ st', callAt tbl 10 35 [.rol (ns.map D.int)] [] = some (.bl true, st') := by
  intro ns hl _
  suffices h : W (callAt tbl 10 35 [.rol (ns.map D.int)] []) fun d _ => d = .bl true by
    obtain ⟨d, s, e, rfl⟩ := h
    exact ⟨s, e⟩
  refine callB (body := b35) (env := [some (.rol (ns.map D.int)), none, none, none, none]) rfl rfl rfl ?_
  unfold b35
  have z1 : (1 : Nat) ≤ sizeLine := slK (by omega)
  have e1 : eSl (eB fAdd (eSlot 0) (eLst (aCons (eC (.int 0)) aNil))) oNone (oSome (eC (.int 4))) [some (.rol (ns.map D.int)), none, none, none, none] [] = some (.ref 2, [O.lst [.int 0], O.lst (ns.map D.int ++ [.int 0]), O.lst (cutD (ns.map D.int ++ [.int 0]) none (some 4))]) := by
    unfold eSl
    have a1 : fAdd (.rol (ns.map D.int)) (.ref 0) [O.lst [.int 0]] = some (.ref 1, [O.lst [.int 0], O.lst (ns.map D.int ++ [.int 0])]) := by
      show (if (ns.map D.int).length + 1 ≤ sizeLine then some (D.ref 1, [O.lst [.int 0], O.lst (ns.map D.int ++ [.int 0])]) else none) = _
      rw [if_pos (slK (by rw [List.length_map]; omega))]
    have a2 : fSl (.ref 1) none (some 4) [O.lst [.int 0], O.lst (ns.map D.int ++ [.int 0])] = some (.ref 2, [O.lst [.int 0], O.lst (ns.map D.int ++ [.int 0]), O.lst (cutD (ns.map D.int ++ [.int 0]) none (some 4))]) := rfl
    simp only [eq_eB, eq_eLst, eq_aCons, eq_aNil, eq_eC, eq_eSlot, List.getElem?_cons_zero, bnd_some, List.length_cons, List.length_nil, Nat.zero_add, z1, if_true, List.nil_append, a1, eq_oNone]
    show bnd (oSome (eC (.int 4)) _ _) _ = _
    have a3 : ∀ env st, oSome (eC (.int 4)) env st = some (some 4, st) := fun _ _ => rfl
    rw [a3, bnd_some, a2]
  generalize hS : [O.lst [.int 0], O.lst (ns.map D.int ++ [.int 0]), O.lst (cutD (ns.map D.int ++ [.int 0]) none (some 4))] = s0 at e1
  have h2 : s0[2]? = some (O.lst (cutD (ns.map D.int ++ [.int 0]) none (some 4))) := by rw [← hS]; rfl
  clear hS
  have hint : ∀ d ∈ cutD (ns.map D.int ++ [.int 0]) none (some 4), ∃ i : Int, d = .int i := by
    intro d hd
    unfold Eng.cutD at hd
    have := List.mem_of_mem_drop (List.mem_of_mem_take hd)
    rw [List.mem_append, List.mem_map, List.mem_singleton] at this
    rcases this with ⟨i, _, rfl⟩ | rfl
    · exact ⟨i, rfl⟩
    · exact ⟨0, rfl⟩
  generalize Eng.cutD (ns.map D.int ++ [.int 0]) none (some 4) = xs at h2 hint
  obtain ⟨src, i1, i2⟩ := iSeq_is e1 (Items.lst h2)
  rw [eq_sSeq, W_bnd]
  refine W_forE i1 i2 (fun _ env s => Ext s0 s ∧ ∃ a b c d, env = [some (.rol (ns.map D.int)), a, b, c, d]) (fun i env s h => h.1) ⟨Ext.refl, _, _, _, _, rfl⟩ ?_ ?_
  · rintro i env s1 d hd ⟨E1, a, b, c, e, rfl⟩
    obtain ⟨z, rfl⟩ := hint d (List.mem_of_getElem? hd)
    simp only [eq_gNm, W_some, List.set_cons_succ, List.set_cons_zero, eq_sSeq (sa := sAsg _ _), W_bnd, eq_sAsg (a := eCall _ 27 _), eq_eCall, eq_aCons, eq_aNil, eq_eSlot, List.getElem?_cons_succ, List.getElem?_cons_zero, bnd_some]
    refine source_ok 8 ?_
    try simp only [eq_gNm, W_some, List.set_cons_succ, List.set_cons_zero]
    refine W_for ?_
    unfold Eng.iRng1
    simp only [eq_eC, bnd_some, W_bnd, W_some]
    rw [if_pos (by decide)]
    simp only [W_some]
    refine forN_ind (src := srcRng 0 3) (fun j env s => (∃ t d, env = [some (.rol (ns.map D.int)), some (.int z), some (.ref s1.length), t, d]) ∧ Ext s1 s ∧ ∃ x y z : Int, s[s1.length]? = some (srcL x y z)) _ ?_ ?_ _ 0 _ _ (Nat.zero_add _) ⟨⟨_, _, rfl⟩, Ext.app, z, z, 0, get_end⟩
    · rintro env s ⟨⟨t, d, rfl⟩, hE, _⟩
      exact ⟨rfl, E1.trans hE, _, _, _, _, rfl⟩
    · rintro j env s hj ⟨⟨t, d, rfl⟩, hE, x, y, w, hs⟩
      have hj : j < 3 := hj
      refine ⟨.int (j : Nat), by simp [srcRng, hj], ?_⟩
      rw [eq_gNm, W_some]
      simp only [List.set_cons_succ, List.set_cons_zero]
      refine once_ok hs hE fun t' d' x' y' z' hE' hs' => ?_
      exact ⟨⟨_, _, rfl⟩, hE', x', y', z', hs'⟩
  · rintro env s ⟨E1, a, b, c, d, rfl⟩
    simp only [eq_sRet, eq_eC, bnd_some, W_some]
end Law
set_option Elab.async false
set_option linter.all false
open PySem PySem.W PyProof.Rows
set_option maxRecDepth 100000 in
set_option maxHeartbeats 0 in
theorem PySem.Challenge.cw_lastheap_k01_errors_of_the_package_holds : PySem.Challenge.rw_lastheap_k01_errors_of_the_package.Holds := by
  w_on; o_law; k_head; (case hw => w_witness2)
  k_fill
  refine Eng.law_end (l := PySem.Challenge.rw_lastheap_k01_errors_of_the_package) (m := 63) (k := 60) (n := 10) (li := 35) (fl := 40) (x := "_law_script") (cg := Law.cg) (tbl := Law.tbl) rfl (by decide) rfl rfl ⟨rfl, by decide, by decide⟩ rfl (by decide) (fun w h Y => PySem.W.kIn_of Y) ?F Law.law_pure
  case F =>
    intro w mg fa h KX G hmg
    refine' Law.all_mk KX G hmg ?aD0 ?aD1 ?aD2 ?aD3 ?aD4 ?aD5 ?aD6 ?aD7 ?aD8 ?aD9 ?aD10 ?aD11 ?aD12 ?aD13 ?aD14 ?aD15 ?a0 ?l0 ?c0 ?k0 ?a1 ?l1 ?c1 ?k1 ?a2 ?l2 ?c2 ?k2 ?a3 ?l3 ?c3 ?k3 ?a4 ?l4 ?c4 ?k4 ?a5 ?l5 ?c5 ?k5 ?a6 ?l6 ?c6 ?k6 ?a7 ?l7 ?c7 ?k7 ?a8 ?l8 ?c8 ?k8 ?a9 ?l9 ?c9 ?k9 ?a10 ?l10 ?c10 ?k10 ?a11 ?l11 ?c11 ?k11 ?a12 ?l12 ?c12 ?k12 ?a13 ?l13 ?c13 ?k13 ?a14 ?l14 ?c14 ?k14 ?a15 ?l15 ?c15 ?k15 ?a16 ?l16 ?c16 ?k16 ?a17 ?l17 ?c17 ?k17 ?a18 ?l18 ?c18 ?k18 ?a19 ?l19 ?c19 ?k19 ?a20 ?l20 ?c20 ?k20 ?a21 ?l21 ?c21 ?k21 ?a22 ?l22 ?c22 ?k22 ?a23 ?l23 ?c23 ?k23 ?a24 ?l24 ?c24 ?k24 ?a25 ?l25 ?c25 ?k25 ?a26 ?l26 ?c26 ?k26 ?a27 ?l27 ?c27 ?k27 ?a28 ?l28 ?c28 ?k28 ?a29 ?l29 ?c29 ?k29 ?a30 ?l30 ?c30 ?k30 ?a31 ?l31 ?c31 ?k31 ?a32 ?l32 ?c32 ?k32 ?a33 ?l33 ?c33 ?k33 ?a34 ?l34 ?c34 ?k34 ?a35 ?l35 ?c35 ?k35 ?z0 ?z1 ?z2 ?z3 ?z4 ?z5 ?z6 ?chk ?xchk
    (case aD0 => k_is)
    (case aD1 => k_is)
    (case aD2 => k_is)
    (case aD3 => k_is)
    (case aD4 => k_is)
    (case aD5 => k_is)
    (case aD6 => k_is)
    (case aD7 => k_is)
    (case aD8 => k_is)
    (case aD9 => k_is)
    (case aD10 => k_is)
    (case aD11 => k_is)
    (case aD12 => k_is)
    (case aD13 => k_is)
    (case aD14 => k_is)
    (case aD15 => k_is)
    (case a0 => k_is)
    (case l0 => k_is)
    (case c0 => k_is)
    (case k0 => k_is)
    (case a1 => k_is)
    (case l1 => k_is)
    (case c1 => k_is)
    (case k1 => k_is)
    (case a2 => k_is)
    (case l2 => k_is)
    (case c2 => k_is)
    (case k2 => k_is)
    (case a3 => k_is)
    (case l3 => k_is)
    (case c3 => k_is)
    (case k3 => k_is)
    (case a4 => k_is)
    (case l4 => k_is)
    (case c4 => k_is)
    (case k4 => k_is)
    (case a5 => k_is)
    (case l5 => k_is)
    (case c5 => k_is)
    (case k5 => k_is)
    (case a6 => k_is)
    (case l6 => k_is)
    (case c6 => k_is)
    (case k6 => k_is)
    (case a7 => k_is)
    (case l7 => k_is)
    (case c7 => k_is)
    (case k7 => k_is)
    (case a8 => k_is)
    (case l8 => k_is)
    (case c8 => k_is)
    (case k8 => k_is)
    (case a9 => k_is)
    (case l9 => k_is)
    (case c9 => k_is)
    (case k9 => k_is)
    (case a10 => k_is)
    (case l10 => k_is)
    (case c10 => k_is)
    (case k10 => k_is)
    (case a11 => k_is)
    (case l11 => k_is)
    (case c11 => k_is)
    (case k11 => k_is)
    (case a12 => k_is)
    (case l12 => k_is)
    (case c12 => k_is)
    (case k12 => k_is)
    (case a13 => k_is)
    (case l13 => k_is)
    (case c13 => k_is)
    (case k13 => k_is)
    (case a14 => k_is)
    (case l14 => k_is)
    (case c14 => k_is)
    (case k14 => k_is)
    (case a15 => k_is)
    (case l15 => k_is)
    (case c15 => k_is)
    (case k15 => k_is)
    (case a16 => k_is)
    (case l16 => k_is)
    (case c16 => k_is)
    (case k16 => k_is)
    (case a17 => k_is)
    (case l17 => k_is)
    (case c17 => k_is)
    (case k17 => k_is)
    (case a18 => k_is)
    (case l18 => k_is)
    (case c18 => k_is)
    (case k18 => k_is)
    (case a19 => k_is)
    (case l19 => k_is)
    (case c19 => k_is)
    (case k19 => k_is)
    (case a20 => k_is)
    (case l20 => k_is)
    (case c20 => k_is)
    (case k20 => k_is)
    (case a21 => k_is)
    (case l21 => k_is)
    (case c21 => k_is)
    (case k21 => k_is)
    (case a22 => k_is)
    (case l22 => k_is)
    (case c22 => k_is)
    (case k22 => k_is)
    (case a23 => k_is)
    (case l23 => k_is)
    (case c23 => k_is)
    (case k23 => k_is)
    (case a24 => k_is)
    (case l24 => k_is)
    (case c24 => k_is)
    (case k24 => k_is)
    (case a25 => k_is)
    (case l25 => k_is)
    (case c25 => k_is)
    (case k25 => k_is)
    (case a26 => k_is)
    (case l26 => k_is)
    (case c26 => k_is)
    (case k26 => k_is)
    (case a27 => k_is)
    (case l27 => k_is)
    (case c27 => k_is)
    (case k27 => k_is)
    (case a28 => k_is)
    (case l28 => k_is)
    (case c28 => k_is)
    (case k28 => k_is)
    (case a29 => k_is)
    (case l29 => k_is)
    (case c29 => k_is)
    (case k29 => k_is)
    (case a30 => k_is)
    (case l30 => k_is)
    (case c30 => k_is)
    (case k30 => k_is)
    (case a31 => k_is)
    (case l31 => k_is)
    (case c31 => k_is)
    (case k31 => k_is)
    (case a32 => k_is)
    (case l32 => k_is)
    (case c32 => k_is)
    (case k32 => k_is)
    (case a33 => k_is)
    (case l33 => k_is)
    (case c33 => k_is)
    (case k33 => k_is)
    (case a34 => k_is)
    (case l34 => k_is)
    (case c34 => k_is)
    (case k34 => k_is)
    (case a35 => k_is)
    (case l35 => k_is)
    (case c35 => k_is)
    (case k35 => k_is)
    (case z0 => k_is)
    (case z1 => k_is)
    (case z2 => k_is)
    (case z3 => k_is)
    (case z4 => k_is)
    (case z5 => k_is)
    (case z6 => k_is)
    (case chk => kernel_rfl)
    (case xchk => kernel_rfl)
