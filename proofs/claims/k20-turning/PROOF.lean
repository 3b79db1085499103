import PyProof.Rows.All
import Wide.All
import OpenK.AllK
import Wide.FinOn
import HandS.ForMost
import HandS.SetKeys
import HandS.DictComp
import HandS.Conv
import HandS.IsInst
import HandS.TupAny
import HandS.Flow
import HandS.Wide
import HandS.Codes
import HandS.StrMore
import HandS.Zip
import HandS.Deep
import HandS.SortInts
import HandS.RaiseMore
import PyProof.Rows.SortShellAny
import HandS.SetFor
import HandS.TupSets
import HandS.Replace
import PyProof.StrOps2
import HandS.TupMul
import PyProof.P3In
import KE.SortData
import KE.DataMinMax
import KE.SortKeyHeap
import PySem.Challenge.RW_signworth_k20_turning
set_option Elab.async false
set_option linter.all false
set_option maxRecDepth 100000
set_option maxHeartbeats 4000000
namespace MP
open PySem PySem.Spec PyProof.Rows L2

/-! ### data -/
abbrev Tx := List Nat
abbrev Ky := Sum Int Tx
def S (l : Tx) : Str := ⟨l.toArray⟩
theorem S_inj {a b : Tx} (h : S a = S b) : a = b := by
  have := congrArg (fun s : Str => s.cps.toList) h
  simpa [S] using this
theorem S_cps (a : Tx) : (S a).cps.toList = a := by simp [S]
theorem S_length (a : Tx) : (S a).length = a.length := by simp [S, Str.length]
theorem S_append (a b : Tx) : S a ++ S b = S (a ++ b) := by
  show Str.append _ _ = _
  simp [S, Str.append]
theorem S_of (z : Str) : z = S z.cps.toList := by
  cases z; simp [S]
def kK : Ky → Key
  | .inl i => .inl i
  | .inr x => .inr (S x)
theorem kK_inj {a b : Ky} (h : kK a = kK b) : a = b := by
  cases a <;> cases b <;> simp [kK] at h ⊢
  · exact h
  · exact S_inj h

inductive D where
  | non | bl (b : Bool) | int (i : Int) | str (x : Tx) | tup (xs : List D) | lst (xs : List D)
  | dk (kvs : List (Ky × D)) | dt (kvs : List (List Ky × D)) | st (ks : List Ky) | fz (xs : List D) | ty (n : String) | rf (a : Addr)
instance : Inhabited D := ⟨.non⟩

mutual
/-- in the frozen part F the value v is the datum d -/
inductive Dn (K : PySem.W.Frag) (F : Hp) : V → D → Prop
  | non : Dn K F .non .non
  | bl (b : Bool) : Dn K F (.bl b) (.bl b)
  | int (i : Int) : Dn K F (.int i) (.int i)
  | str (x : Tx) : Dn K F (.str (S x)) (.str x)
  | ty (n : String) : Dn K F (.ty n) (.ty n)
  | rf (a : Addr) : Dn K F (.ref a) (.rf a)
  | tup {a : Addr} {vs : List V} {ds : List D} : SqT K F a vs → DnAll K F vs ds → Dn K F (.ref a) (.tup ds)
  | lst {a : Addr} {vs : List V} {ds : List D} : F a = some (.lst vs) → DnAll K F vs ds → Dn K F (.ref a) (.lst ds)
  | fz {a : Addr} {vs : List V} {ds : List D} : SqL K F a vs → DnAll K F vs ds → Dn K F (.ref a) (.fz ds)
  | dk {a : Addr} {ks : List (Key × V)} {kvs : List (Ky × D)} : F a = some (.dK ks) → KvAll K F ks kvs → Dn K F (.ref a) (.dk kvs)
inductive DnAll (K : PySem.W.Frag) (F : Hp) : List V → List D → Prop
  | nil : DnAll K F [] []
  | cons {v : V} {vs : List V} {d : D} {ds : List D} : Dn K F v d → DnAll K F vs ds → DnAll K F (v :: vs) (d :: ds)
inductive KvAll (K : PySem.W.Frag) (F : Hp) : List (Key × V) → List (Ky × D) → Prop
  | nil : KvAll K F [] []
  | cons {k : Ky} {v : V} {ks : List (Key × V)} {d : D} {kvs : List (Ky × D)} : Dn K F v d → KvAll K F ks kvs → KvAll K F ((kK k, v) :: ks) ((k, d) :: kvs)
end

section
variable {K : PySem.W.Frag} {F F' H H' : Hp}
theorem same_rd {a : Addr} {u : HO} (e : Same F F') (h : Rd F a u) : Rd F' a u := by
  rcases h with h | ⟨o, h⟩
  · exact .inl (e _ _ h)
  · exact .inr ⟨o, e _ _ h⟩
theorem same_l {a : Addr} {xs : List V} (e : Same F F') (h : SqL K F a xs) : SqL K F' a xs := by
  rcases h with h | h
  · exact .inl (same_rd e h)
  · exact .inr h
theorem same_t {a : Addr} {xs : List V} (e : Same F F') (h : SqT K F a xs) : SqT K F' a xs := by
  rcases h with h | h
  · exact .inl (same_rd e h)
  · exact .inr h
mutual
theorem Dn.mono (e : Same F F') : ∀ {v : V} {d : D}, Dn K F v d → Dn K F' v d
  | _, _, .non => .non
  | _, _, .bl b => .bl b
  | _, _, .int i => .int i
  | _, _, .str x => .str x
  | _, _, .ty n => .ty n
  | _, _, .rf a => .rf a
  | _, _, .tup h t => .tup (same_t e h) (DnAll.mono e t)
  | _, _, .lst h t => .lst (e _ _ h) (DnAll.mono e t)
  | _, _, .fz h t => .fz (same_l e h) (DnAll.mono e t)
  | _, _, .dk h t => .dk (e _ _ h) (KvAll.mono e t)
theorem DnAll.mono (e : Same F F') : ∀ {vs : List V} {ds : List D}, DnAll K F vs ds → DnAll K F' vs ds
  | _, _, .nil => .nil
  | _, _, .cons h t => .cons (Dn.mono e h) (DnAll.mono e t)
theorem KvAll.mono (e : Same F F') : ∀ {ks : List (Key × V)} {kvs : List (Ky × D)}, KvAll K F ks kvs → KvAll K F' ks kvs
  | _, _, .nil => .nil
  | _, _, .cons h t => .cons (Dn.mono e h) (KvAll.mono e t)
end
theorem DnAll.length : ∀ {vs : List V} {ds : List D}, DnAll K F vs ds → vs.length = ds.length
  | _, _, .nil => rfl
  | _, _, .cons _ t => by simp [DnAll.length t]
theorem DnAll.append : ∀ {vs ws : List V} {ds es : List D}, DnAll K F vs ds → DnAll K F ws es → DnAll K F (vs ++ ws) (ds ++ es)
  | _, _, _, _, .nil, h => h
  | _, _, _, _, .cons h t, u => .cons h (DnAll.append t u)
theorem DnAll.get : ∀ {vs : List V} {ds : List D} {i : Nat} {d : D}, DnAll K F vs ds → ds[i]? = some d → ∃ v, vs[i]? = some v ∧ Dn K F v d
  | _, _, _, _, .nil, e => by simp at e
  | _, _, 0, _, .cons h _, e => by simp at e; subst e; exact ⟨_, rfl, h⟩
  | _, _, i + 1, d, .cons _ t, e => by
    obtain ⟨v, h1, h2⟩ := DnAll.get (i := i) (d := d) t (by simpa using e)
    exact ⟨v, by simpa using h1, h2⟩
theorem DnAll.set {v : V} {d : D} (h : Dn K F v d) : ∀ {vs : List V} {ds : List D} (i : Nat), DnAll K F vs ds → DnAll K F (vs.set i v) (ds.set i d)
  | _, _, _, .nil => .nil
  | _, _, 0, .cons _ t => .cons h t
  | _, _, i + 1, .cons q t => .cons q (DnAll.set h i t)
theorem DnAll.take : ∀ {vs : List V} {ds : List D} (n : Nat), DnAll K F vs ds → DnAll K F (vs.take n) (ds.take n)
  | _, _, 0, _ => .nil
  | _, _, _ + 1, .nil => .nil
  | _, _, n + 1, .cons h t => .cons h (DnAll.take n t)
theorem DnAll.drop : ∀ {vs : List V} {ds : List D} (n : Nat), DnAll K F vs ds → DnAll K F (vs.drop n) (ds.drop n)
  | _, _, 0, t => t
  | _, _, _ + 1, .nil => .nil
  | _, _, n + 1, .cons _ t => DnAll.drop n t
theorem DnAll.reverse : ∀ {vs : List V} {ds : List D}, DnAll K F vs ds → DnAll K F vs.reverse ds.reverse
  | _, _, .nil => .nil
  | _, _, .cons h t => by simpa using (DnAll.reverse t).append (.cons h .nil)
theorem DnAll.eraseIdx : ∀ {vs : List V} {ds : List D} (i : Nat), DnAll K F vs ds → DnAll K F (vs.eraseIdx i) (ds.eraseIdx i)
  | _, _, _, .nil => .nil
  | _, _, 0, .cons _ t => t
  | _, _, i + 1, .cons q t => .cons q (DnAll.eraseIdx i t)
theorem KvAll.length : ∀ {ks : List (Key × V)} {kvs : List (Ky × D)}, KvAll K F ks kvs → ks.length = kvs.length
  | _, _, .nil => rfl
  | _, _, .cons _ t => by simp [KvAll.length t]
end

/-- the frozen part stands in the heap (a dict of it may be locked) -/
def Ag (F H : Hp) : Prop := ∀ a o, F a = some o → H a = some o ∨ (((∃ ks, o = .dK ks) ∨ (∃ ks, o = .dT ks)) ∧ ∃ ob, H a = some (.frz ob o))
section
variable {K : PySem.W.Frag} {F F' H H' : Hp} {a : Addr}
theorem Ag.of (h : Same F H) : Ag F H := fun a o e => .inl (h a o e)
theorem Ag.h (h : Ag F H) (e : Same H H') : Ag F H' := fun a o q => by
  rcases h a o q with k | ⟨k, ob, z⟩
  · exact .inl (e _ _ k)
  · exact .inr ⟨k, ob, e _ _ z⟩
theorem Ag.f (h : Ag F' H) (e : Same F F') : Ag F H := fun a o q => h a o (e _ _ q)
theorem Ag.free (h : Ag F H) (n : H a = none) : F a = none := by
  cases q : F a with
  | none => rfl
  | some o =>
    rcases h a o q with k | ⟨_, _, k⟩
    · rw [n] at k; cases k
    · rw [n] at k; cases k
theorem Ag.lst {vs : List V} (h : Ag F H) (e : F a = some (.lst vs)) : H a = some (.lst vs) := by
  rcases h a _ e with k | ⟨k | k, _⟩
  · exact k
  · obtain ⟨_, z⟩ := k; cases z
  · obtain ⟨_, z⟩ := k; cases z
theorem Ag.rd {u : HO} (h : Ag F H) (e : F a = some u) : Rd H a u := by
  rcases h a _ e with k | ⟨_, ob, k⟩
  · exact .inl k
  · exact .inr ⟨ob, k⟩
theorem Ag.rd2 {u : HO} (h : Ag F H) (e : Rd F a u) (no : (∀ ks, u ≠ .dK ks) ∧ ∀ ks, u ≠ .dT ks) : Rd H a u := by
  rcases e with e | ⟨o, e⟩
  · exact h.rd e
  · rcases h a _ e with k | ⟨k | k, _⟩
    · exact .inr ⟨o, k⟩
    · obtain ⟨_, z⟩ := k; cases z
    · obtain ⟨_, z⟩ := k; cases z
theorem Ag.l {xs : List V} (e : Ag F H) (h : SqL K F a xs) : SqL K H a xs := by
  rcases h with h | h
  · exact .inl (e.rd2 h ⟨fun _ z => by (cases z), fun _ z => by (cases z)⟩)
  · exact .inr h
theorem Ag.t {xs : List V} (e : Ag F H) (h : SqT K F a xs) : SqT K H a xs := by
  rcases h with h | h
  · exact .inl (e.rd2 h ⟨fun _ z => by (cases z), fun _ z => by (cases z)⟩)
  · exact .inr h
end

/-! ### cells, frames -/
/-- a name's cell: not told, a datum, an object of one's own, one that was lent, one that was lent and is frozen now -/
inductive C where
  | un | im (d : D) | ow (d : D) | bo (d : D) | bf (d : D)
instance : Inhabited C := ⟨.un⟩
abbrev Ev := List C
/-- a result: frozen, or fresh -/
inductive R where
  | im (d : D) | fr (d : D)
def R.d : R → D
  | .im d => d
  | .fr d => d
/-- an operand: a value, or the name in slot i, read when all is there -/
inductive P where
  | val (d : D) | slot (i : Nat)

structure Base where
  F0 : Hp
  H0 : Hp
  σ0 : L2.St

/-- an object of one's own at p -/
def OwnO (K : PySem.W.Frag) (F H : Hp) (p : Addr) : D → Prop
  | .lst ds => ∃ vs, H p = some (.lst vs) ∧ DnAll K F vs ds
  | .dk kvs => ∃ ks, H p = some (.dK ks) ∧ KvAll K F ks kvs
  | _ => False
theorem OwnO.has {K : PySem.W.Frag} {F H : Hp} {p : Addr} {d : D} (h : OwnO K F H p d) : ∃ o, H p = some o := by
  cases d <;> simp only [OwnO] at h
  · obtain ⟨_, h, _⟩ := h; exact ⟨_, h⟩
  · obtain ⟨_, h, _⟩ := h; exact ⟨_, h⟩
theorem OwnO.mono {K : PySem.W.Frag} {F F' H H' : Hp} {p : Addr} {d : D} (h : OwnO K F H p d) (e : Same F F') (k : H' p = H p) : OwnO K F' H' p d := by
  cases d <;> simp only [OwnO] at h ⊢
  · obtain ⟨vs, h1, h2⟩ := h; exact ⟨vs, k.trans h1, h2.mono e⟩
  · obtain ⟨vs, h1, h2⟩ := h; exact ⟨vs, k.trans h1, h2.mono e⟩
/-- frozen -/
theorem OwnO.freeze {K : PySem.W.Frag} {F H : Hp} {p : Addr} {d : D} (h : OwnO K F H p d) : ∃ o, H p = some o ∧ (F p = none → Dn K (upd F p o) (.ref p) d) := by
  cases d <;> simp only [OwnO] at h
  · obtain ⟨vs, h1, h2⟩ := h
    refine ⟨_, h1, fun n => .lst upd_same (h2.mono fun a o e => ?_)⟩
    rw [upd_ne (ne_of_none e n)]; exact e
  · obtain ⟨vs, h1, h2⟩ := h
    refine ⟨_, h1, fun n => .dk upd_same (h2.mono fun a o e => ?_)⟩
    rw [upd_ne (ne_of_none e n)]; exact e

def CellOk (K : PySem.W.Frag) (b : Base) (F H : Hp) (w : Option V) (w0 : Option V) : C → Prop
  | .un => True
  | .im d => ∃ v, w = some v ∧ Dn K F v d
  | .ow d => ∃ p, w = some (.ref p) ∧ OwnO K F H p d ∧ F p = none ∧ b.H0 p = none
  | .bo d => ∃ p, w = some (.ref p) ∧ OwnO K F H p d ∧ F p = none ∧ b.H0 p = none ∧ w0 = w
  | .bf d => ∃ v, w = some v ∧ Dn K F v d ∧ w0 = w ∧ ∃ p o, v = .ref p ∧ F p = some o
def C.own : C → Bool
  | .ow _ => true
  | .bo _ => true
  | _ => false
/-- the i-th name holds an object of its own at p -/
def OwnAt (env : Ev) (σ : L2.St) (i : Nat) (p : Addr) : Prop := (∃ c, env[i]? = some c ∧ c.own = true) ∧ σ[i]? = some (some (.ref p))
structure Gd (K : PySem.W.Frag) (b : Base) (F : Hp) (σ : L2.St) (H : Hp) (env : Ev) : Prop where
  len : env.length = σ.length
  same : Ag F H
  cells : ∀ (i : Nat) (c : C), env[i]? = some c → CellOk K b F H (σ[i]?.join) (b.σ0[i]?.join) c
  dis : ∀ (i j : Nat) (p : Addr), OwnAt env σ i p → OwnAt env σ j p → i = j
  keep : ∀ a o, b.H0 a = some o → H a = some o
  new : ∀ a o, F a = some o → b.F0 a = some o ∨ b.H0 a = none

/-- only new objects -/
structure Xt (F H F' H' : Hp) : Prop where
  ff : Same F F'
  hh : Same H H'
  fh : Ag F' H'
  nw : ∀ a o, F' a = some o → F a = some o ∨ H a = none
theorem Xt.refl {F H : Hp} (h : Ag F H) : Xt F H F H := ⟨Same.refl F, Same.refl H, h, fun _ _ e => .inl e⟩
theorem Xt.trans {F H F1 H1 F2 H2 : Hp} (a : Xt F H F1 H1) (b : Xt F1 H1 F2 H2) : Xt F H F2 H2 :=
  ⟨a.ff.trans b.ff, a.hh.trans b.hh, b.fh, fun x o e => by
    rcases b.nw x o e with q | q
    · exact a.nw x o q
    · exact .inr (a.hh.free q)⟩
theorem same_upd {H : Hp} {p : Addr} {o : HO} (h : H p = none) : Same H (upd H p o) := fun b x e => by
  rw [upd_ne (ne_of_none e h)]; exact e
theorem same_upd2 {F H : Hp} {p : Addr} {o : HO} (e : Ag F H) (h : F p = none) : Ag F (upd H p o) := fun b x q => by
  rw [upd_ne (ne_of_none q h)]; exact e _ _ q
/-- a new object, frozen at once -/
theorem Xt.laid {F H : Hp} {p : Addr} {o : HO} (e : Ag F H) (h : H p = none) : Xt F H (upd F p o) (upd H p o) := by
  have hf := e.free h
  refine ⟨same_upd hf, same_upd h, fun a x q => ?_, fun a x q => ?_⟩
  · by_cases c : a = p
    · subst c; rw [upd_same] at q ⊢; exact .inl q
    · rw [upd_ne c] at q ⊢; exact e _ _ q
  · by_cases c : a = p
    · subst c; exact .inr h
    · rw [upd_ne c] at q; exact .inl q
/-- a new object, not frozen -/
theorem Xt.fresh {F H : Hp} {p : Addr} {o : HO} (e : Ag F H) (h : H p = none) : Xt F H F (upd H p o) :=
  ⟨Same.refl F, same_upd h, e.h (same_upd h), fun _ _ q => .inl q⟩

section
variable {K : PySem.W.Frag} {b : Base} {F F' H H' : Hp} {σ : L2.St} {env : Ev}
theorem Gd.h0 (g : Gd K b F σ H env) {a : Addr} (h : H a = none) : b.H0 a = none := by
  cases q : b.H0 a with
  | none => rfl
  | some o =>
    have := g.keep a o q
    rw [h] at this; cases this
theorem CellOk.mono {w w0 : Option V} {c : C} (h : CellOk K b F H w w0 c) (e : Same F F') (k : ∀ p, w = some (.ref p) → c.own = true → H p = H' p ∧ (F p = none → F' p = none)) : CellOk K b F' H' w w0 c := by
  cases c with
  | un => trivial
  | im d => obtain ⟨v, h1, h2⟩ := h; exact ⟨v, h1, h2.mono e⟩
  | ow d =>
    obtain ⟨p, h1, h2, h3, h4⟩ := h
    obtain ⟨k1, k2⟩ := k p h1 rfl
    exact ⟨p, h1, h2.mono e k1.symm, k2 h3, h4⟩
  | bo d =>
    obtain ⟨p, h1, h2, h3, h4⟩ := h
    obtain ⟨k1, k2⟩ := k p h1 rfl
    exact ⟨p, h1, h2.mono e k1.symm, k2 h3, h4⟩
  | bf d => obtain ⟨v, h1, h2, h3, q, o, h4, h5⟩ := h; exact ⟨v, h1, h2.mono e, h3, q, o, h4, e _ _ h5⟩
theorem CellOk.ownSome {w w0 : Option V} {c : C} (h : CellOk K b F H w w0 c) (o : c.own = true) : ∃ p, w = some (.ref p) ∧ (∃ o, H p = some o) ∧ F p = none ∧ b.H0 p = none := by
  cases c with
  | un => cases o
  | im d => cases o
  | bf d => cases o
  | ow d => obtain ⟨p, h1, h2, h3, h4⟩ := h; exact ⟨p, h1, h2.has, h3, h4⟩
  | bo d => obtain ⟨p, h1, h2, h3, h4, _⟩ := h; exact ⟨p, h1, h2.has, h3, h4⟩
theorem Gd.ext (g : Gd K b F σ H env) (e : Xt F H F' H') : Gd K b F' σ H' env := by
  refine ⟨g.len, e.fh, fun i c h => ?_, g.dis, fun a o q => e.hh _ _ (g.keep a o q), fun a o q => ?_⟩
  · refine (g.cells i c h).mono e.ff fun p hw ho => ?_
    obtain ⟨q, h1, ⟨o, h2⟩, h3, _⟩ := (g.cells i c h).ownSome ho
    rw [hw] at h1; cases h1
    refine ⟨h2.trans (e.hh _ _ h2).symm, fun _ => ?_⟩
    cases z : F' p with
    | none => rfl
    | some x =>
      rcases e.nw p x z with y | y
      · rw [h3] at y; cases y
      · rw [h2] at y; cases y
  · rcases e.nw a o q with y | y
    · exact g.new a o y
    · exact .inr (g.h0 y)
/-- a slot's own object is frozen -/
theorem OwnAt.of {i : Nat} {c : C} {p : Addr} (h : env[i]? = some c) (o : c.own = true) (e : σ[i]?.join = some (.ref p)) : OwnAt env σ i p := by
  refine ⟨⟨c, h, o⟩, ?_⟩
  cases q : σ[i]? with
  | none => rw [q] at e; cases e
  | some w => rw [q] at e; simpa using e
theorem OwnAt.join {i : Nat} {p : Addr} (h : OwnAt env σ i p) : σ[i]?.join = some (.ref p) := by rw [h.2]; rfl

/-- the frozen form of a cell -/
def C.fz : C → C
  | .ow d => .im d
  | .bo d => .bf d
  | c => c
theorem C.fz_own (c : C) : c.fz.own = false := by cases c <;> rfl
theorem set_get {α : Type} {l : List α} {i j : Nat} {a c : α} (h : (l.set i a)[j]? = some c) : (j = i ∧ c = a ∧ i < l.length) ∨ (j ≠ i ∧ l[j]? = some c) := by
  by_cases e : j = i
  · subst e
    by_cases hl : j < l.length
    · rw [List.getElem?_set_self hl] at h; cases h; exact .inl ⟨rfl, rfl, hl⟩
    · rw [List.getElem?_eq_none (by simpa using hl)] at h; cases h
  · rw [List.getElem?_set_ne (Ne.symm e)] at h; exact .inr ⟨e, h⟩
theorem Gd.freeze (g : Gd K b F σ H env) {i : Nat} {c : C} (h : env[i]? = some c) : ∃ F', Same F F' ∧ Gd K b F' σ H (env.set i c.fz) ∧ (∀ d, (c = .ow d ∨ c = .bo d ∨ c = .im d ∨ c = .bf d) → ∃ v, σ[i]?.join = some v ∧ Dn K F' v d) := by
  have hi : i < env.length := by
    rcases Nat.lt_or_ge i env.length with q | q
    · exact q
    · rw [List.getElem?_eq_none q] at h; cases h
  have triv : c.fz = c → (∀ d, (c = .ow d ∨ c = .bo d ∨ c = .im d ∨ c = .bf d) → ∃ v, σ[i]?.join = some v ∧ Dn K F v d) → ∃ F', Same F F' ∧ Gd K b F' σ H (env.set i c.fz) ∧ (∀ d, (c = .ow d ∨ c = .bo d ∨ c = .im d ∨ c = .bf d) → ∃ v, σ[i]?.join = some v ∧ Dn K F' v d) := by
    intro e q
    have : env.set i c.fz = env := by
      rw [e]
      apply List.ext_getElem?
      intro j
      by_cases ej : j = i
      · subst ej; rw [List.getElem?_set_self hi, h]
      · rw [List.getElem?_set_ne (Ne.symm ej)]
    exact ⟨F, Same.refl F, by rw [this]; exact g, q⟩
  have main : c.own = true → (∀ F', (∀ p o, σ[i]?.join = some (.ref p) → H p = some o → F' = upd F p o → CellOk K b F' H (σ[i]?.join) (b.σ0[i]?.join) c.fz)) →
      (∀ F' d, (∀ p o, σ[i]?.join = some (.ref p) → H p = some o → F' = upd F p o → (c = .ow d ∨ c = .bo d) → Dn K F' (.ref p) d)) → ∃ F', Same F F' ∧ Gd K b F' σ H (env.set i c.fz) ∧ (∀ d, (c = .ow d ∨ c = .bo d ∨ c = .im d ∨ c = .bf d) → ∃ v, σ[i]?.join = some v ∧ Dn K F' v d) := by
    intro ho hcell hd
    obtain ⟨p, h1, ⟨o, h2⟩, h3, h4⟩ := (g.cells i c h).ownSome ho
    refine ⟨upd F p o, same_upd h3, ⟨by simpa using g.len, fun a x q => ?_, fun j c' hj => ?_, fun j k q hj hk => ?_, g.keep, fun a x q => ?_⟩, fun d hd' => ?_⟩
    · by_cases e : a = p
      · subst e; rw [upd_same] at q; cases q; exact .inl h2
      · rw [upd_ne e] at q; exact g.same _ _ q
    · rcases set_get hj with ⟨rfl, rfl, _⟩ | ⟨hne, hj⟩
      · exact hcell _ p o h1 h2 rfl
      · refine (g.cells j c' hj).mono (same_upd h3) fun q hw hq => ⟨rfl, fun n => ?_⟩
        have : q ≠ p := by
          rintro rfl
          exact hne (g.dis j i q (OwnAt.of hj hq hw) (OwnAt.of h ho h1))
        rw [upd_ne this]; exact n
    · obtain ⟨⟨cj, e1, o1⟩, e2⟩ := hj
      obtain ⟨⟨ck, f1, o3⟩, f2⟩ := hk
      rcases set_get e1 with ⟨rfl, rfl, _⟩ | ⟨n1, e1⟩
      · rw [C.fz_own] at o1; cases o1
      · rcases set_get f1 with ⟨rfl, rfl, _⟩ | ⟨n2, f1⟩
        · rw [C.fz_own] at o3; cases o3
        · exact g.dis j k q ⟨⟨cj, e1, o1⟩, e2⟩ ⟨⟨ck, f1, o3⟩, f2⟩
    · by_cases e : a = p
      · subst e; exact .inr h4
      · rw [upd_ne e] at q; exact g.new _ _ q
    · refine ⟨.ref p, h1, hd _ d p o h1 h2 rfl ?_⟩
      rcases hd' with q | q | q | q
      · exact .inl q
      · exact .inr q
      · rw [q] at ho; cases ho
      · rw [q] at ho; cases ho
  have cok := g.cells i c h
  cases c with
  | un => exact triv rfl fun d q => by rcases q with q | q | q | q <;> cases q
  | im d =>
    refine triv rfl fun d' q => ?_
    rcases q with q | q | q | q <;> cases q
    exact cok
  | bf d =>
    refine triv rfl fun d' q => ?_
    rcases q with q | q | q | q <;> cases q
    obtain ⟨v, e, f, _⟩ := cok
    exact ⟨v, e, f⟩
  | ow d =>
    obtain ⟨p, e1, e2, e3, e4⟩ := cok
    obtain ⟨o, q1, q2⟩ := e2.freeze
    refine main rfl (fun F' p' o' z1 z2 z3 => ?_) (fun F' d' p' o' z1 z2 z3 z4 => ?_)
    · rw [e1] at z1; cases z1
      rw [q1] at z2; cases z2
      subst z3
      exact ⟨_, e1, q2 e3⟩
    · rw [e1] at z1; cases z1
      rw [q1] at z2; cases z2
      subst z3
      rcases z4 with z | z <;> cases z
      exact q2 e3
  | bo d =>
    obtain ⟨p, e1, e2, e3, e4, e5⟩ := cok
    obtain ⟨o, q1, q2⟩ := e2.freeze
    refine main rfl (fun F' p' o' z1 z2 z3 => ?_) (fun F' d' p' o' z1 z2 z3 z4 => ?_)
    · rw [e1] at z1; cases z1
      rw [q1] at z2; cases z2
      subst z3
      exact ⟨_, e1, q2 e3, e5, _, _, rfl, upd_same⟩
    · rw [e1] at z1; cases z1
      rw [q1] at z2; cases z2
      subst z3
      rcases z4 with z | z <;> cases z
      exact q2 e3
end
end MP
namespace MP
open PySem PySem.Spec PyProof.Rows L2

/-! ### results, operands, readings -/
def RV (K : PySem.W.Frag) (b : Base) (F H : Hp) (σ : L2.St) (env : Ev) (v : V) : R → Prop
  | .im d => Dn K F v d
  | .fr d => ∃ p, v = .ref p ∧ OwnO K F H p d ∧ F p = none ∧ b.H0 p = none ∧ ∀ i, ¬ OwnAt env σ i p
def PVal (K : PySem.W.Frag) (F : Hp) (σ : L2.St) (v : V) : P → Prop
  | .val d => Dn K F v d
  | .slot i => σ[i]?.join = some v
def C.rd : C → Option D
  | .un => none
  | .im d => some d
  | .ow d => some d
  | .bo d => some d
  | .bf d => some d
def rdP (env : Ev) : P → Option D
  | .val d => some d
  | .slot i => (env[i]?).bind C.rd
inductive PVals (K : PySem.W.Frag) (F : Hp) (σ : L2.St) : List V → List P → Prop
  | nil : PVals K F σ [] []
  | cons {v : V} {vs : List V} {p : P} {ps : List P} : PVal K F σ v p → PVals K F σ vs ps → PVals K F σ (v :: vs) (p :: ps)
def rdPs (env : Ev) : List P → Option (List D)
  | [] => some []
  | p :: ps => match rdP env p with
    | none => none
    | some d => match rdPs env ps with
      | none => none
      | some ds => some (d :: ds)
/-- v reads as d -/
def RdD (K : PySem.W.Frag) (F H : Hp) (v : V) (d : D) : Prop := Dn K F v d ∨ ∃ p, v = .ref p ∧ OwnO K F H p d
inductive RdAll (K : PySem.W.Frag) (F H : Hp) : List V → List D → Prop
  | nil : RdAll K F H [] []
  | cons {v : V} {vs : List V} {d : D} {ds : List D} : RdD K F H v d → RdAll K F H vs ds → RdAll K F H (v :: vs) (d :: ds)

section
variable {K : PySem.W.Frag} {b : Base} {F F' H H' : Hp} {σ : L2.St} {env : Ev} {v : V} {p : P}
theorem PVal.mono (h : PVal K F σ v p) (e : Same F F') : PVal K F' σ v p := by
  cases p with
  | val d => exact Dn.mono e h
  | slot i => exact h
theorem PVals.mono : ∀ {vs : List V} {ps : List P}, PVals K F σ vs ps → Same F F' → PVals K F' σ vs ps
  | _, _, .nil, _ => .nil
  | _, _, .cons h t, e => .cons (h.mono e) (PVals.mono t e)
theorem Gd.cell (g : Gd K b F σ H env) {i : Nat} {d : D} (h : (env[i]?).bind C.rd = some d) (hv : σ[i]?.join = some v) : RdD K F H v d := by
  cases q : env[i]? with
  | none => rw [q] at h; cases h
  | some c =>
    rw [q] at h
    have k := g.cells i c q
    rw [hv] at k
    cases c with
    | un => cases h
    | im d' =>
      cases (show some d' = some d from h)
      obtain ⟨w, e, k⟩ := k; cases e; exact .inl k
    | ow d' =>
      cases (show some d' = some d from h)
      obtain ⟨w, e, k, _⟩ := k; cases e; exact .inr ⟨_, rfl, k⟩
    | bo d' =>
      cases (show some d' = some d from h)
      obtain ⟨w, e, k, _⟩ := k; cases e; exact .inr ⟨_, rfl, k⟩
    | bf d' =>
      cases (show some d' = some d from h)
      obtain ⟨w, e, k, _⟩ := k; cases e; exact .inl k
theorem Gd.rd (g : Gd K b F σ H env) {d : D} (hv : PVal K F σ v p) (h : rdP env p = some d) : RdD K F H v d := by
  cases p with
  | val d' => cases h; exact .inl hv
  | slot i => exact g.cell h hv
theorem Gd.rds (g : Gd K b F σ H env) : ∀ {vs : List V} {ps : List P} {ds : List D}, PVals K F σ vs ps → rdPs env ps = some ds → RdAll K F H vs ds
  | _, _, ds, .nil, h => by cases h; exact .nil
  | _, _, ds, .cons (p := p) (ps := ps) h1 t, h => by
    unfold rdPs at h
    cases q : rdP env p with
    | none => rw [q] at h; cases h
    | some d =>
      rw [q] at h
      cases q2 : rdPs env ps with
      | none => simp only [q2] at h; cases h
      | some es =>
        simp only [q2] at h
        cases h
        exact .cons (g.rd h1 q) (Gd.rds g t q2)
/-- freeze a fresh object -/
theorem Gd.freezeFr (g : Gd K b F σ H env) {q : Addr} {d : D} (h : OwnO K F H q d) (n : F q = none) (n0 : b.H0 q = none) (no : ∀ i, ¬ OwnAt env σ i q) :
    ∃ F', Same F F' ∧ Gd K b F' σ H env ∧ Dn K F' (.ref q) d := by
  obtain ⟨o, h1, h2⟩ := h.freeze
  refine ⟨upd F q o, same_upd n, ⟨g.len, fun a x e => ?_, fun i c hc => ?_, g.dis, g.keep, fun a x e => ?_⟩, h2 n⟩
  · by_cases z : a = q
    · subst z; rw [upd_same] at e; cases e; exact .inl h1
    · rw [upd_ne z] at e; exact g.same _ _ e
  · refine (g.cells i c hc).mono (same_upd n) fun r hw ho => ⟨rfl, fun nn => ?_⟩
    have : r ≠ q := fun z => no i (z ▸ OwnAt.of hc ho hw)
    rw [upd_ne this]; exact nn
  · by_cases z : a = q
    · subst z; exact .inr n0
    · rw [upd_ne z] at e; exact g.new _ _ e
theorem RV.freeze {r : R} (g : Gd K b F σ H env) (h : RV K b F H σ env v r) : ∃ F', Same F F' ∧ Gd K b F' σ H env ∧ Dn K F' v r.d := by
  cases r with
  | im d => exact ⟨F, Same.refl F, g, h⟩
  | fr d =>
    obtain ⟨q, rfl, h1, h2, h3, h4⟩ := h
    exact g.freezeFr h1 h2 h3 h4
end

/-! ### what a combinator's reading is -/
abbrev EF := Ev → Option (R × Ev)
abbrev PF := Ev → Option (P × Ev)
abbrev AF := Ev → Option (List P × Ev)
abbrev BF := Ev → Option (Bool × Ev)
def tEv (K : PySem.W.Frag) (f : EF) : TE := fun σ H Q => ∃ b F env r env', Gd K b F σ H env ∧ f env = some (r, env') ∧
  ∀ v H' F', Gd K b F' σ H' env' → Same F F' → RV K b F' H' σ env' v r → Q v H'
def tPv (K : PySem.W.Frag) (f : PF) : TE := fun σ H Q => ∃ b F env p env', Gd K b F σ H env ∧ f env = some (p, env') ∧
  ∀ v H' F', Gd K b F' σ H' env' → Same F F' → PVal K F' σ v p → Q v H'
def tAv (K : PySem.W.Frag) (f : AF) : TA := fun σ H Q => ∃ b F env ps env', Gd K b F σ H env ∧ f env = some (ps, env') ∧
  ∀ vs H' F', Gd K b F' σ H' env' → Same F F' → PVals K F' σ vs ps → Q vs H'
def tBv (K : PySem.W.Frag) (f : BF) : TT := fun σ H Q => ∃ b F env k env', Gd K b F σ H env ∧ f env = some (k, env') ∧
  ∀ H' F', Gd K b F' σ H' env' → Same F F' → Q k H'
section
variable {X : Cx}
theorem _root_.L2.PE.imp {e : Expr} {t t' : TE} (h : PE X e t) (k : ∀ σ H Q, t' σ H Q → t σ H Q) : PE X e t' := ⟨fun pins s σ H Q I q => h.run pins s σ H Q I (k σ H Q q)⟩
theorem _root_.L2.PT.imp {e : Expr} {t t' : TT} (h : PT X e t) (k : ∀ σ H Q, t' σ H Q → t σ H Q) : PT X e t' := ⟨fun pins s σ H Q I q => h.run pins s σ H Q I (k σ H Q q)⟩
theorem _root_.L2.PA.imp {e : List Expr} {t t' : TA} (h : PA X e t) (k : ∀ σ H Q, t' σ H Q → t σ H Q) : PA X e t' := ⟨fun pos pins s σ H Q I q => h.run pos pins s σ H Q I (k σ H Q q)⟩
abbrev QE (X : Cx) (e : Expr) (f : EF) : Prop := PE X e (tEv X.K f)
abbrev QP (X : Cx) (e : Expr) (f : PF) : Prop := PE X e (tPv X.K f)
abbrev QT (X : Cx) (e : Expr) (f : BF) : Prop := PT X e (tBv X.K f)
abbrev QA (X : Cx) (e : List Expr) (f : AF) : Prop := PA X e (tAv X.K f)

/-! ### the basic combinators -/
def pE (f : EF) : PF := fun env => match f env with
  | none => none
  | some (r, e) => some (.val r.d, e)
def pV (i : Nat) : PF := fun env => match (env[i]?).bind C.rd with
  | some _ => some (.slot i, env)
  | none => none
def eC (d : D) : EF := fun env => some (.im d, env)
def eV (i : Nat) : EF := fun env => match env[i]? with
  | some c => match c.rd with
    | none => none
    | some d => some (.im d, env.set i c.fz)
  | none => none
theorem QE.p {e : Expr} {f : EF} (h : QE X e f) : QP X e (pE f) := h.imp fun σ H Q q => by
  obtain ⟨b, F, env, p, env', g, hf, k⟩ := q
  unfold pE at hf
  cases q : f env with
  | none => rw [q] at hf; cases hf
  | some re =>
    obtain ⟨r, e1⟩ := re
    rw [q] at hf
    cases hf
    refine ⟨b, F, env, r, env', g, q, fun v H' F' g' sm rv => ?_⟩
    obtain ⟨F2, s2, g2, d2⟩ := rv.freeze g'
    exact k v H' F2 g2 (sm.trans s2) d2
theorem join_of {σ : L2.St} {i : Nat} {v : V} (h : σ[i]?.join = some v) : σ[i]? = some (some v) := by
  cases q : σ[i]? with
  | none => rw [q] at h; cases h
  | some w => rw [q] at h; rw [show w = some v from h]
theorem Gd.there {K : PySem.W.Frag} {b : Base} {F H : Hp} {σ : L2.St} {env : Ev} (g : Gd K b F σ H env) {i : Nat} {c : C} {d : D} (h : env[i]? = some c) (hd : c.rd = some d) : ∃ v, σ[i]? = some (some v) := by
  have k := g.cells i c h
  cases c with
  | un => cases hd
  | im d => obtain ⟨v, e, _⟩ := k; exact ⟨v, join_of e⟩
  | ow d => obtain ⟨v, e, _⟩ := k; exact ⟨_, join_of e⟩
  | bo d => obtain ⟨v, e, _⟩ := k; exact ⟨_, join_of e⟩
  | bf d => obtain ⟨v, e, _⟩ := k; exact ⟨v, join_of e⟩
theorem q_pv {e : Expr} {i : Nat} (h : PE X e (tVar i)) : QP X e (pV i) := h.imp fun σ H Q q => by
  obtain ⟨b, F, env, p, env', g, hf, k⟩ := q
  unfold pV at hf
  cases q : env[i]? with
  | none => rw [q] at hf; cases hf
  | some c =>
    rw [q] at hf
    cases q2 : c.rd with
    | none => simp only [Option.bind_some, q2] at hf; cases hf
    | some d =>
      simp only [Option.bind_some, q2] at hf
      cases hf
      obtain ⟨v, e⟩ := g.there q q2
      exact ⟨v, e, k v H F g (Same.refl F) (by show σ[i]?.join = some v; rw [e]; rfl)⟩
theorem q_ev {e : Expr} {i : Nat} (h : PE X e (tVar i)) : QE X e (eV i) := h.imp fun σ H Q q => by
  obtain ⟨b, F, env, p, env', g, hf, k⟩ := q
  unfold eV at hf
  cases q : env[i]? with
  | none => rw [q] at hf; cases hf
  | some c =>
    rw [q] at hf
    cases q2 : c.rd with
    | none => simp only [q2] at hf; cases hf
    | some d =>
      simp only [q2] at hf
      cases hf
      obtain ⟨v, e⟩ := g.there q q2
      obtain ⟨F', sm, g', hd⟩ := g.freeze q
      have : c = .ow d ∨ c = .bo d ∨ c = .im d ∨ c = .bf d := by
        cases c <;> cases q2 <;> simp
      obtain ⟨v', e1, e2⟩ := hd d this
      refine ⟨v, e, k v H F' g' sm ?_⟩
      rw [e] at e1; cases e1
      exact e2
def D.flat : D → Bool
  | .non => true
  | .bl _ => true
  | .int _ => true
  | .str _ => true
  | .ty _ => true
  | .rf _ => true
  | _ => false
def D.v : D → V
  | .bl b => .bl b
  | .int i => .int i
  | .str x => .str (S x)
  | .ty n => .ty n
  | .rf a => .ref a
  | _ => .non
theorem Dn.flat {K : PySem.W.Frag} {F : Hp} : ∀ {d : D}, d.flat = true → Dn K F d.v d
  | .non, _ => .non
  | .bl b, _ => .bl b
  | .int i, _ => .int i
  | .str x, _ => .str x
  | .ty n, _ => .ty n
  | .rf a, _ => .rf a
theorem q_c {e : Expr} {d : D} (h : PE X e (tC d.v)) (hd : d.flat = true := by rfl) : QE X e (eC d) := h.imp fun σ H Q q => by
  obtain ⟨b, F, env, p, env', g, hf, k⟩ := q
  cases hf
  exact k _ H F g (Same.refl F) (Dn.flat hd)
theorem q_int {i : Int} {j pos} : QE X (.Constant (.int i) j pos) (eC (.int i)) := q_c pe_int
theorem q_bl {i : Bool} {j pos} : QE X (.Constant (.bool i) j pos) (eC (.bl i)) := q_c pe_bl
theorem q_non {j pos} : QE X (.Constant .none j pos) (eC .non) := q_c pe_non
theorem q_str {x : Tx} {z : Str} {j pos} (h : z = S x := by decide +kernel) : QE X (.Constant (.str z) j pos) (eC (.str x)) := by
  subst h; exact q_c pe_str

/-! ### what an operation on read values may do -/
def RF (K : PySem.W.Frag) (H F' H' : Hp) (v : V) : R → Prop
  | .im d => Dn K F' v d
  | .fr d => ∃ p, v = .ref p ∧ H p = none ∧ F' p = none ∧ OwnO K F' H' p d
theorem RF.rv {K : PySem.W.Frag} {b : Base} {F H F' H' : Hp} {σ : L2.St} {env : Ev} {v : V} {r : R} (g : Gd K b F σ H env) (h : RF K H F' H' v r) : RV K b F' H' σ env v r := by
  cases r with
  | im d => exact h
  | fr d =>
    obtain ⟨p, e, h1, h2, h3⟩ := h
    refine ⟨p, e, h3, h2, g.h0 h1, fun i o => ?_⟩
    obtain ⟨⟨c, hc, ho⟩, _⟩ := id o
    obtain ⟨q, w, ⟨x, hx⟩, _⟩ := (g.cells i c hc).ownSome ho
    rw [o.join] at w; cases w
    rw [h1] at hx; cases hx
/-- a two-place operation -/
def OpOk (K : PySem.W.Frag) (r : R2) (f : D → D → Option R) : Prop := ∀ F H x y dx dy res Q, Ag F H → RdD K F H x dx → RdD K F H y dy → f dx dy = some res →
  (∀ v H' F', Xt F H F' H' → RF K H F' H' v res → Q v H') → r x y H Q
def CallOk (K : PySem.W.Frag) (r : List V → Hp → VK → Prop) (f : List D → Option R) : Prop := ∀ F H vs ds res Q, Ag F H → RdAll K F H vs ds → f ds = some res →
  (∀ v H' F', Xt F H F' H' → RF K H F' H' v res → Q v H') → r vs H Q
def MtOk (K : PySem.W.Frag) (r : V → List V → Hp → VK → Prop) (f : D → List D → Option R) : Prop := ∀ F H x vs dx ds res Q, Ag F H → RdD K F H x dx → RdAll K F H vs ds → f dx ds = some res →
  (∀ v H' F', Xt F H F' H' → RF K H F' H' v res → Q v H') → r x vs H Q
def eOp (f : D → D → Option R) (pa pb : PF) : EF := fun env => match pa env with
  | none => none
  | some (p, e1) => match pb e1 with
    | none => none
    | some (q, e2) => match rdP e2 p with
      | none => none
      | some x => match rdP e2 q with
        | none => none
        | some y => match f x y with
          | none => none
          | some r => some (r, e2)
theorem tOp_of {r : R2} {f : D → D → Option R} {pa pb : PF} (ok : OpOk X.K r f) {σ : L2.St} {H : Hp} {Q : VK} (q : tEv X.K (eOp f pa pb) σ H Q) : tOp r (tPv X.K pa) (tPv X.K pb) σ H Q := by
  obtain ⟨b, F, env, res, env', g, hf, k⟩ := q
  unfold eOp at hf
  split at hf
  · cases hf
  rename_i p e1 h1
  split at hf
  · cases hf
  rename_i q e2 h2
  split at hf
  · cases hf
  rename_i x h3
  split at hf
  · cases hf
  rename_i y h4
  split at hf
  · cases hf
  rename_i r h5
  cases hf
  refine ⟨b, F, env, p, e1, g, h1, fun v H1 F1 g1 s1 r1 => ⟨b, F1, e1, q, env', g1, h2, fun w H2 F2 g2 s2 r2 => ?_⟩⟩
  refine ok F2 H2 v w x y res Q g2.same (g2.rd (r1.mono s2) h3) (g2.rd r2 h4) h5 fun u H3 F3 xt rf => ?_
  exact k u H3 F3 (g2.ext xt) ((s1.trans s2).trans xt.ff) (rf.rv g2)
theorem q_op {a c : Expr} {op : Operator} {r : R2} {f : D → D → Option R} {pa pb : PF} {pos : Pos} (ok : OpOk X.K r f) (ho : OpR X (binaryOp op) r) (ha : QP X a pa) (hb : QP X c pb) : QE X (.BinOp a op c pos) (eOp f pa pb) :=
  (pe_op ho ha hb).imp fun _ _ _ q => tOp_of ok q
theorem q_cmp {a c : Expr} {op : CmpOp} {r : R2} {f : D → D → Option R} {pa pb : PF} {pos : Pos} (ok : OpOk X.K r f) (ho : OpR X (compareOp op) r) (ha : QP X a pa) (hb : QP X c pb) (hm : behindInMarks op c = false := by first | exact nomark _ | rfl) : QE X (.Compare a [op] [c] pos) (eOp f pa pb) :=
  (pe_cmpR ho ha hb hm).imp fun _ _ _ q => tOp_of ok q
theorem q_ix {a c : Expr} {r : R2} {f : D → D → Option R} {pa pb : PF} {pos : Pos} (ok : OpOk X.K r f) (ho : IxR X r) (ha : QP X a pa) (hb : QP X c pb) (hs : PlainIx c := by exact fun _ _ => rfl) : QE X (.Subscript a c pos) (eOp f pa pb) :=
  (pe_ix ho ha hb hs).imp fun _ _ _ q => tOp_of ok q

/-! ### tests -/
/-- a value that is True or False -/
def bE (f : EF) : BF := fun env => match f env with
  | some (.im (.bl k), e) => some (k, e)
  | _ => none
theorem bE_some {f : EF} {env env' : Ev} {k : Bool} (h : bE f env = some (k, env')) : f env = some (.im (.bl k), env') := by
  unfold bE at h
  split at h
  · cases h; assumption
  · cases h
theorem Dn.bl_inv {K : PySem.W.Frag} {F : Hp} {v : V} {k : Bool} (h : Dn K F v (.bl k)) : v = .bl k := by cases h; rfl
theorem q_tcmp {a c : Expr} {op : CmpOp} {r : R2} {f : D → D → Option R} {pa pb : PF} {pos : Pos} (ok : OpOk X.K r f) (ho : OpR X (compareOp op) r) (ha : QP X a pa) (hb : QP X c pb) (hm : behindInMarks op c = false := by first | exact nomark _ | rfl) : QT X (.Compare a [op] [c] pos) (bE (eOp f pa pb)) :=
  (pt_cmpR ho ha hb hm).imp fun σ H Q q => by
    obtain ⟨b, F, env, k, env', g, hf, w⟩ := q
    show tOp r (tPv X.K pa) (tPv X.K pb) σ H fun x H' => ∃ k, x = .bl k ∧ Q k H'
    refine tOp_of ok ⟨b, F, env, _, env', g, bE_some hf, fun v H' F' g' sm rv => ?_⟩
    exact ⟨k, Dn.bl_inv rv, w H' F' g' sm⟩
/-- and, or, not -/
def bAnd (f g : BF) : BF := fun env => match f env with
  | none => none
  | some (true, e) => g e
  | some (false, e) => some (false, e)
def bOr (f g : BF) : BF := fun env => match f env with
  | none => none
  | some (true, e) => some (true, e)
  | some (false, e) => g e
def bNot (f : BF) : BF := fun env => match f env with
  | none => none
  | some (k, e) => some (!k, e)
def QW (X : Cx) (e : Expr) (f : BF) : Prop := PW X e (tBv X.K f)
theorem _root_.L2.PW.imp {e : Expr} {t t' : TT} (h : PW X e t) (k : ∀ σ H Q, t' σ H Q → t σ H Q) : PW X e t' := ⟨fun wh pins s σ H Q I q => h.run wh pins s σ H Q I (k σ H Q q)⟩
theorem q_and1 {a : Expr} {f : BF} {pos : Pos} (h : QT X a f) : QW X (.BoolOp .And [a] pos) f := pw_and1 h
theorem q_or1 {a : Expr} {f : BF} {pos : Pos} (h : QT X a f) : QW X (.BoolOp .Or [a] pos) f := pw_or1 h
theorem q_and {a c : Expr} {rest : List Expr} {f g : BF} {pos : Pos} (ha : QT X a f) (hb : QW X (.BoolOp .And (c :: rest) pos) g) : QW X (.BoolOp .And (a :: c :: rest) pos) (bAnd f g) :=
  (pw_and ha hb).imp fun σ H Q q => by
    obtain ⟨b, F, env, k, env', gd, hf, w⟩ := q
    unfold bAnd at hf
    cases q1 : f env with
    | none => rw [q1] at hf; cases hf
    | some re =>
      obtain ⟨k1, e1⟩ := re
      rw [q1] at hf
      refine ⟨b, F, env, k1, e1, gd, q1, fun H1 F1 g1 s1 => ?_⟩
      cases k1 with
      | true => exact iteT ⟨b, F1, e1, k, env', g1, hf, fun H2 F2 g2 s2 => w H2 F2 g2 (s1.trans s2)⟩
      | false => cases hf; exact iteF (w H1 F1 g1 s1)
theorem q_or {a c : Expr} {rest : List Expr} {f g : BF} {pos : Pos} (ha : QT X a f) (hb : QW X (.BoolOp .Or (c :: rest) pos) g) : QW X (.BoolOp .Or (a :: c :: rest) pos) (bOr f g) :=
  (pw_or ha hb).imp fun σ H Q q => by
    obtain ⟨b, F, env, k, env', gd, hf, w⟩ := q
    unfold bOr at hf
    cases q1 : f env with
    | none => rw [q1] at hf; cases hf
    | some re =>
      obtain ⟨k1, e1⟩ := re
      rw [q1] at hf
      refine ⟨b, F, env, k1, e1, gd, q1, fun H1 F1 g1 s1 => ?_⟩
      cases k1 with
      | false => exact iteF ⟨b, F1, e1, k, env', g1, hf, fun H2 F2 g2 s2 => w H2 F2 g2 (s1.trans s2)⟩
      | true => cases hf; exact iteT (w H1 F1 g1 s1)
theorem QW.t {e : Expr} {f : BF} (h : QW X e f) : QT X e f := PW.pt h
theorem q_not {a : Expr} {f : BF} {pos : Pos} (h : QT X a f) : QT X (.UnaryOp .Not a pos) (bNot f) :=
  (pt_not h).imp fun σ H Q q => by
    obtain ⟨b, F, env, k, env', gd, hf, w⟩ := q
    unfold bNot at hf
    cases q1 : f env with
    | none => rw [q1] at hf; cases hf
    | some re =>
      obtain ⟨k1, e1⟩ := re
      rw [q1] at hf
      cases hf
      exact ⟨b, F, env, k1, env', gd, q1, fun H1 F1 g1 s1 => w H1 F1 g1 s1⟩
/-- any value as a test -/
def SL : Nat := 16777216
theorem SL_eq : sizeLine = SL := sizeLine_eq
def D.truth : D → Option Bool
  | .non => some false
  | .bl k => some k
  | .int i => some (i != 0)
  | .str x => if x.length ≤ SL then some (!x.isEmpty) else none
  | .tup xs => some (!xs.isEmpty)
  | .lst xs => some (!xs.isEmpty)
  | .fz xs => some (!xs.isEmpty)
  | .dk kvs => some (!kvs.isEmpty)
  | _ => none
theorem DnAll.isEmpty {K : PySem.W.Frag} {F : Hp} {vs : List V} {ds : List D} (h : DnAll K F vs ds) : (!vs.isEmpty) = !ds.isEmpty := by cases h <;> rfl
theorem KvAll.isEmpty {K : PySem.W.Frag} {F : Hp} {vs : List (Key × V)} {ds : List (Ky × D)} (h : KvAll K F vs ds) : (!vs.isEmpty) = !ds.isEmpty := by cases h <;> rfl
/-- a dict's truth too where it is locked -/
def TruW (K : PySem.W.Frag) (x : V) (H : Hp) (k : Bool) : Prop := TruV K x H k ∨ ∃ p kvs, x = .ref p ∧ Rd H p (.dK kvs) ∧ k = !kvs.isEmpty
theorem truW_ok : TruR X (fun x H Q => ∃ k, TruW X.K x H k ∧ Q k H) := by
  intro pins s σ H x v Q I rx h
  obtain ⟨k, e | ⟨p, kvs, rfl, hx, e⟩, q⟩ := h
  · exact tru_ok pins s σ H x v Q I rx ⟨k, e, q⟩
  · cases rx
    subst e
    have hs : sizeLine = 16777216 := sizeLine_eq
    obtain ⟨hz, hS, vs, r, m⟩ : kvs.length ≤ sizeLine ∧ (p == sysModules) = false ∧ ∃ vs, KV kvs vs ∧ s.heap.DictOf (mixKind X.prog X.w) p vs := hx.ok I.hok
    have hlen : kvs.length = vs.length := Paired.length r
    refine wpAny_truthy_dict hS m (by omega) ⟨H, I.tok _, ?_⟩
    rw [isEmpty_kv r]; exact q
theorem truth_ok {K : PySem.W.Frag} {F H : Hp} {v : V} {d : D} {k : Bool} (sm : Ag F H) (h : RdD K F H v d) (t : d.truth = some k) : TruW K v H k := by
  rcases h with h | ⟨p, rfl, h⟩
  · cases h with
    | non => cases t; exact .inl rfl
    | bl b => cases t; exact .inl rfl
    | int i => cases t; exact .inl rfl
    | ty n => cases t
    | rf n => cases t
    | str x =>
      have t : (if x.length ≤ SL then some (!x.isEmpty) else none) = some k := t
      by_cases c : x.length ≤ SL
      · rw [if_pos c] at t; cases t
        refine .inl ⟨by rw [S_length, SL_eq]; exact c, ?_⟩
        rw [S_length]
        cases x with
        | nil => rfl
        | cons a l => simp; omega
      · rw [if_neg c] at t; cases t
    | tup h1 h2 => cases t; exact .inl (.inr (.inl ⟨_, sm.t h1, h2.isEmpty.symm⟩))
    | lst h1 h2 => cases t; exact .inl (.inl ⟨_, .of (sm.lst h1), h2.isEmpty.symm⟩)
    | fz h1 h2 => cases t; exact .inl (.inl ⟨_, sm.l h1, h2.isEmpty.symm⟩)
    | dk h1 h2 => cases t; exact .inr ⟨_, _, rfl, sm.rd h1, h2.isEmpty.symm⟩
  · cases d <;> simp only [OwnO] at h
    · obtain ⟨vs, h1, h2⟩ := h
      cases t; exact .inl (.inl ⟨_, .of h1, h2.isEmpty.symm⟩)
    · obtain ⟨ks, h1, h2⟩ := h
      cases t; exact .inr ⟨_, _, rfl, .inl h1, h2.isEmpty.symm⟩
/-- truth of what is no dict -/
def D.truthN : D → Option Bool
  | .dk _ => none
  | d => d.truth
theorem truthN_ok {K : PySem.W.Frag} {F H : Hp} {v : V} {d : D} {k : Bool} (sm : Ag F H) (h : Dn K F v d) (t : d.truthN = some k) : TruV K v H k := by
  have t2 : d.truth = some k := by cases d <;> first | exact t | cases t
  rcases truth_ok (H := H) sm (.inl h) t2 with q | ⟨p, kvs, rfl, q, _⟩
  · exact q
  · cases h with
    | dk _ _ => cases t
    | rf _ => cases t
    | tup h1 h2 => cases t; exact .inr (.inl ⟨_, sm.t h1, h2.isEmpty.symm⟩)
    | lst h1 h2 => cases t; exact .inl ⟨_, .of (sm.lst h1), h2.isEmpty.symm⟩
    | fz h1 h2 => cases t; exact .inl ⟨_, sm.l h1, h2.isEmpty.symm⟩
def bP (p : PF) : BF := fun env => match p env with
  | none => none
  | some (q, e) => match rdP e q with
    | none => none
    | some d => match d.truth with
      | none => none
      | some k => some (k, e)
theorem q_truth {a : Expr} {p : PF} (h : QP X a p) (he : ∀ whole, isTrue a X.env whole = (do let v ← whole; standAt a.pos; holding [v] (truthy v)) := by intro _; rfl) : QT X a (bP p) :=
  (PT.imp (t := fun σ H Q => tPv X.K p σ H fun x H' => ∃ k, TruW X.K x H' k ∧ Q k H') ⟨fun pins s σ H Q I h' => isTrue_plain (thn (h.run pins s σ H _ I h') fun v s1 ⟨x, H1, I1, r1, q1⟩ => truW_ok pins s1 σ H1 x v Q I1 r1 q1) (he _)⟩) fun σ H Q q => by
    obtain ⟨b, F, env, k, env', gd, hf, w⟩ := q
    unfold bP at hf
    split at hf
    · cases hf
    rename_i p1 e1 h1
    split at hf
    · cases hf
    rename_i d h2
    split at hf
    · cases hf
    rename_i k1 h3
    cases hf
    exact ⟨b, F, env, p1, env', gd, h1, fun v H' F' g' sm pv => ⟨k, truth_ok g'.same (g'.rd pv h2) h3, w H' F' g' sm⟩⟩
/-- a if t else b -/
def eIf (t : BF) (f g : EF) : EF := fun env => match t env with
  | none => none
  | some (true, e) => f e
  | some (false, e) => g e
theorem q_ifx {c a d : Expr} {t : BF} {f g : EF} {pos : Pos} (hc : QT X c t) (ha : QE X a f) (hb : QE X d g) : QE X (.IfExp c a d pos) (eIf t f g) :=
  (pe_ifExp hc ha hb).imp fun σ H Q q => by
    obtain ⟨b, F, env, r, env', gd, hf, w⟩ := q
    unfold eIf at hf
    cases q1 : t env with
    | none => rw [q1] at hf; cases hf
    | some re =>
      obtain ⟨k1, e1⟩ := re
      rw [q1] at hf
      refine ⟨b, F, env, k1, e1, gd, q1, fun H1 F1 g1 s1 => ?_⟩
      cases k1 with
      | true => exact iteT ⟨b, F1, e1, r, env', g1, hf, fun v H2 F2 g2 s2 rv => w v H2 F2 g2 (s1.trans s2) rv⟩
      | false => exact iteF ⟨b, F1, e1, r, env', g1, hf, fun v H2 F2 g2 s2 rv => w v H2 F2 g2 (s1.trans s2) rv⟩
/-- x and y, x or y, not x as values: by truth; the first operand frozen -/
def eOr (f g : EF) : EF := fun env => match f env with
  | none => none
  | some (r, e) => match r.d.truthN with
    | none => none
    | some true => some (.im r.d, e)
    | some false => g e
def eAnd (f g : EF) : EF := fun env => match f env with
  | none => none
  | some (r, e) => match r.d.truthN with
    | none => none
    | some false => some (.im r.d, e)
    | some true => g e
def eNot (f : EF) : EF := fun env => match f env with
  | none => none
  | some (r, e) => match r.d.truthN with
    | none => none
    | some k => some (.im (.bl (!k)), e)
theorem q_orT {a c : Expr} {rest : List Expr} {f g : EF} {pos : Pos} (ha : QE X a f) (hb : QE X (.BoolOp .Or (c :: rest) pos) g) : QE X (.BoolOp .Or (a :: c :: rest) pos) (eOr f g) :=
  (pe_orT ha hb).imp fun σ H Q q => by
    obtain ⟨b, F, env, r, env', gd, hf, w⟩ := q
    unfold eOr at hf
    cases q1 : f env with
    | none => rw [q1] at hf; cases hf
    | some re =>
      obtain ⟨r1, e1⟩ := re
      rw [q1] at hf
      simp only at hf
      refine ⟨b, F, env, r1, e1, gd, q1, fun v H1 F1 g1 s1 rv => ?_⟩
      obtain ⟨F2, s2, g2, d2⟩ := rv.freeze g1
      cases q2 : r1.d.truthN with
      | none => rw [q2] at hf; cases hf
      | some k =>
        rw [q2] at hf
        refine ⟨k, truthN_ok g2.same d2 q2, ?_⟩
        cases k with
        | true => cases hf; exact iteT (w v H1 F2 g2 (s1.trans s2) d2)
        | false => exact iteF ⟨b, F2, e1, r, env', g2, hf, fun v H2 F3 g3 s3 rv => w v H2 F3 g3 ((s1.trans s2).trans s3) rv⟩
theorem q_andT {a c : Expr} {rest : List Expr} {f g : EF} {pos : Pos} (ha : QE X a f) (hb : QE X (.BoolOp .And (c :: rest) pos) g) : QE X (.BoolOp .And (a :: c :: rest) pos) (eAnd f g) :=
  (pe_andT ha hb).imp fun σ H Q q => by
    obtain ⟨b, F, env, r, env', gd, hf, w⟩ := q
    unfold eAnd at hf
    cases q1 : f env with
    | none => rw [q1] at hf; cases hf
    | some re =>
      obtain ⟨r1, e1⟩ := re
      rw [q1] at hf
      simp only at hf
      refine ⟨b, F, env, r1, e1, gd, q1, fun v H1 F1 g1 s1 rv => ?_⟩
      obtain ⟨F2, s2, g2, d2⟩ := rv.freeze g1
      cases q2 : r1.d.truthN with
      | none => rw [q2] at hf; cases hf
      | some k =>
        rw [q2] at hf
        refine ⟨k, truthN_ok g2.same d2 q2, ?_⟩
        cases k with
        | false => cases hf; exact iteF (w v H1 F2 g2 (s1.trans s2) d2)
        | true => exact iteT ⟨b, F2, e1, r, env', g2, hf, fun v H2 F3 g3 s3 rv => w v H2 F3 g3 ((s1.trans s2).trans s3) rv⟩
theorem q_one {a : Expr} {op : BoolOp} {f : EF} {pos : Pos} (h : QE X a f) : QE X (.BoolOp op [a] pos) f := pe_one h
theorem q_enot {a : Expr} {f : EF} {pos : Pos} (h : QE X a f) : QE X (.UnaryOp .Not a pos) (eNot f) :=
  (pe_notT h).imp fun σ H Q q => by
    obtain ⟨b, F, env, k, env', gd, hf, w⟩ := q
    unfold eNot at hf
    split at hf
    · cases hf
    rename_i r e1 h1
    split at hf
    · cases hf
    rename_i k1 h3
    cases hf
    refine ⟨b, F, env, r, env', gd, h1, fun v H' F' g' sm rv => ?_⟩
    obtain ⟨F2, s2, g2, d2⟩ := rv.freeze g'
    exact ⟨k1, truthN_ok g2.same d2 h3, w _ H' F2 g2 (sm.trans s2) (.bl _)⟩

/-! ### arguments -/
def aNil : AF := fun env => some ([], env)
def aCons (p : PF) (a : AF) : AF := fun env => match p env with
  | none => none
  | some (x, e1) => match a e1 with
    | none => none
    | some (xs, e2) => some (x :: xs, e2)
theorem q_anil : QA X [] aNil := pa_nil.imp fun σ H Q q => by
  obtain ⟨b, F, env, ps, env', g, hf, k⟩ := q
  cases hf
  exact k [] H F g (Same.refl F) .nil
theorem q_acons {e : Expr} {es : List Expr} {p : PF} {a : AF} (he : QP X e p) (ha : QA X es a) (hs : starEach (e :: es) X.env = (false, eval e X.env) :: starEach es X.env := by rfl) : QA X (e :: es) (aCons p a) :=
  (pa_cons he ha hs).imp fun σ H Q q => by
    obtain ⟨b, F, env, ps, env', g, hf, k⟩ := q
    unfold aCons at hf
    split at hf
    · cases hf
    rename_i x e1 h1
    split at hf
    · cases hf
    rename_i xs e2 h2
    cases hf
    exact ⟨b, F, env, x, e1, g, h1, fun v H1 F1 g1 s1 r1 => ⟨b, F1, e1, xs, env', g1, h2, fun vs H2 F2 g2 s2 r2 => k _ H2 F2 g2 (s1.trans s2) (.cons (r1.mono s2) r2)⟩⟩
def eCall (f : List D → Option R) (a : AF) : EF := fun env => match a env with
  | none => none
  | some (ps, e) => match rdPs e ps with
    | none => none
    | some ds => match f ds with
      | none => none
      | some r => some (r, e)
theorem tCB_of {r : List V → Hp → VK → Prop} {f : List D → Option R} {a : AF} (ok : CallOk X.K r f) {σ : L2.St} {H : Hp} {Q : VK} (q : tEv X.K (eCall f a) σ H Q) : tCB r (tAv X.K a) σ H Q := by
  obtain ⟨b, F, env, res, env', g, hf, k⟩ := q
  unfold eCall at hf
  split at hf
  · cases hf
  rename_i ps e1 h1
  split at hf
  · cases hf
  rename_i ds h2
  split at hf
  · cases hf
  rename_i r h3
  cases hf
  refine ⟨b, F, env, ps, env', g, h1, fun vs H1 F1 g1 s1 r1 => ?_⟩
  exact ok F1 H1 vs ds res Q g1.same (g1.rds r1 h2) h3 fun v H2 F2 xt rf => k v H2 F2 (g1.ext xt) (s1.trans xt.ff) (rf.rv g1)
theorem q_callB {x : Str} {id : String} {r : List V → Hp → VK → Prop} {f : List D → Option R} {a : AF} {e : Expr} {es : List Expr} {p pos : Pos} (ok : CallOk X.K r f) (hc : CallR X (.builtin id) r) (hm : X.mg x = none) (ha : QA X (e :: es) a) (hg : Gl X x := by rfl) (hv : bootBuiltins x = some (.builtin id) := by decide +kernel)
    (hn : x ≠ "__name__" := by decide) (hdb : (x == ("__debug__" : Str)) = false := by decide)
    (he : starEach (e :: es) X.env = (false, eval e X.env) :: starEach es X.env := by rfl) (hpl : (backTo pos (starEach es X.env)).any (·.1) = false := by rfl) : QE X (.Call (.Name x p) (e :: es) [] pos) (eCall f a) :=
  (pe_callB hc hg hm hv ha hn hdb he hpl).imp fun _ _ _ q => tCB_of ok q
theorem q_callT {x : Str} {id : String} {r : List V → Hp → VK → Prop} {f : List D → Option R} {a : AF} {e : Expr} {es : List Expr} {p pos : Pos} (ok : CallOk X.K r f) (hc : CallR X (.type id) r) (hm : X.mg x = none) (ha : QA X (e :: es) a) (hg : Gl X x := by rfl) (hv : bootBuiltins x = some (.type id) := by decide +kernel)
    (hn : x ≠ "__name__" := by decide) (hdb : (x == ("__debug__" : Str)) = false := by decide)
    (he : starEach (e :: es) X.env = (false, eval e X.env) :: starEach es X.env := by rfl) (hpl : (backTo pos (starEach es X.env)).any (·.1) = false := by rfl) : QE X (.Call (.Name x p) (e :: es) [] pos) (eCall f a) :=
  (pe_callTy hc hg hm hv ha hn hdb he hpl).imp fun _ _ _ q => tCB_of ok q
theorem RdAll.dn {K : PySem.W.Frag} {F H : Hp} : ∀ {vs : List V} {ds : List D}, DnAll K F vs ds → RdAll K F H vs ds
  | _, _, .nil => .nil
  | _, _, .cons h t => .cons (.inl h) (RdAll.dn t)
/-- all operands values: frozen -/
def vals : List P → Option (List D)
  | [] => some []
  | .val d :: ps => match vals ps with
    | some ds => some (d :: ds)
    | none => none
  | _ => none
theorem vals_dn {K : PySem.W.Frag} {F : Hp} {σ : L2.St} : ∀ {vs : List V} {ps : List P} {ds : List D}, PVals K F σ vs ps → vals ps = some ds → DnAll K F vs ds
  | _, _, _, .nil, h => by cases h; exact .nil
  | _, _, _, .cons (p := .val d) (ps := ps) h1 t, h => by
    unfold vals at h
    split at h
    · rename_i ds q; cases h; exact .cons h1 (vals_dn t q)
    · cases h
  | _, _, _, .cons (p := .slot i) h1 t, h => by simp [vals] at h
/-- displays: a tuple, a list -/
def eTup (a : AF) : EF := fun env => match a env with
  | none => none
  | some (ps, e) => match vals ps with
    | none => none
    | some ds => if ds.length ≤ SL then some (.im (.tup ds), e) else none
def eLst (a : AF) : EF := fun env => match a env with
  | none => none
  | some (ps, e) => match vals ps with
    | none => none
    | some ds => if ds.length ≤ SL then some (.fr (.lst ds), e) else none
theorem Gd.newTup {K : PySem.W.Frag} {b : Base} {F H : Hp} {σ : L2.St} {env : Ev} {vs : List V} {ds : List D} (g : Gd K b F σ H env) (h : DnAll K F vs ds) {p : Addr} (n : H p = none) :
    Gd K b (upd F p (.tup vs)) σ (upd H p (.tup vs)) env ∧ Same F (upd F p (.tup vs)) ∧ Dn K (upd F p (.tup vs)) (.ref p) (.tup ds) := by
  have x : Xt F H (upd F p (.tup vs)) (upd H p (.tup vs)) := Xt.laid g.same n
  exact ⟨g.ext x, x.ff, .tup (.of upd_same) (h.mono x.ff)⟩
theorem q_tup {es : List Expr} {a : AF} {x1 : Nat} {pos : Pos} (h : QA X es a) : QE X (.Tuple es x1 pos) (eTup a) := (pe_tup h).imp fun σ H Q q => by
  obtain ⟨b, F, env, res, env', g, hf, k⟩ := q
  unfold eTup at hf
  split at hf
  · cases hf
  rename_i ps e1 h1
  split at hf
  · cases hf
  rename_i ds h2
  split at hf
  · rename_i hz
    cases hf
    refine ⟨b, F, env, ps, env', g, h1, fun vs H1 F1 g1 s1 r1 => ?_⟩
    have dn := vals_dn r1 h2
    refine ⟨by rw [dn.length, SL_eq]; exact hz, fun p hp => ?_⟩
    obtain ⟨g2, s2, d2⟩ := g1.newTup dn hp
    exact k _ _ _ g2 (s1.trans s2) d2
  · cases hf
theorem q_lst {es : List Expr} {a : AF} {pos : Pos} (h : QA X es a) : QE X (.List es pos) (eLst a) := (pe_lst h).imp fun σ H Q q => by
  obtain ⟨b, F, env, res, env', g, hf, k⟩ := q
  unfold eLst at hf
  split at hf
  · cases hf
  rename_i ps e1 h1
  split at hf
  · cases hf
  rename_i ds h2
  split at hf
  · rename_i hz
    cases hf
    refine ⟨b, F, env, ps, env', g, h1, fun vs H1 F1 g1 s1 r1 => ?_⟩
    have dn := vals_dn r1 h2
    refine ⟨by rw [dn.length, SL_eq]; exact hz, fun p hp => ?_⟩
    have x := Xt.fresh (o := .lst vs) g1.same hp
    refine k _ _ F1 (g1.ext x) s1 (RF.rv (H := H1) g1 ⟨p, rfl, hp, g1.same.free hp, vs, upd_same, dn⟩)
  · cases hf
end
end MP
namespace MP
open PySem PySem.Spec PyProof.Rows L2

/-! ### statements -/
inductive Fl where
  | nx | bk | ct | rt (r : R)
abbrev SF := Ev → Option (Fl × Ev)
def Fin (K : PySem.W.Frag) (b : Base) (F : Hp) (env' : Ev) (D : Ends) : Fl → Prop
  | .nx => ∀ σ' H' F', Gd K b F' σ' H' env' → Same F F' → D.nx σ' H'
  | .bk => ∀ σ' H' F', Gd K b F' σ' H' env' → Same F F' → D.bk σ' H'
  | .ct => ∀ σ' H' F', Gd K b F' σ' H' env' → Same F F' → D.ct σ' H'
  | .rt r => ∀ v σ' H' F', Gd K b F' σ' H' env' → Same F F' → RV K b F' H' σ' env' v r → D.rt v H'
theorem Fin.mono {K : PySem.W.Frag} {b : Base} {F F1 : Hp} {env' : Ev} {D : Ends} : ∀ {fl : Fl}, Fin K b F env' D fl → Same F F1 → Fin K b F1 env' D fl
  | .nx, h, s => fun σ' H' F' g q => h σ' H' F' g (s.trans q)
  | .bk, h, s => fun σ' H' F' g q => h σ' H' F' g (s.trans q)
  | .ct, h, s => fun σ' H' F' g q => h σ' H' F' g (s.trans q)
  | .rt r, h, s => fun v σ' H' F' g q => h v σ' H' F' g (s.trans q)
def tSv (K : PySem.W.Frag) (f : SF) : TS := fun D σ H => ∃ b F env fl env', Gd K b F σ H env ∧ f env = some (fl, env') ∧ Fin K b F env' D fl
theorem _root_.L2.PS.imp {X : Cx} {e : Stmt} {t t' : TS} (h : PS X e t) (k : ∀ D σ H, t' D σ H → t D σ H) : PS X e t' := ⟨fun pins s σ H D I q => h.run pins s σ H D I (k D σ H q)⟩
theorem _root_.L2.PSs.imp {X : Cx} {e : List Stmt} {t t' : TS} (h : PSs X e t) (k : ∀ D σ H, t' D σ H → t D σ H) : PSs X e t' := ⟨fun pins s σ H D I q => h.run pins s σ H D I (k D σ H q)⟩
theorem _root_.L2.PG.imp {X : Cx} {e : Expr} {t t' : TG} (h : PG X e t) (k : ∀ v σ H Q, t' v σ H Q → t v σ H Q) : PG X e t' := ⟨fun pins s σ H v u Q I r q => h.run pins s σ H v u Q I r (k v σ H Q q)⟩
theorem _root_.L2.PGs.imp {X : Cx} {e : List Expr} {t t' : TGs} (h : PGs X e t) (k : ∀ v σ H Q, t' v σ H Q → t v σ H Q) : PGs X e t' := ⟨fun pins s σ H v u Q I r q => h.run pins s σ H v u Q I r (k v σ H Q q)⟩
theorem _root_.L2.PI.imp {X : Cx} {tg e : Expr} {t t' : TI} (h : PI X tg e t) (k : ∀ σ H Q, t' σ H Q → t σ H Q) : PI X tg e t' := ⟨fun pins s σ H R I q => h.run pins s σ H R I (k σ H R q)⟩
abbrev QS (X : Cx) (e : Stmt) (f : SF) : Prop := PS X e (tSv X.K f)
abbrev QB (X : Cx) (e : List Stmt) (f : SF) : Prop := PSs X e (tSv X.K f)

section
variable {X : Cx}
def sNil : SF := fun env => some (.nx, env)
def sSeq (f g : SF) : SF := fun env => match f env with
  | none => none
  | some (.nx, e) => g e
  | some (fl, e) => some (fl, e)
theorem q_nil : QB X [] sNil := pss_nil.imp fun D σ H q => by
  obtain ⟨b, F, env, fl, env', g, hf, k⟩ := q
  cases hf
  exact k σ H F g (Same.refl F)
theorem q_cons {st : Stmt} {rest : List Stmt} {f g : SF} (h1 : QS X st f) (h2 : QB X rest g) : QB X (st :: rest) (sSeq f g) := (pss_cons h1 h2).imp fun D σ H q => by
  obtain ⟨b, F, env, fl, env', gd, hf, k⟩ := q
  unfold sSeq at hf
  cases q1 : f env with
  | none => rw [q1] at hf; cases hf
  | some re =>
    obtain ⟨fl1, e1⟩ := re
    rw [q1] at hf
    refine ⟨b, F, env, fl1, e1, gd, q1, ?_⟩
    cases fl1 with
    | nx => exact fun σ' H' F' g' s => ⟨b, F', e1, fl, env', g', hf, k.mono s⟩
    | bk => cases hf; exact k
    | ct => cases hf; exact k
    | rt r => cases hf; exact k
theorem q_blk1 {st : Stmt} {f : SF} (h1 : QS X st f) : QB X [st] f := pss_one h1
/-- storing at a name -/
def C.free : C → Bool
  | .bo _ => false
  | .bf _ => false
  | _ => true
def R.cell : R → C
  | .im d => .im d
  | .fr d => .ow d
def put (env : Ev) (i : Nat) (c : C) : Option Ev := match env[i]? with
  | none => none
  | some c0 => if c0.free then some (env.set i c) else none
theorem put_some {env env' : Ev} {i : Nat} {c : C} (h : put env i c = some env') : ∃ c0, env[i]? = some c0 ∧ c0.free = true ∧ env' = env.set i c := by
  unfold put at h
  split at h
  · cases h
  · rename_i c0 q
    split at h
    · rename_i w; cases h; exact ⟨c0, q, w, rfl⟩
    · cases h
theorem lt_of_get {α : Type} {l : List α} {i : Nat} {c : α} (h : l[i]? = some c) : i < l.length := by
  rcases Nat.lt_or_ge i l.length with q | q
  · exact q
  · rw [List.getElem?_eq_none q] at h; cases h
theorem Gd.put {K : PySem.W.Frag} {b : Base} {F H : Hp} {σ : L2.St} {env env' : Ev} {i : Nat} {v : V} {r : R} (g : Gd K b F σ H env) (h : RV K b F H σ env v r) (e : put env i r.cell = some env') : Gd K b F (σ.set i (some v)) H env' := by
  obtain ⟨c0, h0, hfree, rfl⟩ := put_some e
  have hi := lt_of_get h0
  have hσ : i < σ.length := by rw [← g.len]; exact hi
  have base : ∀ j, j ≠ i → ((σ.set i (some v))[j]?).join = (σ[j]?).join := fun j n => by rw [List.getElem?_set_ne (Ne.symm n)]
  have here : ((σ.set i (some v))[i]?).join = some v := by rw [List.getElem?_set_self hσ]; rfl
  refine ⟨by simpa using g.len, g.same, fun j c hj => ?_, fun j k p hj hk => ?_, g.keep, g.new⟩
  · rcases set_get hj with ⟨rfl, rfl, _⟩ | ⟨n, hj⟩
    · rw [here]
      cases r with
      | im d => exact ⟨v, rfl, h⟩
      | fr d =>
        obtain ⟨p, rfl, h1, h2, h3, _⟩ := h
        exact ⟨p, rfl, h1, h2, h3⟩
    · rw [base j n]; exact g.cells j c hj
  · have old : ∀ {j : Nat}, j ≠ i → OwnAt (env.set i r.cell) (σ.set i (some v)) j p → OwnAt env σ j p := fun {j} n ⟨⟨c, q1, q2⟩, q3⟩ => by
      rw [List.getElem?_set_ne (Ne.symm n)] at q1 q3
      exact ⟨⟨c, q1, q2⟩, q3⟩
    have new : OwnAt (env.set i r.cell) (σ.set i (some v)) i p → ∃ d, r = .fr d ∧ v = .ref p := fun ⟨⟨c, q1, q2⟩, q3⟩ => by
      rw [List.getElem?_set_self hi] at q1; cases q1
      rw [List.getElem?_set_self hσ] at q3
      cases r with
      | im d => cases q2
      | fr d => exact ⟨d, rfl, by simpa using q3⟩
    by_cases ej : j = i
    · subst ej
      by_cases ek : k = j
      · exact ek.symm
      · obtain ⟨d, rfl, rfl⟩ := new hj
        obtain ⟨p', e, _, _, _, no⟩ := h
        cases e
        exact absurd (old ek hk) (no k)
    · by_cases ek : k = i
      · subst ek
        obtain ⟨d, rfl, rfl⟩ := new hk
        obtain ⟨p', e, _, _, _, no⟩ := h
        cases e
        exact absurd (old ej hj) (no j)
      · exact g.dis j k p (old ej hj) (old ek hk)
def sAsg (i : Nat) (f : EF) : SF := fun env => match f env with
  | none => none
  | some (r, e) => match put e i r.cell with
    | none => none
    | some e2 => some (.nx, e2)
theorem tAsg_of {i : Nat} {f : EF} {t : TE} (h : ∀ σ H Q, tEv X.K f σ H Q → t σ H Q) {D : Ends} {σ : L2.St} {H : Hp} (q : tSv X.K (sAsg i f) D σ H) : tAsg t (gName i) D σ H := by
  obtain ⟨b, F, env, fl, env', gd, hf, k⟩ := q
  unfold sAsg at hf
  split at hf
  · cases hf
  rename_i r e1 h1
  split at hf
  · cases hf
  rename_i e2 h2
  cases hf
  exact h σ H _ ⟨b, F, env, r, e1, gd, h1, fun v H' F' g' s rv => k _ H' F' (g'.put rv h2) s⟩
theorem q_asgT {i : Nat} {st : Stmt} {f : EF} {t : TE} (hp : PS X st (tAsg t (gName i))) (h : ∀ σ H Q, tEv X.K f σ H Q → t σ H Q) : QS X st (sAsg i f) := hp.imp fun D σ H q => tAsg_of h q
theorem q_asg {i : Nat} {x : Str} {e : Expr} {f : EF} {pos pos' : Pos} (hN : X.N.Nodup) (hi : X.N[i]? = some x := by rfl) (hx : Loc X.env.scope x := by first | exact .inl rfl | exact .inr rfl) (he : QE X e f) (hs : swapsWith e (some (.Name x pos')) pos.line X.env = pure false := by rfl)
    (hf : X.fn x = true ∨ X.env.scope.names.lookup x = some .local := by first | exact .inl rfl | exact .inr rfl) : QS X (.Assign [.Name x pos'] e pos) (sAsg i f) :=
  q_asgT (ps_set hN hi hx he hs hf) fun _ _ _ q => q

/-! ### targets -/
abbrev GF := D → Ev → Option Ev
def tGv (K : PySem.W.Frag) (g : GF) : TG := fun v σ H Q => ∃ b F env d env', Gd K b F σ H env ∧ Dn K F v d ∧ g d env = some env' ∧ ∀ σ' H' F', Gd K b F' σ' H' env' → Same F F' → Q σ' H'
abbrev QG (X : Cx) (e : Expr) (g : GF) : Prop := PG X e (tGv X.K g)
abbrev GFs := List D → Ev → Option Ev
def tGvs (K : PySem.W.Frag) (g : GFs) : TGs := fun vs σ H Q => ∃ b F env ds env', Gd K b F σ H env ∧ DnAll K F vs ds ∧ g ds env = some env' ∧ ∀ σ' H' F', Gd K b F' σ' H' env' → Same F F' → Q σ' H'
abbrev QGs (X : Cx) (e : List Expr) (g : GFs) : Prop := PGs X e (tGvs X.K g)
def gN (i : Nat) : GF := fun d env => put env i (.im d)
theorem q_gn {i : Nat} {x : Str} {pos : Pos} (hN : X.N.Nodup) (hi : X.N[i]? = some x := by rfl) (hx : Loc X.env.scope x := by first | exact .inl rfl | exact .inr rfl) (hf : X.fn x = true ∨ X.env.scope.names.lookup x = some .local := by first | exact .inl rfl | exact .inr rfl) : QG X (.Name x pos) (gN i) :=
  (pg_name hN hi hx hf).imp fun v σ H Q q => by
    obtain ⟨b, F, env, d, env', g, hd, hg, k⟩ := q
    exact k _ H F (g.put (r := .im d) hd hg) (Same.refl F)
def gsNil : GFs := fun ds env => match ds with
  | [] => some env
  | _ => none
def gsCons (g : GF) (gs : GFs) : GFs := fun ds env => match ds with
  | [] => none
  | d :: r => match g d env with
    | none => none
    | some e => gs r e
theorem q_gsnil : QGs X [] gsNil := pgs_nil.imp fun vs σ H Q q => by
  obtain ⟨b, F, env, ds, env', g, hd, hg, k⟩ := q
  cases hd with
  | nil => cases hg; exact ⟨rfl, k σ H F g (Same.refl F)⟩
  | cons _ _ => cases hg
theorem q_gscons {e : Expr} {es : List Expr} {t : GF} {u : GFs} (h1 : QG X e t) (h2 : QGs X es u) (hs : (assignEach (e :: es) X.env).map (·.2) = assign e X.env :: (assignEach es X.env).map (·.2) := by rfl) : QGs X (e :: es) (gsCons t u) :=
  (pgs_cons h1 h2 hs).imp fun vs σ H Q q => by
    obtain ⟨b, F, env, ds, env', g, hd, hg, k⟩ := q
    cases hd with
    | nil => cases hg
    | cons h t =>
      unfold gsCons at hg
      split at hg
      · cases hg
      rename_i dd rr eq
      cases eq
      split at hg
      · cases hg
      rename_i e1 q1
      refine ⟨_, _, rfl, b, F, env, _, e1, g, h, q1, fun σ1 H1 F1 g1 s1 => ⟨b, F1, e1, _, env', g1, t.mono s1, hg, fun σ2 H2 F2 g2 s2 => k σ2 H2 F2 g2 (s1.trans s2)⟩⟩
def gT (gs : GFs) : GF := fun d env => match d with
  | .tup ds => gs ds env
  | _ => none
theorem q_gt {es : List Expr} {k : Nat} {t : GFs} {n : Nat} {pos : Pos} (hc : X.calm = true) (h : QGs X es t) (hlen : ∀ ds env e', t ds env = some e' → ds.length = n)
    (hn : (assignEach es X.env).length = n := by rfl) (hst : (assignEach es X.env).findIdx? (·.1) = none := by rfl) : QG X (.Tuple es k pos) (gT t) :=
  (pg_tup hc h hn hst).imp fun v σ H Q q => by
    obtain ⟨b, F, env, d, env', g, hd, hg, k⟩ := q
    cases hd with
    | tup h1 h2 =>
      have hg : t _ env = some env' := hg
      exact ⟨_, _, rfl, g.same.t h1, h2.length.trans (hlen _ _ _ hg), b, F, env, _, env', g, h2, hg, k⟩
    | non => cases hg
    | bl _ => cases hg
    | int _ => cases hg
    | str _ => cases hg
    | ty _ => cases hg
    | rf _ => cases hg
    | lst _ _ => cases hg
    | fz _ _ => cases hg
    | dk _ _ => cases hg
/-- target = value -/
def sAsgG (f : EF) (g : GF) : SF := fun env => match f env with
  | none => none
  | some (r, e) => match g r.d e with
    | none => none
    | some e2 => some (.nx, e2)
theorem q_asgG {tg e : Expr} {f : EF} {g : GF} {pos : Pos} (he : QE X e f) (hg : QG X tg g) (hs : swapsWithSole [tg] e pos.line X.env = pure false := by rfl) (hw : swappedStores [tg] e X.env = pure none := by rfl)
    (h1 : (assignEach [tg] X.env).map (·.2) = [assign tg X.env] := by rfl) : QS X (.Assign [tg] e pos) (sAsgG f g) := (ps_asg he hg hs hw h1).imp fun D σ H q => by
  obtain ⟨b, F, env, fl, env', gd, hf, k⟩ := q
  unfold sAsgG at hf
  split at hf
  · cases hf
  rename_i r e1 h1
  split at hf
  · cases hf
  rename_i e2 h2
  cases hf
  refine ⟨b, F, env, r, e1, gd, h1, fun v H' F' g' s rv => ?_⟩
  obtain ⟨F2, s2, g2, d2⟩ := rv.freeze g'
  exact ⟨b, F2, e1, r.d, env', g2, d2, h2, fun σ3 H3 F3 g3 s3 => k σ3 H3 F3 g3 ((s.trans s2).trans s3)⟩
/-- a, b = e1, e2 by swapped stores -/
def sPar (i j : Nat) (f h : EF) : SF := fun env => match f env with
  | none => none
  | some (r, e1) => match h e1 with
    | none => none
    | some (q, e2) => match put e2 i (.im r.d) with
      | none => none
      | some e3 => match put e3 j (.im q.d) with
        | none => none
        | some e4 => some (.nx, e4)
theorem q_par {i j : Nat} {x y : Str} {a c : Expr} {f h : EF} {px py pt pos : Pos} {kt k2 pt2} (hc : X.calm = true) (hN : X.N.Nodup) (hi : X.N[i]? = some x := by rfl) (hj : X.N[j]? = some y := by rfl) (hij : i ≠ j := by decide)
    (hx : X.env.scope.names.lookup x = some .local := by rfl) (hy : X.env.scope.names.lookup y = some .local := by rfl) (ha : QE X a f) (hb : QE X c h)
    (hw : swappedStores [.Tuple [.Name x px, .Name y py] kt pt] (.Tuple [a, c] k2 pt2) X.env = pure (some [x, y]) := by rfl)
    (hs : swapsWithSole [.Tuple [.Name x px, .Name y py] kt pt] (.Tuple [a, c] k2 pt2) pos.line X.env = pure false := by rfl)
    (n1 : starEach [a, c] X.env = (false, eval a X.env) :: starEach [c] X.env := by rfl) (n2 : starEach [c] X.env = (false, eval c X.env) :: starEach [] X.env := by rfl) :
    QS X (.Assign [.Tuple [.Name x px, .Name y py] kt pt] (.Tuple [a, c] k2 pt2) pos) (sPar i j f h) :=
  (ps_par hc hN hi hj hij hx hy (pa_cons ha (pa_cons hb pa_nil n2) n1) hw hs).imp fun D σ H q => by
    obtain ⟨b, F, env, fl, env', gd, hf, k⟩ := q
    unfold sPar at hf
    split at hf
    · cases hf
    rename_i r e1 h1
    split at hf
    · cases hf
    rename_i r2 e2 h2
    split at hf
    · cases hf
    rename_i e3 h3
    split at hf
    · cases hf
    rename_i e4 h4
    cases hf
    refine ⟨b, F, env, r, e1, gd, h1, fun v H1 F1 g1 s1 rv1 => ?_⟩
    obtain ⟨F2, s2, g2, d2⟩ := rv1.freeze g1
    refine ⟨b, F2, e1, r2, e2, g2, h2, fun w H3 F3 g3 s3 rv3 => ?_⟩
    obtain ⟨F4, s4, g4, d4⟩ := rv3.freeze g3
    have g5 := g4.put (i := i) (r := .im r.d) (v := v) ((d2.mono s3).mono s4) h3
    have g6 := g5.put (i := j) (r := .im r2.d) (v := w) d4 h4
    exact ⟨v, w, rfl, k _ _ _ g6 (((s1.trans s2).trans s3).trans s4)⟩

/-! ### small statements -/
def sExpr (f : EF) : SF := fun env => match f env with
  | none => none
  | some (_, e) => some (.nx, e)
theorem q_expr {e : Expr} {f : EF} {pos : Pos} (he : QE X e f) (hs : swapsWith e none pos.line X.env = pure false := by rfl) : QS X (.Expr e pos) (sExpr f) := (ps_expr he hs).imp fun D σ H q => by
  obtain ⟨b, F, env, fl, env', gd, hf, k⟩ := q
  unfold sExpr at hf
  split at hf
  · cases hf
  rename_i r e1 h1
  cases hf
  exact ⟨b, F, env, r, env', gd, h1, fun v H' F' g' s rv => k σ H' F' g' s⟩
def sRet (f : EF) : SF := fun env => match f env with
  | none => none
  | some (r, e) => some (.rt r, e)
theorem q_ret {e : Expr} {f : EF} {pos : Pos} (he : QE X e f) : QS X (.Return (some e) pos) (sRet f) := (ps_ret he).imp fun D σ H q => by
  obtain ⟨b, F, env, fl, env', gd, hf, k⟩ := q
  unfold sRet at hf
  split at hf
  · cases hf
  rename_i r e1 h1
  cases hf
  exact ⟨b, F, env, r, env', gd, h1, fun v H' F' g' s rv => k v σ H' F' g' s rv⟩
def sRetN : SF := fun env => some (.rt (.im .non), env)
theorem q_retN {pos : Pos} : QS X (.Return none pos) sRetN := ps_retN.imp fun D σ H q => by
  obtain ⟨b, F, env, fl, env', gd, hf, k⟩ := q
  cases hf
  exact k .non σ H F gd (Same.refl F) .non
/-- return x, x a name that holds an object of one's own: it is moved out -/
def sRetV (i : Nat) : SF := fun env => match env[i]? with
  | some (.ow d) => some (.rt (.fr d), env.set i .un)
  | some c => match c.rd with
    | none => none
    | some d => some (.rt (.im d), env.set i c.fz)
  | none => none
theorem Gd.forget {K : PySem.W.Frag} {b : Base} {F H : Hp} {σ : L2.St} {env : Ev} (g : Gd K b F σ H env) (i : Nat) : Gd K b F σ H (env.set i .un) := by
  refine ⟨by simpa using g.len, g.same, fun j c hj => ?_, fun j k p hj hk => ?_, g.keep, g.new⟩
  · rcases set_get hj with ⟨rfl, rfl, _⟩ | ⟨n, hj⟩
    · trivial
    · exact g.cells j c hj
  · obtain ⟨⟨c1, a1, a2⟩, a3⟩ := hj
    obtain ⟨⟨c2, b1, b2⟩, b3⟩ := hk
    rcases set_get a1 with ⟨rfl, rfl, _⟩ | ⟨n, a1⟩
    · cases a2
    · rcases set_get b1 with ⟨rfl, rfl, _⟩ | ⟨n, b1⟩
      · cases b2
      · exact g.dis j k p ⟨⟨c1, a1, a2⟩, a3⟩ ⟨⟨c2, b1, b2⟩, b3⟩
theorem q_retV {e : Expr} {i : Nat} {pos : Pos} (h : PE X e (tVar i)) : QS X (.Return (some e) pos) (sRetV i) := (ps_ret h).imp fun DD σ H q => by
  obtain ⟨b, F, env, fl, env', g, hf, k⟩ := q
  have plain : ∀ (c : C) (d : D), env[i]? = some c → c.rd = some d → some (Fl.rt (.im d), env.set i c.fz) = some (fl, env') → tRet (tVar i) DD σ H := fun c d q q2 hf => by
    cases hf
    obtain ⟨v, e⟩ := g.there q q2
    obtain ⟨F', sm, g', hd⟩ := g.freeze q
    have : c = .ow d ∨ c = .bo d ∨ c = .im d ∨ c = .bf d := by cases c <;> cases q2 <;> simp
    obtain ⟨v', e1, e2⟩ := hd d this
    refine ⟨v, e, k v σ H F' g' sm ?_⟩
    rw [e] at e1; cases e1
    exact e2
  unfold sRetV at hf
  split at hf
  · rename_i d q
    cases hf
    obtain ⟨p, e1, e2, e3, e4⟩ := g.cells i _ q
    refine ⟨.ref p, join_of e1, k _ σ H F (g.forget i) (Same.refl F) ⟨p, rfl, e2, e3, e4, fun j o => ?_⟩⟩
    obtain ⟨⟨c1, a1, a2⟩, a3⟩ := o
    rcases set_get a1 with ⟨rfl, rfl, _⟩ | ⟨n, a1⟩
    · cases a2
    · exact n (g.dis j i p ⟨⟨c1, a1, a2⟩, a3⟩ (OwnAt.of q rfl e1))
  · rename_i c nq q
    cases q2 : c.rd with
    | none => simp only [q2] at hf; cases hf
    | some d => simp only [q2] at hf; exact plain c d q q2 hf
  · cases hf
def sPass : SF := fun env => some (.nx, env)
def sBreak : SF := fun env => some (.bk, env)
def sCont : SF := fun env => some (.ct, env)
theorem q_pass {pos : Pos} : QS X (.Pass pos) sPass := ps_pass.imp fun D σ H q => by
  obtain ⟨b, F, env, fl, env', gd, hf, k⟩ := q
  cases hf; exact k σ H F gd (Same.refl F)
theorem q_doc {x j pos pos'} : QS X (.Expr (.Constant (.str x) j pos) pos') sPass := ps_doc.imp fun D σ H q => by
  obtain ⟨b, F, env, fl, env', gd, hf, k⟩ := q
  cases hf; exact k σ H F gd (Same.refl F)
theorem q_break {pos : Pos} : QS X (.Break pos) sBreak := ps_break.imp fun D σ H q => by
  obtain ⟨b, F, env, fl, env', gd, hf, k⟩ := q
  cases hf; exact k σ H F gd (Same.refl F)
theorem q_continue {pos : Pos} : QS X (.Continue pos) sCont := ps_continue.imp fun D σ H q => by
  obtain ⟨b, F, env, fl, env', gd, hf, k⟩ := q
  cases hf; exact k σ H F gd (Same.refl F)
def sIf (t : BF) (f g : SF) : SF := fun env => match t env with
  | none => none
  | some (true, e) => f e
  | some (false, e) => g e
theorem q_if {c : Expr} {a d : List Stmt} {t : BF} {f g : SF} {pos : Pos} (hc : QT X c t) (ha : QB X a f) (hb : QB X d g) : QS X (.If c a d pos) (sIf t f g) := (ps_if hc ha hb).imp fun D σ H q => by
  obtain ⟨b, F, env, fl, env', gd, hf, k⟩ := q
  unfold sIf at hf
  cases q1 : t env with
  | none => rw [q1] at hf; cases hf
  | some re =>
    obtain ⟨k1, e1⟩ := re
    rw [q1] at hf
    refine ⟨b, F, env, k1, e1, gd, q1, fun H1 F1 g1 s1 => ?_⟩
    cases k1 with
    | true => exact iteT ⟨b, F1, e1, fl, env', g1, hf, k.mono s1⟩
    | false => exact iteF ⟨b, F1, e1, fl, env', g1, hf, k.mono s1⟩
/-- a statement that the reading never comes to -/
def sNever : SF := fun _ => none
theorem q_never {st : Stmt} : QS X st sNever := ps_never.imp fun D σ H q => by
  obtain ⟨b, F, env, fl, env', gd, hf, k⟩ := q
  cases hf
/-- name op= e -/
def sAug (i : Nat) (f : D → D → Option R) (p : PF) : SF := fun env => match (env[i]?).bind C.rd with
  | none => none
  | some _ => match p env with
    | none => none
    | some (q, e) => match (e[i]?).bind C.rd with
      | none => none
      | some x => match rdP e q with
        | none => none
        | some y => match f x y with
          | none => none
          | some r => match put e i r.cell with
            | none => none
            | some e2 => some (.nx, e2)
theorem q_aug {i : Nat} {x : Str} {e : Expr} {op : Operator} {r : R2} {f : D → D → Option R} {p : PF} {pos pos' : Pos} (ok : OpOk X.K r f) (ho : OpR X (inplaceOp op) r) (hN : X.N.Nodup) (hi : X.N[i]? = some x := by rfl) (hx : Loc X.env.scope x := by first | exact .inl rfl | exact .inr rfl) (he : QP X e p)
    (hf : X.fn x = true ∨ X.env.scope.names.lookup x = some .local := by first | exact .inl rfl | exact .inr rfl) : QS X (.AugAssign (.Name x pos') op e pos) (sAug i f p) :=
  (ps_aug hN hi hx he (ti := r) (fun pins s σ H x y v u Q I rx ry q => ho pins s σ H x y v u Q I rx ry q) hf).imp fun D σ H q => by
    obtain ⟨b, F, env, fl, env', gd, hf, k⟩ := q
    unfold sAug at hf
    split at hf
    · cases hf
    rename_i d0 h0
    split at hf
    · cases hf
    rename_i q1 e1 h1
    split at hf
    · cases hf
    rename_i x1 h2
    split at hf
    · cases hf
    rename_i y1 h3
    split at hf
    · cases hf
    rename_i r1 h4
    split at hf
    · cases hf
    rename_i e2 h5
    cases hf
    obtain ⟨c, hc, hd⟩ := Option.bind_eq_some_iff.mp h0
    obtain ⟨v, hv⟩ := gd.there hc hd
    refine ⟨v, hv, b, F, env, q1, e1, gd, h1, fun w H1 F1 g1 s1 pv => ?_⟩
    refine ok F1 H1 v w x1 y1 r1 _ g1.same (g1.cell h2 (by rw [hv]; rfl)) (g1.rd pv h3) h4 fun z H2 F2 xt rf => ?_
    exact k _ H2 F2 ((g1.ext xt).put (rf.rv g1) h5) (s1.trans xt.ff)

/-! ### while -/
def whileF (t : BF) (f : SF) : Nat → SF
  | 0 => fun _ => none
  | n + 1 => fun env => match t env with
    | none => none
    | some (false, e) => some (.nx, e)
    | some (true, e) => match f e with
      | none => none
      | some (.nx, e2) => whileF t f n e2
      | some (.ct, e2) => whileF t f n e2
      | some (.bk, e2) => some (.nx, e2)
      | some (.rt r, e2) => some (.rt r, e2)
def sWhile (n : Nat) (t : BF) (f : SF) : SF := whileF t f n
theorem q_while {c : Expr} {body : List Stmt} {t : BF} {f : SF} {n : Nat} {pos : Pos} (hp : PassesOwn (model X.prog X.w) X.A X.env X.xe) (hc : QT X c t) (hb : QB X body f) : QS X (.While c body [] pos) (sWhile n t f) := (ps_while hp hc hb).imp fun D σ H q => by
  obtain ⟨b, F, env, fl, env', gd, hf, k⟩ := q
  refine ⟨fun m σ H => ∃ F1 env1, Gd X.K b F1 σ H env1 ∧ Same F F1 ∧ whileF t f m env1 = some (fl, env'), ⟨n, F, env, gd, Same.refl F, hf⟩, ?_⟩
  rintro m σ1 H1 ⟨F1, env1, g1, s1, hw⟩
  cases m with
  | zero => cases hw
  | succ m =>
    unfold whileF at hw
    cases q1 : t env1 with
    | none => rw [q1] at hw; cases hw
    | some re =>
      obtain ⟨k1, e1⟩ := re
      rw [q1] at hw
      refine ⟨b, F1, env1, k1, e1, g1, q1, fun H2 F2 g2 s2 => ?_⟩
      cases k1 with
      | false => cases hw; exact iteF (k σ1 H2 F2 g2 (s1.trans s2))
      | true =>
        refine iteT ⟨fun σ H => ∃ F1 env1, Gd X.K b F1 σ H env1 ∧ Same F F1 ∧ whileF t f m env1 = some (fl, env'), fun σ' H' h => ⟨m, Nat.lt_succ_self m, h⟩, ?_⟩
        simp only at hw
        cases q2 : f e1 with
        | none => rw [q2] at hw; cases hw
        | some re =>
          obtain ⟨fl2, e2⟩ := re
          rw [q2] at hw
          refine ⟨b, F2, e1, fl2, e2, g2, q2, ?_⟩
          cases fl2 with
          | nx => exact fun σ' H' F' g' s' => ⟨F', e2, g', (s1.trans s2).trans s', hw⟩
          | ct => exact fun σ' H' F' g' s' => ⟨F', e2, g', (s1.trans s2).trans s', hw⟩
          | bk => cases hw; exact fun σ' H' F' g' s' => k σ' H' F' g' ((s1.trans s2).trans s')
          | rt r => cases hw; exact fun v σ' H' F' g' s' rv => k v σ' H' F' g' ((s1.trans s2).trans s') rv

/-! ### what is walked -/
def ItOk (K : PySem.W.Frag) (J : It) (F : Hp) (ds : List D) : Prop := ∀ F' H', Same F F' → Ag F' H' →
  (∀ i, ds.length ≤ i → J.stop i H') ∧ (∀ i d, ds[i]? = some d → J.go i H' ∧ ∀ x H'', J.yld i H' x H'' → ∃ F'', Xt F' H' F'' H'' ∧ Dn K F'' x d)
abbrev IF := Ev → Option (List D × Ev)
def tIv (K : PySem.W.Frag) (f : IF) : TI := fun σ H R => ∃ b F env ds env', Gd K b F σ H env ∧ f env = some (ds, env') ∧ ∀ J H' F', Gd K b F' σ H' env' → Same F F' → ItOk K J F' ds → R J H'
abbrev QI (X : Cx) (tg e : Expr) (f : IF) : Prop := PI X tg e (tIv X.K f)
def forF (g : GF) (f : SF) : List D → SF
  | [], env => some (.nx, env)
  | d :: ds, env => match g d env with
    | none => none
    | some e => match f e with
      | none => none
      | some (.nx, e2) => forF g f ds e2
      | some (.ct, e2) => forF g f ds e2
      | some (.bk, e2) => some (.nx, e2)
      | some (.rt r, e2) => some (.rt r, e2)
def sFor (it : IF) (g : GF) (f : SF) : SF := fun env => match it env with
  | none => none
  | some (ds, e) => forF g f ds e
theorem q_for {tg iter : Expr} {body : List Stmt} {it : IF} {g : GF} {f : SF} {pos : Pos} (hp : PassesOwn (model X.prog X.w) X.A X.env X.xe) (hc : X.calm = true) (hi : QI X tg iter it) (hg : QG X tg g) (hb : QB X body f)
    (hs : ∀ x, foldedSetIterable iter X.env x = pure x := by intro _; rfl) : QS X (.For tg iter body [] pos) (sFor it g f) := (ps_for hp hc hi hg hb hs).imp fun D σ H q => by
  obtain ⟨b, F, env, fl, env', gd, hf, k⟩ := q
  unfold sFor at hf
  split at hf
  · cases hf
  rename_i ds e1 h1
  refine ⟨b, F, env, ds, e1, gd, h1, fun J H1 F1 g1 s1 ok => ?_⟩
  refine ⟨fun i m σ H => ∃ F2 env2, Gd X.K b F2 σ H env2 ∧ Same F1 F2 ∧ m = ds.length - i ∧ forF g f (ds.drop i) env2 = some (fl, env'), ⟨ds.length, F1, e1, g1, Same.refl F1, rfl, hf⟩, ?_⟩
  rintro i m σ2 H2 ⟨F2, env2, g2, s2, rfl, hw⟩
  obtain ⟨okS, okG⟩ := ok F2 H2 s2 g2.same
  cases q : ds[i]? with
  | none =>
    have hl := List.getElem?_eq_none_iff.mp q
    rw [List.drop_of_length_le hl] at hw
    cases hw
    exact .inl ⟨okS i hl, k σ2 H2 F2 g2 (s1.trans s2)⟩
  | some d =>
    have hl := lt_of_get q
    rw [List.drop_eq_getElem_cons hl] at hw
    have hd : ds[i] = d := by rw [List.getElem?_eq_getElem hl] at q; exact Option.some.inj q
    rw [hd] at hw
    obtain ⟨go, yl⟩ := okG i d q
    refine .inr ⟨go, fun σ H => ∃ F2 env2, Gd X.K b F2 σ H env2 ∧ Same F1 F2 ∧ forF g f (ds.drop (i + 1)) env2 = some (fl, env'), fun σ' H' ⟨F3, e3, g3, s3, w3⟩ => ⟨ds.length - (i + 1), by omega, F3, e3, g3, s3, rfl, w3⟩, fun x H3 hy => ?_⟩
    obtain ⟨F3, xt, dn⟩ := yl x H3 hy
    unfold forF at hw
    split at hw
    · cases hw
    rename_i e4 h4
    refine ⟨b, F3, env2, d, e4, g2.ext xt, dn, h4, fun σ5 H5 F5 g5 s5 => ?_⟩
    have s15 : Same F1 F5 := (s2.trans xt.ff).trans s5
    cases q2 : f e4 with
    | none => rw [q2] at hw; cases hw
    | some re =>
      obtain ⟨fl2, e5⟩ := re
      rw [q2] at hw
      refine ⟨b, F5, e4, fl2, e5, g5, q2, ?_⟩
      cases fl2 with
      | nx => exact fun σ' H' F' g' s' => ⟨F', e5, g', s15.trans s', hw⟩
      | ct => exact fun σ' H' F' g' s' => ⟨F', e5, g', s15.trans s', hw⟩
      | bk => cases hw; exact fun σ' H' F' g' s' => k σ' H' F' g' ((s1.trans s15).trans s')
      | rt r => cases hw; exact fun v σ' H' F' g' s' rv => k v σ' H' F' g' ((s1.trans s15).trans s') rv
end
end MP
namespace MP
open PySem PySem.Spec PyProof.Rows L2
section
variable {X : Cx}

/-! ### iterables -/
/-- items as they are walked -/
def D.items : D → Option (List D)
  | .lst ds => some ds
  | .tup ds => some ds
  | .fz ds => some ds
  | .str x => some (x.map fun c => .str [c])
  | _ => none
theorem itOk_list {K : PySem.W.Frag} {F : Hp} {a : Addr} {vs : List V} {ds : List D} (h : ∀ F' H', Same F F' → Ag F' H' → SqL K H' a vs) (hd : DnAll K F vs ds) (one : ∀ H' ws, SqL K H' a vs → SqL K H' a ws → ws = vs) : ItOk K (Itl K a) F ds := fun F' H' s g => by
  have q := h F' H' s g
  refine ⟨fun i hi => ⟨vs, q, by rw [hd.length]; exact hi⟩, fun i d hi => ?_⟩
  obtain ⟨v, h1, h2⟩ := hd.get hi
  refine ⟨⟨vs, v, q, h1⟩, fun x H'' hy => ?_⟩
  obtain ⟨rfl, hy⟩ := hy
  have := (hy vs q).symm.trans h1
  cases this
  exact ⟨F', Xt.refl g, h2.mono s⟩
theorem itOk_tup {K : PySem.W.Frag} {F : Hp} {a : Addr} {vs : List V} {ds : List D} (h : SqT K F a vs) (hd : DnAll K F vs ds) : ItOk K (Itt K a) F ds := fun F' H' s g => by
  have q := g.t (same_t s h)
  refine ⟨fun i hi => ⟨vs, q, by rw [hd.length]; exact hi⟩, fun i d hi => ?_⟩
  obtain ⟨v, h1, h2⟩ := hd.get hi
  refine ⟨⟨vs, v, q, h1⟩, fun x H'' hy => ?_⟩
  obtain ⟨rfl, hy⟩ := hy
  have := (hy vs q).symm.trans h1
  cases this
  exact ⟨F', Xt.refl g, h2.mono s⟩
theorem itOk_str {K : PySem.W.Frag} {F : Hp} (x : Tx) : ItOk K (Its (S x)) F (x.map fun c => .str [c]) := fun F' H' s g => by
  have sz : (S x).cps.size = x.length := by simp [S]
  refine ⟨fun i hi => ?_, fun i d hi => ?_⟩
  · show (S x).cps.size ≤ i
    rw [sz]; simpa using hi
  · have hl := lt_of_get hi
    rw [List.length_map] at hl
    refine ⟨?_, fun v H'' hy => ?_⟩
    · show i < (S x).cps.size
      rw [sz]; exact hl
    · obtain ⟨rfl, c, h1, rfl⟩ := hy
      refine ⟨F', Xt.refl g, ?_⟩
      have e : x[i]? = some c := by rw [← h1]; simp [S]
      rw [List.getElem?_map, e] at hi
      cases hi
      exact Dn.str [c]
/-- a sequence of any kind -/
theorem pi_any {tg l : Expr} {tl : TE} (hl : PE X l tl) : PI X tg l (fun σ H R => tl σ H fun x H1 => (∃ a xs, x = .ref a ∧ SqL X.K H1 a xs ∧ R (Itl X.K a) H1) ∨ (∃ a xs, x = .ref a ∧ SqT X.K H1 a xs ∧ R (Itt X.K a) H1) ∨ ∃ z, x = .str z ∧ R (Its z) H1) := by
  refine ⟨fun pins s σ H R I h => thn (hl.run pins s σ H _ I h) fun v s1 ⟨x, H1, I1, r1, q1⟩ => ?_⟩
  rcases q1 with ⟨a, xs, rfl, hq, q⟩ | ⟨a, xs, rfl, hq, q⟩ | ⟨z, rfl, q⟩
  · cases r1
    obtain ⟨its, rv, p, hz⟩ := I1.list hq
    exact wpAny_pyIter_list p.isList (pi_one (tk := s1.toks) I1 _ (turn_list a _) ⟨_, Heap.get?_push_size _ rfl, rfl, rfl⟩ q)
  · cases r1
    obtain ⟨its, rv, p, hz⟩ := I1.tuple hq
    exact wpAny_pyIter_tuple (show s1.heap.IsTuple a its.toArray from p) (pi_one (tk := s1.toks) I1 _ (turn_tuple a _) ⟨_, Heap.get?_push_size _ rfl, rfl, rfl⟩ q)
  · obtain ⟨t, rfl⟩ := r1
    cases ha : z.cps.all (· < 128)
    · exact wpAny_pyIter_wide ha (pi_one (tk := s1.toks) I1 _ (turn_str _ z t _ (.inr rfl)) ⟨_, Heap.get?_push_size _ rfl, rfl, rfl⟩ q)
    · exact wpAny_pyIter_ascii ha (pi_one (tk := s1.toks) I1 _ (turn_str _ z t _ (.inl rfl)) ⟨_, Heap.get?_push_size _ rfl, rfl, rfl⟩ q)
/-- the value is frozen, then walked -/
def iE (f : EF) : IF := fun env => match f env with
  | none => none
  | some (r, e) => match r.d.items with
    | none => none
    | some ds => some (ds, e)
theorem sqL_one {K : PySem.W.Frag} {H : Hp} {a : Addr} {vs ws : List V} (h0 : H a = some (.lst vs)) (hK : ∀ o, K.lookup a = some o → False) (h : SqL K H a ws) : ws = vs := by
  rcases h with (h | ⟨o, h⟩) | ⟨o, _, _, h, _⟩
  · rw [h0] at h; cases h; rfl
  · rw [h0] at h; cases h
  · exact (hK o h).elim
/-- like itOk_list, where nothing is known of other readings: the items are taken by the reading itself -/
theorem itOk_list2 {K : PySem.W.Frag} {F : Hp} {a : Addr} {vs : List V} {ds : List D} (h : ∀ F' H', Same F F' → Ag F' H' → SqL K H' a vs) (hd : DnAll K F vs ds) : ItOk K (Itl K a) F ds := fun F' H' s g => by
  have q := h F' H' s g
  refine ⟨fun i hi => ⟨vs, q, by rw [hd.length]; exact hi⟩, fun i d hi => ?_⟩
  obtain ⟨v, h1, h2⟩ := hd.get hi
  refine ⟨⟨vs, v, q, h1⟩, fun x H'' hy => ?_⟩
  obtain ⟨rfl, hy⟩ := hy
  have := (hy vs q).symm.trans h1
  cases this
  exact ⟨F', Xt.refl g, h2.mono s⟩
theorem q_ie {tg e : Expr} {f : EF} (h : QE X e f) : QI X tg e (iE f) := (pi_any h).imp fun σ H R q => by
  obtain ⟨b, F, env, ds, env', gd, hf, k⟩ := q
  unfold iE at hf
  split at hf
  · cases hf
  rename_i r e1 h1
  split at hf
  · cases hf
  rename_i ds2 h2
  cases hf
  refine ⟨b, F, env, r, env', gd, h1, fun v H1 F1 g1 s1 rv => ?_⟩
  obtain ⟨F2, s2, g2, d2⟩ := rv.freeze g1
  have s := s1.trans s2
  cases hd : r.d with
  | lst xs =>
    rw [hd] at h2 d2; cases h2
    cases d2 with
    | lst a1 a2 => exact .inl ⟨_, _, rfl, .of (g2.same.lst a1), k _ H1 F2 g2 s (itOk_list2 (fun F' H' s' g' => .of (g'.lst (s' _ _ a1))) a2)⟩
  | fz xs =>
    rw [hd] at h2 d2; cases h2
    cases d2 with
    | fz a1 a2 => exact .inl ⟨_, _, rfl, g2.same.l a1, k _ H1 F2 g2 s (itOk_list2 (fun F' H' s' g' => g'.l (same_l s' a1)) a2)⟩
  | tup xs =>
    rw [hd] at h2 d2; cases h2
    cases d2 with
    | tup a1 a2 => exact .inr (.inl ⟨_, _, rfl, g2.same.t a1, k _ H1 F2 g2 s (itOk_tup a1 a2)⟩)
  | str x =>
    rw [hd] at h2 d2; cases h2
    cases d2 with
    | str x => exact .inr (.inr ⟨_, rfl, k _ H1 F2 g2 s (itOk_str x)⟩)
  | non => rw [hd] at h2; cases h2
  | bl _ => rw [hd] at h2; cases h2
  | int _ => rw [hd] at h2; cases h2
  | dk _ => rw [hd] at h2; cases h2
  | dt _ => rw [hd] at h2; cases h2
  | st _ => rw [hd] at h2; cases h2
  | ty _ => rw [hd] at h2; cases h2
  | rf _ => rw [hd] at h2; cases h2
/-- ranges -/
def rng (lo : Int) (n : Nat) (c : Int) : List D := (List.range n).map fun i => .int (lo + (i : Nat) * c)
theorem rng_get {lo c : Int} {n i : Nat} {d : D} (h : (rng lo n c)[i]? = some d) : i < n ∧ d = .int (lo + (i : Nat) * c) := by
  unfold rng at h
  rw [List.getElem?_map] at h
  by_cases hi : i < n
  · rw [List.getElem?_range hi] at h
    exact ⟨hi, by simpa using h.symm⟩
  · rw [List.getElem?_eq_none (by simpa using hi)] at h; cases h
theorem rng_length (lo : Int) (n : Nat) (c : Int) : (rng lo n c).length = n := by simp [rng]
theorem itOk_rng {K : PySem.W.Frag} {F : Hp} (lo : Int) (n : Nat) : ItOk K (Itr lo n) F (rng lo n 1) := fun F' H' s g => by
  refine ⟨fun i hi => by rw [rng_length] at hi; exact hi, fun i d hi => ?_⟩
  obtain ⟨hl, rfl⟩ := rng_get hi
  refine ⟨hl, fun v H'' hy => ?_⟩
  obtain ⟨rfl, rfl⟩ := hy
  refine ⟨F', Xt.refl g, ?_⟩
  rw [Int.mul_one]; exact .int _
theorem itOk_rngC {K : PySem.W.Frag} {F : Hp} (lo : Int) (n : Nat) (c : Int) : ItOk K (Itc lo c n) F (rng lo n c) := fun F' H' s g => by
  refine ⟨fun i hi => by rw [rng_length] at hi; exact hi, fun i d hi => ?_⟩
  obtain ⟨hl, rfl⟩ := rng_get hi
  refine ⟨hl, fun v H'' hy => ?_⟩
  obtain ⟨rfl, rfl⟩ := hy
  exact ⟨F', Xt.refl g, .int _⟩
def small (i : Int) : Bool := decide (i.natAbs < 4611686018427387904)
theorem small_iff {i : Int} (h : small i = true) : -(2 ^ 62) ≤ i ∧ i < 2 ^ 62 := by
  unfold small at h
  simp only [decide_eq_true_eq] at h
  omega
/-- range(..) of what the arguments read as -/
def rng1 : List D → Option (List D)
  | [.int j] => if small j then some (rng 0 j.toNat 1) else none
  | _ => none
def rng2 : List D → Option (List D)
  | [.int i, .int j] => if small i && small j then some (rng i (j - i).toNat 1) else none
  | _ => none
def rng3 : List D → Option (List D)
  | [.int i, .int j, .int c] => if small i && small j && (c == -1) then some (rng i (i - j).toNat (-1)) else none
  | _ => none
def iR (w : List D → Option (List D)) (a : AF) : IF := fun env => match a env with
  | none => none
  | some (ps, e) => match rdPs e ps with
    | none => none
    | some xs => match w xs with
      | none => none
      | some ds => some (ds, e)
theorem iR_some {w : List D → Option (List D)} {a : AF} {env env' : Ev} {ds : List D} (h : iR w a env = some (ds, env')) : ∃ ps xs, a env = some (ps, env') ∧ rdPs env' ps = some xs ∧ w xs = some ds := by
  unfold iR at h
  split at h
  · cases h
  rename_i ps e1 h1
  split at h
  · cases h
  rename_i xs h2
  split at h
  · cases h
  rename_i ds2 h3
  cases h
  exact ⟨ps, xs, h1, h2, h3⟩
theorem RdD.int_inv {K : PySem.W.Frag} {F H : Hp} {v : V} {i : Int} (h : RdD K F H v (.int i)) : v = .int i := by
  rcases h with h | ⟨p, _, h⟩
  · cases h; rfl
  · exact h.elim
theorem q_r1 {tg a : Expr} {f : AF} {p pos : Pos} (hm : X.mg "range" = none) (ha : QA X [a] f) (hg : Gl X "range" := by rfl) (hs : starEach [a] X.env = [(false, eval a X.env)] := by rfl) : QI X tg (.Call (.Name "range" p) [a] [] pos) (iR rng1 f) :=
  (pi_range1 hg hm ha hs).imp fun σ H R q => by
    obtain ⟨b, F, env, ds, env', gd, hf, k⟩ := q
    obtain ⟨ps, xs, h1, h2, h3⟩ := iR_some hf
    refine ⟨b, F, env, ps, env', gd, h1, fun vs H1 F1 g1 s1 pv => ?_⟩
    have rd := g1.rds pv h2
    unfold rng1 at h3
    split at h3
    · rename_i j
      split at h3
      · rename_i hs
        cases h3
        cases rd with
        | cons r t =>
          cases t
          obtain ⟨q1, q2⟩ := small_iff hs
          exact ⟨j, by rw [r.int_inv], q1, q2, k _ H1 F1 g1 s1 (itOk_rng 0 j.toNat)⟩
      · cases h3
    · cases h3
theorem q_r2 {tg a c : Expr} {f : AF} {p pos : Pos} (hm : X.mg "range" = none) (ha : QA X [a, c] f) (hg : Gl X "range" := by rfl) (hs : starEach [a, c] X.env = [(false, eval a X.env), (false, eval c X.env)] := by rfl) (hs2 : starEach [c] X.env = [(false, eval c X.env)] := by rfl) : QI X tg (.Call (.Name "range" p) [a, c] [] pos) (iR rng2 f) :=
  (pi_range2 hg hm ha hs hs2).imp fun σ H R q => by
    obtain ⟨b, F, env, ds, env', gd, hf, k⟩ := q
    obtain ⟨ps, xs, h1, h2, h3⟩ := iR_some hf
    refine ⟨b, F, env, ps, env', gd, h1, fun vs H1 F1 g1 s1 pv => ?_⟩
    have rd := g1.rds pv h2
    unfold rng2 at h3
    split at h3
    · rename_i i j
      split at h3
      · rename_i hs
        cases h3
        rw [Bool.and_eq_true] at hs
        cases rd with
        | cons r t =>
          cases t with
          | cons r2 t2 =>
            cases t2
            obtain ⟨q1, q2⟩ := small_iff hs.1
            obtain ⟨q3, q4⟩ := small_iff hs.2
            exact ⟨i, j, by rw [r.int_inv, r2.int_inv], ⟨q1, q2, q3, q4⟩, k _ H1 F1 g1 s1 (itOk_rng i (j - i).toNat)⟩
      · cases h3
    · cases h3
theorem q_r3 {tg a c d : Expr} {f : AF} {p pos : Pos} (hm : X.mg "range" = none) (ha : QA X [a, c, d] f) (hg : Gl X "range" := by rfl) (hs : starEach [a, c, d] X.env = (false, eval a X.env) :: starEach [c, d] X.env := by rfl) (hpl : (backTo pos (starEach [c, d] X.env)).any (·.1) = false := by rfl) : QI X tg (.Call (.Name "range" p) [a, c, d] [] pos) (iR rng3 f) :=
  (pi_range3 hg hm ha hs hpl).imp fun σ H R q => by
    obtain ⟨b, F, env, ds, env', gd, hf, k⟩ := q
    obtain ⟨ps, xs, h1, h2, h3⟩ := iR_some hf
    refine ⟨b, F, env, ps, env', gd, h1, fun vs H1 F1 g1 s1 pv => ?_⟩
    have rd := g1.rds pv h2
    unfold rng3 at h3
    split at h3
    · rename_i i j c0
      split at h3
      · rename_i hs
        cases h3
        rw [Bool.and_eq_true, Bool.and_eq_true] at hs
        have hc : c0 = -1 := by simpa using hs.2
        subst hc
        cases rd with
        | cons r t =>
          cases t with
          | cons r2 t2 =>
            cases t2 with
            | cons r3 t3 =>
              cases t3
              obtain ⟨q1, q2⟩ := small_iff hs.1.1
              obtain ⟨q3, q4⟩ := small_iff hs.1.2
              exact ⟨i, j, -1, (i - j).toNat, by rw [r.int_inv, r2.int_inv, r3.int_inv], RgC.neg q1 q2 q3 q4, k _ H1 F1 g1 s1 (itOk_rngC i (i - j).toNat (-1))⟩
      · cases h3
    · cases h3
/-- enumerate(list): pairs; the list is frozen -/
def pairsF : Nat → List D → List D
  | _, [] => []
  | i, d :: ds => .tup [.int (i : Nat), d] :: pairsF (i + 1) ds
theorem pairsF_length : ∀ (i : Nat) (ds : List D), (pairsF i ds).length = ds.length
  | _, [] => rfl
  | i, d :: ds => by simp [pairsF, pairsF_length]
theorem pairsF_get : ∀ (i j : Nat) (ds : List D), (pairsF i ds)[j]? = (ds[j]?).map fun d => .tup [.int ((i + j : Nat) : Int), d]
  | _, _, [] => by simp [pairsF]
  | i, 0, d :: ds => by simp [pairsF]
  | i, j + 1, d :: ds => by
    rw [pairsF, List.getElem?_cons_succ, List.getElem?_cons_succ, pairsF_get (i + 1) j ds]
    rw [show i + 1 + j = i + (j + 1) by omega]
theorem itOk_enum {K : PySem.W.Frag} {F : Hp} {a : Addr} {vs : List V} {ds : List D} (h : F a = some (.lst vs)) (hd : DnAll K F vs ds) : ItOk K (Ite K a) F (pairsF 0 ds) := fun F' H' s g => by
  have q : SqL K H' a vs := .of (g.lst (s _ _ h))
  refine ⟨fun i hi => ⟨vs, q, by rw [pairsF_length] at hi; rw [hd.length]; exact hi⟩, fun i d hi => ?_⟩
  rw [pairsF_get] at hi
  cases q2 : ds[i]? with
  | none => rw [q2] at hi; cases hi
  | some d0 =>
    rw [q2] at hi
    cases hi
    obtain ⟨v, h1, h2⟩ := hd.get q2
    refine ⟨⟨vs, v, q, h1⟩, fun x H'' hy => ?_⟩
    obtain ⟨T, y, rfl, hT, rfl, hy⟩ := hy
    have := (hy vs q).symm.trans h1
    cases this
    have xt := Xt.laid (o := .tup [.int (i : Nat), v]) g hT
    refine ⟨_, xt, .tup (.of upd_same) (.cons ?_ (.cons (h2.mono (s.trans xt.ff)) .nil))⟩
    rw [Nat.zero_add]; exact .int _
def valLst : List P → Option (List D)
  | [.val (.lst ds)] => some ds
  | _ => none
def iEn (a : AF) : IF := fun env => match a env with
  | none => none
  | some (ps, e) => match valLst ps with
    | none => none
    | some ds => some (pairsF 0 ds, e)
theorem q_enum {elts : List Expr} {kk : Nat} {tpos : Pos} {a : Expr} {f : AF} {p pos : Pos} (hm : X.mg "enumerate" = none) (ha : QA X [a] f) (hg : Gl X "enumerate" := by rfl) (hs : starEach [a] X.env = [(false, eval a X.env)] := by rfl) : QI X (.Tuple elts kk tpos) (.Call (.Name "enumerate" p) [a] [] pos) (iEn f) :=
  (pi_enum hg hm ha hs).imp fun σ H R q => by
    obtain ⟨b, F, env, ds, env', gd, hf, k⟩ := q
    unfold iEn at hf
    split at hf
    · cases hf
    rename_i ps e1 h1
    split at hf
    · cases hf
    rename_i xs h2
    cases hf
    refine ⟨b, F, env, ps, env', gd, h1, fun vs H1 F1 g1 s1 pv => ?_⟩
    unfold valLst at h2
    split at h2
    · cases h2
      cases pv with
      | cons r t =>
        cases t
        cases (show Dn X.K F1 _ _ from r) with
        | lst a1 a2 => exact ⟨_, _, rfl, .of (g1.same.lst a1), k _ H1 F1 g1 s1 (itOk_enum a1 a2)⟩
    · cases h2
/-- zip of two lists or two tuples (frozen) -/
def zipD : List D → List D → List D
  | x :: xs, y :: ys => .tup [x, y] :: zipD xs ys
  | _, _ => []
theorem zipD_get : ∀ (j : Nat) (ds es : List D), (zipD ds es)[j]? = (ds[j]?).bind fun d => (es[j]?).map fun e => .tup [d, e]
  | j, [], es => by simp [zipD]
  | j, d :: ds, [] => by cases j <;> simp [zipD]
  | 0, d :: ds, e :: es => by simp [zipD]
  | j + 1, d :: ds, e :: es => by simp [zipD, zipD_get j ds es]
theorem zipD_length : ∀ (ds es : List D), (zipD ds es).length = min ds.length es.length
  | [], es => by simp [zipD]
  | d :: ds, [] => by simp [zipD]
  | d :: ds, e :: es => by simp [zipD, zipD_length ds es]
theorem itOk_zip {K : PySem.W.Frag} {F : Hp} {a b : Addr} {vs ws : List V} {ds es : List D} (h : F a = some (.lst vs)) (h2 : F b = some (.lst ws)) (hd : DnAll K F vs ds) (he : DnAll K F ws es) : ItOk K (Itz K a b) F (zipD ds es) := fun F' H' s g => by
  have q : SqL K H' a vs := .of (g.lst (s _ _ h))
  have q' : SqL K H' b ws := .of (g.lst (s _ _ h2))
  refine ⟨fun i hi => ⟨vs, ws, q, q', by rw [zipD_length] at hi; rw [hd.length, he.length]; omega⟩, fun i d hi => ?_⟩
  rw [zipD_get] at hi
  cases q1 : ds[i]? with
  | none => rw [q1] at hi; cases hi
  | some d0 =>
    cases q2 : es[i]? with
    | none => rw [q1, q2] at hi; cases hi
    | some e0 =>
      rw [q1, q2] at hi
      cases hi
      obtain ⟨v, a1, a2⟩ := hd.get q1
      obtain ⟨w, b1, b2⟩ := he.get q2
      refine ⟨⟨vs, ws, v, w, q, q', a1, b1⟩, fun x H'' hy => ?_⟩
      obtain ⟨T, y, z, rfl, hT, rfl, hy, hz⟩ := hy
      have := (hy vs q).symm.trans a1
      cases this
      have := (hz ws q').symm.trans b1
      cases this
      have xt := Xt.laid (o := .tup [v, w]) g hT
      exact ⟨_, xt, .tup (.of upd_same) (.cons (a2.mono (s.trans xt.ff)) (.cons (b2.mono (s.trans xt.ff)) .nil))⟩
theorem itOk_zipT {K : PySem.W.Frag} {F : Hp} {a b : Addr} {vs ws : List V} {ds es : List D} (h : SqT K F a vs) (h2 : SqT K F b ws) (hd : DnAll K F vs ds) (he : DnAll K F ws es) : ItOk K (RZ.ItzT K a b) F (zipD ds es) := fun F' H' s g => by
  have q : SqT K H' a vs := g.t (same_t s h)
  have q' : SqT K H' b ws := g.t (same_t s h2)
  refine ⟨fun i hi => ⟨vs, ws, q, q', by rw [zipD_length] at hi; rw [hd.length, he.length]; omega⟩, fun i d hi => ?_⟩
  rw [zipD_get] at hi
  cases q1 : ds[i]? with
  | none => rw [q1] at hi; cases hi
  | some d0 =>
    cases q2 : es[i]? with
    | none => rw [q1, q2] at hi; cases hi
    | some e0 =>
      rw [q1, q2] at hi
      cases hi
      obtain ⟨v, a1, a2⟩ := hd.get q1
      obtain ⟨w, b1, b2⟩ := he.get q2
      refine ⟨⟨vs, ws, v, w, q, q', a1, b1⟩, fun x H'' hy => ?_⟩
      obtain ⟨T, y, z, rfl, hT, rfl, hy, hz⟩ := hy
      have := (hy vs q).symm.trans a1
      cases this
      have := (hz ws q').symm.trans b1
      cases this
      have xt := Xt.laid (o := .tup [v, w]) g hT
      exact ⟨_, xt, .tup (.of upd_same) (.cons (a2.mono (s.trans xt.ff)) (.cons (b2.mono (s.trans xt.ff)) .nil))⟩
def valZip : List P → Option (List D)
  | [.val (.lst ds), .val (.lst es)] => some (zipD ds es)
  | [.val (.tup ds), .val (.tup es)] => some (zipD ds es)
  | _ => none
def iZp (a : AF) : IF := fun env => match a env with
  | none => none
  | some (ps, e) => match valZip ps with
    | none => none
    | some ds => some (ds, e)

theorem q_zip {elts : List Expr} {kk : Nat} {tpos : Pos} {a c : Expr} {f : AF} {p pos : Pos} (hm : X.mg "zip" = none) (ha : QA X [a, c] f) (hg : Gl X "zip" := by rfl) (hs : starEach [a, c] X.env = (false, eval a X.env) :: starEach [c] X.env := by rfl) (hpl : (backTo pos (starEach [c] X.env)).any (·.1) = false := by rfl) : QI X (.Tuple elts kk tpos) (.Call (.Name "zip" p) [a, c] [] pos) (iZp f) :=
  (RZ.pi_zipA hg hm ha hs hpl).imp fun σ H R q => by
    obtain ⟨b, F, env, ds, env', gd, hf, k⟩ := q
    unfold iZp at hf
    split at hf
    · cases hf
    rename_i ps e1 h1
    split at hf
    · cases hf
    rename_i xs h2
    cases hf
    refine ⟨b, F, env, ps, env', gd, h1, fun vs H1 F1 g1 s1 pv => ?_⟩
    unfold valZip at h2
    split at h2
    · cases h2
      cases pv with
      | cons r t =>
        cases t with
        | cons r2 t =>
          cases t
          cases (show Dn X.K F1 _ _ from r) with
          | lst a1 a2 =>
            cases (show Dn X.K F1 _ _ from r2) with
            | lst b1 b2 => exact ⟨_, _, _, _, rfl, .inl ⟨.of (g1.same.lst a1), .of (g1.same.lst b1), k _ H1 F1 g1 s1 (itOk_zip a1 b1 a2 b2)⟩⟩
    · cases h2
      cases pv with
      | cons r t =>
        cases t with
        | cons r2 t =>
          cases t
          cases (show Dn X.K F1 _ _ from r) with
          | tup a1 a2 =>
            cases (show Dn X.K F1 _ _ from r2) with
            | tup b1 b2 => exact ⟨_, _, _, _, rfl, .inr ⟨g1.same.t a1, g1.same.t b1, k _ H1 F1 g1 s1 (itOk_zipT a1 b1 a2 b2)⟩⟩
    · cases h2
end
end MP
namespace MP
open PySem PySem.Spec PyProof.Rows L2
/-! ### the block's names -/
def blank (env : Ev) : List Nat → Ev
  | [] => env
  | i :: is => (blank env is).set i .un
def fzs (env : Ev) : List Nat → Ev
  | [] => env
  | i :: is => match (fzs env is)[i]? with
    | some c => (fzs env is).set i c.fz
    | none => fzs env is
def back (old new : Ev) : List Nat → Ev
  | [] => new
  | i :: is => (back old new is).set i (old[i]?.getD .un)
theorem wipe_get (σ : L2.St) (j : Nat) : ∀ is : List Nat, (wipe σ is)[j]? = if j ∈ is then (σ[j]?).map (fun _ => none) else σ[j]?
  | [] => by simp [wipe]
  | i :: is => by
    unfold wipe
    rw [List.getElem?_set, wipe_length, wipe_get σ j is]
    by_cases e : i = j
    · subst e
      rw [if_pos rfl, if_pos List.mem_cons_self]
      by_cases h : i < σ.length
      · rw [if_pos h, List.getElem?_eq_getElem h]; rfl
      · rw [if_neg h, List.getElem?_eq_none (by omega)]; rfl
    · rw [if_neg e]
      by_cases h : j ∈ is
      · rw [if_pos h, if_pos (List.mem_cons_of_mem _ h)]
      · rw [if_neg h, if_neg (by simp [h, Ne.symm e])]
theorem blank_length (env : Ev) : ∀ is : List Nat, (blank env is).length = env.length
  | [] => rfl
  | i :: is => by unfold blank; rw [List.length_set, blank_length env is]
theorem blank_get (env : Ev) (j : Nat) : ∀ is : List Nat, (blank env is)[j]? = if j ∈ is then (env[j]?).map (fun _ => .un) else env[j]?
  | [] => by simp [blank]
  | i :: is => by
    unfold blank
    rw [List.getElem?_set, blank_length, blank_get env j is]
    by_cases e : i = j
    · subst e
      rw [if_pos rfl, if_pos List.mem_cons_self]
      by_cases h : i < env.length
      · rw [if_pos h, List.getElem?_eq_getElem h]; rfl
      · rw [if_neg h, List.getElem?_eq_none (by omega)]; rfl
    · rw [if_neg e]
      by_cases h : j ∈ is
      · rw [if_pos h, if_pos (List.mem_cons_of_mem _ h)]
      · rw [if_neg h, if_neg (by simp [h, Ne.symm e])]
theorem back_length (old new : Ev) : ∀ is : List Nat, (back old new is).length = new.length
  | [] => rfl
  | i :: is => by unfold back; rw [List.length_set, back_length old new is]
theorem back_get (old new : Ev) (j : Nat) : ∀ is : List Nat, (back old new is)[j]? = if j ∈ is then (new[j]?).map (fun _ => old[j]?.getD .un) else new[j]?
  | [] => by simp [back]
  | i :: is => by
    unfold back
    rw [List.getElem?_set, back_length, back_get old new j is]
    by_cases e : i = j
    · subst e
      rw [if_pos rfl, if_pos List.mem_cons_self]
      by_cases h : i < new.length
      · rw [if_pos h, List.getElem?_eq_getElem h]; rfl
      · rw [if_neg h, List.getElem?_eq_none (l := new) (by omega)]; rfl
    · rw [if_neg e]
      by_cases h : j ∈ is
      · rw [if_pos h, if_pos (List.mem_cons_of_mem _ h)]
      · rw [if_neg h, if_neg (by simp [h, Ne.symm e])]
section
variable {K : PySem.W.Frag} {b : Base} {F F' H H' : Hp} {σ σ' : L2.St} {env env' : Ev}
theorem Gd.fzs (g : Gd K b F σ H env) : ∀ is : List Nat, ∃ F', Same F F' ∧ Gd K b F' σ H (fzs env is) ∧ ∀ j ∈ is, ∀ c, (fzs env is)[j]? = some c → c.own = false
  | [] => ⟨F, Same.refl F, g, fun j h => by simp at h⟩
  | i :: is => by
    obtain ⟨F1, s1, g1, n1⟩ := Gd.fzs g is
    unfold MP.fzs
    cases q : (MP.fzs env is)[i]? with
    | none =>
      refine ⟨F1, s1, g1, fun j hj c hc => ?_⟩
      rcases List.mem_cons.mp hj with rfl | hj
      · simp only at hc; rw [q] at hc; cases hc
      · exact n1 j hj c hc
    | some c0 =>
      obtain ⟨F2, s2, g2, _⟩ := g1.freeze q
      refine ⟨F2, s1.trans s2, g2, fun j hj c hc => ?_⟩
      rcases set_get hc with ⟨_, rfl, _⟩ | ⟨n, hc⟩
      · exact C.fz_own c0
      · rcases List.mem_cons.mp hj with rfl | hj
        · exact absurd rfl n
        · exact n1 j hj c hc
theorem Gd.blank (g : Gd K b F σ H env) (is : List Nat) : Gd K b F (wipe σ is) H (blank env is) := by
  have own : ∀ j p, OwnAt (MP.blank env is) (wipe σ is) j p → OwnAt env σ j p := fun j p ⟨⟨c, h1, h2⟩, h3⟩ => by
    rw [blank_get] at h1
    rw [wipe_get] at h3
    by_cases e : j ∈ is
    · rw [if_pos e] at h3
      cases q : σ[j]? with
      | none => rw [q] at h3; cases h3
      | some w => rw [q] at h3; cases h3
    · rw [if_neg e] at h1 h3; exact ⟨⟨c, h1, h2⟩, h3⟩
  refine ⟨by rw [blank_length, wipe_length]; exact g.len, g.same, fun j c hj => ?_, fun j k p hj hk => g.dis j k p (own j p hj) (own k p hk), g.keep, g.new⟩
  rw [blank_get] at hj
  rw [wipe_get]
  by_cases e : j ∈ is
  · rw [if_pos e] at hj
    cases q : env[j]? with
    | none => rw [q] at hj; cases hj
    | some w => rw [q] at hj; cases hj; trivial
  · rw [if_neg e] at hj ⊢; exact g.cells j c hj
theorem Gd.back {Ho : Hp} {old : Ev} {is : List Nat} {Fo : Hp} (g : Gd K b F (wipe σ is) H (MP.blank env is)) (o : Gd K b Fo σ Ho old) (s : Same Fo F) (no : ∀ j ∈ is, ∀ c, old[j]? = some c → c.own = false) : Gd K b F σ H (MP.back old env is) := by
  have ln : env.length = σ.length := by have := g.len; rw [blank_length, wipe_length] at this; exact this
  have lo : old.length = env.length := by rw [ln]; exact o.len
  have own : ∀ j p, OwnAt (MP.back old env is) σ j p → OwnAt (MP.blank env is) (wipe σ is) j p := fun j p ⟨⟨c, h1, h2⟩, h3⟩ => by
    rw [back_get] at h1
    by_cases e : j ∈ is
    · rw [if_pos e] at h1
      cases q : env[j]? with
      | none => rw [q] at h1; cases h1
      | some w =>
        have hj : j < old.length := by rw [lo]; exact lt_of_get q
        rw [q, List.getElem?_eq_getElem hj] at h1
        cases h1
        have := no j e _ (List.getElem?_eq_getElem hj)
        rw [show (some old[j]).getD .un = old[j] from rfl, this] at h2; cases h2
    · rw [if_neg e] at h1
      refine ⟨⟨c, by rw [blank_get, if_neg e]; exact h1, h2⟩, by rw [wipe_get, if_neg e]; exact h3⟩
  refine ⟨by rw [back_length]; exact ln, g.same, fun j c hj => ?_, fun j k p hj hk => g.dis j k p (own j p hj) (own k p hk), g.keep, g.new⟩
  rw [back_get] at hj
  by_cases e : j ∈ is
  · rw [if_pos e] at hj
    cases q : env[j]? with
    | none => rw [q] at hj; cases hj
    | some w =>
      have hl : j < old.length := by rw [lo]; exact lt_of_get q
      rw [q, List.getElem?_eq_getElem hl] at hj
      cases hj
      have hc := List.getElem?_eq_getElem hl
      exact (o.cells j _ hc).mono s fun p hw ho => by rw [no j e _ hc] at ho; cases ho
  · rw [if_neg e] at hj
    have := g.cells j c (by rw [blank_get, if_neg e]; exact hj)
    rw [wipe_get, if_neg e] at this
    exact this
/-- an object that is nobody's here may change -/
theorem Gd.other (g : Gd K b F σ H env) {p : Addr} {o : HO} (n : F p = none) (n0 : b.H0 p = none) (no : ∀ i, ¬ OwnAt env σ i p) : Gd K b F σ (upd H p o) env := by
  refine ⟨g.len, same_upd2 g.same n, fun i c hc => (g.cells i c hc).mono (Same.refl F) fun q hw ho => ⟨?_, fun h => h⟩, g.dis, fun a x h => ?_, g.new⟩
  · rw [upd_ne]
    rintro rfl
    exact no i (OwnAt.of hc ho hw)
  · rw [upd_ne (ne_of_none h n0)]; exact g.keep _ _ h
/-- the base taken anew: all that stands here and isn't owned here is kept -/
noncomputable def Base.re (b : Base) (F : Hp) (σ : L2.St) (H : Hp) (env : Ev) : Base :=
  { F0 := F, H0 := fun a => by classical exact if ∃ i, OwnAt env σ i a then none else H a, σ0 := b.σ0 }
theorem Base.re_own {a : Addr} {i : Nat} (h : OwnAt env σ i a) : (b.re F σ H env).H0 a = none := by
  unfold Base.re; simp only; rw [if_pos ⟨i, h⟩]
theorem Base.re_no {a : Addr} (h : ∀ i, ¬ OwnAt env σ i a) : (b.re F σ H env).H0 a = H a := by
  unfold Base.re; simp only; rw [if_neg (fun ⟨i, q⟩ => h i q)]
theorem Base.re_cases (a : Addr) : (∃ i, OwnAt env σ i a) ∨ ((∀ i, ¬ OwnAt env σ i a) ∧ (b.re F σ H env).H0 a = H a) := by
  by_cases h : ∃ i, OwnAt env σ i a
  · exact .inl h
  · have h2 : ∀ i, ¬ OwnAt env σ i a := fun i q => h ⟨i, q⟩
    exact .inr ⟨h2, Base.re_no h2⟩
theorem Gd.own0 (g : Gd K b F σ H env) {i : Nat} {p : Addr} (h : OwnAt env σ i p) : b.H0 p = none ∧ F p = none := by
  obtain ⟨⟨c, h1, h2⟩, h3⟩ := id h
  obtain ⟨q, w, _, h5, h6⟩ := (g.cells i c h1).ownSome h2
  rw [h.join] at w; cases w
  exact ⟨h6, h5⟩
theorem Gd.re (g : Gd K b F σ H env) : Gd K (b.re F σ H env) F σ H env := by
  refine ⟨g.len, g.same, fun i c hc => ?_, g.dis, fun a o h => ?_, fun a o h => .inl h⟩
  · have k := g.cells i c hc
    cases c with
    | un => trivial
    | im d => exact k
    | ow d => obtain ⟨p, h1, h2, h3, h4⟩ := k; exact ⟨p, h1, h2, h3, Base.re_own (OwnAt.of hc rfl h1)⟩
    | bo d => obtain ⟨p, h1, h2, h3, h4, h5⟩ := k; exact ⟨p, h1, h2, h3, Base.re_own (OwnAt.of hc rfl h1), h5⟩
    | bf d => exact k
  · rcases Base.re_cases (b := b) (F := F) (H := H) (env := env) (σ := σ) a with ⟨i, q⟩ | ⟨_, q⟩
    · rw [Base.re_own q] at h; cases h
    · rw [q] at h; exact h
theorem Gd.unre (g : Gd K b F σ H env) (g' : Gd K (b.re F σ H env) F' σ' H' env') : Gd K b F' σ' H' env' := by
  have z : ∀ p, (b.re F σ H env).H0 p = none → b.H0 p = none := fun p h => by
    rcases Base.re_cases (b := b) (F := F) (H := H) (env := env) (σ := σ) p with ⟨i, q⟩ | ⟨_, q⟩
    · exact (g.own0 q).1
    · rw [q] at h; exact g.h0 h
  refine ⟨g'.len, g'.same, fun i c hc => ?_, g'.dis, fun a o h => ?_, fun a o h => ?_⟩
  · have k := g'.cells i c hc
    cases c with
    | un => trivial
    | im d => exact k
    | ow d => obtain ⟨p, h1, h2, h3, h4⟩ := k; exact ⟨p, h1, h2, h3, z p h4⟩
    | bo d => obtain ⟨p, h1, h2, h3, h4, h5⟩ := k; exact ⟨p, h1, h2, h3, z p h4, h5⟩
    | bf d => exact k
  · rcases Base.re_cases (b := b) (F := F) (H := H) (env := env) (σ := σ) a with ⟨i, q⟩ | ⟨_, q⟩
    · rw [(g.own0 q).1] at h; cases h
    · exact g'.keep a o (by rw [q]; exact g.keep _ _ h)
  · rcases g'.new a o h with q | q
    · exact g.new a o q
    · exact .inr (z a q)
/-- what isn't owned stays behind -/
theorem Gd.kept (g : Gd K b F σ H env) (g' : Gd K (b.re F σ H env) F' σ' H' env') {p : Addr} {o : HO} (h : H p = some o) (no : ∀ i, ¬ OwnAt env σ i p) : H' p = some o ∧ (F p = none → F' p = none) ∧ ∀ i, ¬ OwnAt env' σ' i p := by
  have q : (b.re F σ H env).H0 p = some o := (Base.re_no no).trans h
  refine ⟨g'.keep p o q, fun n => ?_, fun i z => ?_⟩
  · cases w : F' p with
    | none => rfl
    | some x =>
      rcases g'.new p x w with y | y
      · rw [show (b.re F σ H env).F0 p = F p from rfl, n] at y; cases y
      · rw [q] at y; cases y
  · have := (g'.own0 z).1
    rw [q] at this; cases this
end

/-! ### targets of a comprehension -/
def tGc (K : PySem.W.Frag) (is : List Nat) (g : GF) : TG := fun v σ H Q => ∃ b F env d env', Gd K b F σ H env ∧ Dn K F v d ∧ g d env = some env' ∧ ∀ σ' H' F', Gd K b F' σ' H' env' → Same F F' → wipe σ' is = wipe σ is → Q σ' H'
abbrev QGc (X : Cx) (is : List Nat) (e : Expr) (g : GF) : Prop := PG X e (tGc X.K is g)
def tGcs (K : PySem.W.Frag) (is : List Nat) (g : GFs) : TGs := fun vs σ H Q => ∃ b F env ds env', Gd K b F σ H env ∧ DnAll K F vs ds ∧ g ds env = some env' ∧ ∀ σ' H' F', Gd K b F' σ' H' env' → Same F F' → wipe σ' is = wipe σ is → Q σ' H'
abbrev QGcs (X : Cx) (is : List Nat) (e : List Expr) (g : GFs) : Prop := PGs X e (tGcs X.K is g)
theorem wipe_set {σ : L2.St} {i : Nat} {w : Option V} {is : List Nat} (h : i ∈ is) : wipe (σ.set i w) is = wipe σ is := by
  apply List.ext_getElem?
  intro j
  rw [wipe_get, wipe_get]
  by_cases e : j ∈ is
  · rw [if_pos e, if_pos e, List.getElem?_set]
    by_cases q : i = j
    · subst q
      rw [if_pos rfl]
      by_cases l : i < σ.length
      · rw [if_pos l, List.getElem?_eq_getElem l]; rfl
      · rw [if_neg l, List.getElem?_eq_none (by omega)]
    · rw [if_neg q]
  · rw [if_neg e, if_neg e, List.getElem?_set_ne (by rintro rfl; exact e h)]
section
variable {X : Cx}
theorem q_gcn {i : Nat} {is : List Nat} {x : Str} {pos : Pos} (hm : i ∈ is) (hN : X.N.Nodup) (hi : X.N[i]? = some x := by rfl) (hx : Loc X.env.scope x := by first | exact .inl rfl | exact .inr rfl) (hf : X.fn x = true ∨ X.env.scope.names.lookup x = some .local := by first | exact .inl rfl | exact .inr rfl) : QGc X is (.Name x pos) (gN i) :=
  (pg_name hN hi hx hf).imp fun v σ H Q q => by
    obtain ⟨b, F, env, d, env', g, hd, hg, k⟩ := q
    exact k _ H F (g.put (r := .im d) hd hg) (Same.refl F) (wipe_set hm)
theorem q_gcsnil {is : List Nat} : QGcs X is [] gsNil := pgs_nil.imp fun vs σ H Q q => by
  obtain ⟨b, F, env, ds, env', g, hd, hg, k⟩ := q
  cases hd with
  | nil => cases hg; exact ⟨rfl, k σ H F g (Same.refl F) rfl⟩
  | cons _ _ => cases hg
theorem q_gcscons {is : List Nat} {e : Expr} {es : List Expr} {t : GF} {u : GFs} (h1 : QGc X is e t) (h2 : QGcs X is es u) (hs : (assignEach (e :: es) X.env).map (·.2) = assign e X.env :: (assignEach es X.env).map (·.2) := by rfl) : QGcs X is (e :: es) (gsCons t u) :=
  (pgs_cons h1 h2 hs).imp fun vs σ H Q q => by
    obtain ⟨b, F, env, ds, env', g, hd, hg, k⟩ := q
    cases hd with
    | nil => cases hg
    | cons h t =>
      unfold gsCons at hg
      split at hg
      · cases hg
      rename_i dd rr eq
      cases eq
      split at hg
      · cases hg
      rename_i e1 q1
      refine ⟨_, _, rfl, b, F, env, _, e1, g, h, q1, fun σ1 H1 F1 g1 s1 w1 => ⟨b, F1, e1, _, env', g1, t.mono s1, hg, fun σ2 H2 F2 g2 s2 w2 => k σ2 H2 F2 g2 (s1.trans s2) (w2.trans w1)⟩⟩
theorem q_gct {is : List Nat} {es : List Expr} {k : Nat} {t : GFs} {n : Nat} {pos : Pos} (hc : X.calm = true) (h : QGcs X is es t) (hlen : ∀ ds env e', t ds env = some e' → ds.length = n)
    (hn : (assignEach es X.env).length = n := by rfl) (hst : (assignEach es X.env).findIdx? (·.1) = none := by rfl) : QGc X is (.Tuple es k pos) (gT t) :=
  (pg_tup hc h hn hst).imp fun v σ H Q q => by
    obtain ⟨b, F, env, d, env', g, hd, hg, k⟩ := q
    cases hd with
    | tup h1 h2 =>
      have hg : t _ env = some env' := hg
      exact ⟨_, _, rfl, g.same.t h1, h2.length.trans (hlen _ _ _ hg), b, F, env, _, env', g, h2, hg, k⟩
    | non => cases hg
    | bl _ => cases hg
    | int _ => cases hg
    | str _ => cases hg
    | ty _ => cases hg
    | rf _ => cases hg
    | lst _ _ => cases hg
    | fz _ _ => cases hg
    | dk _ _ => cases hg
theorem gs_len1 {g : GF} : ∀ ds env e', gsCons g gsNil ds env = some e' → ds.length = 1
  | [], _, _, h => by cases h
  | [d], _, _, _ => rfl
  | d :: d2 :: r, env, e', h => by
    unfold gsCons at h
    simp only at h
    split at h
    · cases h
    · cases h
theorem gs_lenS {g : GF} {gs : GFs} {n : Nat} (hn : ∀ ds env e', gs ds env = some e' → ds.length = n) : ∀ ds env e', gsCons g gs ds env = some e' → ds.length = n + 1
  | [], _, _, h => by cases h
  | d :: r, env, e', h => by
    unfold gsCons at h
    simp only at h
    split at h
    · cases h
    · rw [List.length_cons, hn _ _ _ h]

/-! ### list comprehensions -/
def bTrue : BF := fun env => some (true, env)
abbrev QTs (X : Cx) (ifs : List Expr) (t : BF) : Prop := PTs X ifs (tBv X.K t)
theorem _root_.L2.PTs.imp {e : List Expr} {t t' : TT} (h : PTs X e t) (k : ∀ σ H Q, t' σ H Q → t σ H Q) : PTs X e t' := ⟨fun pins s σ H Q I q => h.run pins s σ H Q I (k σ H Q q)⟩
theorem q_tnil : QTs X [] bTrue := pts_nil.imp fun σ H Q q => by
  obtain ⟨b, F, env, k, env', g, hf, w⟩ := q
  cases hf
  exact w H F g (Same.refl F)
theorem q_tone {c : Expr} {t : BF} (h : QT X c t) : QTs X [c] t := pts_one h
/-- the turns: what has been made so far in acc -/
def lcF (is : List Nat) (g : GF) (t : BF) (f : EF) : List D → Ev → List D → Option (List D × Ev)
  | [], env, acc => some (acc, env)
  | d :: ds, env, acc => match g d (blank env is) with
    | none => none
    | some e1 => match t e1 with
      | none => none
      | some (false, e2) => lcF is g t f ds e2 acc
      | some (true, e2) => match f e2 with
        | none => none
        | some (r, e3) => if acc.length < SL then lcF is g t f ds e3 (acc ++ [r.d]) else none
def eLc (is : List Nat) (it : IF) (g : GF) (t : BF) (f : EF) : EF := fun env => match it env with
  | none => none
  | some (ds, e) => match lcF is g t f ds (fzs e is) [] with
    | none => none
    | some (acc, e2) => some (.fr (.lst acc), back (fzs e is) e2 is)
/-- where a comprehension stands between two turns -/
structure LcAt (K : PySem.W.Frag) (b : Base) (F1 : Hp) (σ : L2.St) (is : List Nat) (D : Addr) (F H : Hp) (env : Ev) (acc : List MP.D) : Prop where
  gd : Gd K b F (wipe σ is) H (blank env is)
  sm : Same F1 F
  ln : env.length = σ.length
  at_ : ∃ vs, H D = some (.lst vs) ∧ DnAll K F vs acc
  nf : F D = none
  no : ∀ i, ¬ OwnAt (blank env is) (wipe σ is) i D
theorem tLc_of {is : List Nat} {it : IF} {g : GF} {t : BF} {f : EF} {σ : L2.St} {H : Hp} {Q : VK} (q : tEv X.K (eLc is it g t f) σ H Q) : tLc (tIv X.K it) (tGc X.K is g) (tBv X.K t) (tEv X.K f) is σ H Q := by
  obtain ⟨b, F, env, r, env', gd, hf, k⟩ := q
  unfold eLc at hf
  split at hf
  · cases hf
  rename_i ds e1 h1
  split at hf
  · cases hf
  rename_i acc0 e2 h2
  cases hf
  refine ⟨b, F, env, ds, e1, gd, h1, fun J H1 F1 g1 s1 ok D hD => ?_⟩
  obtain ⟨F2, s2, g2, no2⟩ := g1.fzs is
  have h0D : b.H0 D = none := g1.h0 hD
  refine ⟨fun i m H => ∃ F3 env3 acc, m = ds.length - i ∧ LcAt X.K b F2 σ is D F3 H env3 acc ∧ lcF is g t f (ds.drop i) env3 acc = some (acc0, e2), ⟨ds.length, F2, fzs e1 is, [], rfl, ?_, h2⟩, ?_⟩
  · have gb := (g2.ext (Xt.fresh (o := .lst []) g2.same hD)).blank is
    refine ⟨gb, Same.refl _, g2.len, ⟨[], upd_same, .nil⟩, g2.same.free hD, fun i o => ?_⟩
    obtain ⟨⟨c, c1, c2⟩, _⟩ := id o
    obtain ⟨q, w, ⟨x, hx⟩, _⟩ := ((g2.blank is).cells i c c1).ownSome c2
    rw [o.join] at w; cases w
    rw [hD] at hx; cases hx
  · rintro i m H3 ⟨F3, env3, acc, rfl, at3, hw⟩
    obtain ⟨okS, okG⟩ := ok F3 H3 (s2.trans at3.sm) at3.gd.same
    cases q : ds[i]? with
    | none =>
      have hl := List.getElem?_eq_none_iff.mp q
      rw [List.drop_of_length_le hl] at hw
      cases hw
      refine .inl ⟨okS i hl, ?_⟩
      obtain ⟨vs, v1, v2⟩ := at3.at_
      have gk := at3.gd.back g2 at3.sm no2
      refine k _ H3 F3 gk ((s1.trans s2).trans at3.sm) ⟨D, rfl, ⟨vs, v1, v2⟩, at3.nf, h0D, fun j o => ?_⟩
      obtain ⟨⟨c, c1, c2⟩, c3⟩ := o
      rw [back_get] at c1
      by_cases e : j ∈ is
      · rw [if_pos e] at c1
        cases q3 : e2[j]? with
        | none => rw [q3] at c1; cases c1
        | some w =>
          rw [q3] at c1
          cases q4 : (fzs e1 is)[j]? with
          | none => rw [q4] at c1; cases c1; cases c2
          | some w4 => rw [q4] at c1; cases c1; rw [show (some w4).getD .un = w4 from rfl, no2 j e _ q4] at c2; cases c2
      · rw [if_neg e] at c1
        exact at3.no j ⟨⟨c, by rw [blank_get, if_neg e]; exact c1, c2⟩, by rw [wipe_get, if_neg e]; exact c3⟩
    | some d =>
      have hl := lt_of_get q
      rw [List.drop_eq_getElem_cons hl] at hw
      have hd : ds[i] = d := by rw [List.getElem?_eq_getElem hl] at q; exact Option.some.inj q
      rw [hd] at hw
      obtain ⟨go, yl⟩ := okG i d q
      refine .inr ⟨go, fun H => ∃ F3 env3 acc, LcAt X.K b F2 σ is D F3 H env3 acc ∧ lcF is g t f (ds.drop (i + 1)) env3 acc = some (acc0, e2), fun H' ⟨F4, e4, a4, l4, w4⟩ => ⟨ds.length - (i + 1), by omega, F4, e4, a4, rfl, l4, w4⟩, fun x H4 hy => ?_⟩
      obtain ⟨F4, xt, dn⟩ := yl x H4 hy
      have g4 := at3.gd.ext xt
      obtain ⟨vs, v1, v2⟩ := at3.at_
      have D4 : H4 D = some (.lst vs) := xt.hh _ _ v1
      have nf4 : F4 D = none := by
        cases w : F4 D with
        | none => rfl
        | some y =>
          rcases xt.nw D y w with z | z
          · rw [at3.nf] at z; cases z
          · rw [v1] at z; cases z
      unfold lcF at hw
      split at hw
      · cases hw
      rename_i e5 h5
      refine ⟨b.re F4 (wipe σ is) H4 (blank env3 is), F4, blank env3 is, d, e5, g4.re, dn, h5, fun σ5 H5 F5 g5 s5 w5 => ⟨w5.trans ?_, ?_⟩⟩
      · apply List.ext_getElem?
        intro j
        rw [wipe_get, wipe_get]
        by_cases e : j ∈ is
        · rw [if_pos e, if_pos e]
          cases σ[j]? <;> rfl
        · rw [if_neg e, if_neg e]
      have ww : wipe σ5 is = wipe σ is := w5.trans (by
        apply List.ext_getElem?
        intro j
        rw [wipe_get, wipe_get]
        by_cases e : j ∈ is
        · rw [if_pos e, if_pos e]
          cases σ[j]? <;> rfl
        · rw [if_neg e, if_neg e])
      have next : ∀ {F6 H6 : Hp} {e6 : Ev} {ac : List MP.D} {ws : List V}, Gd X.K (b.re F4 (wipe σ is) H4 (blank env3 is)) F6 σ5 H6 e6 → Same F4 F6 → (H6 D = some (.lst vs) → F6 D = none → DnAll X.K F6 ws ac → LcAt X.K b F2 σ is D F6 (upd H6 D (.lst ws)) e6 ac) ∧ H6 D = some (.lst vs) ∧ F6 D = none ∧ LcAt X.K b F2 σ is D F6 H6 e6 acc := fun {F6 H6 e6 ac ws} g6 s6 => by
        obtain ⟨k1, k2, k3⟩ := g4.kept g6 D4 at3.no
        have g7 := (g4.unre g6).blank is
        rw [ww] at g7
        have ln6 : e6.length = σ.length := by
          have := g7.len
          rw [blank_length, wipe_length] at this; exact this
        have no7 : ∀ j, ¬ OwnAt (blank e6 is) (wipe σ is) j D := fun j ⟨⟨c, c1, c2⟩, c3⟩ => by
          rw [blank_get] at c1
          by_cases e : j ∈ is
          · rw [if_pos e] at c1
            cases q6 : e6[j]? with
            | none => rw [q6] at c1; cases c1
            | some w => rw [q6] at c1; cases c1; cases c2
          · rw [if_neg e] at c1
            refine k3 j ⟨⟨c, c1, c2⟩, ?_⟩
            rw [← ww, wipe_get, if_neg e] at c3; exact c3
        have sm6 := (at3.sm.trans xt.ff).trans s6
        refine ⟨fun hD6 nF hA => ⟨g7.other nF h0D no7, sm6, ln6, ⟨ws, upd_same, hA⟩, nF, no7⟩, k1, k2 nf4, g7, sm6, ln6, ⟨vs, k1, (v2.mono xt.ff).mono s6⟩, k2 nf4, no7⟩
      cases q2 : t e5 with
      | none => rw [q2] at hw; cases hw
      | some re =>
        obtain ⟨kk, e6⟩ := re
        rw [q2] at hw
        refine ⟨_, F5, e5, kk, e6, g5, q2, fun H6 F6 g6 s6 => ?_⟩
        cases kk with
        | false => exact iteF ⟨F6, e6, acc, (next (ac := acc) (ws := vs) g6 (s5.trans s6)).2.2.2, hw⟩
        | true =>
          simp only at hw
          cases q3 : f e6 with
          | none => rw [q3] at hw; cases hw
          | some re =>
            obtain ⟨r7, e7⟩ := re
            rw [q3] at hw
            simp only at hw
            split at hw
            · rename_i hz
              refine iteT ⟨_, F6, e6, r7, e7, g6, q3, fun v H7 F7 g7 s7 rv => ?_⟩
              obtain ⟨F8, s8, g8, d8⟩ := rv.freeze g7
              have s48 := ((s5.trans s6).trans s7).trans s8
              obtain ⟨n1, n2, n3, n4⟩ := next (ac := acc ++ [r7.d]) (ws := vs ++ [v]) g8 s48
              have a8 := (v2.mono xt.ff).mono s48
              exact ⟨vs, n2, by rw [a8.length, SL_eq]; exact hz, F8, e7, _, n1 n2 n3 (a8.append (.cons d8 .nil)), hw⟩
            · cases hw
theorem q_lc {elt tg iter : Expr} {ifs : List Expr} {scope : Scope} (own : List (Str × Nat)) {is : List Nat} {it : IF} {g : GF} {t : BF} {f : EF} {pos : Pos} (hc : X.calm = true) (hN : X.N.Nodup) (hi : QI X tg iter it) (ok : BlkOk X.N X.env.scope scope own)
    (hg : ∀ (s : Shared) (H : Hp) (C : Addr) (cl : List (Str × Addr)) (fp : List Addr), QGc (X.blk s H scope (compEnvC scope cl C X.env) fp) is tg g) (ht : ∀ (s : Shared) (H : Hp) (C : Addr) (cl : List (Str × Addr)) (fp : List Addr), QTs (X.blk s H scope (compEnvC scope cl C X.env) fp) ifs t)
    (he : ∀ (s : Shared) (H : Hp) (C : Addr) (cl : List (Str × Addr)) (fp : List Addr), QE (X.blk s H scope (compEnvC scope cl C X.env) fp) elt f) (his : own.map (·.2) = is := by rfl) (hs : ∀ x, foldedSetIterable iter X.env x = pure x := by intro _; rfl) :
    QE X (.ListComp elt [⟨tg, iter, ifs, 0⟩] scope pos) (eLc is it g t f) := by
  subst his
  exact (pe_lc hc hN hi ok hg ht he hs).imp fun _ _ _ q => tLc_of q
theorem q_asgLc {i : Nat} {y : Str} {py : Pos} {elt tg iter : Expr} {ifs : List Expr} {scope : Scope} (own : List (Str × Nat)) {is : List Nat} {it : IF} {g : GF} {t : BF} {f : EF} {pos spos : Pos} (hc : X.calm = true) (hN : X.N.Nodup)
    (hsw : swapsWith (.ListComp elt [⟨tg, iter, ifs, 0⟩] scope pos) (some (.Name y py)) spos.line X.env = pure true) (hi : QI X tg iter it) (ok : BlkOk X.N X.env.scope scope own)
    (hg : ∀ (s : Shared) (H : Hp) (C : Addr) (cl : List (Str × Addr)) (fp : List Addr), QGc (X.blk s H scope (compEnvC scope cl C X.env) fp) is tg g) (ht : ∀ (s : Shared) (H : Hp) (C : Addr) (cl : List (Str × Addr)) (fp : List Addr), QTs (X.blk s H scope (compEnvC scope cl C X.env) fp) ifs t)
    (he : ∀ (s : Shared) (H : Hp) (C : Addr) (cl : List (Str × Addr)) (fp : List Addr), QE (X.blk s H scope (compEnvC scope cl C X.env) fp) elt f) (hy : X.N[i]? = some y := by rfl) (hyl : X.env.scope.names.lookup y = some .local := by rfl) (his : own.map (·.2) = is := by rfl) (hs : ∀ x, foldedSetIterable iter X.env x = pure x := by intro _; rfl) :
    QS X (.Assign [.Name y py] (.ListComp elt [⟨tg, iter, ifs, 0⟩] scope pos) spos) (sAsg i (eLc is it g t f)) := by
  subst his
  exact q_asgT (ps_setLc hc hN hy hyl hsw hi ok hg ht he hs) fun _ _ _ q => tLc_of q
end
end MP
namespace MP
open PySem PySem.Spec PyProof.Rows L2

/-! ### defs -/
/-- an argument: a datum, or an object lent -/
inductive Arg where
  | im (d : D) | bo (d : D)
def Arg.cell : Arg → C
  | .im d => .im d
  | .bo d => .bo d
def Arg.isBo : Arg → Bool
  | .bo _ => true
  | _ => false
abbrev Fn := List Arg → Option (R × List Arg)
def ArgOk (K : PySem.W.Frag) (F H : Hp) (v : V) : Arg → Prop
  | .im d => Dn K F v d
  | .bo d => ∃ p, v = .ref p ∧ OwnO K F H p d ∧ F p = none
def ArgBk (K : PySem.W.Frag) (F H : Hp) (v : V) : Arg → Prop
  | .im d => Dn K F v d ∧ ∃ p o, v = .ref p ∧ F p = some o
  | .bo d => ∃ p, v = .ref p ∧ OwnO K F H p d ∧ F p = none
def Bor (vs : List V) (args : List Arg) (i : Nat) (p : Addr) : Prop := (∃ d, args[i]? = some (.bo d)) ∧ vs[i]? = some (.ref p)
structure ArgsOk (K : PySem.W.Frag) (F H : Hp) (vs : List V) (args : List Arg) : Prop where
  len : vs.length = args.length
  each : ∀ (i : Nat) (v : V) (a : Arg), vs[i]? = some v → args[i]? = some a → ArgOk K F H v a
  dis : ∀ (i j : Nat) (p : Addr), Bor vs args i p → Bor vs args j p → i = j
/-- what a def promises: Φ of its arguments -/
def spOf (K : PySem.W.Frag) (n : Nat) (Φ : Fn) : Sp := fun vs H Q _ => ∃ F args r args', vs.length = n ∧ ArgsOk K F H vs args ∧ Ag F H ∧ Φ args = some (r, args') ∧
  ∀ v H' F', Same F F' → Ag F' H' → (∀ a o, F' a = some o → F a = some o ∨ H a = none ∨ ∃ i, Bor vs args i a) → (∀ a o, H a = some o → (∀ i, ¬ Bor vs args i a) → H' a = some o) →
    args'.length = args.length → (∀ (i : Nat) (w : V) (d : D) (a : Arg), vs[i]? = some w → args[i]? = some (.bo d) → args'[i]? = some a → ArgBk K F' H' w a) → RF K H F' H' v r → Q v H'
def env0 (n : Nat) (args : List Arg) : Ev := args.map Arg.cell ++ List.replicate (n - args.length) .un
/-- how the arguments' cells stand behind the body -/
def outs : List Arg → Ev → Option (List Arg)
  | [], _ => some []
  | .im d :: as, c :: e => match outs as e with
    | some r => some (.im d :: r)
    | none => none
  | .bo _ :: as, .bo d :: e => match outs as e with
    | some r => some (.bo d :: r)
    | none => none
  | .bo _ :: as, .bf d :: e => match outs as e with
    | some r => some (.im d :: r)
    | none => none
  | _, _ => none
theorem outs_get : ∀ {as as' : List Arg} {e : Ev}, outs as e = some as' → as'.length = as.length ∧ ∀ (i : Nat) (d : D) (a : Arg), as[i]? = some (.bo d) → as'[i]? = some a → (∃ d', a = .bo d' ∧ e[i]? = some (.bo d')) ∨ ∃ d', a = .im d' ∧ e[i]? = some (.bf d')
  | [], as', e, h => by cases h; exact ⟨rfl, fun i d a h => by simp at h⟩
  | .im d :: as, as', [], h => by cases h
  | .im d :: as, as', c :: e, h => by
    unfold outs at h
    split at h
    · rename_i r q
      cases h
      obtain ⟨l, k⟩ := outs_get q
      refine ⟨by simp [l], fun i d2 a h1 h2 => ?_⟩
      cases i with
      | zero => simp at h1
      | succ i => simpa using k i d2 a (by simpa using h1) (by simpa using h2)
    · cases h
  | .bo d :: as, as', [], h => by cases h
  | .bo d :: as, as', .un :: e, h => by cases h
  | .bo d :: as, as', .im _ :: e, h => by cases h
  | .bo d :: as, as', .ow _ :: e, h => by cases h
  | .bo d :: as, as', .bo d3 :: e, h => by
    unfold outs at h
    split at h
    · rename_i r q
      cases h
      obtain ⟨l, k⟩ := outs_get q
      refine ⟨by simp [l], fun i d2 a h1 h2 => ?_⟩
      cases i with
      | zero => simp at h2; exact .inl ⟨d3, h2.symm, rfl⟩
      | succ i => simpa using k i d2 a (by simpa using h1) (by simpa using h2)
    · cases h
  | .bo d :: as, as', .bf d3 :: e, h => by
    unfold outs at h
    split at h
    · rename_i r q
      cases h
      obtain ⟨l, k⟩ := outs_get q
      refine ⟨by simp [l], fun i d2 a h1 h2 => ?_⟩
      cases i with
      | zero => simp at h2; exact .inr ⟨d3, h2.symm, rfl⟩
      | succ i => simpa using k i d2 a (by simpa using h1) (by simpa using h2)
    · cases h
/-- a body run on arguments: n names -/
def runF (f : SF) (n : Nat) : Fn := fun args => match f (env0 n args) with
  | some (.nx, e) => match outs args e with
    | some r => some (.im .non, r)
    | none => none
  | some (.rt v, e) => match outs args e with
    | some r => some (v, r)
    | none => none
  | _ => none

section
variable {K : PySem.W.Frag}
theorem start_get {N : List Str} {vs : List V} {i : Nat} {v : V} (h : vs[i]? = some v) : (start N vs)[i]? = some (some v) := by
  have hl := lt_of_get h
  unfold L2.start
  rw [List.getElem?_append_left (by simpa using hl), List.getElem?_map, h]; rfl
noncomputable def baseOf (F H : Hp) (N : List Str) (vs : List V) (args : List Arg) : Base :=
  { F0 := F, H0 := fun a => by classical exact if ∃ i, Bor vs args i a then none else H a, σ0 := start N vs }
theorem baseOf_bor {F H : Hp} {N : List Str} {vs : List V} {args : List Arg} {i : Nat} {a : Addr} (h : Bor vs args i a) : (baseOf F H N vs args).H0 a = none := by
  unfold baseOf; simp only; rw [if_pos ⟨i, h⟩]
theorem baseOf_cases (F H : Hp) (N : List Str) (vs : List V) (args : List Arg) (a : Addr) : (∃ i, Bor vs args i a) ∨ ((∀ i, ¬ Bor vs args i a) ∧ (baseOf F H N vs args).H0 a = H a) := by
  by_cases h : ∃ i, Bor vs args i a
  · exact .inl h
  · refine .inr ⟨fun i q => h ⟨i, q⟩, ?_⟩
    unfold baseOf; simp only; rw [if_neg h]
theorem gd_start {F H : Hp} {N : List Str} {vs : List V} {args : List Arg} (ok : ArgsOk K F H vs args) (ag : Ag F H) (hn : vs.length ≤ N.length) : Gd K (baseOf F H N vs args) F (start N vs) H (env0 N.length args) := by
  have cellAt : ∀ (i : Nat) (c : C), (env0 N.length args)[i]? = some c → (∃ a, args[i]? = some a ∧ c = a.cell) ∨ c = .un := fun i c h => by
    unfold env0 at h
    by_cases hl : i < args.length
    · rw [List.getElem?_append_left (by simpa using hl), List.getElem?_map, List.getElem?_eq_getElem hl] at h
      exact .inl ⟨args[i], List.getElem?_eq_getElem hl, by simpa using h.symm⟩
    · rw [List.getElem?_append_right (by simpa using Nat.le_of_not_lt hl), List.getElem?_replicate] at h
      split at h
      · exact .inr (by simpa using h.symm)
      · cases h
  have bor : ∀ i p, OwnAt (env0 N.length args) (start N vs) i p → Bor vs args i p := fun i p ⟨⟨c, c1, c2⟩, c3⟩ => by
    rcases cellAt i c c1 with ⟨a, a1, rfl⟩ | rfl
    · cases a with
      | im d => cases c2
      | bo d =>
        have hl : i < vs.length := by rw [ok.len]; exact lt_of_get a1
        rw [start_get (List.getElem?_eq_getElem hl)] at c3
        refine ⟨⟨d, a1⟩, ?_⟩
        rw [List.getElem?_eq_getElem hl]; simpa using c3
    · cases c2
  refine ⟨?_, ag, fun i c h => ?_, fun i j p h1 h2 => ok.dis i j p (bor i p h1) (bor j p h2), fun a o h => ?_, fun a o h => .inl h⟩
  · have := ok.len
    unfold env0 L2.start; simp; omega
  · rcases cellAt i c h with ⟨a, a1, rfl⟩ | rfl
    · have hl : i < vs.length := by rw [ok.len]; exact lt_of_get a1
      have hv := List.getElem?_eq_getElem hl
      have e := ok.each i _ a hv a1
      have st : ((start N vs)[i]?).join = some vs[i] := by rw [start_get hv]; rfl
      cases a with
      | im d => exact ⟨_, st, e⟩
      | bo d =>
        obtain ⟨p, e1, e2, e3⟩ := e
        refine ⟨p, by rw [st, e1], e2, e3, baseOf_bor (i := i) ⟨⟨d, a1⟩, by rw [hv, e1]⟩, rfl⟩
    · trivial
  · rcases baseOf_cases F H N vs args a with ⟨i, q⟩ | ⟨_, q⟩
    · rw [baseOf_bor q] at h; cases h
    · rw [q] at h; exact h
/-- a def's promise, where no repr is under way and nothing is raised -/
structure FnG (P : Program) (w : World) (K : PySem.W.Frag) (mg : Str → Option Value) (base : Heap) (k : Nat) (f : Addr) (fd : FuncData) (ps : List Str) (sp : Sp) : Prop where
  len : ∀ vs H Q E, sp vs H Q E → vs.length = ps.length
  run : ∀ (A : Around) (outer : List Env) (s : Shared) (H : Hp) (args : Args) (us : List Value) (vs : List V) (Q : VK), Room k A → A.guards = some [] → Env0 P w K mg base A outer s H → BindsTo s fd args (ps.zip us) → Vals vs us → sp vs H Q E0 →
    codeAny (model P w) A (.call (.ref f) args) (CR CX0 outer P w H s Q E0) s
theorem FnG.mono {P : Program} {w : World} {mg : Str → Option Value} {base : Heap} {j k : Nat} {f : Addr} {fd : FuncData} {ps : List Str} {sp : Sp} (F : FnG P w K mg base j f fd ps sp) (h : j ≤ k) : FnG P w K mg base k f fd ps sp :=
  ⟨F.len, fun A outer s H args us vs Q hr => F.run A outer s H args us vs Q (hr.mono h)⟩
/-- what is around a body of ours -/
structure RG (k : Nat) (A : Around) : Prop where
  r : Room k A
  g : A.guards = some []
theorem RG.mono {j k : Nat} {A : Around} (r : RG k A) (h : j ≤ k) : RG j A := ⟨r.r.mono h, r.g⟩
/-- THE RULE: a def by its body's combinator -/
theorem fn_ok {P : Program} {w : World} {mg : Str → Option Value} {base : Heap} {x qual : Str} {st : Stmt} {f : Addr} {fd : FuncData} {N ps : List Str} {k : Nat} {code : SF} (Fu : Fun K x qual st f fd) (S : FnScope N ps (defScope st))
    (hb : ∀ (cdv : Value) (A : Around) (outer : List Env) (s : Shared) (H : Hp), RG k (A.deeper (envOfC qual (defScope st) s.heap.objs.size f cdv)) →
      QB (cxOf CX0 P w K mg base N qual (defScope st) f cdv A outer s H E0).nox (defBody st) code) : FnG P w K mg base (k + 1) f fd ps (spOf K ps.length (runF code N.length)) := by
  have hlen : ∀ vs H Q E, spOf K ps.length (runF code N.length) vs H Q E → vs.length = ps.length := fun vs H Q E ⟨_, _, _, _, h, _⟩ => h
  refine ⟨hlen, fun A outer s H ags us vs Q hr hgd e0 hbd rv hsp => ?_⟩
  obtain ⟨oc, od, kV, doc, pm, an, cdv, ct, osl, rfl, lk, hcd⟩ := Fu.ex
  have hl0 := hlen _ _ _ _ hsp
  have KX : K.In s.heap := e0.mod.kin.keeps fun b o e => (e0.bs b o e).1
  have lim : s.heap.NoLimit := e0.mod.nolimit.keeps fun b o e => (e0.bs b o e).1
  refine Att.call_fn KX lim lk hcd hr.depth hbd ?_ (fun s1 x => ?_) S.co S.gen S.kind
  · rw [List.all_eq_true]
    intro y hy
    rcases S.par y.1 (List.of_mem_zip hy).1 with q | q
    · rw [q]; rfl
    · rw [q]; rfl
  have I : Inv (cxOf CX0 P w K mg base N qual (defScope st) f cdv A outer s H E0).nox [] (start N vs) H s1 := (inv_start S hr.hd e0 hl0 rv x).wish _
  have main : tSv K code { nx := fun _ H' => Q .non H', rt := Q } (start N vs) H := by
    clear I
    have h := hsp
    obtain ⟨F, args, r, args', hl, ok, ag, hΦ, k⟩ := h
    have hpl : ps.length ≤ N.length := by have := congrArg List.length S.pre; rw [List.length_take] at this; omega
    have g0 := gd_start ok ag (N := N) (by omega)
    have fin : ∀ {v : V} {σ' : L2.St} {H' F' : Hp} {env' : Ev} {r : R} {args' : List Arg}, Gd K (baseOf F H N vs args) F' σ' H' env' → Same F F' → RV K (baseOf F H N vs args) F' H' σ' env' v r → outs args env' = some args' →
        (∀ v H' F', Same F F' → Ag F' H' → (∀ a o, F' a = some o → F a = some o ∨ H a = none ∨ ∃ i, Bor vs args i a) → (∀ a o, H a = some o → (∀ i, ¬ Bor vs args i a) → H' a = some o) →
          args'.length = args.length → (∀ (i : Nat) (w : V) (d : D) (a : Arg), vs[i]? = some w → args[i]? = some (.bo d) → args'[i]? = some a → ArgBk K F' H' w a) → RF K H F' H' v r → Q v H') → Q v H' := by
      intro v σ' H' F' env' r args' g s rv ho k
      obtain ⟨l1, l2⟩ := outs_get ho
      refine k v H' F' s g.same (fun a o h => ?_) (fun a o h nb => ?_) l1 (fun i w d a h1 h2 h3 => ?_) ?_
      · rcases g.new a o h with q | q
        · exact .inl q
        · rcases baseOf_cases F H N vs args a with ⟨i, z⟩ | ⟨_, z⟩
          · exact .inr (.inr ⟨i, z⟩)
          · rw [z] at q; exact .inr (.inl q)
      · rcases baseOf_cases F H N vs args a with ⟨i, z⟩ | ⟨_, z⟩
        · exact absurd z (nb i)
        · exact g.keep a o (by rw [z]; exact h)
      · have s0 : ((baseOf F H N vs args).σ0[i]?).join = some w := by
          show ((start N vs)[i]?).join = some w
          rw [start_get h1]; rfl
        rcases l2 i d a h2 h3 with ⟨d', rfl, hc⟩ | ⟨d', rfl, hc⟩
        · obtain ⟨p, q1, q2, q3, q4, q5⟩ := g.cells i _ hc
          rw [q1, s0] at q5
          exact ⟨p, Option.some.inj q5, q2, q3⟩
        · obtain ⟨v', q1, q2, q3, q4⟩ := g.cells i _ hc
          rw [q1, s0] at q3
          cases q3
          exact ⟨q2, q4⟩
      · cases r with
        | im d => exact rv
        | fr d =>
          obtain ⟨p, e, h1, h2, h3, h4⟩ := rv
          refine ⟨p, e, ?_, h2, h1⟩
          rcases baseOf_cases F H N vs args p with ⟨i, z⟩ | ⟨_, z⟩
          · exfalso
            obtain ⟨⟨d0, z1⟩, z2⟩ := id z
            have hl : i < args'.length := by rw [l1]; exact lt_of_get z1
            have s0 : ((baseOf F H N vs args).σ0[i]?).join = some (.ref p) := by
              show ((start N vs)[i]?).join = some (.ref p)
              rw [start_get z2]; rfl
            rcases l2 i d0 _ z1 (List.getElem?_eq_getElem hl) with ⟨d', _, hc⟩ | ⟨d', _, hc⟩
            · obtain ⟨p', q1, _, _, _, q5⟩ := g.cells i _ hc
              rw [q1, s0] at q5
              cases q5
              exact h4 i (OwnAt.of hc rfl q1)
            · obtain ⟨v', q1, q2, q3, p2, o2, q4, q5⟩ := g.cells i _ hc
              rw [q1, s0] at q3
              cases q3
              cases q4
              rw [h2] at q5; cases q5
          · rw [z] at h3; exact h3
    unfold runF at hΦ
    split at hΦ
    · rename_i e1 h1
      split at hΦ
      · rename_i rr h2
        cases hΦ
        exact ⟨baseOf F H N vs args, F, _, _, _, g0, h1, fun σ' H' F' g s => fin (r := .im .non) g s .non h2 k⟩
      · cases hΦ
    · rename_i v1 e1 h1
      split at hΦ
      · rename_i rr h2
        cases hΦ
        exact ⟨baseOf F H N vs args, F, _, _, _, g0, h1, fun v σ' H' F' g s rv => fin g s rv h2 k⟩
      · cases hΦ
    · cases hΦ
  refine wpAny_mono ((hb cdv A outer s H ⟨hr.deeper _, hgd⟩).run [] s1 (start N vs) H _ I main) (fun fl s' hs => ?_) fun e s' hs => hs.elim
  have fin : ∀ {σ' : L2.St} {H' : Hp} {v : V} {u : Value}, Inv (cxOf CX0 P w K mg base N qual (defScope st) f cdv A outer s H E0).nox [] σ' H' s' → RelV v u → Q v H' → CE outer P w H s Q u s' :=
    fun {σ' H' v u} J rv q => ⟨v, H', J.os, J.bare, J.base, J.hok, rv, q⟩
  cases fl with
  | ret u =>
    obtain ⟨v, σ', H', J, rv, q⟩ := hs
    exact fin J rv q
  | next =>
    obtain ⟨σ', H', J, q⟩ := hs
    exact fin (v := V.non) (u := Value.none) J rfl q
  | brk =>
    obtain ⟨_, _, _, q⟩ := hs
    exact False.elim q
  | cont =>
    obtain ⟨_, _, _, q⟩ := hs
    exact False.elim q
end

/-! ### the call of a def -/
def toArg (env : Ev) : P → Option Arg
  | .val d => some (.im d)
  | .slot i => match env[i]? with
    | some (.im d) => some (.im d)
    | some (.bf d) => some (.im d)
    | some (.ow d) => some (.bo d)
    | some (.bo d) => some (.bo d)
    | _ => none
def toArgs (env : Ev) : List P → Option (List Arg)
  | [] => some []
  | p :: ps => match toArg env p with
    | none => none
    | some a => match toArgs env ps with
      | none => none
      | some as => some (a :: as)
def C.back : C → Arg → C
  | .ow _, .bo d => .ow d
  | .ow _, .im d => .im d
  | .bo _, .bo d => .bo d
  | .bo _, .im d => .bf d
  | c, _ => c
/-- the lent objects come back -/
def writeB (env : Ev) : List P → List Arg → List Arg → Ev
  | .slot i :: ps, .bo _ :: as, b :: bs => match env[i]? with
    | some c => writeB (env.set i (c.back b)) ps as bs
    | none => writeB env ps as bs
  | _ :: ps, _ :: as, _ :: bs => writeB env ps as bs
  | _, _, _ => env
def lent : List P → List Arg → List Nat
  | .slot i :: ps, .bo _ :: as => i :: lent ps as
  | _ :: ps, _ :: as => lent ps as
  | _, _ => []
def apart : List Nat → Bool
  | [] => true
  | i :: is => !is.contains i && apart is
def eFn (Φ : Fn) (a : AF) : EF := fun env => match a env with
  | none => none
  | some (ps, e) => match toArgs e ps with
    | none => none
    | some args => if apart (lent ps args) then match Φ args with
      | none => none
      | some (r, args') => some (r, writeB e ps args args')
      else none

def wbAt (j : Nat) : List P → List Arg → List Arg → Option Arg
  | .slot i :: ps, .bo _ :: as, b :: bs => if i = j then some b else wbAt j ps as bs
  | .slot _ :: ps, .im _ :: as, _ :: bs => wbAt j ps as bs
  | .val _ :: ps, _ :: as, _ :: bs => wbAt j ps as bs
  | _, _, _ => none
theorem wb_none {j : Nat} : ∀ {ps : List P} {as bs : List Arg}, j ∉ lent ps as → wbAt j ps as bs = none
  | [], _, _, _ => by simp [wbAt]
  | .slot i :: ps, [], _, _ => by simp [wbAt]
  | .slot i :: ps, .im d :: as, [], _ => by simp [wbAt]
  | .slot i :: ps, .im d :: as, b :: bs, h => by
    simp only [wbAt]; exact wb_none (by simpa [lent] using h)
  | .slot i :: ps, .bo d :: as, [], _ => by simp [wbAt]
  | .slot i :: ps, .bo d :: as, b :: bs, h => by
    simp only [lent, List.mem_cons, not_or] at h
    simp only [wbAt]
    rw [if_neg (Ne.symm h.1)]
    exact wb_none h.2
  | .val d :: ps, [], _, _ => by simp [wbAt]
  | .val d :: ps, a :: as, [], _ => by simp [wbAt]
  | .val d :: ps, a :: as, b :: bs, h => by
    simp only [wbAt]; exact wb_none (by simpa [lent] using h)
theorem wb_get {j : Nat} : ∀ {ps : List P} {as bs : List Arg} {env : Ev}, apart (lent ps as) = true → (writeB env ps as bs)[j]? = match wbAt j ps as bs with
    | some b => (env[j]?).map (·.back b)
    | none => env[j]?
  | [], _, _, _, _ => by simp [wbAt, writeB]
  | .slot i :: ps, [], _, _, _ => by simp [wbAt, writeB]
  | .slot i :: ps, .im d :: as, [], _, _ => by simp [wbAt, writeB]
  | .slot i :: ps, .im d :: as, b :: bs, env, h => by
    simp only [wbAt, writeB]; exact wb_get (by simpa [lent] using h)
  | .slot i :: ps, .bo d :: as, [], _, _ => by simp [wbAt, writeB]
  | .slot i :: ps, .bo d :: as, b :: bs, env, h => by
    simp only [lent, apart, Bool.and_eq_true, Bool.not_eq_true'] at h
    have hn : i ∉ lent ps as := by
      intro q
      have := List.contains_iff_mem.mpr q
      rw [h.1] at this; cases this
    simp only [wbAt, writeB]
    cases q : env[i]? with
    | none =>
      simp only
      rw [wb_get h.2]
      by_cases e : i = j
      · subst e; rw [if_pos rfl, wb_none hn, q]; rfl
      · rw [if_neg e]
    | some c =>
      simp only
      rw [wb_get h.2]
      have hl := lt_of_get q
      by_cases e : i = j
      · subst e; rw [if_pos rfl, wb_none hn, List.getElem?_set_self hl, q]; rfl
      · rw [if_neg e, List.getElem?_set_ne e]
  | .val d :: ps, [], _, _, _ => by simp [wbAt, writeB]
  | .val d :: ps, a :: as, [], _, _ => by simp [wbAt, writeB]
  | .val d :: ps, a :: as, b :: bs, env, h => by
    simp only [wbAt, writeB]; exact wb_get (by simpa [lent] using h)
theorem wb_some {j : Nat} {b : Arg} : ∀ {ps : List P} {as bs : List Arg}, wbAt j ps as bs = some b → ∃ (i : Nat), ps[i]? = some (P.slot j) ∧ (∃ d, as[i]? = some (Arg.bo d)) ∧ bs[i]? = some b
  | [], _, _, h => by simp [wbAt] at h
  | .slot i :: ps, [], _, h => by simp [wbAt] at h
  | .slot i :: ps, .im d :: as, [], h => by simp [wbAt] at h
  | .slot i :: ps, .im d :: as, c :: bs, h => by
    simp only [wbAt] at h
    obtain ⟨k, a1, a2, a3⟩ := wb_some h
    exact ⟨k + 1, by simpa using a1, by simpa using a2, by simpa using a3⟩
  | .slot i :: ps, .bo d :: as, [], h => by simp [wbAt] at h
  | .slot i :: ps, .bo d :: as, c :: bs, h => by
    simp only [wbAt] at h
    by_cases e : i = j
    · subst e
      rw [if_pos rfl] at h
      cases h
      exact ⟨0, rfl, ⟨d, rfl⟩, rfl⟩
    · rw [if_neg e] at h
      obtain ⟨k, a1, a2, a3⟩ := wb_some h
      exact ⟨k + 1, by simpa using a1, by simpa using a2, by simpa using a3⟩
  | .val d :: ps, [], _, h => by simp [wbAt] at h
  | .val d :: ps, a :: as, [], h => by simp [wbAt] at h
  | .val d :: ps, a :: as, c :: bs, h => by
    simp only [wbAt] at h
    obtain ⟨k, a1, a2, a3⟩ := wb_some h
    exact ⟨k + 1, by simpa using a1, by simpa using a2, by simpa using a3⟩
theorem wb_lent {j : Nat} {d : D} : ∀ {i : Nat} {ps : List P} {as bs : List Arg}, ps[i]? = some (.slot j) → as[i]? = some (.bo d) → bs.length = as.length → wbAt j ps as bs ≠ none
  | _, [], _, _, h, _, _ => by simp at h
  | _, _ :: _, [], _, _, h, _ => by simp at h
  | _, _ :: _, _ :: _, [], _, _, h => by simp at h
  | 0, p :: ps, a :: as, b :: bs, h1, h2, _ => by
    simp at h1 h2; subst h1; subst h2
    simp [wbAt]
  | i + 1, .slot k :: ps, .bo _ :: as, b :: bs, h1, h2, h3 => by
    simp only [wbAt]
    by_cases e : k = j
    · rw [if_pos e]; exact fun h => nomatch h
    · rw [if_neg e]; exact wb_lent (i := i) (by simpa using h1) (by simpa using h2) (by simpa using h3)
  | i + 1, .slot k :: ps, .im _ :: as, b :: bs, h1, h2, h3 => by
    simp only [wbAt]; exact wb_lent (i := i) (by simpa using h1) (by simpa using h2) (by simpa using h3)
  | i + 1, .val _ :: ps, _ :: as, b :: bs, h1, h2, h3 => by
    simp only [wbAt]; exact wb_lent (i := i) (by simpa using h1) (by simpa using h2) (by simpa using h3)
theorem writeB_length : ∀ {ps : List P} {as bs : List Arg} {env : Ev}, (writeB env ps as bs).length = env.length
  | [], _, _, _ => by simp [writeB]
  | .slot i :: ps, [], _, _ => by simp [writeB]
  | .slot i :: ps, .im d :: as, [], _ => by simp [writeB]
  | .slot i :: ps, .im d :: as, b :: bs, env => by simp only [writeB]; exact writeB_length
  | .slot i :: ps, .bo d :: as, [], _ => by simp [writeB]
  | .slot i :: ps, .bo d :: as, b :: bs, env => by
    simp only [writeB]
    split
    · rw [writeB_length, List.length_set]
    · exact writeB_length
  | .val d :: ps, [], _, _ => by simp [writeB]
  | .val d :: ps, a :: as, [], _ => by simp [writeB]
  | .val d :: ps, a :: as, b :: bs, env => by simp only [writeB]; exact writeB_length
theorem toArgs_get {env : Ev} : ∀ {ps : List P} {as : List Arg}, toArgs env ps = some as → as.length = ps.length ∧ ∀ (i : Nat) (p : P) (a : Arg), ps[i]? = some p → as[i]? = some a → toArg env p = some a
  | [], as, h => by cases h; exact ⟨rfl, fun i p a h => by simp at h⟩
  | p :: ps, as, h => by
    unfold toArgs at h
    split at h
    · cases h
    rename_i a h1
    split at h
    · cases h
    rename_i as2 h2
    cases h
    obtain ⟨l, k⟩ := toArgs_get h2
    refine ⟨by simp [l], fun i q b e1 e2 => ?_⟩
    cases i with
    | zero => simp at e1 e2; subst e1; subst e2; exact h1
    | succ i => exact k i q b (by simpa using e1) (by simpa using e2)
theorem PVals.get {K : PySem.W.Frag} {F : Hp} {σ : L2.St} : ∀ {vs : List V} {ps : List P} {i : Nat} {v : V} {p : P}, PVals K F σ vs ps → vs[i]? = some v → ps[i]? = some p → PVal K F σ v p
  | _, _, _, _, _, .nil, h, _ => by simp at h
  | _, _, 0, _, _, .cons h _, e1, e2 => by simp at e1 e2; subst e1; subst e2; exact h
  | _, _, i + 1, _, _, .cons _ t, e1, e2 => PVals.get t (i := i) (by simpa using e1) (by simpa using e2)
theorem PVals.length {K : PySem.W.Frag} {F : Hp} {σ : L2.St} : ∀ {vs : List V} {ps : List P}, PVals K F σ vs ps → vs.length = ps.length
  | _, _, .nil => rfl
  | _, _, .cons _ t => by simp [PVals.length t]
/-- an own cell that was lent -/
theorem toArg_bo {env : Ev} {p : P} {d : D} (h : toArg env p = some (.bo d)) : ∃ i c, p = .slot i ∧ env[i]? = some c ∧ c.own = true ∧ (c = .ow d ∨ c = .bo d) := by
  cases p with
  | val d => cases h
  | slot i =>
    unfold toArg at h
    simp only at h
    split at h
    · cases h
    · cases h
    · rename_i d' q; cases h; exact ⟨i, _, rfl, q, rfl, .inl rfl⟩
    · rename_i d' q; cases h; exact ⟨i, _, rfl, q, rfl, .inr rfl⟩
    · cases h
section
variable {X : Cx}
theorem call_of {n : Nat} {Φ : Fn} {a : AF} {σ : L2.St} {H : Hp} {Q : VK} {E : XK} (q : tEv X.K (eFn Φ a) σ H Q) (hn : ∀ env ps env', a env = some (ps, env') → ps.length = n) : tCall (spOf X.K n Φ) [] E (tAv X.K a) σ H Q := by
  obtain ⟨b, F, env, res, env', g, hf, k⟩ := q
  unfold eFn at hf
  split at hf
  · cases hf
  rename_i ps e1 h1
  split at hf
  · cases hf
  rename_i args h2
  split at hf
  · rename_i hap
    split at hf
    · cases hf
    rename_i r args' h3
    cases hf
    refine ⟨b, F, env, ps, e1, g, h1, fun vs H1 F1 g1 s1 pv => ?_⟩
    show spOf X.K n Φ (vs ++ []) H1 Q E
    rw [List.append_nil]
    obtain ⟨la, ga⟩ := toArgs_get h2
    have lp := pv.length
    have bor : ∀ i p, Bor vs args i p → ∃ j, ps[i]? = some (P.slot j) ∧ OwnAt e1 σ j p := fun i p ⟨⟨d, b1⟩, b2⟩ => by
      have hl : i < ps.length := by rw [← la]; exact lt_of_get b1
      have hp := List.getElem?_eq_getElem hl
      obtain ⟨j, c, e, c1, c2, _⟩ := toArg_bo (ga i _ _ hp b1)
      refine ⟨j, by rw [hp, e], OwnAt.of c1 c2 ?_⟩
      have := pv.get b2 hp
      rw [e] at this; exact this
    have slot_dis : ∀ (i j m : Nat), ps[i]? = some (P.slot m) → ps[j]? = some (P.slot m) → (∃ d, args[i]? = some (Arg.bo d)) → (∃ d, args[j]? = some (Arg.bo d)) → i = j := by
      have gen : ∀ (ps : List P) (args : List Arg), apart (lent ps args) = true → ∀ (i m : Nat), ps[i]? = some (P.slot m) → (∃ d, args[i]? = some (Arg.bo d)) → m ∈ lent ps args := by
        intro ps
        induction ps with
        | nil => intro _ _ i m h; simp at h
        | cons p ps ih =>
          intro args hap i m hi hd
          cases args with
          | nil => obtain ⟨d, h⟩ := hd; simp at h
          | cons a args =>
            cases i with
            | zero =>
              simp at hi hd; subst hi
              obtain ⟨d, rfl⟩ := hd
              simp [lent]
            | succ i =>
              have ih2 : apart (lent ps args) = true → m ∈ lent ps args := fun h => ih args h i m (by simpa using hi) (by simpa using hd)
              cases p with
              | val _ => cases a <;> exact ih2 (by simpa [lent] using hap)
              | slot k =>
                cases a with
                | im _ => exact ih2 (by simpa [lent] using hap)
                | bo _ =>
                  simp only [lent, apart, Bool.and_eq_true] at hap
                  exact List.mem_cons_of_mem _ (ih2 hap.2)
      have main : ∀ (ps : List P) (args : List Arg), apart (lent ps args) = true → ∀ (i j m : Nat), ps[i]? = some (P.slot m) → ps[j]? = some (P.slot m) → (∃ d, args[i]? = some (Arg.bo d)) → (∃ d, args[j]? = some (Arg.bo d)) → i = j := by
        intro ps
        induction ps with
        | nil => intro _ _ i j m h; simp at h
        | cons p ps ih =>
          intro args hap i j m hi hj di dj
          cases args with
          | nil => obtain ⟨d, h⟩ := di; simp at h
          | cons a args =>
            have tl : apart (lent ps args) = true := by
              cases p with
              | val _ => cases a <;> simpa [lent] using hap
              | slot k =>
                cases a with
                | im _ => simpa [lent] using hap
                | bo _ => simp only [lent, apart, Bool.and_eq_true] at hap; exact hap.2
            have hd : ∀ (j m : Nat), (p :: ps)[0]? = some (P.slot m) → (∃ d, (a :: args)[0]? = some (Arg.bo d)) → ps[j]? = some (P.slot m) → (∃ d, args[j]? = some (Arg.bo d)) → False := fun j' m' h0 d0 hj' dj' => by
              simp at h0 d0; subst h0
              obtain ⟨d, rfl⟩ := d0
              simp only [lent, apart, Bool.and_eq_true, Bool.not_eq_true'] at hap
              have := List.contains_iff_mem.mpr (gen ps args hap.2 j' m' hj' dj')
              rw [hap.1] at this; cases this
            cases i with
            | zero =>
              cases j with
              | zero => rfl
              | succ j => exact (hd j m hi di (by simpa using hj) (by simpa using dj)).elim
            | succ i =>
              cases j with
              | zero => exact (hd i m hj dj (by simpa using hi) (by simpa using di)).elim
              | succ j => rw [ih args tl i j m (by simpa using hi) (by simpa using hj) (by simpa using di) (by simpa using dj)]
      exact main ps args hap
    refine ⟨F1, args, res, args', lp.trans (hn _ _ _ h1), ⟨by rw [la, lp], fun i v x hv hx => ?_, fun i j p h h' => ?_⟩, g1.same, h3, fun v H' F' sF ag nw kp len' each rf => ?_⟩
    · have hl : i < ps.length := by rw [← la]; exact lt_of_get hx
      have hp := List.getElem?_eq_getElem hl
      have ta := ga i _ _ hp hx
      have pvi := pv.get hv hp
      cases hpi : ps[i] with
      | val d => rw [hpi] at ta pvi; cases ta; exact pvi
      | slot j =>
        rw [hpi] at ta pvi
        unfold toArg at ta
        simp only at ta
        have pj : σ[j]?.join = some v := pvi
        split at ta
        · rename_i d q; cases ta; obtain ⟨w, e, k⟩ := g1.cells j _ q; rw [pj] at e; cases e; exact k
        · rename_i d q; cases ta; obtain ⟨w, e, k, _⟩ := g1.cells j _ q; rw [pj] at e; cases e; exact k
        · rename_i d q; cases ta; obtain ⟨w, e, k, k2, _⟩ := g1.cells j _ q; rw [pj] at e; cases e; exact ⟨w, rfl, k, k2⟩
        · rename_i d q; cases ta; obtain ⟨w, e, k, k2, _⟩ := g1.cells j _ q; rw [pj] at e; cases e; exact ⟨w, rfl, k, k2⟩
        · cases ta
    · obtain ⟨m1, p1, o1⟩ := bor i p h
      obtain ⟨m2, p2, o2⟩ := bor j p h'
      have := g1.dis m1 m2 p o1 o2
      subst this
      exact slot_dis i j m1 p1 p2 h.1 h'.1
    · have len2 : (writeB e1 ps args args').length = e1.length := writeB_length
      have own2 : ∀ j p, OwnAt (writeB e1 ps args args') σ j p → OwnAt e1 σ j p := fun j p ⟨⟨c, c1, c2⟩, c3⟩ => by
        rw [wb_get hap] at c1
        split at c1
        · rename_i bb hb
          cases q : e1[j]? with
          | none => rw [q] at c1; cases c1
          | some c0 =>
            rw [q] at c1
            cases c1
            refine ⟨⟨c0, q, ?_⟩, c3⟩
            cases c0 <;> cases bb <;> first | rfl | (exact c2)
        · exact ⟨⟨c, c1, c2⟩, c3⟩
      have g2 : Gd X.K b F' σ H' (writeB e1 ps args args') := by
        refine ⟨len2.trans g1.len, ag, fun j c hc => ?_, fun i j p h1 h2 => g1.dis i j p (own2 i p h1) (own2 j p h2), fun a o h => ?_, fun a o h => ?_⟩
        · rw [wb_get hap] at hc
          split at hc
          · rename_i bb hb
            obtain ⟨i, i1, ⟨d0, i2⟩, i3⟩ := wb_some hb
            have hvl : i < vs.length := by rw [lp]; exact lt_of_get i1
            have hv := List.getElem?_eq_getElem hvl
            have pj : σ[j]?.join = some vs[i] := pv.get hv i1
            have ao := each i _ d0 bb hv i2 i3
            obtain ⟨j', c0, e, q, c0o, c0d⟩ := toArg_bo (ga i _ _ i1 i2)
            cases e
            rw [q] at hc
            cases hc
            have ck := g1.cells j _ q
            rcases c0d with rfl | rfl
            · obtain ⟨p, e1', e2', e3', e4'⟩ := ck
              rw [pj] at e1'
              cases bb with
              | im d =>
                exact ⟨_, pj, ao.1⟩
              | bo d =>
                obtain ⟨p2, f1, f2, f3⟩ := ao
                refine ⟨p2, by rw [pj, f1], f2, f3, ?_⟩
                rw [f1] at e1'; cases e1'; exact e4'
            · obtain ⟨p, e1', e2', e3', e4', e5'⟩ := ck
              have pj' := pj
              rw [pj] at e1'
              cases bb with
              | im d =>
                exact ⟨_, pj, ao.1, e5', ao.2⟩
              | bo d =>
                obtain ⟨p2, f1, f2, f3⟩ := ao
                refine ⟨p2, by rw [pj, f1], f2, f3, ?_, e5'⟩
                rw [f1] at e1'; cases e1'; exact e4'
          · rename_i hb
            refine (g1.cells j c hc).mono sF fun p hw ho => ?_
            obtain ⟨p', w, ⟨o, ho1⟩, hF, hB⟩ := (g1.cells j c hc).ownSome ho
            rw [hw] at w; cases w
            have nb : ∀ i, ¬ Bor vs args i p := fun i bi => by
              obtain ⟨m, m1, m2⟩ := bor i p bi
              have : m = j := g1.dis m j p m2 (OwnAt.of hc ho hw)
              subst this
              obtain ⟨⟨d0, z1⟩, _⟩ := bi
              exact wb_lent m1 z1 len' hb
            refine ⟨ho1.trans (kp p o ho1 nb).symm, fun _ => ?_⟩
            cases z : F' p with
            | none => rfl
            | some x =>
              rcases nw p x z with y | y | ⟨i, y⟩
              · rw [hF] at y; cases y
              · rw [ho1] at y; cases y
              · exact absurd y (nb i)
        · refine kp a o (g1.keep a o h) fun i bi => ?_
          obtain ⟨m, _, m2⟩ := bor i a bi
          rw [(g1.own0 m2).1] at h; cases h
        · rcases nw a o h with y | y | ⟨i, y⟩
          · exact g1.new a o y
          · exact .inr (g1.h0 y)
          · obtain ⟨m, _, m2⟩ := bor i a y
            exact .inr (g1.own0 m2).1
      refine k v H' F' g2 (s1.trans sF) ?_
      cases res with
      | im d => exact rf
      | fr d =>
        obtain ⟨p, e, f1, f2, f3⟩ := rf
        refine ⟨p, e, f3, f2, g1.h0 f1, fun j o => ?_⟩
        obtain ⟨⟨c, c1, c2⟩, _⟩ := own2 j p o
        obtain ⟨q, w, ⟨x, hx⟩, _⟩ := (g1.cells j c c1).ownSome c2
        rw [o.join] at w; cases w
        rw [f1] at hx; cases hx
  · cases hf
end
end MP
namespace MP
open PySem PySem.Spec PyProof.Rows L2
theorem al_nil : ∀ (env : Ev) (ps : List P) (env' : Ev), aNil env = some (ps, env') → ps.length = 0 := fun env ps env' h => by cases h; rfl
theorem al_cons {p : PF} {a : AF} {n : Nat} (h : ∀ (env : Ev) (ps : List P) (env' : Ev), a env = some (ps, env') → ps.length = n) : ∀ (env : Ev) (ps : List P) (env' : Ev), aCons p a env = some (ps, env') → ps.length = n + 1 := fun env ps env' q => by
  unfold aCons at q
  split at q
  · cases q
  split at q
  · cases q
  rename_i xs e2 h2
  cases q
  rw [List.length_cons, h _ _ _ h2]
/-- a def of the module that keeps its promise -/
structure DefOk (P : Program) (w : World) (K : PySem.W.Frag) (mg : Str → Option Value) (base : Heap) (x : Str) (ps : List Str) (k : Nat) (Φ : Fn) : Prop where
  ex : ∃ (f : Addr) (fd : FuncData), mg x = some (.ref f) ∧ PySem.W.keepIn K (.ref f) = true ∧ Binds K fd ps [] ∧ FnG P w K mg base k f fd ps (spOf K ps.length Φ)
theorem DefOk.mono {P : Program} {w : World} {K : PySem.W.Frag} {mg : Str → Option Value} {base : Heap} {x : Str} {ps : List Str} {j k : Nat} {Φ : Fn} (h : DefOk P w K mg base x ps j Φ) (hk : j ≤ k) : DefOk P w K mg base x ps k Φ := by
  obtain ⟨f, fd, h1, h2, h3, h4⟩ := h.ex
  exact ⟨f, fd, h1, h2, h3, h4.mono hk⟩
section
variable {X : Cx}
theorem q_fn {x : Str} {ps : List Str} {k n : Nat} {Φ : Fn} {a : AF} {e : Expr} {es : List Expr} {p pos : Pos} (h : DefOk X.prog X.w X.K X.mg X.base x ps k Φ) (hr : RG k X.A) (ha : QA X (e :: es) a)
    (hn : ∀ (env : Ev) (ps : List P) (env' : Ev), a env = some (ps, env') → ps.length = n) (hl : n = ps.length := by rfl) (hg : Gl X x := by rfl) (hdb : (x == ("__debug__" : Str)) = false := by decide)
    (he : starEach (e :: es) X.env = (false, eval e X.env) :: starEach es X.env := by rfl) (hpl : (backTo pos (starEach es X.env)).any (·.1) = false := by rfl) : QE X (.Call (.Name x p) (e :: es) [] pos) (eFn Φ a) := by
  obtain ⟨f, fd, h1, h2, h3, h4⟩ := h.ex
  refine PE.imp (t := tCall (spOf X.K ps.length Φ) [] E0 (tAv X.K a)) ⟨fun pins s σ H Q I q => ?_⟩ fun σ H Q q => call_of q (fun env ps env' z => by rw [hn env ps env' z, hl])
  refine wpAny_Call_Name_kw (ld_glob I hg h1 (PySem.W.callWith_K (h₀ := X.base) I.ok.mod.kin h2 (thn (ha.run pos pins s σ H _ I q) fun us s1 ⟨vs, H1, I1, r, q1⟩ => ⟨I1.kIn, ?_⟩) he hpl) hdb)
  have q1 : spOf X.K ps.length Φ (vs ++ []) H1 Q E0 := q1
  rw [List.append_nil] at q1
  have r2 : Vals vs us := r
  have hlu : (us ++ ([] : List Value)).length = ps.length := by rw [List.append_nil, ← r2.length]; exact h4.len _ _ _ _ q1
  have bd := h3 s1 us I1.kIn hlu
  rw [List.append_nil] at bd
  show wpAny _ _ (call (.ref f) ([] ++ us)) _ _ s1
  rw [List.nil_append]
  refine wpAny_call (codeAny_mono (h4.run X.A X.stack s1 H1 ⟨us, []⟩ us vs Q hr.r hr.g I1.env0 bd r2 q1) fun rs s' hq => ?_)
  cases rs with
  | error e => exact False.elim hq
  | ok fl =>
    cases fl with
    | ret u => exact I1.after hq
    | next => exact False.elim hq
    | brk => exact False.elim hq
    | cont => exact False.elim hq

/-! ### values that are known to be ints, texts, .. -/
theorem RdD.str_inv {K : PySem.W.Frag} {F H : Hp} {v : V} {x : Tx} (h : RdD K F H v (.str x)) : v = .str (S x) := by
  rcases h with h | ⟨p, _, h⟩
  · cases h; rfl
  · exact h.elim
theorem RdD.bl_inv {K : PySem.W.Frag} {F H : Hp} {v : V} {x : Bool} (h : RdD K F H v (.bl x)) : v = .bl x := by
  rcases h with h | ⟨p, _, h⟩
  · cases h; rfl
  · exact h.elim
theorem RdD.ty_inv {K : PySem.W.Frag} {F H : Hp} {v : V} {x : String} (h : RdD K F H v (.ty x)) : v = .ty x := by
  rcases h with h | ⟨p, _, h⟩
  · cases h; rfl
  · exact h.elim
theorem RdD.non_inv {K : PySem.W.Frag} {F H : Hp} {v : V} (h : RdD K F H v .non) : v = .non := by
  rcases h with h | ⟨p, _, h⟩
  · cases h; rfl
  · exact h.elim
theorem RdD.tup_inv {K : PySem.W.Frag} {F H : Hp} {v : V} {ds : List D} (g : Ag F H) (h : RdD K F H v (.tup ds)) : ∃ a vs, v = .ref a ∧ SqT K F a vs ∧ SqT K H a vs ∧ DnAll K F vs ds := by
  rcases h with h | ⟨p, _, h⟩
  · cases h with
    | tup h1 h2 => exact ⟨_, _, rfl, h1, g.t h1, h2⟩
  · exact h.elim
theorem RdD.lst_inv {K : PySem.W.Frag} {F H : Hp} {v : V} {ds : List D} (g : Ag F H) (h : RdD K F H v (.lst ds)) : ∃ a vs, v = .ref a ∧ H a = some (.lst vs) ∧ DnAll K F vs ds := by
  rcases h with h | ⟨p, rfl, vs, h1, h2⟩
  · cases h with
    | lst h1 h2 => exact ⟨_, _, rfl, g.lst h1, h2⟩
  · exact ⟨_, _, rfl, h1, h2⟩
theorem RdD.fz_inv {K : PySem.W.Frag} {F H : Hp} {v : V} {ds : List D} (g : Ag F H) (h : RdD K F H v (.fz ds)) : ∃ a vs, v = .ref a ∧ SqL K H a vs ∧ DnAll K F vs ds := by
  rcases h with h | ⟨p, _, h⟩
  · cases h with
    | fz h1 h2 => exact ⟨_, _, rfl, g.l h1, h2⟩
  · exact h.elim
theorem RdD.dk_inv {K : PySem.W.Frag} {F H : Hp} {v : V} {kvs : List (Ky × D)} (g : Ag F H) (h : RdD K F H v (.dk kvs)) : ∃ a ks, v = .ref a ∧ Rd H a (.dK ks) ∧ KvAll K F ks kvs := by
  rcases h with h | ⟨p, rfl, vs, h1, h2⟩
  · cases h with
    | dk h1 h2 => exact ⟨_, _, rfl, g.rd h1, h2⟩
  · exact ⟨_, _, rfl, .inl h1, h2⟩
/-- sequences -/
def D.seq : D → Option (List D)
  | .lst ds => some ds
  | .tup ds => some ds
  | .fz ds => some ds
  | _ => none
theorem RdD.seq_inv {K : PySem.W.Frag} {F H : Hp} {v : V} {d : D} {ds : List D} (g : Ag F H) (h : RdD K F H v d) (e : d.seq = some ds) : ∃ a vs, v = .ref a ∧ (SqL K H a vs ∨ SqT K H a vs) ∧ DnAll K F vs ds := by
  cases d <;> cases e
  · obtain ⟨a, vs, h1, _, h2, h3⟩ := h.tup_inv g; exact ⟨a, vs, h1, .inr h2, h3⟩
  · obtain ⟨a, vs, h1, h2, h3⟩ := h.lst_inv g; exact ⟨a, vs, h1, .inl (.of h2), h3⟩
  · obtain ⟨a, vs, h1, h2, h3⟩ := h.fz_inv g; exact ⟨a, vs, h1, .inl h2, h3⟩

/-! ### whole numbers -/
def fInt (f : Int → Int → Option D) : D → D → Option R := fun x y => match x, y with
  | .int i, .int j => match f i j with
    | some d => some (.im d)
    | none => none
  | _, _ => none
theorem ok_int {K : PySem.W.Frag} {C : Int → Int → Prop} {g : Int → Int → V} {f : Int → Int → Option D} (h : ∀ i j d, f i j = some d → C i j ∧ d.flat = true ∧ g i j = d.v) :
    OpOk K (fun x y H Q => ∃ i j, x = .int i ∧ y = .int j ∧ C i j ∧ Q (g i j) H) (fInt f) := fun F H x y dx dy res Q ag hx hy e k => by
  unfold fInt at e
  split at e
  · rename_i i j
    split at e
    · rename_i d q
      cases e
      obtain ⟨h1, h2, h3⟩ := h i j d q
      refine ⟨i, j, hx.int_inv, hy.int_inv, h1, ?_⟩
      rw [h3]
      exact k _ H F (Xt.refl ag) (Dn.flat h2)
    · cases e
  · cases e
theorem ok_int0 {K : PySem.W.Frag} {g : Int → Int → V} {f : Int → Int → D} (h : ∀ i j, (f i j).flat = true ∧ g i j = (f i j).v) :
    OpOk K (rI0 g) (fInt fun i j => some (f i j)) := fun F H x y dx dy res Q ag hx hy e k => by
  obtain ⟨i, j, h1, h2, _, h3⟩ := ok_int (K := K) (C := fun _ _ => True) (g := g) (f := fun i j => some (f i j)) (fun i j d q => by cases q; exact ⟨trivial, (h i j).1, (h i j).2⟩) F H x y dx dy res Q ag hx hy e k
  exact ⟨i, j, h1, h2, h3⟩
abbrev fSub := fInt fun i j => some (.int (i - j))
abbrev fMul := fInt fun i j => if i.natAbs < 18446744073709551616 ∨ j.natAbs < 18446744073709551616 then some (.int (i * j)) else none
abbrev fDiv := fInt fun i j => if 0 < j ∧ j < 1073741824 then some (.int (i / j)) else none
abbrev fMod := fInt fun i j => if 0 < j then some (.int (i % j)) else none
abbrev fPow := fInt fun i j => if 0 ≤ j ∧ j ≤ 1000000 ∧ i.natAbs < 18446744073709551616 then some (.int (i ^ j.toNat)) else none
abbrev fXor := fInt fun i j => some (.int (Builtin.bitXor i j))
theorem ok_sub {K : PySem.W.Frag} : OpOk K (rI0 fun i j => .int (i - j)) fSub := ok_int0 fun _ _ => ⟨rfl, rfl⟩
theorem ok_xor {K : PySem.W.Frag} : OpOk K (rI0 fun i j => .int (Builtin.bitXor i j)) fXor := ok_int0 fun _ _ => ⟨rfl, rfl⟩
theorem ok_mul {K : PySem.W.Frag} : OpOk K (rI CMul fun i j => .int (i * j)) fMul := ok_int fun i j d h => by
  split at h
  · rename_i c
    cases h
    refine ⟨?_, rfl, rfl⟩
    rcases c with c | c
    · exact .inl ⟨by omega, by omega⟩
    · exact .inr ⟨by omega, by omega⟩
  · cases h
theorem ok_div {K : PySem.W.Frag} : OpOk K (rI CDiv fun i j => .int (i / j)) fDiv := ok_int fun i j d h => by
  split at h
  · rename_i c; cases h; exact ⟨c, rfl, rfl⟩
  · cases h
theorem ok_mod {K : PySem.W.Frag} : OpOk K (rI (fun _ j => 0 < j) fun i j => .int (i % j)) fMod := ok_int fun i j d h => by
  split at h
  · rename_i c; cases h; exact ⟨c, rfl, rfl⟩
  · cases h
theorem ok_pow {K : PySem.W.Frag} : OpOk K (rI CPow fun i j => .int (i ^ j.toNat)) fPow := ok_int fun i j d h => by
  split at h
  · rename_i c; cases h; exact ⟨⟨c.1, c.2.1, by have := c.2.2; omega⟩, rfl, rfl⟩
  · cases h
/-- + of ints, texts, lists, tuples -/
def fAdd : D → D → Option R := fun x y => match x, y with
  | .int i, .int j => some (.im (.int (i + j)))
  | .str a, .str b => if a.length + b.length ≤ SL then some (.im (.str (a ++ b))) else none
  | .lst a, .lst b => if a.length + b.length ≤ SL then some (.fr (.lst (a ++ b))) else none
  | .tup a, .tup b => if a.length + b.length ≤ SL then some (.im (.tup (a ++ b))) else none
  | _, _ => none
def rAdd (K : PySem.W.Frag) : R2 := fun x y H Q => (((rI0 fun i j => .int (i + j)) x y H Q ∨ (∃ i j, x = .str i ∧ y = .str j ∧ i.length + j.length ≤ sizeLine ∧ Q (.str (i ++ j)) H)) ∨ rCat x y H Q) ∨ rCatA K x y H Q
theorem op_addA : OpR X (binaryOp .Add) (rAdd X.K) := ((op_add.or op_add_str).or op_cat).or op_catA
theorem ok_add {K : PySem.W.Frag} : OpOk K (rAdd K) fAdd := fun F H x y dx dy res Q ag hx hy e k => by
  unfold fAdd at e
  split at e
  · rename_i i j
    cases e
    exact .inl (.inl (.inl ⟨i, j, hx.int_inv, hy.int_inv, k _ H F (Xt.refl ag) (.int _)⟩))
  · rename_i a b
    split at e
    · rename_i c
      cases e
      refine .inl (.inl (.inr ⟨S a, S b, hx.str_inv, hy.str_inv, by rw [S_length, S_length, SL_eq]; exact c, ?_⟩))
      rw [S_append]
      exact k _ H F (Xt.refl ag) (.str _)
    · cases e
  · rename_i a b
    split at e
    · rename_i c
      cases e
      obtain ⟨p, vs, rfl, h1, h2⟩ := hx.lst_inv ag
      obtain ⟨q, ws, rfl, h3, h4⟩ := hy.lst_inv ag
      refine .inl (.inr ⟨p, q, vs, ws, rfl, rfl, h1, h3, by rw [h2.length, h4.length, SL_eq]; exact c, fun r hr => ?_⟩)
      exact k _ _ F (Xt.fresh ag hr) ⟨r, rfl, hr, ag.free hr, vs ++ ws, upd_same, h2.append h4⟩
    · cases e
  · rename_i a b
    split at e
    · rename_i c
      cases e
      obtain ⟨p, vs, rfl, h0, h1, h2⟩ := hx.tup_inv ag
      obtain ⟨q, ws, rfl, h00, h3, h4⟩ := hy.tup_inv ag
      refine .inr ⟨p, q, vs, ws, rfl, rfl, h1, h3, by rw [h2.length, h4.length, SL_eq]; exact c, fun z => ?_, fun z1 z2 => ?_, fun z1 z2 r hr => ?_⟩
      · subst z
        cases h2
        exact k _ H F (Xt.refl ag) (.tup h00 h4)
      · subst z2
        cases h4
        rw [List.append_nil] at k
        exact k _ H F (Xt.refl ag) (.tup h0 h2)
      · have xt := Xt.laid (o := .tup (vs ++ ws)) ag hr
        exact k _ _ _ xt (.tup (.of upd_same) ((h2.append h4).mono xt.ff))
    · cases e
  · cases e
/-- * also of a text, a list by a number -/
def fRep : D → D → Option R := fun x y => match x, y with
  | .lst xs, .int k => if small k = true ∧ xs.length * k.toNat ≤ SL then some (.fr (.lst (List.replicate k.toNat xs).flatten)) else none
  | _, _ => none
theorem DnAll.flatRep {K : PySem.W.Frag} {F : Hp} {vs : List V} {ds : List D} (h : DnAll K F vs ds) : ∀ n : Nat, DnAll K F (List.replicate n vs).flatten (List.replicate n ds).flatten
  | 0 => .nil
  | n + 1 => by
    rw [List.replicate_succ, List.replicate_succ, List.flatten_cons, List.flatten_cons]
    exact h.append (DnAll.flatRep h n)
theorem ok_rep {K : PySem.W.Frag} : OpOk K rRep fRep := fun F H x y dx dy res Q ag hx hy e k => by
  unfold fRep at e
  split at e
  · rename_i xs j
    split at e
    · rename_i c
      cases e
      obtain ⟨p, vs, rfl, h1, h2⟩ := hx.lst_inv ag
      obtain ⟨c1, c2⟩ := small_iff c.1
      refine ⟨p, j, vs, rfl, hy.int_inv, h1, by omega, by omega, by rw [h2.length, SL_eq]; exact c.2, fun r hr => ?_⟩
      exact k _ _ F (Xt.fresh ag hr) ⟨r, rfl, hr, ag.free hr, _, upd_same, h2.flatRep _⟩
    · cases e
  · cases e

/-! ### comparisons -/
abbrev bI (f : Int → Int → Bool) : Int → Int → Option D := fun i j => some (.bl (f i j))
def ltT (a b : Tx) : Bool := decide (a < b)
def fLt : D → D → Option R := fun x y => match x, y with
  | .int i, .int j => some (.im (.bl (decide (i < j))))
  | .str a, .str b => some (.im (.bl (ltT a b)))
  | _, _ => none
def fGt : D → D → Option R := fun x y => match x, y with
  | .int i, .int j => some (.im (.bl (decide (j < i))))
  | .str a, .str b => some (.im (.bl (ltT b a)))
  | _, _ => none
def fLe : D → D → Option R := fun x y => match x, y with
  | .int i, .int j => some (.im (.bl (decide (i ≤ j))))
  | .str a, .str b => some (.im (.bl (!ltT b a)))
  | _, _ => none
def fGe : D → D → Option R := fun x y => match x, y with
  | .int i, .int j => some (.im (.bl (decide (j ≤ i))))
  | .str a, .str b => some (.im (.bl (!ltT a b)))
  | _, _ => none
def rOr (r r' : R2) : R2 := fun x y H Q => r x y H Q ∨ r' x y H Q
theorem op_ltA : OpR X (compareOp .Lt) (rOr (rI0 fun i j => .bl (decide (i < j))) (fun x y H Q => ∃ i j, x = .str i ∧ y = .str j ∧ Q (.bl (decide (i.cps.toList < j.cps.toList))) H)) := op_lt.or op_lt_str
theorem op_gtA : OpR X (compareOp .Gt) (rOr (rI0 fun i j => .bl (decide (j < i))) (fun x y H Q => ∃ i j, x = .str i ∧ y = .str j ∧ Q (.bl (decide (j.cps.toList < i.cps.toList))) H)) := op_gt.or op_gt_str
theorem op_leA : OpR X (compareOp .LtE) (rOr (rI0 fun i j => .bl (decide (i ≤ j))) (fun x y H Q => ∃ i j, x = .str i ∧ y = .str j ∧ Q (.bl (!decide (j.cps.toList < i.cps.toList))) H)) := op_le.or op_le_str
theorem op_geA : OpR X (compareOp .GtE) (rOr (rI0 fun i j => .bl (decide (j ≤ i))) (fun x y H Q => ∃ i j, x = .str i ∧ y = .str j ∧ Q (.bl (!decide (i.cps.toList < j.cps.toList))) H)) := op_ge.or op_ge_str
theorem ok_ord {K : PySem.W.Frag} {f : Int → Int → Bool} {g : List Nat → List Nat → Bool} {h : D → D → Option R} (hh : ∀ x y r, h x y = some r → (∃ i j, x = .int i ∧ y = .int j ∧ r = .im (.bl (f i j))) ∨ ∃ a b, x = .str a ∧ y = .str b ∧ r = .im (.bl (g a b))) :
    OpOk K (rOr (rI0 fun i j => .bl (f i j)) (fun x y H Q => ∃ i j, x = .str i ∧ y = .str j ∧ Q (.bl (g i.cps.toList j.cps.toList)) H)) h := fun F H x y dx dy res Q ag hx hy e k => by
  rcases hh dx dy res e with ⟨i, j, rfl, rfl, rfl⟩ | ⟨a, b, rfl, rfl, rfl⟩
  · exact .inl ⟨i, j, hx.int_inv, hy.int_inv, k _ H F (Xt.refl ag) (.bl _)⟩
  · refine .inr ⟨S a, S b, hx.str_inv, hy.str_inv, ?_⟩
    rw [S_cps, S_cps]
    exact k _ H F (Xt.refl ag) (.bl _)
theorem ok_lt {K : PySem.W.Frag} : OpOk K (rOr (rI0 fun i j => .bl (decide (i < j))) (fun x y H Q => ∃ i j, x = .str i ∧ y = .str j ∧ Q (.bl (decide (i.cps.toList < j.cps.toList))) H)) fLt :=
  ok_ord (f := fun i j => decide (i < j)) (g := fun i j => decide (i < j)) fun x y r e => by
    unfold fLt at e
    split at e
    · cases e; exact .inl ⟨_, _, rfl, rfl, rfl⟩
    · cases e; exact .inr ⟨_, _, rfl, rfl, rfl⟩
    · cases e
theorem ok_gt {K : PySem.W.Frag} : OpOk K (rOr (rI0 fun i j => .bl (decide (j < i))) (fun x y H Q => ∃ i j, x = .str i ∧ y = .str j ∧ Q (.bl (decide (j.cps.toList < i.cps.toList))) H)) fGt :=
  ok_ord (f := fun i j => decide (j < i)) (g := fun i j => decide (j < i)) fun x y r e => by
    unfold fGt at e
    split at e
    · cases e; exact .inl ⟨_, _, rfl, rfl, rfl⟩
    · cases e; exact .inr ⟨_, _, rfl, rfl, rfl⟩
    · cases e
theorem ok_le {K : PySem.W.Frag} : OpOk K (rOr (rI0 fun i j => .bl (decide (i ≤ j))) (fun x y H Q => ∃ i j, x = .str i ∧ y = .str j ∧ Q (.bl (!decide (j.cps.toList < i.cps.toList))) H)) fLe :=
  ok_ord (f := fun i j => decide (i ≤ j)) (g := fun i j => !decide (j < i)) fun x y r e => by
    unfold fLe at e
    split at e
    · cases e; exact .inl ⟨_, _, rfl, rfl, rfl⟩
    · cases e; exact .inr ⟨_, _, rfl, rfl, rfl⟩
    · cases e
theorem ok_ge {K : PySem.W.Frag} : OpOk K (rOr (rI0 fun i j => .bl (decide (j ≤ i))) (fun x y H Q => ∃ i j, x = .str i ∧ y = .str j ∧ Q (.bl (!decide (i.cps.toList < j.cps.toList))) H)) fGe :=
  ok_ord (f := fun i j => decide (j ≤ i)) (g := fun i j => !decide (i < j)) fun x y r e => by
    unfold fGe at e
    split at e
    · cases e; exact .inl ⟨_, _, rfl, rfl, rfl⟩
    · cases e; exact .inr ⟨_, _, rfl, rfl, rfl⟩
    · cases e
/-- is None, is not None -/
def D.isNon : D → Bool
  | .non => true
  | _ => false
def fIs : D → D → Option R := fun x y => match y with
  | .non => some (.im (.bl x.isNon))
  | _ => none
def fIsN : D → D → Option R := fun x y => match y with
  | .non => some (.im (.bl (!x.isNon)))
  | _ => none
theorem RdD.isNon {K : PySem.W.Frag} {F H : Hp} {v : V} {d : D} (h : RdD K F H v d) : decide (v = .non) = d.isNon := by
  rcases h with h | ⟨p, rfl, h⟩
  · cases h <;> simp [D.isNon]
  · cases d <;> first | exact h.elim | simp [D.isNon]
theorem ok_is {K : PySem.W.Frag} : OpOk K (fun x y H Q => y = .non ∧ Q (.bl (decide (x = .non))) H) fIs := fun F H x y dx dy res Q ag hx hy e k => by
  unfold fIs at e
  split at e
  · cases e
    refine ⟨hy.non_inv, ?_⟩
    rw [hx.isNon]
    exact k _ H F (Xt.refl ag) (.bl _)
  · cases e
theorem ok_isN {K : PySem.W.Frag} : OpOk K (fun x y H Q => y = .non ∧ Q (.bl (!decide (x = .non))) H) fIsN := fun F H x y dx dy res Q ag hx hy e k => by
  unfold fIsN at e
  split at e
  · cases e
    refine ⟨hy.non_inv, ?_⟩
    rw [hx.isNon]
    exact k _ H F (Xt.refl ag) (.bl _)
  · cases e
/-! ### equality of data -/
mutual
def eqP : D → D → Bool
  | .non, .non => true
  | .bl a, .bl b => a == b
  | .bl a, .int b => (if a then 1 else 0) == b
  | .int a, .bl b => a == (if b then 1 else 0)
  | .int a, .int b => a == b
  | .str a, .str b => a == b
  | .tup a, .tup b => eqPs a b
  | .lst a, .lst b => eqPs a b
  | _, _ => false
def eqPs : List D → List D → Bool
  | [], [] => true
  | x :: xs, y :: ys => eqP x y && eqPs xs ys
  | _, _ => false
end
mutual
/-- data that == may compare -/
def D.plain : D → Bool
  | .non => true
  | .bl _ => true
  | .int _ => true
  | .str x => x.all (· < 1114112)
  | .tup ds => D.plains ds
  | .lst ds => D.plains ds
  | _ => false
def D.plains : List D → Bool
  | [] => true
  | d :: ds => d.plain && D.plains ds
end
mutual
def D.dep : D → Nat
  | .tup ds => D.deps ds + 1
  | .lst ds => D.deps ds + 1
  | _ => 0
def D.deps : List D → Nat
  | [] => 0
  | d :: ds => max d.dep (D.deps ds)
end
mutual
def D.py : D → PyData
  | .bl b => .bool b
  | .int i => .int i
  | .str x => .str (S x)
  | .tup ds => .tuple (D.pys ds)
  | .lst ds => .list (D.pys ds)
  | _ => .none
def D.pys : List D → List PyData
  | [] => []
  | d :: ds => d.py :: D.pys ds
end

mutual
theorem py_dp {K : PySem.W.Frag} {F H : Hp} (ag : Ag F H) : ∀ (d : D) (v : V), Dn K F v d → d.plain = true → Dp K H v d.py
  | .non, v, h, _ => by cases h; exact .non
  | .bl b, v, h, _ => by cases h; exact .bl b
  | .int i, v, h, _ => by cases h; exact .int i
  | .str x, v, h, _ => by cases h; exact .str (S x)
  | .tup ds, v, h, p => by
    cases h with
    | tup h t =>
      rw [D.py]
      exact .tup (ag.t h) (pys_dp ag ds _ t (by rw [D.plain] at p; exact p))
  | .lst ds, v, h, p => by
    cases h with
    | lst h t =>
      rw [D.py]
      exact .lst (.of (ag.lst h)) (pys_dp ag ds _ t (by rw [D.plain] at p; exact p))
  | .dk _, _, _, p => by cases p
  | .dt _, _, _, p => by cases p
  | .st _, _, _, p => by cases p
  | .fz _, _, _, p => by cases p
  | .ty _, _, _, p => by cases p
  | .rf _, _, _, p => by cases p
theorem pys_dp {K : PySem.W.Frag} {F H : Hp} (ag : Ag F H) : ∀ (ds : List D) (vs : List V), DnAll K F vs ds → D.plains ds = true → DpAll K H vs (D.pys ds)
  | [], vs, h, _ => by cases h; exact .nil
  | d :: ds, vs, h, p => by
    cases h with
    | cons h t =>
      rw [D.plains, Bool.and_eq_true] at p
      rw [D.pys]
      exact .cons (py_dp ag d _ h p.1) (pys_dp ag ds _ t p.2)
end
theorem RdD.dp {K : PySem.W.Frag} {F H : Hp} {v : V} {d : D} (ag : Ag F H) (h : RdD K F H v d) (p : d.plain = true) : Dp K H v d.py := by
  rcases h with h | ⟨q, rfl, h⟩
  · exact py_dp ag d v h p
  · cases d <;> simp only [OwnO] at h
    · obtain ⟨vs, h1, h2⟩ := h
      rw [D.py]; exact .lst (.of h1) (pys_dp ag _ _ h2 (by rw [D.plain] at p; exact p))
    · cases p
mutual
theorem py_lay : ∀ d : D, d.plain = true → d.py.canLay0 = true
  | .non, _ => rfl
  | .bl _, _ => rfl
  | .int _, _ => rfl
  | .str x, p => by
    have p : x.all (· < 1114112) = true := p
    rw [D.py, PyData.canLay0]
    unfold PyData.strOk S
    simpa using p
  | .tup ds, p => by rw [D.py, PyData.canLay0]; exact pys_lay ds (by simpa [D.plain] using p)
  | .lst ds, p => by rw [D.py, PyData.canLay0]; exact pys_lay ds (by simpa [D.plain] using p)
theorem pys_lay : ∀ ds : List D, D.plains ds = true → PyData.canLayAll0 (D.pys ds) = true
  | [], _ => rfl
  | d :: ds, p => by
    rw [D.plains, Bool.and_eq_true] at p
    rw [D.pys, PyData.canLayAll0, py_lay d p.1, pys_lay ds p.2]; rfl
end
mutual
theorem py_dep : ∀ d : D, d.py.depth = d.dep
  | .non => rfl
  | .bl _ => rfl
  | .int _ => rfl
  | .str _ => rfl
  | .tup ds => by rw [D.py, PyData.depth, D.dep, pys_dep ds]
  | .lst ds => by rw [D.py, PyData.depth, D.dep, pys_dep ds]
  | .dk _ => rfl
  | .dt _ => rfl
  | .st _ => rfl
  | .fz _ => rfl
  | .ty _ => rfl
  | .rf _ => rfl
theorem pys_dep : ∀ ds : List D, PyData.depthAll (D.pys ds) = D.deps ds
  | [] => rfl
  | d :: ds => by rw [D.pys, PyData.depthAll, D.deps, py_dep d, pys_dep ds]
end
theorem S_beq (a b : Tx) : (S a == S b) = (a == b) := by
  by_cases h : a = b
  · subst h; simp
  · have : S a ≠ S b := fun q => h (S_inj q)
    rw [beq_eq_false_iff_ne.mpr h, beq_eq_false_iff_ne.mpr this]
mutual
theorem py_eq : ∀ a b : D, a.plain = true → b.plain = true → PyData.eqv a.py b.py = eqP a b
  | .non, b, _, q => by cases b <;> first | rfl | cases q
  | .bl a, b, _, q => by cases b <;> first | rfl | cases q
  | .int a, b, _, q => by cases b <;> first | rfl | cases q
  | .str a, b, _, q => by
    cases b with
    | str b => exact S_beq a b
    | _ => first | rfl | cases q
  | .tup a, b, p, q => by
    cases b with
    | tup b => rw [D.py, D.py, PyData.eqv, eqP]; exact pys_eq a b (by simpa [D.plain] using p) (by simpa [D.plain] using q)
    | _ => first | rfl | cases q
  | .lst a, b, p, q => by
    cases b with
    | lst b => rw [D.py, D.py, PyData.eqv, eqP]; exact pys_eq a b (by simpa [D.plain] using p) (by simpa [D.plain] using q)
    | _ => first | rfl | cases q
theorem pys_eq : ∀ a b : List D, D.plains a = true → D.plains b = true → PyData.eqvAll (D.pys a) (D.pys b) = eqPs a b
  | [], [], _, _ => rfl
  | [], _ :: _, _, _ => rfl
  | _ :: _, [], _, _ => rfl
  | x :: xs, y :: ys, p, q => by
    rw [D.plains, Bool.and_eq_true] at p q
    rw [D.pys, D.pys, PyData.eqvAll, eqPs, py_eq x y p.1 q.1, pys_eq xs ys p.2 q.2]
end
def D.okE (d : D) : Bool := d.plain && decide (d.dep ≤ 64)
theorem okE_shaped {d : D} (h : d.okE = true) : SeqAt.shaped d.py = true := by
  unfold D.okE at h
  rw [Bool.and_eq_true, decide_eq_true_eq] at h
  unfold SeqAt.shaped
  rw [py_lay d h.1, py_dep d, decide_eq_true h.2]; rfl
/-- plain values compared at once -/
def scalD : D → D → Option Bool
  | .non, .non => some true
  | .non, .int _ => some false
  | .int _, .non => some false
  | .non, .bl _ => some false
  | .bl _, .non => some false
  | .non, .str _ => some false
  | .str _, .non => some false
  | .int a, .int b => some (a == b)
  | .bl a, .bl b => some (a == b)
  | .str a, .str b => some (a == b)
  | .int _, .str _ => some false
  | .str _, .int _ => some false
  | .bl _, .str _ => some false
  | .str _, .bl _ => some false
  | _, _ => none
def eqD (x y : D) : Option Bool := match scalD x y with
  | some k => some k
  | none => if (x.okE && y.okE) = true then some (eqP x y) else none
def fEq : D → D → Option R := fun x y => match eqD x y with
  | some k => some (.im (.bl k))
  | none => none
def fNe : D → D → Option R := fun x y => match eqD x y with
  | some k => some (.im (.bl (!k)))
  | none => none
theorem okE_plain {d : D} (h : d.okE = true) : d.plain = true := by
  unfold D.okE at h
  rw [Bool.and_eq_true] at h; exact h.1
theorem dec_int (a b : Int) : decide (V.int a = V.int b) = (a == b) := by
  by_cases h : a = b
  · subst h; simp
  · rw [beq_eq_false_iff_ne.mpr h]; exact decide_eq_false fun q => h (V.int.inj q)
theorem dec_bl (a b : Bool) : decide (V.bl a = V.bl b) = (a == b) := by cases a <;> cases b <;> rfl
theorem dec_str (a b : Tx) : decide (V.str (S a) = V.str (S b)) = (a == b) := by
  by_cases h : a = b
  · subst h; simp
  · rw [beq_eq_false_iff_ne.mpr h]; exact decide_eq_false fun q => h (S_inj (V.str.inj q))
theorem scalD_ok {K : PySem.W.Frag} {F H : Hp} {x y : V} {dx dy : D} {k : Bool} (hx : RdD K F H x dx) (hy : RdD K F H y dy) (e : scalD dx dy = some k) : scal x y = true ∧ decide (x = y) = k := by
  unfold scalD at e
  split at e <;> cases e
  · rw [hx.non_inv, hy.non_inv]; exact ⟨rfl, by simp⟩
  · rw [hx.non_inv, hy.int_inv]; exact ⟨rfl, by simp⟩
  · rw [hx.int_inv, hy.non_inv]; exact ⟨rfl, by simp⟩
  · rw [hx.non_inv, hy.bl_inv]; exact ⟨rfl, by simp⟩
  · rw [hx.bl_inv, hy.non_inv]; exact ⟨rfl, by simp⟩
  · rw [hx.non_inv, hy.str_inv]; exact ⟨rfl, by simp⟩
  · rw [hx.str_inv, hy.non_inv]; exact ⟨rfl, by simp⟩
  · rw [hx.int_inv, hy.int_inv]; exact ⟨rfl, dec_int _ _⟩
  · rw [hx.bl_inv, hy.bl_inv]; exact ⟨rfl, dec_bl _ _⟩
  · rw [hx.str_inv, hy.str_inv]; exact ⟨rfl, dec_str _ _⟩
  · rw [hx.int_inv, hy.str_inv]; exact ⟨rfl, by simp⟩
  · rw [hx.str_inv, hy.int_inv]; exact ⟨rfl, by simp⟩
  · rw [hx.bl_inv, hy.str_inv]; exact ⟨rfl, by simp⟩
  · rw [hx.str_inv, hy.bl_inv]; exact ⟨rfl, by simp⟩
theorem eqD_ok {K : PySem.W.Frag} {F H : Hp} {x y : V} {dx dy : D} {k : Bool} (ag : Ag F H) (hx : RdD K F H x dx) (hy : RdD K F H y dy) (e : eqD dx dy = some k) : (scal x y = true ∧ decide (x = y) = k) ∨ (Dp K H x dx.py ∧ Dp K H y dy.py ∧ SeqAt.shaped dx.py = true ∧ SeqAt.shaped dy.py = true ∧ PyData.eqv dx.py dy.py = k) := by
  unfold eqD at e
  split at e
  · rename_i k' q
    cases e
    exact .inl (scalD_ok hx hy q)
  · split at e
    · rename_i c
      cases e
      rw [Bool.and_eq_true] at c
      exact .inr ⟨hx.dp ag (okE_plain c.1), hy.dp ag (okE_plain c.2), okE_shaped c.1, okE_shaped c.2, py_eq dx dy (okE_plain c.1) (okE_plain c.2)⟩
    · cases e
theorem op_eqA (hu : X.A.units + 64 < cLine) : OpR X (compareOp .Eq) (rOr rEq (rEqD X.K)) := op_eq.or (op_eqD hu)
theorem op_neA (hu : X.A.units + 64 < cLine) : OpR X (compareOp .NotEq) (rOr rNe (rNeD X.K)) := op_ne.or (op_neD hu)
theorem ok_eq {K : PySem.W.Frag} : OpOk K (rOr rEq (rEqD K)) fEq := fun F H x y dx dy res Q ag hx hy e k => by
  unfold fEq at e
  split at e
  · rename_i kk q
    cases e
    have fin := k _ H F (Xt.refl ag) (Dn.bl kk)
    rcases eqD_ok ag hx hy q with ⟨h1, h2⟩ | ⟨h1, h2, h3, h4, h5⟩
    · exact .inl ⟨h1, by rw [h2]; exact fin⟩
    · exact .inr ⟨_, _, h1, h2, h3, h4, by rw [h5]; exact fin⟩
  · cases e
theorem ok_ne {K : PySem.W.Frag} : OpOk K (rOr rNe (rNeD K)) fNe := fun F H x y dx dy res Q ag hx hy e k => by
  unfold fNe at e
  split at e
  · rename_i kk q
    cases e
    have fin := k _ H F (Xt.refl ag) (Dn.bl (!kk))
    rcases eqD_ok ag hx hy q with ⟨h1, h2⟩ | ⟨h1, h2, h3, h4, h5⟩
    · exact .inl ⟨h1, by rw [h2]; exact fin⟩
    · exact .inr ⟨_, _, h1, h2, h3, h4, by rw [h5]; exact fin⟩
  · cases e

/-! ### dicts as lists of pairs -/
def lkD (kvs : List (Ky × D)) (k : Ky) : Option D := (kvs.find? fun kv => decide (kv.1 = k)).map (·.2)
def putD (kvs : List (Ky × D)) (k : Ky) (d : D) : List (Ky × D) :=
  if (kvs.any fun kv => decide (kv.1 = k)) = true then kvs.map (fun kv => if kv.1 = k then (kv.1, d) else kv) else kvs ++ [(k, d)]
theorem kK_dec (a b : Ky) : decide (kK a = kK b) = decide (a = b) := by
  by_cases h : a = b
  · subst h; simp
  · rw [decide_eq_false h, decide_eq_false fun q => h (kK_inj q)]
theorem KvAll.val {K : PySem.W.Frag} {F : Hp} (k : Ky) : ∀ {ks : List (Key × V)} {kvs : List (Ky × D)}, KvAll K F ks kvs → (∀ d, lkD kvs k = some d → ∃ v, valV ks (kK k) = some v ∧ Dn K F v d) ∧ (lkD kvs k = none → valV ks (kK k) = none)
  | _, _, .nil => ⟨fun d h => (by cases h), fun _ => rfl⟩
  | _, _, .cons (k := k0) (v := v) (ks := ks) (d := d) (kvs := kvs) h t => by
    obtain ⟨i1, i2⟩ := KvAll.val k t
    unfold lkD at i1 i2 ⊢
    unfold valV at i1 i2 ⊢
    rw [List.find?_cons, List.find?_cons, kK_dec]
    by_cases e : k0 = k
    · rw [decide_eq_true e]
      exact ⟨fun d' q => ⟨v, rfl, by cases q; exact h⟩, fun q => by cases q⟩
    · rw [decide_eq_false e]
      exact ⟨i1, i2⟩
theorem KvAll.any {K : PySem.W.Frag} {F : Hp} (k : Ky) : ∀ {ks : List (Key × V)} {kvs : List (Ky × D)}, KvAll K F ks kvs → (ks.any fun kv => decide (kv.1 = kK k)) = (kvs.any fun kv => decide (kv.1 = k))
  | _, _, .nil => rfl
  | _, _, .cons h t => by rw [List.any_cons, List.any_cons, kK_dec, KvAll.any k t]
theorem KvAll.map {K : PySem.W.Frag} {F : Hp} {w : V} {e : D} (k : Ky) (hw : Dn K F w e) : ∀ {ks : List (Key × V)} {kvs : List (Ky × D)}, KvAll K F ks kvs → KvAll K F (ks.map fun kv => if kv.1 = kK k then (kv.1, w) else kv) (kvs.map fun kv => if kv.1 = k then (kv.1, e) else kv)
  | _, _, .nil => .nil
  | _, _, .cons (k := k0) h t => by
    rw [List.map_cons, List.map_cons]
    by_cases q : k0 = k
    · simp only [q, if_true]
      exact .cons hw (KvAll.map k hw t)
    · have : ¬ kK k0 = kK k := fun z => q (kK_inj z)
      simp only [q, this, if_false]
      exact .cons h (KvAll.map k hw t)
theorem KvAll.append {K : PySem.W.Frag} {F : Hp} : ∀ {ks ls : List (Key × V)} {kvs lvs : List (Ky × D)}, KvAll K F ks kvs → KvAll K F ls lvs → KvAll K F (ks ++ ls) (kvs ++ lvs)
  | _, _, _, _, .nil, h => h
  | _, _, _, _, .cons h t, u => .cons h (KvAll.append t u)
theorem KvAll.put {K : PySem.W.Frag} {F : Hp} {w : V} {e : D} {k : Ky} {ks : List (Key × V)} {kvs : List (Ky × D)} (h : KvAll K F ks kvs) (hw : Dn K F w e) : KvAll K F (putK ks (kK k) w) (putD kvs k e) := by
  unfold putK putD
  rw [h.any k]
  split
  · exact h.map k hw
  · exact h.append (.cons hw .nil)
def D.ky : D → Option Ky
  | .int i => some (.inl i)
  | .str x => some (.inr x)
  | _ => none
theorem RdD.ky {K : PySem.W.Frag} {F H : Hp} {v : V} {d : D} {k : Ky} (h : RdD K F H v d) (e : d.ky = some k) : v = kV (kK k) := by
  cases d <;> cases e
  · exact h.int_inv
  · exact h.str_inv

/-! ### subscripts -/
def fIx : D → D → Option R := fun x y => match x, y with
  | .lst xs, .int i => match atI xs i with
    | some d => some (.im d)
    | none => none
  | .fz xs, .int i => match atI xs i with
    | some d => some (.im d)
    | none => none
  | .tup xs, .int i => match atI xs i with
    | some d => some (.im d)
    | none => none
  | .str x, .int i => if x.length ≤ SL then match atI x i with
    | some c => some (.im (.str [c]))
    | none => none
    else none
  | .dk kvs, y => match y.ky with
    | none => none
    | some k => match lkD kvs k with
      | none => none
      | some d => some (.im d)
  | _, _ => none
def rIxD : R2 := fun x y H Q => ∃ a v, x = .ref a ∧ DGet H a y (some v) ∧ Q v H
theorem ix_dict (hu : X.A.units + 1 < cLine) : IxR X rIxD := by
  intro value slice pins s σ H x y v u Q I rx ry h hs
  obtain ⟨a, w, rfl, g, q⟩ := h
  cases rx
  exact tail_any (dict_typeIs I g) PySem.F.slot_dict_getitem.lookup (d_getItem hu I g ry fun w' s' I' r' => ⟨w, H, I', r', q⟩) hs
def rIxA (K : PySem.W.Frag) : R2 := fun x y H Q => rIx K x y H Q ∨ rIxD x y H Q
theorem ix_all (hu : X.A.units + 1 < cLine) : IxR X (rIxA X.K) := ix_seq.or (ix_dict hu)
theorem DnAll.atI {K : PySem.W.Frag} {F : Hp} {vs : List V} {ds : List D} {i : Int} {d : D} (h : DnAll K F vs ds) (e : L2.atI ds i = some d) : ∃ v, L2.atI vs i = some v ∧ Dn K F v d := by
  unfold L2.atI at e ⊢
  rw [h.length]
  cases q : ixN ds.length i with
  | none => rw [q] at e; cases e
  | some j =>
    rw [q] at e
    exact h.get (i := j) e
theorem ok_ix {K : PySem.W.Frag} : OpOk K (rIxA K) fIx := fun F H x y dx dy res Q ag hx hy e k => by
  unfold fIx at e
  split at e
  · rename_i xs i
    split at e
    · rename_i d q
      cases e
      obtain ⟨p, vs, rfl, h1, h2⟩ := hx.lst_inv ag
      obtain ⟨v, e1, e2⟩ := h2.atI q
      exact .inl (.inl ⟨p, vs, i, v, rfl, hy.int_inv, .of h1, e1, k _ H F (Xt.refl ag) e2⟩)
    · cases e
  · rename_i xs i
    split at e
    · rename_i d q
      cases e
      obtain ⟨p, vs, rfl, h1, h2⟩ := hx.fz_inv ag
      obtain ⟨v, e1, e2⟩ := h2.atI q
      exact .inl (.inl ⟨p, vs, i, v, rfl, hy.int_inv, h1, e1, k _ H F (Xt.refl ag) e2⟩)
    · cases e
  · rename_i xs i
    split at e
    · rename_i d q
      cases e
      obtain ⟨p, vs, rfl, _, h1, h2⟩ := hx.tup_inv ag
      obtain ⟨v, e1, e2⟩ := h2.atI q
      exact .inl (.inr (.inl ⟨p, vs, i, v, rfl, hy.int_inv, h1, e1, k _ H F (Xt.refl ag) e2⟩))
    · cases e
  · rename_i z i
    split at e
    · rename_i c
      split at e
      · rename_i d q
        cases e
        refine .inl (.inr (.inr ⟨S z, i, d, hx.str_inv, hy.int_inv, by rw [S_length, SL_eq]; exact c, by rw [S_cps]; exact q, ?_⟩))
        exact k _ H F (Xt.refl ag) (Dn.str [d])
      · cases e
    · cases e
  · rename_i kvs
    split at e
    · cases e
    rename_i kk q1
    split at e
    · cases e
    rename_i d q2
    cases e
    obtain ⟨p, ks, rfl, h1, h2⟩ := hx.dk_inv ag
    obtain ⟨v, e1, e2⟩ := (h2.val kk).1 d q2
    exact .inr ⟨p, v, rfl, .inl ⟨ks, kK kk, h1, hy.ky q1, e1.symm⟩, k _ H F (Xt.refl ag) e2⟩
  · cases e
theorem q_sub {a c : Expr} {pa pb : PF} {pos : Pos} (hu : X.A.units + 1 < cLine) (ha : QP X a pa) (hb : QP X c pb) (hs : PlainIx c := by exact fun _ _ => rfl) : QE X (.Subscript a c pos) (eOp fIx pa pb) := q_ix ok_ix (ix_all hu) ha hb hs

/-! ### slices -/
def cutT {α : Type} (xs : List α) (lo hi : Option Int) : List α := (xs.drop (HT.sIx xs.length 0 lo)).take (HT.sIx xs.length xs.length hi - HT.sIx xs.length 0 lo)
theorem DnAll.cut {K : PySem.W.Frag} {F : Hp} {vs : List V} {ds : List D} (h : DnAll K F vs ds) (lo hi : Option Int) : DnAll K F (cutV vs lo hi) (cutT ds lo hi) := by
  unfold cutV cutT
  rw [h.length]
  exact (h.drop _).take _
def fSl : D → Option Int → Option Int → Option R := fun x lo hi => match x with
  | .str z => if z.length ≤ SL then some (.im (.str (cutT z lo hi))) else none
  | .lst xs => some (.fr (.lst (cutT xs lo hi)))
  | .fz xs => some (.fr (.lst (cutT xs lo hi)))
  | .tup xs => some (.im (.tup (cutT xs lo hi)))
  | _ => none
/-- an end of a slice -/
abbrev OF := Ev → Option (Option Int × Ev)
def oNo : OF := fun env => some (none, env)
def oI (p : PF) : OF := fun env => match p env with
  | none => none
  | some (q, e) => match rdP e q with
    | some (.int i) => some (some i, e)
    | _ => none
def tOv (K : PySem.W.Frag) (f : OF) : TO := fun σ H Q => ∃ b F env o env', Gd K b F σ H env ∧ f env = some (o, env') ∧ ∀ H' F', Gd K b F' σ H' env' → Same F F' → Q o H'
abbrev QO (X : Cx) (e : Option Expr) (f : OF) : Prop := PO X e (tOv X.K f)
theorem _root_.L2.PO.imp {e : Option Expr} {t t' : TO} (h : PO X e t) (k : ∀ σ H Q, t' σ H Q → t σ H Q) : PO X e t' := ⟨fun pins s σ H Q I q => h.run pins s σ H Q I (k σ H Q q)⟩
theorem q_ono : QO X none oNo := po_none.imp fun σ H Q q => by
  obtain ⟨b, F, env, o, env', g, hf, k⟩ := q
  cases hf
  exact k H F g (Same.refl F)
theorem q_oi {e : Expr} {p : PF} (h : QP X e p) : QO X (some e) (oI p) := (po_some h).imp fun σ H Q q => by
  obtain ⟨b, F, env, o, env', g, hf, k⟩ := q
  unfold oI at hf
  split at hf
  · cases hf
  rename_i q1 e1 h1
  split at hf
  · rename_i i h2
    cases hf
    exact ⟨b, F, env, q1, env', g, h1, fun v H' F' g' s pv => ⟨i, (g'.rd pv h2).int_inv, k H' F' g' s⟩⟩
  · cases hf
def eSl (p : PF) (lo hi : OF) : EF := fun env => match p env with
  | none => none
  | some (q, e1) => match lo e1 with
    | none => none
    | some (l, e2) => match hi e2 with
      | none => none
      | some (h, e3) => match rdP e3 q with
        | none => none
        | some d => match fSl d l h with
          | none => none
          | some r => some (r, e3)
def rSl (K : PySem.W.Frag) : V → Option Int → Option Int → Hp → VK → Prop := fun x lo hi H Q => (rSlS x lo hi H Q ∨ rSlL K x lo hi H Q) ∨ rSlA K x lo hi H Q
theorem sl_all : SlR X (rSl X.K) := (sl_str.or sl_list).or sl_tupA
theorem q_sl {a : Expr} {lo hi : Option Expr} {p : PF} {l h : OF} {p2 pos : Pos} (ha : QP X a p) (hl : QO X lo l) (hh : QO X hi h) : QE X (.Subscript a (.Slice lo hi none p2) pos) (eSl p l h) := (pe_slice sl_all ha hl hh).imp fun σ H Q q => by
  obtain ⟨b, F, env, r, env', g, hf, k⟩ := q
  unfold eSl at hf
  split at hf
  · cases hf
  rename_i q1 e1 h1
  split at hf
  · cases hf
  rename_i lo e2 h2
  split at hf
  · cases hf
  rename_i hi e3 h3
  split at hf
  · cases hf
  rename_i d h4
  split at hf
  · cases hf
  rename_i r h5
  cases hf
  refine ⟨b, F, env, q1, e1, g, h1, fun v H1 F1 g1 s1 pv => ⟨b, F1, e1, lo, e2, g1, h2, fun H2 F2 g2 s2 => ⟨b, F2, e2, hi, env', g2, h3, fun H3 F3 g3 s3 => ?_⟩⟩⟩
  have sm := (s1.trans s2).trans s3
  have rd := g3.rd (pv.mono (s2.trans s3)) h4
  have ag := g3.same
  unfold fSl at h5
  split at h5
  · rename_i z
    split at h5
    · rename_i c
      cases h5
      refine .inl (.inl ⟨S z, rd.str_inv, by rw [S_length, SL_eq]; exact c, ?_⟩)
      have : cutS (S z) lo hi = S (cutT z lo hi) := by
        unfold cutS cutT
        rw [S_cps, S_length]; rfl
      rw [this]
      exact k _ H3 F3 g3 sm (Dn.str _)
    · cases h5
  · rename_i xs
    cases h5
    obtain ⟨p, vs, rfl, a1, a2⟩ := rd.lst_inv ag
    refine .inl (.inr ⟨p, vs, rfl, .of a1, fun q hq => ?_⟩)
    exact k _ _ F3 (g3.ext (Xt.fresh ag hq)) sm (RF.rv (H := H3) g3 ⟨q, rfl, hq, ag.free hq, _, upd_same, a2.cut lo hi⟩)
  · rename_i xs
    cases h5
    obtain ⟨p, vs, rfl, a1, a2⟩ := rd.fz_inv ag
    refine .inl (.inr ⟨p, vs, rfl, a1, fun q hq => ?_⟩)
    exact k _ _ F3 (g3.ext (Xt.fresh ag hq)) sm (RF.rv (H := H3) g3 ⟨q, rfl, hq, ag.free hq, _, upd_same, a2.cut lo hi⟩)
  · rename_i xs
    cases h5
    obtain ⟨p, vs, rfl, a0, a1, a2⟩ := rd.tup_inv ag
    refine .inr ⟨p, vs, rfl, a1, fun w => ?_, fun _ q hq => ?_⟩
    · have : cutT xs lo hi = xs := by
        unfold cutT
        rw [← a2.length, w.1, w.2, a2.length]
        simp
      rw [this] at k
      exact k _ H3 F3 g3 sm (Dn.tup a0 a2)
    · have xt := Xt.laid (o := .tup (cutV vs lo hi)) ag hq
      exact k _ _ _ (g3.ext xt) (sm.trans xt.ff) (Dn.tup (.of upd_same) ((a2.cut lo hi).mono xt.ff))
  · cases h5
end
end MP
namespace MP
open PySem PySem.Spec PyProof.Rows L2

/-! ### where a text stands in another -/
def occL (s sub : Tx) (hi lim : Nat) : List Nat → List Nat → Nat → List Nat
  | [], acc, _ => acc
  | i :: is, acc, free => if acc.length < lim ∧ free ≤ i ∧ i + sub.length ≤ hi ∧ (s.drop i).take sub.length = sub then occL s sub hi lim is (acc ++ [i]) (i + sub.length) else occL s sub hi lim is acc free
theorem subAt_S (s sub : Tx) (i : Nat) : Builtin.Str.subAt (S s) (S sub) i = decide ((s.drop i).take sub.length = sub) := by
  rw [StrLaws.subAt_eq, S_cps, S_cps, S_length]
  by_cases h : (s.drop i).take sub.length = sub
  · rw [decide_eq_true h]; simp [h]
  · rw [decide_eq_false h]; exact beq_eq_false_iff_ne.mpr h
theorem occ_run (s sub : Tx) (hi lim : Nat) : ∀ (l : List Nat) (st : Array Nat × Nat), (forIn l st (StrLaws.occBody (S s) (S sub) hi lim)).run.fst.toList = occL s sub hi lim l st.1.toList st.2
  | [], st => rfl
  | i :: l, st => by
    have e : StrLaws.occBody (S s) (S sub) hi lim i st = if ((st.1.size < lim ∧ st.2 ≤ i) ∧ i + (S sub).length ≤ hi) ∧ Builtin.Str.subAt (S s) (S sub) i = true then pure (ForInStep.yield (st.1.push i, i + (S sub).length)) else pure (ForInStep.yield (st.1, st.2)) := rfl
    rw [List.forIn_cons, e, subAt_S, S_length]
    unfold occL
    by_cases h : (((st.1.size < lim ∧ st.2 ≤ i) ∧ i + sub.length ≤ hi) ∧ decide ((s.drop i).take sub.length = sub) = true)
    · rw [if_pos h, if_pos ⟨by simpa using h.1.1.1, h.1.1.2, h.1.2, of_decide_eq_true h.2⟩]
      have := occ_run s sub hi lim l (st.1.push i, i + sub.length)
      simpa using this
    · rw [if_neg h, if_neg (fun z => h ⟨⟨⟨by simpa using z.1, z.2.1⟩, z.2.2.1⟩, decide_eq_true z.2.2.2⟩)]
      have := occ_run s sub hi lim l (st.1, st.2)
      simpa using this
theorem occ_S (s sub : Tx) (lo hi lim : Nat) : Builtin.Str.occurrences (S s) (S sub) lo hi lim = occL s sub hi lim (List.range' lo (hi + 1 - lo)) [] lo := by
  rw [StrLaws.occ_eq, occ_run]
/-- does b stand in a -/
def subIn (b a : Tx) : Bool := !(occL a b a.length 1 (List.range' 0 (a.length + 1)) [] 0).isEmpty
def cntIn (b a : Tx) : Nat := (occL a b a.length (a.length + 1) (List.range' 0 (a.length + 1)) [] 0).length
theorem occL_acc (s sub : Tx) (hi : Nat) : ∀ (l acc : List Nat) (free : Nat), acc ≠ [] → (occL s sub hi 1 l acc free) ≠ []
  | [], acc, free, h => h
  | i :: l, acc, free, h => by
    unfold occL
    split
    · exact occL_acc s sub hi l _ _ (by simp)
    · exact occL_acc s sub hi l acc free h
theorem occL_one (s sub : Tx) (hi : Nat) : ∀ (l : List Nat), (!(occL s sub hi 1 l [] 0).isEmpty) = l.any fun i => decide (i + sub.length ≤ hi ∧ (s.drop i).take sub.length = sub)
  | [] => rfl
  | i :: l => by
    unfold occL
    rw [List.any_cons]
    by_cases h : i + sub.length ≤ hi ∧ (s.drop i).take sub.length = sub
    · rw [if_pos ⟨by simp, Nat.zero_le _, h⟩, decide_eq_true h, Bool.true_or]
      have := occL_acc s sub hi l ([] ++ [i]) (i + sub.length) (by simp)
      cases q : occL s sub hi 1 l ([] ++ [i]) (i + sub.length) with
      | nil => exact absurd q this
      | cons a b => rfl
    · rw [if_neg (fun z => h z.2.2), decide_eq_false h, Bool.false_or, occL_one s sub hi l]
theorem subIn_iff (b a : Tx) : subIn b a = true ↔ ∃ i, i + b.length ≤ a.length ∧ (a.drop i).take b.length = b := by
  unfold subIn
  rw [occL_one, List.any_eq_true]
  constructor
  · rintro ⟨i, _, h⟩
    exact ⟨i, of_decide_eq_true h⟩
  · rintro ⟨i, h⟩
    refine ⟨i, ?_, decide_eq_true h⟩
    rw [List.mem_range'_1]
    omega

section
variable {X : Cx}
/-! ### in -/
def D.isFlat : D → Bool
  | .non => true
  | .bl _ => true
  | .int _ => true
  | .str _ => true
  | _ => false
def fInS (x : D) (ds : List D) : Option Bool := if (x.isFlat && ds.all D.isFlat) = true then some (ds.any fun y => eqP y x) else none
def fInB : D → D → Option Bool := fun x y => match y with
  | .str b => match x with
    | .str a => some (subIn a b)
    | _ => none
  | .tup ds => fInS x ds
  | .fz ds => fInS x ds
  | .lst ds => match fInS x ds with
    | some k => some k
    | none => if (x.okE && (D.lst ds).okE) = true then some (ds.any fun y => eqP y x) else none
  | .dk kvs => match x.ky with
    | some k => some (lkD kvs k).isSome
    | none => none
  | _ => none
def fIn : D → D → Option R := fun x y => match fInB x y with
  | some k => some (.im (.bl k))
  | none => none
def fNotIn : D → D → Option R := fun x y => match fInB x y with
  | some k => some (.im (.bl (!k)))
  | none => none
theorem flat_dn {K : PySem.W.Frag} {F : Hp} {v : V} {d : D} (h : Dn K F v d) (f : d.isFlat = true) : flatV v = true := by
  cases h with
  | non => rfl
  | bl _ => rfl
  | int _ => rfl
  | str _ => rfl
  | _ => exact nomatch f
theorem flat_eq {K : PySem.W.Frag} {F : Hp} {v w : V} {d e : D} (h : Dn K F v d) (h2 : Dn K F w e) (f : d.isFlat = true) (g : e.isFlat = true) : eqV v w = eqP d e := by
  cases h with
  | non =>
    cases h2 with
    | non => rfl
    | bl _ => rfl
    | int _ => rfl
    | str _ => rfl
    | _ => exact nomatch g
  | bl _ =>
    cases h2 with
    | non => rfl
    | bl _ => rfl
    | int _ => rfl
    | str _ => rfl
    | _ => exact nomatch g
  | int _ =>
    cases h2 with
    | non => rfl
    | bl _ => rfl
    | int _ => rfl
    | str _ => rfl
    | _ => exact nomatch g
  | str _ =>
    cases h2 with
    | non => rfl
    | bl _ => rfl
    | int _ => rfl
    | str _ => exact S_beq _ _
    | _ => exact nomatch g
  | _ => exact nomatch f
theorem rd_flat {K : PySem.W.Frag} {F H : Hp} {v : V} {d : D} (h : RdD K F H v d) (f : d.isFlat = true) : Dn K F v d := by
  rcases h with h | ⟨p, _, h⟩
  · exact h
  · cases d with
    | lst _ => exact nomatch f
    | dk _ => exact nomatch f
    | _ => exact h.elim
theorem flats_dn {K : PySem.W.Frag} {F : Hp} : ∀ {vs : List V} {ds : List D}, DnAll K F vs ds → ds.all D.isFlat = true → vs.all flatV = true
  | _, _, .nil, _ => rfl
  | _, _, .cons h t, f => by
    rw [List.all_cons, Bool.and_eq_true] at f ⊢
    exact ⟨flat_dn h f.1, flats_dn t f.2⟩
theorem flats_any {K : PySem.W.Frag} {F : Hp} {w : V} {e : D} (he : Dn K F w e) (fe : e.isFlat = true) : ∀ {vs : List V} {ds : List D}, DnAll K F vs ds → ds.all D.isFlat = true → inV w vs = ds.any fun y => eqP y e
  | _, _, .nil, _ => rfl
  | _, _, .cons h t, f => by
    rw [List.all_cons, Bool.and_eq_true] at f
    have := flats_any he fe t f.2
    unfold inV at this ⊢
    rw [List.any_cons, List.any_cons, this, flat_eq h he f.1 fe]
theorem pys_any {e : D} (he : e.plain = true) : ∀ (ds : List D), D.plains ds = true → ((D.pys ds).any fun z => PyData.eqv z e.py) = ds.any fun y => eqP y e
  | [], _ => rfl
  | d :: ds, p => by
    rw [D.plains, Bool.and_eq_true] at p
    rw [D.pys, List.any_cons, List.any_cons, pys_any he ds p.2, py_eq d e p.1 he]
def rDIn (neg : Bool) : R2 := fun x y H Q => ∃ a o, y = .ref a ∧ DGet H a x o ∧ Q (.bl (if neg then !o.isSome else o.isSome)) H
theorem op_din (hu : X.A.units + 1 < cLine) : OpR X (compareOp .In) (rDIn false) := fun pins s σ H x y v u Q I rx ry ⟨a, o, e, g, q⟩ => by
  subst e
  cases ry
  exact d_in hu I g rx fun s' I' => ⟨.bl o.isSome, H, I', rfl, q⟩
theorem op_dnotin (hu : X.A.units + 1 < cLine) : OpR X (compareOp .NotIn) (rDIn true) := fun pins s σ H x y v u Q I rx ry ⟨a, o, e, g, q⟩ => by
  subst e
  cases ry
  exact d_notIn hu I g rx fun s' I' => ⟨.bl (!o.isSome), H, I', rfl, q⟩
def rInA (K : PySem.W.Frag) (neg : Bool) : R2 := fun x y H Q => (((∃ i j, x = .str i ∧ y = .str j ∧ Q (.bl (if neg then !(!(Builtin.Str.occurrences j i 0 j.length 1).isEmpty) else !(Builtin.Str.occurrences j i 0 j.length 1).isEmpty)) H) ∨ rIn K neg x y H Q) ∨ rDIn neg x y H Q) ∨
  ∃ d ds, Dp K H x d ∧ Dp K H y (.list ds) ∧ SeqAt.shaped d = true ∧ SeqAt.shaped (.list ds) = true ∧ Q (.bl (if neg then !ds.any fun z => PyData.eqv z d else ds.any fun z => PyData.eqv z d)) H
theorem op_inA (hu : X.A.units + 65 < cLine) : OpR X (compareOp .In) (rInA X.K false) := ((op_in_str.or op_in_seq).or (op_din (by omega))).or (op_inD hu)
theorem op_notInA (hu : X.A.units + 65 < cLine) : OpR X (compareOp .NotIn) (rInA X.K true) := ((op_notin_str.or op_notIn_seq).or (op_dnotin (by omega))).or (op_notInD hu)
theorem in_ok {K : PySem.W.Frag} (neg : Bool) {F H : Hp} {x y : V} {dx dy : D} {k : Bool} {Q : VK} (ag : Ag F H) (hx : RdD K F H x dx) (hy : RdD K F H y dy) (e : fInB dx dy = some k) (q : Q (.bl (if neg then !k else k)) H) : rInA K neg x y H Q := by
  have seqq : ∀ ds p vs, fInS dx ds = some k → y = .ref p → (SqL K H p vs ∨ SqT K H p vs) → DnAll K F vs ds → rInA K neg x y H Q := fun ds p vs e ey hs hd => by
    unfold fInS at e
    split at e
    · rename_i c
      cases e
      rw [Bool.and_eq_true] at c
      have dx' := rd_flat hx c.1
      refine .inl (.inl (.inr ⟨p, vs, ey, hs, flat_dn dx' c.1, flats_dn hd c.2, ?_⟩))
      rw [flats_any dx' c.1 hd c.2]; exact q
    · cases e
  unfold fInB at e
  split at e
  · rename_i b
    split at e
    · rename_i a
      cases e
      refine .inl (.inl (.inl ⟨S a, S b, hx.str_inv, hy.str_inv, ?_⟩))
      rw [occ_S, S_length]; exact q
    · cases e
  · rename_i ds
    obtain ⟨p, vs, ey, _, h1, h2⟩ := hy.tup_inv ag
    exact seqq ds p vs e ey (.inr h1) h2
  · rename_i ds
    obtain ⟨p, vs, ey, h1, h2⟩ := hy.fz_inv ag
    exact seqq ds p vs e ey (.inl h1) h2
  · rename_i ds
    split at e
    · rename_i k' hk
      cases e
      obtain ⟨p, vs, ey, h1, h2⟩ := hy.lst_inv ag
      exact seqq ds p vs hk ey (.inl (.of h1)) h2
    · split at e
      · rename_i c
        cases e
        rw [Bool.and_eq_true] at c
        have pl : D.plains ds = true := by have := okE_plain c.2; rw [D.plain] at this; exact this
        refine .inr ⟨dx.py, D.pys ds, hx.dp ag (okE_plain c.1), by have := hy.dp ag (okE_plain c.2); rw [D.py] at this; exact this, okE_shaped c.1, by have := okE_shaped c.2; rw [D.py] at this; exact this, ?_⟩
        rw [pys_any (okE_plain c.1) ds pl]; exact q
      · cases e
  · rename_i kvs
    split at e
    · rename_i kk hk
      cases e
      obtain ⟨p, ks, rfl, h1, h2⟩ := hy.dk_inv ag
      refine .inl (.inr ⟨p, valV ks (kK kk), rfl, .inl ⟨ks, kK kk, h1, hx.ky hk, rfl⟩, ?_⟩)
      have : (valV ks (kK kk)).isSome = (lkD kvs kk).isSome := by
        obtain ⟨i1, i2⟩ := h2.val kk
        cases z : lkD kvs kk with
        | none => rw [i2 z]; rfl
        | some d => obtain ⟨v, e1, _⟩ := i1 d z; rw [e1]; rfl
      rw [this]; exact q
    · cases e
  · cases e
theorem ok_in {K : PySem.W.Frag} : OpOk K (rInA K false) fIn := fun F H x y dx dy res Q ag hx hy e k => by
  unfold fIn at e
  split at e
  · rename_i kk q
    cases e
    exact in_ok false ag hx hy q (k _ H F (Xt.refl ag) (Dn.bl kk))
  · cases e
theorem ok_notIn {K : PySem.W.Frag} : OpOk K (rInA K true) fNotIn := fun F H x y dx dy res Q ag hx hy e k => by
  unfold fNotIn at e
  split at e
  · rename_i kk q
    cases e
    exact in_ok true ag hx hy q (k _ H F (Xt.refl ag) (Dn.bl (!kk)))
  · cases e

/-! ### changing one's own objects -/
def C.with : C → D → C
  | .ow _, d => .ow d
  | .bo _, d => .bo d
  | c, _ => c
theorem Gd.chg {K : PySem.W.Frag} {b : Base} {F H : Hp} {σ : L2.St} {env : Ev} {i : Nat} {c : C} {p : Addr} {o : HO} {d : D} (g : Gd K b F σ H env) (h : env[i]? = some c) (ho : c.own = true) (hp : σ[i]?.join = some (.ref p)) (n : OwnO K F (upd H p o) p d) :
    Gd K b F σ (upd H p o) (env.set i (c.with d)) := by
  have at_ := OwnAt.of h ho hp
  obtain ⟨n0, nF⟩ := g.own0 at_
  have hi := lt_of_get h
  have ow : (c.with d).own = true := by cases c <;> first | rfl | cases ho
  have own2 : ∀ j q, OwnAt (env.set i (c.with d)) σ j q → OwnAt env σ j q := fun j q ⟨⟨c', c1, c2⟩, c3⟩ => by
    rcases set_get c1 with ⟨rfl, rfl, _⟩ | ⟨_, c1⟩
    · exact ⟨⟨c, h, ho⟩, c3⟩
    · exact ⟨⟨c', c1, c2⟩, c3⟩
  refine ⟨by simpa using g.len, same_upd2 g.same nF, fun j c' hj => ?_, fun j k q hj hk => g.dis j k q (own2 j q hj) (own2 k q hk), fun a x q => ?_, g.new⟩
  · rcases set_get hj with ⟨rfl, rfl, _⟩ | ⟨ne, hj⟩
    · have k := g.cells j c h
      cases c with
      | un => cases ho
      | im _ => cases ho
      | bf _ => cases ho
      | ow d0 =>
        obtain ⟨q, e1, e2, e3, e4⟩ := k
        rw [hp] at e1; cases e1
        exact ⟨p, hp, n, e3, e4⟩
      | bo d0 =>
        obtain ⟨q, e1, e2, e3, e4, e5⟩ := k
        rw [hp] at e1; cases e1
        exact ⟨p, hp, n, e3, e4, e5⟩
    · refine (g.cells j c' hj).mono (Same.refl F) fun q hw hq => ⟨?_, fun z => z⟩
      rw [upd_ne]
      rintro rfl
      exact ne (g.dis j i q (OwnAt.of hj hq hw) at_)
  · rw [upd_ne (ne_of_none q n0)]; exact g.keep _ _ q
/-- what an object becomes by x[i] = d -/
def putIx : D → D → D → Option D := fun x i d => match x, i with
  | .lst xs, .int k => match ixN xs.length k with
    | some j => some (.lst (xs.set j d))
    | none => none
  | .dk kvs, k => match k.ky with
    | some k => if kvs.length < SL then some (.dk (putD kvs k d)) else none
    | none => none
  | _, _ => none
def rSetA : TSet := fun o i v H Q => rSetL o i v H Q ∨ ∃ a H', o = .ref a ∧ DPut H a i v H' ∧ Q H'
theorem set_all (hu : X.A.units + 1 < cLine) : PSet X rSetA := fun pins s σ H o i v ov iv u Q I ro ri rv h => by
  rcases h with h | ⟨a, H', rfl, g, q⟩
  · exact set_list pins s σ H o i v ov iv u Q I ro ri rv h
  · cases ro
    exact d_setItem hu I g ri rv fun s' I' => ⟨H', I', q⟩
def gSub (j : Nat) (pi : PF) : GF := fun d env => match (env[j]?).bind C.rd with
  | none => none
  | some _ => match pi env with
    | none => none
    | some (q, e1) => match rdP e1 q with
      | none => none
      | some i => match e1[j]? with
        | some c => if c.own = true then match c.rd with
          | some x => match putIx x i d with
            | some x' => some (e1.set j (c.with x'))
            | none => none
          | none => none
          else none
        | none => none
theorem own_read {K : PySem.W.Frag} {b : Base} {F H : Hp} {σ : L2.St} {env : Ev} {i : Nat} {c : C} {x : D} {v : V} (g : Gd K b F σ H env) (h : env[i]? = some c) (ho : c.own = true) (hr : c.rd = some x) (hv : σ[i]?.join = some v) : ∃ p, v = .ref p ∧ OwnO K F H p x ∧ F p = none := by
  have k := g.cells i c h
  cases c with
  | un => cases ho
  | im _ => cases ho
  | bf _ => cases ho
  | ow d0 => obtain ⟨p, e1, e2, e3, e4⟩ := k; cases hr; rw [hv] at e1; cases e1; exact ⟨p, rfl, e2, e3⟩
  | bo d0 => obtain ⟨p, e1, e2, e3, e4, e5⟩ := k; cases hr; rw [hv] at e1; cases e1; exact ⟨p, rfl, e2, e3⟩
theorem q_gsub {o i : Expr} {j : Nat} {pi : PF} {pos : Pos} (hu : X.A.units + 1 < cLine) (ho : PE X o (tVar j)) (hi : QP X i pi)
    (ha : ∀ v, assign (.Subscript o i pos) X.env v = (do
      let ov ← holding [v] (eval o X.env)
      let iv ← holding [v, ov] (eval i X.env)
      standAt pos
      holding [v, ov, iv] (setItem ov iv v)
      release [v, ov, iv] []) := by intro _; rfl) : QG X (.Subscript o i pos) (gSub j pi) :=
  (pg_sub ho hi (set_all hu) ha).imp fun v σ H Q q => by
    obtain ⟨b, F, env, d, env', g, hd, hg, k⟩ := q
    unfold gSub at hg
    split at hg
    · cases hg
    rename_i x0 h0
    split at hg
    · cases hg
    rename_i q1 e1 h1
    split at hg
    · cases hg
    rename_i ix h2
    split at hg
    · rename_i c h3
      split at hg
      · rename_i how
        split at hg
        · rename_i x h4
          split at hg
          · rename_i x' h5
            cases hg
            obtain ⟨c0, c1, c2⟩ := Option.bind_eq_some_iff.mp h0
            obtain ⟨w, hw⟩ := g.there c1 c2
            refine ⟨w, hw, b, F, env, q1, e1, g, h1, fun iv H1 F1 g1 s1 pv => ?_⟩
            have hj : σ[j]?.join = some w := by rw [hw]; rfl
            obtain ⟨p, rfl, oo, nF⟩ := own_read g1 h3 how h4 hj
            have rdi := g1.rd pv h2
            have dd := hd.mono s1
            unfold putIx at h5
            split at h5
            · rename_i xs kk
              split at h5
              · rename_i m hm
                cases h5
                obtain ⟨vs, a1, a2⟩ := oo
                refine .inl ⟨p, vs, kk, m, rfl, rdi.int_inv, a1, by rw [a2.length]; exact hm, ?_⟩
                exact k σ _ F1 (g1.chg h3 how hj ⟨vs.set m v, upd_same, a2.set dd m⟩) s1
              · cases h5
            · rename_i kvs kd
              split at h5
              · rename_i kk hk
                split at h5
                · rename_i hz
                  cases h5
                  obtain ⟨ks, a1, a2⟩ := oo
                  refine .inr ⟨p, _, rfl, ?_, k σ _ F1 (g1.chg (o := .dK (putK ks (kK kk) v)) h3 how hj ⟨_, upd_same, a2.put dd⟩) s1⟩
                  rw [rdi.ky hk]
                  exact DPut.k a1 (by rw [a2.length, SL_eq]; exact hz)
                · cases h5
              · cases h5
            · cases h5
          · cases hg
        · cases hg
      · cases hg
    · cases hg

/-! ### methods that change an object of one's own -/
def MutOk (K : PySem.W.Frag) (r : V → List V → Hp → VK → Prop) (f : D → List D → Option (D × D)) : Prop := ∀ F H p x vs ds res x' Q, Ag F H → OwnO K F H p x → F p = none → DnAll K F vs ds → f x ds = some (res, x') →
  (∀ v o, OwnO K F (upd H p o) p x' → Dn K F v res → Q v (upd H p o)) → r (.ref p) vs H Q
def eMut (f : D → List D → Option (D × D)) (i : Nat) (a : AF) : EF := fun env => match env[i]? with
  | some c0 => if c0.own = true then match a env with
    | none => none
    | some (ps, e) => match vals ps with
      | none => none
      | some ds => match e[i]? with
        | some c => if c.own = true then match c.rd with
          | some x => match f x ds with
            | some (r, x') => some (.im r, e.set i (c.with x'))
            | none => none
          | none => none
          else none
        | none => none
    else none
  | none => none
/-- the receiver's kind -/
def tyB : String → D → Bool
  | "list", .lst _ => true
  | "dict", .dk _ => true
  | _, _ => false
theorem tyB_ok {K : PySem.W.Frag} {F H : Hp} {p : Addr} {T : String} {x : D} (h : OwnO K F H p x) (t : tyB T x = true) : tyV K T (.ref p) H := by
  unfold tyB at t
  split at t
  · obtain ⟨vs, h1, _⟩ := h; exact .inl ⟨rfl, vs, .of h1⟩
  · obtain ⟨ks, h1, _⟩ := h; exact .inr (.inr (.inl ⟨rfl, .inl ⟨ks, h1⟩⟩))
  · cases t
theorem OwnO.ty {K : PySem.W.Frag} {F H : Hp} {p : Addr} {T : String} {x : D} (h : OwnO K F H p x) (t : tyB T x = true) : tyV K T (.ref p) H := tyB_ok h t
/-- a method with arguments that changes its receiver, a name's own object -/
def eMutT (T : String) (f : D → List D → Option (D × D)) (i : Nat) (a : AF) : EF := fun env => match env[i]? with
  | some c0 => match c0.rd with
    | some x0 => if (c0.own && tyB T x0) = true then eMut f i a env else none
    | none => none
  | none => none
theorem q_mut {o e : Expr} {es : List Expr} {T id : String} {nm : Str} {i : Nat} {r : V → List V → Hp → VK → Prop} {f : D → List D → Option (D × D)} {a : AF} {apos cpos : Pos} (ok : MutOk X.K r f) (pa : PlainAttrs T) (slot : Slot T nm id) (hty : typeOf (.builtin id) = pure (.type "method_descriptor")) (hm : MtR X id r) (ho : PE X o (tVar i)) (ha : QA X (e :: es) a)
    (hbase : attributeBase o nm X.env (eval o X.env) = eval o X.env := by rfl)
    (hfew : ((backTo cpos (starEach (e :: es) X.env)).all (fun x => !x.1) && (backToKw cpos (keywordEach [] X.env)).all (fun x => x.1.isSome)
      && decide ((e :: es).length + ([] : List Keyword).length + (if ([] : List Keyword).isEmpty then 0 else 1) < 30)) = true := by rfl)
    (hline : (apos.endLine == cpos.line) = true := by rfl) (hs : starEach (e :: es) X.env = (false, eval e X.env) :: starEach es X.env := by rfl) (hplain : (backTo cpos (starEach es X.env)).any (·.1) = false := by rfl) :
    QE X (.Call (.Attribute o nm apos) (e :: es) [] cpos) (eMutT T f i a) := (pe_bm pa slot hty hm ho ha hbase hfew hline hs hplain).imp fun σ H Q q => by
  obtain ⟨b, F, env, res, env', g, hf, k⟩ := q
  unfold eMutT at hf
  split at hf
  · rename_i c0 h0
    split at hf
    · rename_i x0 h00
      split at hf
      · rename_i hc
        rw [Bool.and_eq_true] at hc
        unfold eMut at hf
        rw [h0] at hf
        simp only [hc.1, if_true] at hf
        split at hf
        · cases hf
        rename_i ps e1 h1
        split at hf
        · cases hf
        rename_i ds h2
        split at hf
        · rename_i c h3
          split at hf
          · rename_i how
            split at hf
            · rename_i x h4
              split at hf
              · rename_i rr x' h5
                cases hf
                obtain ⟨w, hw⟩ := g.there h0 h00
                have hj : σ[i]?.join = some w := by rw [hw]; rfl
                obtain ⟨p, rfl, oo, nF⟩ := own_read g h0 hc.1 h00 hj
                refine ⟨.ref p, hw, oo.ty hc.2, b, F, env, ps, e1, g, h1, fun vs H1 F1 g1 s1 pv => ?_⟩
                obtain ⟨p1, e1', oo1, nF1⟩ := own_read g1 h3 how h4 hj
                cases e1'
                exact ok F1 H1 p x vs ds rr x' Q g1.same oo1 nF1 (vals_dn pv h2) h5 fun v o ow dn => k v _ F1 (g1.chg h3 how hj ow) s1 dn
              · cases hf
            · cases hf
          · cases hf
        · cases hf
      · cases hf
    · cases hf
  · cases hf
/-- without arguments -/
def eMut0 (T : String) (f : D → List D → Option (D × D)) (i : Nat) : EF := eMutT T f i aNil
theorem q_mut0 {o : Expr} {T id : String} {nm : Str} {i : Nat} {r : V → List V → Hp → VK → Prop} {f : D → List D → Option (D × D)} {apos cpos : Pos} (ok : MutOk X.K r f) (pa : PlainAttrs T) (slot : Slot T nm id) (hty : typeOf (.builtin id) = pure (.type "method_descriptor")) (hm : MtR X id r) (ho : PE X o (tVar i))
    (hbase : attributeBase o nm X.env (eval o X.env) = eval o X.env := by rfl) (hline : (apos.endLine == cpos.line) = true := by rfl) : QE X (.Call (.Attribute o nm apos) [] [] cpos) (eMut0 T f i) := (pe_bm0 pa slot hty hm ho hbase hline).imp fun σ H Q q => by
  obtain ⟨b, F, env, res, env', g, hf, k⟩ := q
  unfold eMut0 eMutT at hf
  split at hf
  · rename_i c0 h0
    split at hf
    · rename_i x0 h00
      split at hf
      · rename_i hc
        rw [Bool.and_eq_true] at hc
        unfold eMut aNil at hf
        rw [h0] at hf
        simp only [hc.1, if_true, vals, h0, h00] at hf
        split at hf
        · rename_i rr x' h5
          cases hf
          obtain ⟨w, hw⟩ := g.there h0 h00
          have hj : σ[i]?.join = some w := by rw [hw]; rfl
          obtain ⟨p, rfl, oo, nF⟩ := own_read g h0 hc.1 h00 hj
          refine ⟨.ref p, hw, oo.ty hc.2, ?_⟩
          exact ok F H p x0 [] [] rr x' Q g.same oo nF .nil h5 fun v o ow dn => k v _ F (g.chg h0 hc.1 hj ow) (Same.refl F) dn
        · cases hf
      · cases hf
    · cases hf
  · cases hf
def mAppend : D → List D → Option (D × D) := fun x ds => match x, ds with
  | .lst xs, [d] => if xs.length < SL then some (.non, .lst (xs ++ [d])) else none
  | _, _ => none
theorem ok_append {K : PySem.W.Frag} : MutOk K rAppend mAppend := fun F H p x vs ds res x' Q ag oo nF hd e k => by
  unfold mAppend at e
  split at e
  · rename_i xs d
    split at e
    · rename_i hz
      cases e
      obtain ⟨ws, a1, a2⟩ := oo
      cases hd with
      | cons h t =>
        cases t
        exact ⟨p, ws, _, rfl, rfl, a1, by rw [a2.length, SL_eq]; exact hz, k _ _ ⟨_, upd_same, a2.append (.cons h .nil)⟩ .non⟩
    · cases e
  · cases e
def mExtend : D → List D → Option (D × D) := fun x ds => match x, ds with
  | .lst xs, [.lst ys] => if xs.length + ys.length ≤ SL then some (.non, .lst (xs ++ ys)) else none
  | _, _ => none
def mPop : D → List D → Option (D × D) := fun x ds => match x, ds with
  | .lst xs, [] => match xs[xs.length - 1]? with
    | some d => some (d, .lst xs.dropLast)
    | none => none
  | _, _ => none
theorem DnAll.dropLast {K : PySem.W.Frag} {F : Hp} {vs : List V} {ds : List D} (h : DnAll K F vs ds) : DnAll K F vs.dropLast ds.dropLast := by
  rw [List.dropLast_eq_take, List.dropLast_eq_take, h.length]; exact h.take _
theorem ok_pop {K : PySem.W.Frag} : MutOk K rPop mPop := fun F H p x vs ds res x' Q ag oo nF hd e k => by
  unfold mPop at e
  split at e
  · rename_i xs
    split at e
    · rename_i d hg
      cases e
      obtain ⟨ws, a1, a2⟩ := oo
      cases hd
      obtain ⟨v, e1, e2⟩ := a2.get hg
      exact ⟨p, ws, v, rfl, rfl, a1, by rw [a2.length]; exact e1, k _ _ ⟨_, upd_same, a2.dropLast⟩ e2⟩
    · cases e
  · cases e
def mPopAt : D → List D → Option (D × D) := fun x ds => match x, ds with
  | .lst xs, [.int i] => if 0 ≤ i ∧ i < xs.length ∧ small i = true then match xs[i.toNat]? with
    | some d => some (d, .lst (xs.eraseIdx i.toNat))
    | none => none
    else none
  | _, _ => none
theorem ok_popAt {K : PySem.W.Frag} : MutOk K rPopAt mPopAt := fun F H p x vs ds res x' Q ag oo nF hd e k => by
  unfold mPopAt at e
  split at e
  · rename_i xs i
    split at e
    · rename_i hc
      split at e
      · rename_i d hg
        cases e
        obtain ⟨ws, a1, a2⟩ := oo
        cases hd with
        | cons h t =>
          cases t
          cases h
          obtain ⟨v, e1, e2⟩ := a2.get hg
          have hb : i < 4611686018427387904 := (small_iff hc.2.2).2
          exact ⟨p, ws, i, i.toNat, v, rfl, rfl, a1, by omega, by omega, by rw [a2.length]; exact PySem.StrLaws.seqIndex_nonneg hc.1 hc.2.1, e1, k _ _ ⟨_, upd_same, a2.eraseIdx _⟩ e2⟩
      · cases e
    · cases e
  · cases e
end
end MP
namespace MP
open PySem PySem.Spec PyProof.Rows L2
section
variable {X : Cx}
/-! ### dicts made -/
def eDk : EF := fun env => some (.fr (.dk []), env)
theorem q_dk {pos : Pos} : QE X (.Dict [] [] pos) eDk := pe_dnewK.imp fun σ H Q q => by
  obtain ⟨b, F, env, r, env', g, hf, k⟩ := q
  cases hf
  intro p hp
  exact k _ _ F (g.ext (Xt.fresh g.same hp)) (Same.refl F) (RF.rv (H := H) g ⟨p, rfl, hp, g.same.free hp, [], upd_same, .nil⟩)
def dcF (is : List Nat) (g : GF) (t : BF) (f h : EF) : List D → Ev → List (Ky × D) → Option (List (Ky × D) × Ev)
  | [], env, acc => some (acc, env)
  | d :: ds, env, acc => match g d (blank env is) with
    | none => none
    | some e1 => match t e1 with
      | none => none
      | some (false, e2) => dcF is g t f h ds e2 acc
      | some (true, e2) => match f e2 with
        | none => none
        | some (r, e3) => match r.d.ky with
          | none => none
          | some kk => match h e3 with
            | none => none
            | some (w, e4) => if acc.length < SL then dcF is g t f h ds e4 (putD acc kk w.d) else none
def eDc (is : List Nat) (it : IF) (g : GF) (t : BF) (f h : EF) : EF := fun env => match it env with
  | none => none
  | some (ds, e) => match dcF is g t f h ds (fzs e is) [] with
    | none => none
    | some (acc, e2) => some (.fr (.dk acc), back (fzs e is) e2 is)
structure DcAt (K : PySem.W.Frag) (b : Base) (F1 : Hp) (σ : L2.St) (is : List Nat) (D : Addr) (F H : Hp) (env : Ev) (acc : List (Ky × MP.D)) : Prop where
  gd : Gd K b F (wipe σ is) H (blank env is)
  sm : Same F1 F
  ln : env.length = σ.length
  at_ : ∃ vs, H D = some (.dK vs) ∧ KvAll K F vs acc
  nf : F D = none
  no : ∀ i, ¬ OwnAt (blank env is) (wipe σ is) i D
theorem wipe2 (σ : L2.St) (is : List Nat) : wipe (wipe σ is) is = wipe σ is := by
  apply List.ext_getElem?
  intro j
  rw [wipe_get, wipe_get]
  by_cases e : j ∈ is
  · rw [if_pos e, if_pos e]
    cases σ[j]? <;> rfl
  · rw [if_neg e, if_neg e]
theorem tDc_of {is : List Nat} {it : IF} {g : GF} {t : BF} {f h : EF} {σ : L2.St} {H : Hp} {Q : VK} (q : tEv X.K (eDc is it g t f h) σ H Q) : tDc (tIv X.K it) (tGc X.K is g) (tBv X.K t) (tEv X.K f) (tEv X.K h) is σ H Q := by
  obtain ⟨b, F, env, r, env', gd, hf, k⟩ := q
  unfold eDc at hf
  split at hf
  · cases hf
  rename_i ds e1 h1
  split at hf
  · cases hf
  rename_i acc0 e2 h2
  cases hf
  refine ⟨b, F, env, ds, e1, gd, h1, fun J H1 F1 g1 s1 ok D hD => ?_⟩
  obtain ⟨F2, s2, g2, no2⟩ := g1.fzs is
  have h0D : b.H0 D = none := g1.h0 hD
  refine ⟨fun i m H => ∃ F3 env3 acc, m = ds.length - i ∧ DcAt X.K b F2 σ is D F3 H env3 acc ∧ dcF is g t f h (ds.drop i) env3 acc = some (acc0, e2), ⟨ds.length, F2, fzs e1 is, [], rfl, ?_, h2⟩, ?_⟩
  · have gb := (g2.ext (Xt.fresh (o := .dK []) g2.same hD)).blank is
    refine ⟨gb, Same.refl _, g2.len, ⟨[], upd_same, .nil⟩, g2.same.free hD, fun i o => ?_⟩
    obtain ⟨⟨c, c1, c2⟩, _⟩ := id o
    obtain ⟨q, w, ⟨x, hx⟩, _⟩ := ((g2.blank is).cells i c c1).ownSome c2
    rw [o.join] at w; cases w
    rw [hD] at hx; cases hx
  · rintro i m H3 ⟨F3, env3, acc, rfl, at3, hw⟩
    obtain ⟨okS, okG⟩ := ok F3 H3 (s2.trans at3.sm) at3.gd.same
    cases q : ds[i]? with
    | none =>
      have hl := List.getElem?_eq_none_iff.mp q
      rw [List.drop_of_length_le hl] at hw
      cases hw
      refine .inl ⟨okS i hl, ?_⟩
      obtain ⟨vs, v1, v2⟩ := at3.at_
      have gk := at3.gd.back g2 at3.sm no2
      refine k _ H3 F3 gk ((s1.trans s2).trans at3.sm) ⟨D, rfl, ⟨vs, v1, v2⟩, at3.nf, h0D, fun j o => ?_⟩
      obtain ⟨⟨c, c1, c2⟩, c3⟩ := o
      rw [back_get] at c1
      by_cases e : j ∈ is
      · rw [if_pos e] at c1
        cases q3 : e2[j]? with
        | none => rw [q3] at c1; cases c1
        | some w =>
          rw [q3] at c1
          cases q4 : (fzs e1 is)[j]? with
          | none => rw [q4] at c1; cases c1; cases c2
          | some w4 => rw [q4] at c1; cases c1; rw [show (some w4).getD .un = w4 from rfl, no2 j e _ q4] at c2; cases c2
      · rw [if_neg e] at c1
        exact at3.no j ⟨⟨c, by rw [blank_get, if_neg e]; exact c1, c2⟩, by rw [wipe_get, if_neg e]; exact c3⟩
    | some d =>
      have hl := lt_of_get q
      rw [List.drop_eq_getElem_cons hl] at hw
      have hd : ds[i] = d := by rw [List.getElem?_eq_getElem hl] at q; exact Option.some.inj q
      rw [hd] at hw
      obtain ⟨go, yl⟩ := okG i d q
      refine .inr ⟨go, fun H => ∃ F3 env3 acc, DcAt X.K b F2 σ is D F3 H env3 acc ∧ dcF is g t f h (ds.drop (i + 1)) env3 acc = some (acc0, e2), fun H' ⟨F4, e4, a4, l4, w4⟩ => ⟨ds.length - (i + 1), by omega, F4, e4, a4, rfl, l4, w4⟩, fun x H4 hy => ?_⟩
      obtain ⟨F4, xt, dn⟩ := yl x H4 hy
      have g4 := at3.gd.ext xt
      obtain ⟨vs, v1, v2⟩ := at3.at_
      have D4 : H4 D = some (.dK vs) := xt.hh _ _ v1
      have nf4 : F4 D = none := by
        cases w : F4 D with
        | none => rfl
        | some y =>
          rcases xt.nw D y w with z | z
          · rw [at3.nf] at z; cases z
          · rw [v1] at z; cases z
      unfold dcF at hw
      split at hw
      · cases hw
      rename_i e5 h5
      refine ⟨b.re F4 (wipe σ is) H4 (blank env3 is), F4, blank env3 is, d, e5, g4.re, dn, h5, fun σ5 H5 F5 g5 s5 w5 => ⟨w5.trans (wipe2 σ is), ?_⟩⟩
      have ww : wipe σ5 is = wipe σ is := w5.trans (wipe2 σ is)
      have next : ∀ {F6 H6 : Hp} {e6 : Ev} {ac : List (Ky × MP.D)} {ws : List (Key × V)}, Gd X.K (b.re F4 (wipe σ is) H4 (blank env3 is)) F6 σ5 H6 e6 → Same F4 F6 → (H6 D = some (.dK vs) → F6 D = none → KvAll X.K F6 ws ac → DcAt X.K b F2 σ is D F6 (upd H6 D (.dK ws)) e6 ac) ∧ H6 D = some (.dK vs) ∧ F6 D = none ∧ DcAt X.K b F2 σ is D F6 H6 e6 acc := fun {F6 H6 e6 ac ws} g6 s6 => by
        obtain ⟨k1, k2, k3⟩ := g4.kept g6 D4 at3.no
        have g7 := (g4.unre g6).blank is
        rw [ww] at g7
        have ln6 : e6.length = σ.length := by
          have := g7.len
          rw [blank_length, wipe_length] at this; exact this
        have no7 : ∀ j, ¬ OwnAt (blank e6 is) (wipe σ is) j D := fun j ⟨⟨c, c1, c2⟩, c3⟩ => by
          rw [blank_get] at c1
          by_cases e : j ∈ is
          · rw [if_pos e] at c1
            cases q6 : e6[j]? with
            | none => rw [q6] at c1; cases c1
            | some w => rw [q6] at c1; cases c1; cases c2
          · rw [if_neg e] at c1
            refine k3 j ⟨⟨c, c1, c2⟩, ?_⟩
            rw [← ww, wipe_get, if_neg e] at c3; exact c3
        have sm6 := (at3.sm.trans xt.ff).trans s6
        refine ⟨fun hD6 nF hA => ⟨g7.other nF h0D no7, sm6, ln6, ⟨ws, upd_same, hA⟩, nF, no7⟩, k1, k2 nf4, g7, sm6, ln6, ⟨vs, k1, (v2.mono xt.ff).mono s6⟩, k2 nf4, no7⟩
      cases q2 : t e5 with
      | none => rw [q2] at hw; cases hw
      | some re =>
        obtain ⟨kk, e6⟩ := re
        rw [q2] at hw
        refine ⟨_, F5, e5, kk, e6, g5, q2, fun H6 F6 g6 s6 => ?_⟩
        cases kk with
        | false => exact iteF ⟨F6, e6, acc, (next (ac := acc) (ws := vs) g6 (s5.trans s6)).2.2.2, hw⟩
        | true =>
          simp only at hw
          split at hw
          · cases hw
          rename_i r7 e7 q3
          split at hw
          · cases hw
          rename_i ky hky
          split at hw
          · cases hw
          rename_i r9 e9 q9
          split at hw
          · rename_i hz
            refine iteT ⟨_, F6, e6, r7, e7, g6, q3, fun v H7 F7 g7 s7 rv => ?_⟩
            obtain ⟨F8, s8, g8, d8⟩ := rv.freeze g7
            refine ⟨_, F8, e7, r9, e9, g8, q9, fun w H9 F9 g9 s9 rv9 => ?_⟩
            obtain ⟨Fa, sa, ga, da⟩ := rv9.freeze g9
            have s48 := (((((s5.trans s6).trans s7).trans s8).trans s9).trans sa)
            obtain ⟨n1, n2, n3, n4⟩ := next (ac := putD acc ky r9.d) (ws := putK vs (kK ky) w) ga s48
            have a8 := (v2.mono xt.ff).mono s48
            refine ⟨vs, kK ky, ?_, n2, by rw [a8.length, SL_eq]; exact hz, Fa, e9, _, n1 n2 n3 (a8.put da), hw⟩
            exact RdD.ky (F := F8) (H := H7) (.inl d8) hky
          · cases hw
theorem q_dc {kx vx tg iter : Expr} {ifs : List Expr} {scope : Scope} (own : List (Str × Nat)) {is : List Nat} {it : IF} {g : GF} {t : BF} {f h : EF} {pos : Pos} (hc : X.calm = true) (hN : X.N.Nodup) (hi : QI X tg iter it) (ok : BlkOk X.N X.env.scope scope own)
    (hg : ∀ (s : Shared) (H : Hp) (C : Addr) (cl : List (Str × Addr)) (fp : List Addr), QGc (X.blk s H scope (compEnvC scope cl C X.env) fp) is tg g) (ht : ∀ (s : Shared) (H : Hp) (C : Addr) (cl : List (Str × Addr)) (fp : List Addr), QTs (X.blk s H scope (compEnvC scope cl C X.env) fp) ifs t)
    (hk : ∀ (s : Shared) (H : Hp) (C : Addr) (cl : List (Str × Addr)) (fp : List Addr), QE (X.blk s H scope (compEnvC scope cl C X.env) fp) kx f)
    (he : ∀ (s : Shared) (H : Hp) (C : Addr) (cl : List (Str × Addr)) (fp : List Addr), QE (X.blk s H scope (compEnvC scope cl C X.env) fp) vx h) (his : own.map (·.2) = is := by rfl) (hs : ∀ x, foldedSetIterable iter X.env x = pure x := by intro _; rfl) :
    QE X (.DictComp kx vx [⟨tg, iter, ifs, 0⟩] scope pos) (eDc is it g t f h) := by
  subst his
  exact (pe_dc hc hN hi ok hg ht hk he hs).imp fun _ _ _ q => tDc_of q
theorem sw_dict {kx vx : Expr} {gs : List Comprehension} {scope : Scope} {pos py : Pos} {y : Str} {l : Nat} {env : Env} (hk : env.scope.kind = .function) (hy : env.scope.names.lookup y = some .local) (hl : (py.line == pos.line) = true)
    (ha : (scope.names.any fun (n, k) => n == y && (k == .local || k == .cell)) = false) : swapsWith (.DictComp kx vx gs scope pos) (some (.Name y py)) l env = pure true := by
  have kf : env.kindOf y = some .local := hy
  have bk : env.blockKind = .function := by unfold Env.blockKind; rw [hk]; rfl
  unfold swapsWith
  simp only [bk, kf, ha, Expr.pos, hl]
  rfl
theorem q_asgDc {i : Nat} {y : Str} {py : Pos} {kx vx tg iter : Expr} {ifs : List Expr} {scope : Scope} (own : List (Str × Nat)) {is : List Nat} {it : IF} {g : GF} {t : BF} {f h : EF} {pos spos : Pos} (hc : X.calm = true) (hN : X.N.Nodup)
    (hsw : swapsWith (.DictComp kx vx [⟨tg, iter, ifs, 0⟩] scope pos) (some (.Name y py)) spos.line X.env = pure true) (hi : QI X tg iter it) (ok : BlkOk X.N X.env.scope scope own)
    (hg : ∀ (s : Shared) (H : Hp) (C : Addr) (cl : List (Str × Addr)) (fp : List Addr), QGc (X.blk s H scope (compEnvC scope cl C X.env) fp) is tg g) (ht : ∀ (s : Shared) (H : Hp) (C : Addr) (cl : List (Str × Addr)) (fp : List Addr), QTs (X.blk s H scope (compEnvC scope cl C X.env) fp) ifs t)
    (hk : ∀ (s : Shared) (H : Hp) (C : Addr) (cl : List (Str × Addr)) (fp : List Addr), QE (X.blk s H scope (compEnvC scope cl C X.env) fp) kx f)
    (he : ∀ (s : Shared) (H : Hp) (C : Addr) (cl : List (Str × Addr)) (fp : List Addr), QE (X.blk s H scope (compEnvC scope cl C X.env) fp) vx h) (hy : X.N[i]? = some y := by rfl) (hyl : X.env.scope.names.lookup y = some .local := by rfl) (his : own.map (·.2) = is := by rfl) (hs : ∀ x, foldedSetIterable iter X.env x = pure x := by intro _; rfl) :
    QS X (.Assign [.Name y py] (.DictComp kx vx [⟨tg, iter, ifs, 0⟩] scope pos) spos) (sAsg i (eDc is it g t f h)) := by
  subst his
  refine q_asgT (t := tDc (tIv X.K it) (tGc X.K _ g) (tBv X.K t) (tEv X.K f) (tEv X.K h) (own.map (·.2))) ⟨fun pins s σ H DD I hw => ?_⟩ fun _ _ _ q => tDc_of q
  rw [exec_Assign_Name_used _ _ _ _ hsw]
  refine wpAny_bind (wpAny_standAt (wpAny_bind ?_))
  have hw : tDc (tIv X.K it) (tGc X.K _ g) (tBv X.K t) (tEv X.K f) (tEv X.K h) (own.map (·.2)) σ H (fun x H1 => gName i x σ H1 DD.nx) := hw
  show wpAny _ X.A (do let _ ← comprehension (.DictComp kx vx [⟨tg, iter, ifs, 0⟩] scope pos) scope X.env (firstIterPos [⟨tg, iter, ifs, 0⟩] pos) newDict false (eval iter X.env) (some (assign (.Name y py) X.env))) _ _ s
  refine wpAny_bind (thn (dc_core (Qf := fun _ s' => SP X pins DD .next s') hc hN I hi ok hg ht hk he hs hw fun L C s' m H' I' q hn fp => ?_) fun _ s' hq => wpAny_pure (wpAny_pure hq))
  show wpAny _ _ (assign (.Name y py) X.env (.ref L)) _ _ _
  refine wpAny_assign_Name (store_ok2 (v := V.ref L) I' hN hy (.inl hyl) rfl (fun s2 I2 ⟨a, sb, ha⟩ => ?_) (.inr hyl))
  obtain ⟨f0, f1, f2, f3, f4, f5⟩ := fp
  have haC : C ≠ a := by
    rcases ha with z | z
    · rw [z]; exact f1
    · exact fun e => f4 y a z e.symm
  exact ⟨m, hn.sameBut sb haC, fun h3 sb3 => ⟨_, H', I2.turned (t' := s2.toks) (fun b o hb e => (sb3.2 b hb).trans e) f0 f1 f3 f4 f5, q⟩⟩
/-- d.get(k), d.get(k, x): the default frozen -/
def eGet2 (p q : PF) (f : EF) : EF := fun env => match p env with
  | none => none
  | some (x, e1) => match rdP e1 x with
    | some (.dk _) => match q e1 with
      | none => none
      | some (y, e2) => match f e2 with
        | none => none
        | some (r, e3) => match rdP e3 x with
          | some (.dk kvs) => match rdP e3 y with
            | none => none
            | some yd => match yd.ky with
              | none => none
              | some kk => some (.im ((lkD kvs kk).getD r.d), e3)
          | _ => none
    | _ => none
theorem isD_of {F H : Hp} {v : V} {kvs : List (Ky × D)} (ag : Ag F H) (h : RdD X.K F H v (.dk kvs)) : ∃ a, v = .ref a ∧ IsD H a := by
  obtain ⟨a, ks, e, h1, _⟩ := h.dk_inv ag
  exact ⟨a, e, .inl ⟨ks, h1⟩⟩
theorem KvAll.getD {K : PySem.W.Frag} {F : Hp} {ks : List (Key × V)} {kvs : List (Ky × D)} {k : Ky} {w : V} {d : D} (h : KvAll K F ks kvs) (hw : Dn K F w d) : Dn K F ((valV ks (kK k)).getD w) ((lkD kvs k).getD d) := by
  obtain ⟨i1, i2⟩ := h.val k
  cases z : lkD kvs k with
  | none => rw [i2 z]; exact hw
  | some e => obtain ⟨v, e1, e2⟩ := i1 e z; rw [e1]; exact e2
theorem q_get2 {o e f : Expr} {p q : PF} {ff : EF} {apos cpos : Pos} (hu : X.A.units + 1 < cLine) (ho : QP X o p) (he : QP X e q) (hf : QE X f ff) (m : M2 X o "get" apos e f cpos := by exact ⟨rfl, rfl, rfl, rfl⟩) : QE X (.Call (.Attribute o "get" apos) [e, f] [] cpos) (eGet2 p q ff) :=
  (pe_dget2 hu ho he hf m).imp fun σ H Q qq => by
    obtain ⟨b, F, env, r, env', g, hh, k⟩ := qq
    unfold eGet2 at hh
    split at hh
    · cases hh
    rename_i x e1 h1
    split at hh
    · rename_i kv0 h2
      split at hh
      · cases hh
      rename_i y e2 h3
      split at hh
      · cases hh
      rename_i rr e3 h4
      split at hh
      · rename_i kvs h5
        split at hh
        · cases hh
        rename_i yd h6
        split at hh
        · cases hh
        rename_i kk h7
        cases hh
        refine ⟨b, F, env, x, e1, g, h1, fun v H1 F1 g1 s1 pv => ?_⟩
        obtain ⟨a, rfl, hD⟩ := isD_of g1.same (g1.rd pv h2)
        refine ⟨a, rfl, hD, b, F1, e1, y, e2, g1, h3, fun w H2 F2 g2 s2 pw => ⟨b, F2, e2, rr, env', g2, h4, fun z H3 F3 g3 s3 rv => ?_⟩⟩
        obtain ⟨F4, s4, g4, d4⟩ := rv.freeze g3
        obtain ⟨a', ks, ea, hd, hk⟩ := (g4.rd (pv.mono (s2.trans (s3.trans s4))) h5).dk_inv g4.same
        cases ea
        refine ⟨valV ks (kK kk), .inl ⟨ks, kK kk, hd, (g4.rd (pw.mono (s3.trans s4)) h6).ky h7, rfl⟩, k _ H3 F4 g4 (((s1.trans s2).trans s3).trans s4) ?_⟩
        exact hk.getD d4
      · cases hh
    · cases hh
def eGet1 (p q : PF) : EF := fun env => match p env with
  | none => none
  | some (x, e1) => match rdP e1 x with
    | some (.dk _) => match q e1 with
      | none => none
      | some (y, e2) => match rdP e2 x with
          | some (.dk kvs) => match rdP e2 y with
            | none => none
            | some yd => match yd.ky with
              | none => none
              | some kk => some (.im ((lkD kvs kk).getD .non), e2)
          | _ => none
    | _ => none
theorem q_get1 {o e : Expr} {p q : PF} {apos cpos : Pos} (hu : X.A.units + 1 < cLine) (ho : QP X o p) (he : QP X e q) (m : M1 X o "get" apos e cpos := by exact ⟨rfl, rfl, rfl, rfl⟩) : QE X (.Call (.Attribute o "get" apos) [e] [] cpos) (eGet1 p q) :=
  (pe_dget1 hu ho he m).imp fun σ H Q qq => by
    obtain ⟨b, F, env, r, env', g, hh, k⟩ := qq
    unfold eGet1 at hh
    split at hh
    · cases hh
    rename_i x e1 h1
    split at hh
    · rename_i kv0 h2
      split at hh
      · cases hh
      rename_i y e2 h3
      split at hh
      · rename_i kvs h5
        split at hh
        · cases hh
        rename_i yd h6
        split at hh
        · cases hh
        rename_i kk h7
        cases hh
        refine ⟨b, F, env, x, e1, g, h1, fun v H1 F1 g1 s1 pv => ?_⟩
        obtain ⟨a, rfl, hD⟩ := isD_of g1.same (g1.rd pv h2)
        refine ⟨a, rfl, hD, b, F1, e1, y, env', g1, h3, fun w H2 F2 g2 s2 pw => ?_⟩
        obtain ⟨a', ks, ea, hd, hk⟩ := (g2.rd (pv.mono s2) h5).dk_inv g2.same
        cases ea
        refine ⟨valV ks (kK kk), .inl ⟨ks, kK kk, hd, (g2.rd pw h6).ky h7, rfl⟩, k _ H2 F2 g2 (s1.trans s2) ?_⟩
        exact hk.getD .non
      · cases hh
    · cases hh
/-- d.setdefault(k, x) of a name's own dict -/
def eSetd (i : Nat) (q : PF) (f : EF) : EF := fun env => match env[i]? with
  | some c0 => match c0.own, c0.rd with
    | true, some (.dk _) => match q env with
      | none => none
      | some (y, e2) => match f e2 with
        | none => none
        | some (r, e3) => match e3[i]? with
          | some c => match c.own, c.rd with
            | true, some (.dk kvs) => match rdP e3 y with
              | none => none
              | some yd => match yd.ky with
                | none => none
                | some kk => if kvs.length < SL then match lkD kvs kk with
                  | some d => some (.im d, e3)
                  | none => some (.im r.d, e3.set i (c.with (.dk (putD kvs kk r.d))))
                  else none
            | _, _ => none
          | none => none
    | _, _ => none
  | none => none
theorem own_pres {K : PySem.W.Frag} {b : Base} {F H F' H' : Hp} {σ σ' : L2.St} {env env' : Ev} {i : Nat} {c : C} {r : R} {v : V} (g : Gd K b F σ H env) (rv : RV K b F H σ env v r) (h : env[i]? = some c) : True := trivial
theorem q_setd {o e f : Expr} {i : Nat} {q : PF} {ff : EF} {apos cpos : Pos} (ho : PE X o (tVar i)) (he : QP X e q) (hf : QE X f ff) (m : M2 X o "setdefault" apos e f cpos := by exact ⟨rfl, rfl, rfl, rfl⟩) : QE X (.Call (.Attribute o "setdefault" apos) [e, f] [] cpos) (eSetd i q ff) :=
  (pe_dsetd ho he hf m).imp fun σ H Q qq => by
    obtain ⟨b, F, env, r, env', g, hh, k⟩ := qq
    unfold eSetd at hh
    split at hh
    · rename_i c0 h0
      split at hh
      · rename_i kv0 ho0 hr0
        split at hh
        · cases hh
        rename_i y e2 h3
        split at hh
        · cases hh
        rename_i rr e3 h4
        split at hh
        · rename_i c h5
          split at hh
          · rename_i kvs ho5 hr5
            split at hh
            · cases hh
            rename_i yd h6
            split at hh
            · cases hh
            rename_i kk h7
            split at hh
            · rename_i hz
              obtain ⟨w, hw⟩ := g.there h0 hr0
              have hj : σ[i]?.join = some w := by rw [hw]; rfl
              obtain ⟨p, rfl, oo, nF⟩ := own_read g h0 ho0 hr0 hj
              obtain ⟨ks0, o1, _⟩ := oo
              refine ⟨.ref p, hw, p, rfl, .inl ⟨ks0, .inl o1⟩, b, F, env, y, e2, g, h3, fun v H1 F1 g1 s1 pv => ⟨b, F1, e2, rr, e3, g1, h4, fun z H2 F2 g2 s2 rv => ?_⟩⟩
              obtain ⟨F3, s3, g3, d3⟩ := rv.freeze g2
              obtain ⟨p', ep, ⟨ks, a1, a2⟩, nF3⟩ := own_read g3 h5 ho5 hr5 hj
              cases ep
              have sm := (s1.trans s2).trans s3
              refine ⟨ks, kK kk, a1, (g3.rd (pv.mono (s2.trans s3)) h6).ky h7, by rw [a2.length, SL_eq]; exact hz, fun v' hv' => ?_, fun hv' => ?_⟩
              · obtain ⟨i1, i2⟩ := a2.val kk
                cases zz : lkD kvs kk with
                | none => rw [i2 zz] at hv'; cases hv'
                | some d =>
                  rw [zz] at hh
                  cases hh
                  obtain ⟨v2, e1, e2'⟩ := i1 d zz
                  rw [e1] at hv'; cases hv'
                  exact k _ H2 F3 g3 sm e2'
              · obtain ⟨i1, i2⟩ := a2.val kk
                cases zz : lkD kvs kk with
                | some d => obtain ⟨v2, e1, e2'⟩ := i1 d zz; rw [e1] at hv'; cases hv'
                | none =>
                  rw [zz] at hh
                  cases hh
                  exact k _ _ F3 (g3.chg h5 ho5 hj ⟨_, upd_same, a2.put d3⟩) sm d3
            · cases hh
          · cases hh
        · cases hh
      · cases hh
    · cases hh

/-! ### methods that change nothing -/
def D.isStr : D → Bool
  | .str _ => true
  | _ => false
def D.isLst : D → Bool
  | .lst _ => true
  | .fz _ => true
  | _ => false
def eMeth (ty : D → Bool) (f : D → List D → Option R) (p : PF) (a : AF) : EF := fun env => match p env with
  | none => none
  | some (q, e1) => match rdP e1 q with
    | none => none
    | some d1 => if ty d1 = true then match a e1 with
      | none => none
      | some (ps, e2) => match rdP e2 q with
        | none => none
        | some d => match rdPs e2 ps with
          | none => none
          | some ds => match f d ds with
            | none => none
            | some r => some (r, e2)
      else none
theorem tBM_of {T : String} {ty : D → Bool} {r : V → List V → Hp → VK → Prop} {f : D → List D → Option R} {p : PF} {a : AF} (ok : MtOk X.K r f) (ht : ∀ F H v d, Ag F H → RdD X.K F H v d → ty d = true → tyV X.K T v H) {σ : L2.St} {H : Hp} {Q : VK} (q : tEv X.K (eMeth ty f p a) σ H Q) : tBM X.K T r (tPv X.K p) (tAv X.K a) σ H Q := by
  obtain ⟨b, F, env, res, env', g, hf, k⟩ := q
  unfold eMeth at hf
  split at hf
  · cases hf
  rename_i q e1 h1
  split at hf
  · cases hf
  rename_i d1 h2
  split at hf
  · rename_i hty
    split at hf
    · cases hf
    rename_i ps e2 h3
    split at hf
    · cases hf
    rename_i d h4
    split at hf
    · cases hf
    rename_i ds h5
    split at hf
    · cases hf
    rename_i r1 h6
    cases hf
    refine ⟨b, F, env, q, e1, g, h1, fun v H1 F1 g1 s1 pv => ⟨ht F1 H1 v d1 g1.same (g1.rd pv h2) hty, b, F1, e1, ps, env', g1, h3, fun vs H2 F2 g2 s2 pvs => ?_⟩⟩
    exact ok F2 H2 v vs d ds res Q g2.same (g2.rd (pv.mono s2) h4) (g2.rds pvs h5) h6 fun u H3 F3 xt rf => k u H3 F3 (g2.ext xt) ((s1.trans s2).trans xt.ff) (rf.rv g2)
  · cases hf
theorem q_meth {o e : Expr} {es : List Expr} {T id : String} {nm : Str} {ty : D → Bool} {r : V → List V → Hp → VK → Prop} {f : D → List D → Option R} {p : PF} {a : AF} {apos cpos : Pos} (ok : MtOk X.K r f) (ht : ∀ F H v d, Ag F H → RdD X.K F H v d → ty d = true → tyV X.K T v H) (pa : PlainAttrs T) (slot : Slot T nm id) (hty : typeOf (.builtin id) = pure (.type "method_descriptor")) (hm : MtR X id r) (ho : QP X o p) (ha : QA X (e :: es) a)
    (hbase : attributeBase o nm X.env (eval o X.env) = eval o X.env := by rfl)
    (hfew : ((backTo cpos (starEach (e :: es) X.env)).all (fun x => !x.1) && (backToKw cpos (keywordEach [] X.env)).all (fun x => x.1.isSome)
      && decide ((e :: es).length + ([] : List Keyword).length + (if ([] : List Keyword).isEmpty then 0 else 1) < 30)) = true := by rfl)
    (hline : (apos.endLine == cpos.line) = true := by rfl) (hs : starEach (e :: es) X.env = (false, eval e X.env) :: starEach es X.env := by rfl) (hplain : (backTo cpos (starEach es X.env)).any (·.1) = false := by rfl) :
    QE X (.Call (.Attribute o nm apos) (e :: es) [] cpos) (eMeth ty f p a) := (pe_bm pa slot hty hm ho ha hbase hfew hline hs hplain).imp fun _ _ _ q => tBM_of ok ht q
theorem ty_str {K : PySem.W.Frag} : ∀ F H v d, Ag F H → RdD K F H v d → d.isStr = true → tyV K "str" v H := fun F H v d ag h t => by
  cases d with
  | str x => rw [h.str_inv]; rfl
  | _ => cases t
theorem ty_lst {K : PySem.W.Frag} : ∀ F H v d, Ag F H → RdD K F H v d → d.isLst = true → tyV K "list" v H := fun F H v d ag h t => by
  cases d with
  | lst x => obtain ⟨a, vs, rfl, h1, _⟩ := h.lst_inv ag; exact .inl ⟨rfl, vs, .of h1⟩
  | fz x => obtain ⟨a, vs, rfl, h1, _⟩ := h.fz_inv ag; exact .inl ⟨rfl, vs, h1⟩
  | _ => cases t
/-- texts of a sequence -/
def texts : List D → Option (List Tx)
  | [] => some []
  | .str x :: ds => match texts ds with
    | some xs => some (x :: xs)
    | none => none
  | _ => none
theorem texts_dn {K : PySem.W.Frag} {F : Hp} : ∀ {vs : List V} {ds : List D} {xs : List Tx}, DnAll K F vs ds → texts ds = some xs → vs = (xs.map S).map V.str
  | _, _, _, .nil, h => by cases h; rfl
  | _, _, xs, .cons (d := d) h t, e => by
    cases h with
    | str x =>
      unfold texts at e
      split at e
      · rename_i ys q; cases e; rw [List.map_cons, List.map_cons, texts_dn t q]
      · cases e
    | _ => cases e
def joinT (a : Tx) : List Tx → Tx
  | [] => []
  | [x] => x
  | x :: y :: r => x ++ a ++ joinT a (y :: r)
theorem join_S (a : Tx) : ∀ xs : List Tx, Txt.join (S a) (xs.map S) = S (joinT a xs) := by
  intro xs
  rw [show Txt.join (S a) (xs.map S) = PySem.Str.join (S a) (xs.map S) from StrLaws.glued_eq_join _ _]
  induction xs with
  | nil => rfl
  | cons x r ih =>
    cases r with
    | nil => rfl
    | cons y r =>
      have e : PySem.Str.join (S a) ((x :: y :: r).map S) = S x ++ S a ++ PySem.Str.join (S a) ((y :: r).map S) := rfl
      rw [e, ih, S_append, S_append]; rfl
def fJoin : D → List D → Option R := fun x ds => match x, ds with
  | .str a, [d] => match d.seq with
    | none => none
    | some es => match texts es with
      | none => none
      | some xs => if (xs.map List.length).sum + xs.length * a.length ≤ SL then some (.im (.str (joinT a xs))) else none
  | _, _ => none
theorem ok_join {K : PySem.W.Frag} : MtOk K (fun x xs H Q => ∃ a p, ∃ ys : List Str, x = .str a ∧ xs = [.ref p] ∧ (SqL K H p (ys.map V.str) ∨ SqT K H p (ys.map V.str)) ∧ (ys.map (·.length)).sum + ys.length * a.length ≤ 16777216 ∧ Q (.str (Txt.join a ys)) H) fJoin := fun F H x vs dx ds res Q ag hx hd e k => by
  unfold fJoin at e
  split at e
  · rename_i a d
    split at e
    · cases e
    rename_i es h1
    split at e
    · cases e
    rename_i xs h2
    split at e
    · rename_i hz
      cases e
      cases hd with
      | cons h t =>
        cases t
        obtain ⟨p, ws, rfl, hs, hw⟩ := h.seq_inv ag h1
        rw [texts_dn hw h2] at hs
        refine ⟨S a, p, xs.map S, hx.str_inv, rfl, hs, ?_, ?_⟩
        · rw [List.map_map, List.length_map, S_length]
          have : (Str.length ∘ S) = List.length := by funext z; exact S_length z
          rw [this]; exact hz
        · rw [join_S]
          exact k _ H F (Xt.refl ag) (Dn.str _)
    · cases e
  · cases e
def fCount : D → List D → Option R := fun x ds => match x, ds with
  | .str a, [.str b] => some (.im (.int (cntIn b a : Nat)))
  | _, _ => none
theorem ok_count {K : PySem.W.Frag} : MtOk K (fun x xs H Q => ∃ a b, x = .str a ∧ xs = [.str b] ∧ Q (.int (Txt.count a b)) H) fCount := fun F H x vs dx ds res Q ag hx hd e k => by
  unfold fCount at e
  split at e
  · rename_i a b
    cases e
    cases hd with
    | cons h t =>
      cases t
      refine ⟨S a, S b, hx.str_inv, by rw [h.str_inv], ?_⟩
      have : Txt.count (S a) (S b) = (cntIn b a : Nat) := by
        unfold Txt.count cntIn
        rw [occ_S, S_length, Nat.sub_zero]
      rw [this]
      exact k _ H F (Xt.refl ag) (Dn.int _)
  · cases e
end
end MP
namespace MP
open PySem PySem.Spec PyProof.Rows L2

/-! ### order of texts -/
theorem tlt_irrefl (a : Tx) : ¬ a < a := List.lt_irrefl a
theorem tlt_trans {a b c : Tx} (h : a < b) (h' : b < c) : a < c := List.lt_trans h h'
theorem tle_antisymm {a b : Tx} (h : ¬ a < b) (h' : ¬ b < a) : a = b := List.le_antisymm (List.not_lt.mp h') (List.not_lt.mp h)
def insT (x : Tx) : List Tx → List Tx
  | [] => [x]
  | y :: r => if y < x then y :: insT x r else x :: y :: r
def sortT : List Tx → List Tx
  | [] => []
  | x :: r => insT x (sortT r)
theorem insT_perm (x : Tx) : ∀ l : List Tx, (insT x l).Perm (x :: l)
  | [] => .refl _
  | y :: r => by
    unfold insT
    split
    · exact ((insT_perm x r).cons y).trans (.swap x y r)
    · exact .refl _
theorem sortT_perm : ∀ l : List Tx, (sortT l).Perm l
  | [] => .refl _
  | x :: r => (insT_perm x (sortT r)).trans ((sortT_perm r).cons x)
theorem insT_sorted (x : Tx) : ∀ l : List Tx, l.Pairwise (fun a b => ¬ b < a) → (insT x l).Pairwise fun a b => ¬ b < a
  | [], _ => by simp [insT]
  | y :: r, h => by
    rw [List.pairwise_cons] at h
    unfold insT
    split
    · rename_i hy
      rw [List.pairwise_cons]
      refine ⟨fun z hz => ?_, insT_sorted x r h.2⟩
      rcases List.mem_cons.mp ((insT_perm x r).mem_iff.mp hz) with rfl | hz
      · exact fun q => tlt_irrefl _ (tlt_trans hy q)
      · exact h.1 z hz
    · rename_i hy
      rw [List.pairwise_cons, List.pairwise_cons]
      refine ⟨fun z hz => ?_, h⟩
      rcases List.mem_cons.mp hz with rfl | hz2
      · exact hy
      · intro q
        by_cases w : x < y
        · exact h.1 z hz2 (tlt_trans q w)
        · exact h.1 z hz2 (tle_antisymm w hy ▸ q)
theorem sortT_sorted : ∀ l : List Tx, (sortT l).Pairwise fun a b => ¬ b < a
  | [] => .nil
  | x :: r => insT_sorted x _ (sortT_sorted r)
theorem sorted_unique : ∀ {l m : List Tx}, l.Perm m → (l.Pairwise fun a b => ¬ b < a) → (m.Pairwise fun a b => ¬ b < a) → l = m
  | [], m, p, _, _ => by have := p.length_eq; cases m with
    | nil => rfl
    | cons _ _ => cases this
  | x :: l, [], p, _, _ => by have := p.length_eq; cases this
  | x :: l, y :: m, p, h1, h2 => by
    rw [List.pairwise_cons] at h1 h2
    have e : x = y := by
      have hx := p.mem_iff.mp (List.mem_cons_self (a := x) (l := l))
      have hy := p.mem_iff.mpr (List.mem_cons_self (a := y) (l := m))
      rcases List.mem_cons.mp hx with e | hx
      · exact e
      · rcases List.mem_cons.mp hy with e | hy
        · exact e.symm
        · exact tle_antisymm (h2.1 x hx) (h1.1 y hy)
    subst e
    rw [sorted_unique (p.cons_inv) h1.2 h2.2]
theorem rising_pair : ∀ (ys : List Tx) (p : Tx), risingS (S p) (ys.map S) = true → (p :: ys).Pairwise fun a b => ¬ b < a
  | [], p, _ => by simp
  | y :: r, p, h => by
    rw [List.map_cons, risingS, Bool.and_eq_true, S_cps, S_cps, ltCps_eq, Bool.not_eq_true', decide_eq_false_iff_not] at h
    have ih := rising_pair r y h.2
    rw [List.pairwise_cons] at ih ⊢
    refine ⟨fun z hz => ?_, List.pairwise_cons.mpr ih⟩
    rcases List.mem_cons.mp hz with rfl | hz
    · exact h.1
    · intro q
      by_cases e : y = p
      · subst e; exact ih.1 z hz q
      · by_cases w : p < y
        · exact ih.1 z hz (tlt_trans q w)
        · exact e (tle_antisymm h.1 w)
theorem sortedS_pair : ∀ {ys : List Tx}, sortedS (ys.map S) = true → ys.Pairwise fun a b => ¬ b < a
  | [], _ => .nil
  | y :: r, h => rising_pair r y h
theorem perm_map_S {zs : List Str} {xs : List Tx} (h : zs.Perm (xs.map S)) : ∃ ys : List Tx, zs = ys.map S ∧ ys.Perm xs := by
  refine ⟨zs.map fun z => z.cps.toList, ?_, ?_⟩
  · rw [List.map_map]
    have : (S ∘ fun z : Str => z.cps.toList) = id := by funext z; exact (S_of z).symm
    rw [this, List.map_id]
  · have := h.map fun z : Str => z.cps.toList
    rw [List.map_map] at this
    have e : ((fun z : Str => z.cps.toList) ∘ S) = id := by funext z; exact S_cps z
    rw [e, List.map_id] at this
    exact this

/-! ### lists of one kind -/
def intsL : List D → Option (List Int)
  | [] => some []
  | .int i :: ds => match intsL ds with
    | some xs => some (i :: xs)
    | none => none
  | _ => none
theorem ints_dn {K : PySem.W.Frag} {F : Hp} : ∀ {vs : List V} {ds : List D} {xs : List Int}, DnAll K F vs ds → intsL ds = some xs → vs = xs.map V.int
  | _, _, _, .nil, h => by cases h; rfl
  | _, _, xs, .cons (d := d) h t, e => by
    cases h with
    | int x =>
      unfold intsL at e
      split at e
      · rename_i ys q; cases e; rw [List.map_cons, ints_dn t q]
      · cases e
    | _ => cases e
def bools : List D → Option (List Bool)
  | [] => some []
  | .bl i :: ds => match bools ds with
    | some xs => some (i :: xs)
    | none => none
  | _ => none
theorem bools_dn {K : PySem.W.Frag} {F : Hp} : ∀ {vs : List V} {ds : List D} {xs : List Bool}, DnAll K F vs ds → bools ds = some xs → vs = xs.map V.bl
  | _, _, _, .nil, h => by cases h; rfl
  | _, _, xs, .cons (d := d) h t, e => by
    cases h with
    | bl x =>
      unfold bools at e
      split at e
      · rename_i ys q; cases e; rw [List.map_cons, bools_dn t q]
      · cases e
    | _ => cases e
theorem dn_texts {K : PySem.W.Frag} {F : Hp} : ∀ xs : List Tx, DnAll K F ((xs.map S).map V.str) (xs.map D.str)
  | [] => .nil
  | x :: r => .cons (.str x) (dn_texts r)
theorem dn_ints {K : PySem.W.Frag} {F : Hp} : ∀ xs : List Int, DnAll K F (xs.map V.int) (xs.map D.int)
  | [] => .nil
  | x :: r => .cons (.int x) (dn_ints r)
def keysD (kvs : List (Ky × D)) : List D := kvs.map fun kv => match kv.1 with
  | .inl i => .int i
  | .inr x => .str x
theorem dn_keys {K : PySem.W.Frag} {F F' : Hp} : ∀ {ks : List (Key × V)} {kvs : List (Ky × D)}, KvAll K F ks kvs → DnAll K F' (ks.map fun kv => kV kv.1) (keysD kvs)
  | _, _, .nil => .nil
  | _, _, .cons (k := k) h t => by
    cases k with
    | inl i => exact .cons (.int i) (dn_keys t)
    | inr x => exact .cons (.str x) (dn_keys t)

section
variable {X : Cx}
/-! ### builtins -/
def fLen : List D → Option R := fun ds => match ds with
  | [.str x] => if x.length ≤ SL then some (.im (.int (x.length : Nat))) else none
  | [.dk kvs] => some (.im (.int (kvs.length : Nat)))
  | [d] => match d.seq with
    | some es => some (.im (.int (es.length : Nat)))
    | none => none
  | _ => none
def rLenA (K : PySem.W.Frag) : List V → Hp → VK → Prop := fun xs H Q => (∃ x n, xs = [x] ∧ LenV K x H n ∧ Q (.int n) H) ∨ ∃ a kvs, xs = [.ref a] ∧ Rd H a (.dK kvs) ∧ Q (.int (kvs.length : Nat)) H
theorem call_lenA : CallR X (.builtin "len") (rLenA X.K) := by
  refine call_len.or fun pins s σ H xs us Q I r h => ?_
  obtain ⟨a, kvs, rfl, hd, q⟩ := h
  obtain ⟨u, rfl, rx⟩ := vals1 r
  cases rx
  exact d_len I hd fun t s' I' => ⟨.int kvs.length, H, I', ⟨t, rfl⟩, q⟩
theorem ok_len {K : PySem.W.Frag} : CallOk K (rLenA K) fLen := fun F H vs ds res Q ag hd e k => by
  unfold fLen at e
  split at e
  · rename_i x
    split at e
    · rename_i c
      cases e
      cases hd with
      | cons h t =>
        cases t
        refine .inl ⟨_, x.length, rfl, ?_, k _ H F (Xt.refl ag) (Dn.int _)⟩
        rw [h.str_inv]
        exact ⟨by rw [S_length, SL_eq]; exact c, (S_length x).symm⟩
    · cases e
  · rename_i kvs
    cases e
    cases hd with
    | cons h t =>
      cases t
      obtain ⟨a, ks, rfl, h1, h2⟩ := h.dk_inv ag
      refine .inr ⟨a, ks, rfl, h1, ?_⟩
      rw [h2.length]
      exact k _ H F (Xt.refl ag) (Dn.int _)
  · rename_i d _ _
    split at e
    · rename_i es he
      cases e
      cases hd with
      | cons h t =>
        cases t
        obtain ⟨a, ws, rfl, hs, hw⟩ := h.seq_inv ag he
        refine .inl ⟨_, es.length, rfl, ?_, k _ H F (Xt.refl ag) (Dn.int _)⟩
        rcases hs with hs | hs
        · exact .inl ⟨ws, hs, hw.length.symm⟩
        · exact .inr ⟨ws, hs, hw.length.symm⟩
    · cases e
  · cases e
def fList : List D → Option R := fun ds => match ds with
  | [.dk kvs] => some (.fr (.lst (keysD kvs)))
  | [d] => match d.seq with
    | some es => some (.fr (.lst es))
    | none => none
  | _ => none
def rListA (K : PySem.W.Frag) : List V → Hp → VK → Prop := fun xs H Q => (∃ p ys, xs = [.ref p] ∧ (SqL K H p ys ∨ SqT K H p ys) ∧ ∀ l, H l = none → Q (.ref l) (upd H l (.lst ys))) ∨
  ∃ (a : Addr) (kvs : List (Key × V)), xs = [.ref a] ∧ Rd H a (.dK kvs) ∧ ∀ p, H p = none → Q (.ref p) (upd H p (.lst (kvs.map fun kv => kV kv.1)))
theorem DnAll.toRF {K : PySem.W.Frag} {F H : Hp} {p : Addr} {vs : List V} {ds : List D} (ag : Ag F H) (n : H p = none) (h : DnAll K F vs ds) : RF K H F (upd H p (.lst vs)) (.ref p) (.fr (.lst ds)) := ⟨p, rfl, n, ag.free n, vs, upd_same, h⟩
theorem ok_list {K : PySem.W.Frag} : CallOk K (rListA K) fList := fun F H vs ds res Q ag hd e k => by
  unfold fList at e
  split at e
  · rename_i kvs
    cases e
    cases hd with
    | cons h t =>
      cases t
      obtain ⟨a, ks, rfl, h1, h2⟩ := h.dk_inv ag
      exact .inr ⟨a, ks, rfl, h1, fun p hp => k _ _ F (Xt.fresh ag hp) ((dn_keys h2).toRF ag hp)⟩
  · rename_i d _
    split at e
    · rename_i es he
      cases e
      cases hd with
      | cons h t =>
        cases t
        obtain ⟨a, ws, rfl, hs, hw⟩ := h.seq_inv ag he
        exact .inl ⟨a, ws, rfl, hs, fun p hp => k _ _ F (Xt.fresh ag hp) (hw.toRF ag hp)⟩
    · cases e
  · cases e
def fTuple : List D → Option R := fun ds => match ds with
  | [.tup es] => some (.im (.tup es))
  | [.lst es] => some (.im (.tup es))
  | [.fz es] => some (.im (.tup es))
  | _ => none
theorem ok_tuple {K : PySem.W.Frag} : CallOk K (fun xs H Q => ∃ p ys, xs = [.ref p] ∧ ((SqL K H p ys ∧ ∀ l, H l = none → Q (.ref l) (upd H l (.tup ys))) ∨ (SqT K H p ys ∧ Q (.ref p) H))) fTuple := fun F H vs ds res Q ag hd e k => by
  have lst : ∀ {es : List D} {a : Addr} {ws : List V}, res = .im (.tup es) → SqL K H a ws → DnAll K F ws es → ∀ l, H l = none → Q (.ref l) (upd H l (.tup ws)) := fun {es a ws} er hs hw l hl => by
    subst er
    have xt := Xt.laid (o := .tup ws) ag hl
    exact k _ _ _ xt (Dn.tup (.of upd_same) (hw.mono xt.ff))
  unfold fTuple at e
  split at e
  · cases e
    cases hd with
    | cons h t =>
      cases t
      obtain ⟨a, ws, rfl, h0, h1, h2⟩ := h.tup_inv ag
      exact ⟨a, ws, rfl, .inr ⟨h1, k _ H F (Xt.refl ag) (Dn.tup h0 h2)⟩⟩
  · cases e
    cases hd with
    | cons h t =>
      cases t
      obtain ⟨a, ws, rfl, h1, h2⟩ := h.lst_inv ag
      exact ⟨a, ws, rfl, .inl ⟨.of h1, lst rfl (.of h1) h2⟩⟩
  · cases e
    cases hd with
    | cons h t =>
      cases t
      obtain ⟨a, ws, rfl, h1, h2⟩ := h.fz_inv ag
      exact ⟨a, ws, rfl, .inl ⟨h1, lst rfl h1 h2⟩⟩
  · cases e
def fMax2 : List D → Option R := fun ds => match ds with
  | [.int i, .int j] => some (.im (.int (if j > i then j else i)))
  | _ => none
def fMin2 : List D → Option R := fun ds => match ds with
  | [.int i, .int j] => some (.im (.int (if j < i then j else i)))
  | _ => none
theorem ok_max2 {K : PySem.W.Frag} : CallOk K (fun xs H Q => ∃ i j, xs = [.int i, .int j] ∧ Q (.int (if j > i then j else i)) H) fMax2 := fun F H vs ds res Q ag hd e k => by
  unfold fMax2 at e
  split at e
  · rename_i i j
    cases e
    cases hd with
    | cons h t =>
      cases t with
      | cons h2 t2 =>
        cases t2
        exact ⟨i, j, by rw [h.int_inv, h2.int_inv], k _ H F (Xt.refl ag) (Dn.int _)⟩
  · cases e
theorem ok_min2 {K : PySem.W.Frag} : CallOk K (fun xs H Q => ∃ i j, xs = [.int i, .int j] ∧ Q (.int (if j < i then j else i)) H) fMin2 := fun F H vs ds res Q ag hd e k => by
  unfold fMin2 at e
  split at e
  · rename_i i j
    cases e
    cases hd with
    | cons h t =>
      cases t with
      | cons h2 t2 =>
        cases t2
        exact ⟨i, j, by rw [h.int_inv, h2.int_inv], k _ H F (Xt.refl ag) (Dn.int _)⟩
  · cases e
def maxI : List Int → Option Int
  | [] => none
  | x :: r => some (r.foldl max x)
def minI : List Int → Option Int
  | [] => none
  | x :: r => some (r.foldl min x)
theorem foldl_max (r : List Int) : ∀ x : Int, (r.foldl max x ∈ x :: r) ∧ ∀ y ∈ x :: r, y ≤ r.foldl max x := by
  induction r with
  | nil => intro x; simp
  | cons a r ih =>
    intro x
    obtain ⟨h1, h2⟩ := ih (max x a)
    rw [List.foldl_cons]
    refine ⟨?_, fun y hy => ?_⟩
    · rcases List.mem_cons.mp h1 with e | h1
      · rw [e]
        by_cases c : x ≤ a
        · rw [Int.max_eq_right c]; simp
        · rw [Int.max_eq_left (by omega)]; simp
      · exact List.mem_cons_of_mem _ (List.mem_cons_of_mem _ h1)
    · have h3 := h2 (max x a) List.mem_cons_self
      rcases List.mem_cons.mp hy with rfl | hy
      · omega
      · rcases List.mem_cons.mp hy with rfl | hy
        · omega
        · exact h2 y (List.mem_cons_of_mem _ hy)
theorem foldl_min (r : List Int) : ∀ x : Int, (r.foldl min x ∈ x :: r) ∧ ∀ y ∈ x :: r, r.foldl min x ≤ y := by
  induction r with
  | nil => intro x; simp
  | cons a r ih =>
    intro x
    obtain ⟨h1, h2⟩ := ih (min x a)
    rw [List.foldl_cons]
    refine ⟨?_, fun y hy => ?_⟩
    · rcases List.mem_cons.mp h1 with e | h1
      · rw [e]
        by_cases c : x ≤ a
        · rw [Int.min_eq_left c]; simp
        · rw [Int.min_eq_right (by omega)]; simp
      · exact List.mem_cons_of_mem _ (List.mem_cons_of_mem _ h1)
    · have h3 := h2 (min x a) List.mem_cons_self
      rcases List.mem_cons.mp hy with rfl | hy
      · omega
      · rcases List.mem_cons.mp hy with rfl | hy
        · omega
        · exact h2 y (List.mem_cons_of_mem _ hy)
def fIntsL (f : List Int → Option D) : List D → Option R := fun ds => match ds with
  | [.lst es] => match intsL es with
    | some xs => match f xs with
      | some d => some (.im d)
      | none => none
    | none => none
  | _ => none
theorem fIntsL_inv {K : PySem.W.Frag} {F H : Hp} {f : List Int → Option D} {vs : List V} {ds : List D} {res : R} (ag : Ag F H) (hd : RdAll K F H vs ds) (e : fIntsL f ds = some res) : ∃ a xs d, vs = [.ref a] ∧ SqL K H a (xs.map V.int) ∧ f xs = some d ∧ res = .im d := by
  unfold fIntsL at e
  split at e
  · rename_i es
    split at e
    · rename_i xs h1
      split at e
      · rename_i d h2
        cases e
        cases hd with
        | cons h t =>
          cases t
          obtain ⟨a, ws, rfl, h3, h4⟩ := h.lst_inv ag
          rw [ints_dn h4 h1] at h3
          exact ⟨a, xs, d, rfl, .of h3, h2, rfl⟩
      · cases e
    · cases e
  · cases e
def fMax1 : List D → Option R := fIntsL fun xs => (maxI xs).map D.int
def fMin1 : List D → Option R := fIntsL fun xs => (minI xs).map D.int
def fSum : List D → Option R := fIntsL fun xs => some (.int xs.sum)
theorem ok_max1 {K : PySem.W.Frag} : CallOk K (rMax K) fMax1 := fun F H vs ds res Q ag hd e k => by
  obtain ⟨a, xs, d, rfl, h1, h2, rfl⟩ := fIntsL_inv ag hd e
  cases xs with
  | nil => cases h2
  | cons x r =>
    cases h2
    obtain ⟨m1, m2⟩ := foldl_max r x
    refine ⟨a, _, rfl, h1, by simp, fun m hm hle => ?_⟩
    have : m = r.foldl max x := by
      have := m2 m hm
      have := hle _ m1
      omega
    rw [this]
    exact k _ H F (Xt.refl ag) (Dn.int _)
theorem ok_min1 {K : PySem.W.Frag} : CallOk K (rMin K) fMin1 := fun F H vs ds res Q ag hd e k => by
  obtain ⟨a, xs, d, rfl, h1, h2, rfl⟩ := fIntsL_inv ag hd e
  cases xs with
  | nil => cases h2
  | cons x r =>
    cases h2
    obtain ⟨m1, m2⟩ := foldl_min r x
    refine ⟨a, _, rfl, h1, by simp, fun m hm hle => ?_⟩
    have : m = r.foldl min x := by
      have := m2 m hm
      have := hle _ m1
      omega
    rw [this]
    exact k _ H F (Xt.refl ag) (Dn.int _)
theorem ok_sum {K : PySem.W.Frag} : CallOk K (rSum K) fSum := fun F H vs ds res Q ag hd e k => by
  obtain ⟨a, xs, d, rfl, h1, h2, rfl⟩ := fIntsL_inv ag hd e
  cases h2
  exact ⟨a, xs, rfl, h1, k _ H F (Xt.refl ag) (Dn.int _)⟩
def fBoolsL (f : List Bool → Bool) : List D → Option R := fun ds => match ds with
  | [.lst es] => match bools es with
    | some xs => some (.im (.bl (f xs)))
    | none => none
  | _ => none
theorem fBoolsL_inv {K : PySem.W.Frag} {F H : Hp} {f : List Bool → Bool} {vs : List V} {ds : List D} {res : R} (ag : Ag F H) (hd : RdAll K F H vs ds) (e : fBoolsL f ds = some res) : ∃ a xs, vs = [.ref a] ∧ SqL K H a (xs.map V.bl) ∧ res = .im (.bl (f xs)) := by
  unfold fBoolsL at e
  split at e
  · rename_i es
    split at e
    · rename_i xs h1
      cases e
      cases hd with
      | cons h t =>
        cases t
        obtain ⟨a, ws, rfl, h3, h4⟩ := h.lst_inv ag
        rw [bools_dn h4 h1] at h3
        exact ⟨a, xs, rfl, .of h3, rfl⟩
    · cases e
  · cases e
def fAll : List D → Option R := fBoolsL fun bs => bs.all id
def fAny : List D → Option R := fBoolsL fun bs => bs.any id
theorem ok_all {K : PySem.W.Frag} : CallOk K (rAll K) fAll := fun F H vs ds res Q ag hd e k => by
  obtain ⟨a, xs, rfl, h1, rfl⟩ := fBoolsL_inv ag hd e
  exact ⟨a, xs, rfl, h1, k _ H F (Xt.refl ag) (Dn.bl _)⟩
theorem ok_any {K : PySem.W.Frag} : CallOk K (rAny K) fAny := fun F H vs ds res Q ag hd e k => by
  obtain ⟨a, xs, rfl, h1, rfl⟩ := fBoolsL_inv ag hd e
  exact ⟨a, xs, rfl, h1, k _ H F (Xt.refl ag) (Dn.bl _)⟩
def fAbs : List D → Option R := fun ds => match ds with
  | [.int i] => some (.im (.int (if i < 0 then -i else i)))
  | _ => none
theorem ok_abs {K : PySem.W.Frag} : CallOk K (fun xs H Q => ∃ i, xs = [.int i] ∧ Q (.int (if i < 0 then -i else i)) H) fAbs := fun F H vs ds res Q ag hd e k => by
  unfold fAbs at e
  split at e
  · rename_i i
    cases e
    cases hd with
    | cons h t => cases t; exact ⟨i, by rw [h.int_inv], k _ H F (Xt.refl ag) (Dn.int _)⟩
  · cases e
def fInt1 : List D → Option R := fun ds => match ds with
  | [.int i] => some (.im (.int i))
  | [.bl b] => some (.im (.int (if b then 1 else 0)))
  | _ => none
theorem ok_int1 {K : PySem.W.Frag} : CallOk K (fun xs H Q => (∃ i, xs = [.int i] ∧ Q (.int i) H) ∨ ∃ k, xs = [.bl k] ∧ Q (.int (if k then 1 else 0)) H) fInt1 := fun F H vs ds res Q ag hd e k => by
  unfold fInt1 at e
  split at e
  · rename_i i
    cases e
    cases hd with
    | cons h t => cases t; exact .inl ⟨i, by rw [h.int_inv], k _ H F (Xt.refl ag) (Dn.int _)⟩
  · rename_i i
    cases e
    cases hd with
    | cons h t => cases t; exact .inr ⟨i, by rw [h.bl_inv], k _ H F (Xt.refl ag) (Dn.int _)⟩
  · cases e
/-- isinstance(x, T) -/
def D.tyName : D → Option String
  | .non => some "NoneType"
  | .bl _ => some "bool"
  | .int _ => some "int"
  | .str _ => some "str"
  | .tup _ => some "tuple"
  | .lst _ => some "list"
  | .fz _ => some "list"
  | .dk _ => some "dict"
  | _ => none
def isiB (a b : String) : Option Bool := if a = b then some true else if a = "bool" ∧ b = "int" then some true else if b = "int" ∨ b = "str" ∨ b = "tuple" ∨ b = "list" ∨ b = "bool" ∨ b = "dict" then some false else none
theorem isiB_ok {d : D} {a b : String} {k : Bool} (ha : d.tyName = some a) (h : isiB a b = some k) : kitB a b = some k := by
  unfold isiB at h
  by_cases e : a = b
  · rw [if_pos e] at h
    cases h
    subst e
    cases d <;> cases ha <;> decide +kernel
  · rw [if_neg e] at h
    by_cases e2 : a = "bool" ∧ b = "int"
    · rw [if_pos e2] at h
      cases h
      obtain ⟨rfl, rfl⟩ := e2
      decide +kernel
    · rw [if_neg e2] at h
      split at h
      · rename_i c
        cases h
        rcases c with rfl | rfl | rfl | rfl | rfl | rfl <;> (cases d <;> cases ha <;> first | exact absurd rfl e | exact absurd ⟨rfl, rfl⟩ e2 | decide +kernel)
      · cases h
theorem tyX_of {K : PySem.W.Frag} {F H : Hp} {v : V} {d : D} {a : String} (ag : Ag F H) (h : RdD K F H v d) (e : d.tyName = some a) : TyX K H v (.type a) := by
  cases d <;> cases e
  · rw [h.non_inv]; exact .base .non
  · rw [h.bl_inv]; exact .base (.bl _)
  · rw [h.int_inv]; exact .base (.int _)
  · rw [h.str_inv]; exact .base (.str _)
  · obtain ⟨p, vs, rfl, _, h1, _⟩ := h.tup_inv ag
    rcases h1 with (h1 | ⟨o, h1⟩) | ⟨o, _, _, h1, h2, _⟩
    · exact .base (.tup h1)
    · exact .fTuple h1
    · exact .kTuple h1 h2
  · obtain ⟨p, vs, rfl, h1, _⟩ := h.lst_inv ag
    exact .base (.lst h1)
  · obtain ⟨p, ks, rfl, h1, _⟩ := h.dk_inv ag
    rcases h1 with h1 | ⟨o, h1⟩
    · exact .base (.dK h1)
    · exact .fDict h1
  · obtain ⟨p, vs, rfl, h1, _⟩ := h.fz_inv ag
    rcases h1 with (h1 | ⟨o, h1⟩) | ⟨o, _, _, h1, h2, _⟩
    · exact .base (.lst h1)
    · exact .base (.frz h1)
    · exact .kList h1 h2
def fIsi : List D → Option R := fun ds => match ds with
  | [x, .ty n] => match x.tyName with
    | some a => match isiB a n with
      | some k => some (.im (.bl k))
      | none => none
    | none => none
  | _ => none
theorem ok_isi {K : PySem.W.Frag} : CallOk K (rIsi K) fIsi := fun F H vs ds res Q ag hd e k => by
  unfold fIsi at e
  split at e
  · rename_i x n
    split at e
    · rename_i a ha
      split at e
      · rename_i kk hk
        cases e
        cases hd with
        | cons h t =>
          cases t with
          | cons h2 t2 =>
            cases t2
            exact ⟨_, .ty n, .type a, .type n, kk, by rw [h2.ty_inv], .ty n, tyX_of ag h ha, kit_ty (isiB_ok ha hk), k _ H F (Xt.refl ag) (Dn.bl _)⟩
      · cases e
    · cases e
  · cases e
theorem q_ty {x : Str} {n : String} {pos : Pos} (hm : X.mg x = none) (hg : Gl X x := by rfl) (hv : bootBuiltins x = some (.type n) := by decide +kernel) (hn : x ≠ "__name__" := by decide) (hdb : (x == ("__debug__" : Str)) = false := by decide) : QE X (.Name x pos) (eC (.ty n)) :=
  q_c (pe_bltn (v := .ty n) hg hm hv rfl hn hdb)
/-- sorted(..) of intsL, of texts, of a dict's text keys -/
def insI (x : Int) : List Int → List Int
  | [] => [x]
  | y :: r => if y < x then y :: insI x r else x :: y :: r
def sortI : List Int → List Int
  | [] => []
  | x :: r => insI x (sortI r)
theorem insI_perm (x : Int) : ∀ l : List Int, (insI x l).Perm (x :: l)
  | [] => .refl _
  | y :: r => by
    unfold insI
    split
    · exact ((insI_perm x r).cons y).trans (.swap x y r)
    · exact .refl _
theorem sortI_perm : ∀ l : List Int, (sortI l).Perm l
  | [] => .refl _
  | x :: r => (insI_perm x (sortI r)).trans ((sortI_perm r).cons x)
theorem insI_sorted (x : Int) : ∀ l : List Int, l.Pairwise (· ≤ ·) → (insI x l).Pairwise (· ≤ ·)
  | [], _ => by simp [insI]
  | y :: r, h => by
    rw [List.pairwise_cons] at h
    unfold insI
    split
    · rename_i hy
      rw [List.pairwise_cons]
      refine ⟨fun z hz => ?_, insI_sorted x r h.2⟩
      rcases List.mem_cons.mp ((insI_perm x r).mem_iff.mp hz) with rfl | hz
      · omega
      · exact h.1 z hz
    · rename_i hy
      rw [List.pairwise_cons, List.pairwise_cons]
      refine ⟨fun z hz => ?_, h⟩
      rcases List.mem_cons.mp hz with rfl | hz
      · omega
      · have := h.1 z hz; omega
theorem sortI_sorted : ∀ l : List Int, (sortI l).Pairwise (· ≤ ·)
  | [] => .nil
  | x :: r => insI_sorted x _ (sortI_sorted r)
theorem sortedI_unique : ∀ {l m : List Int}, l.Perm m → l.Pairwise (· ≤ ·) → m.Pairwise (· ≤ ·) → l = m
  | [], m, p, _, _ => by have := p.length_eq; cases m with
    | nil => rfl
    | cons _ _ => cases this
  | x :: l, [], p, _, _ => by have := p.length_eq; cases this
  | x :: l, y :: m, p, h1, h2 => by
    rw [List.pairwise_cons] at h1 h2
    have e : x = y := by
      have hx := p.mem_iff.mp (List.mem_cons_self (a := x) (l := l))
      have hy := p.mem_iff.mpr (List.mem_cons_self (a := y) (l := m))
      rcases List.mem_cons.mp hx with e | hx
      · exact e
      · rcases List.mem_cons.mp hy with e | hy
        · exact e.symm
        · have := h2.1 x hx; have := h1.1 y hy; omega
    subst e
    rw [sortedI_unique p.cons_inv h1.2 h2.2]
def rSortedSA (K : PySem.W.Frag) : List V → Hp → VK → Prop := fun vs H Q => ∃ (a : Addr) (xs : List Str), vs = [V.ref a] ∧ SqL K H a (xs.map V.str) ∧
  ∀ (ys : List Str) (p : Addr), ys.Perm xs → sortedS ys = true → H p = none → Q (.ref p) (upd H p (.lst (ys.map V.str)))
theorem cr_sortedSA : CallR X (.builtin "sorted") (rSortedSA X.K) := by
  intro pins s σ H vs us Q I r h
  obtain ⟨a, xs, rfl, hs, q⟩ := h
  obtain ⟨its, rv, hl, hz⟩ := I.list hs
  obtain ⟨u, rfl, rx⟩ := vals1 r
  cases rx
  have hlen0 := rv.length
  refine PyProof.Rows.sorted_strsAny hl.isList rv.strs (by rw [← hlen0]; exact hz) fun out ys h1 h2 h3 => ?_
  obtain ⟨ep, he'⟩ := PyProof.Rows.sortedAll_at s.heap its out
  have hlen : (ys.map V.str).length ≤ sizeLine := by rw [List.length_map, h2.length_eq]; rw [List.length_map] at hz; exact hz
  exact ⟨.ref _, upd H (s.heap.objs.size + 1) (.lst (ys.map V.str)), I.laid (t' := s.toks) (fun _ _ => PyProof.Rows.sortedAll_old) (Nat.le_succ _) ⟨hlen, out.toList, ep, vals_of_strs h1, he'⟩, rfl, q ys _ h2 h3 (I.hok.fresh (Nat.le_succ _))⟩
def keyTexts : List (Ky × D) → Option (List Tx)
  | [] => some []
  | (.inr x, _) :: r => match keyTexts r with
    | some xs => some (x :: xs)
    | none => none
  | _ => none
theorem keyTexts_ok {K : PySem.W.Frag} {F : Hp} : ∀ {ks : List (Key × V)} {kvs : List (Ky × D)} {xs : List Tx}, KvAll K F ks kvs → keyTexts kvs = some xs → ks.map (·.1) = (xs.map S).map Sum.inr
  | _, _, _, .nil, h => by cases h; rfl
  | _, _, xs, .cons (k := k) h t, e => by
    cases k with
    | inl _ => cases e
    | inr x =>
      unfold keyTexts at e
      split at e
      · rename_i ys q
        cases e
        rw [List.map_cons, List.map_cons, List.map_cons, keyTexts_ok t q]; rfl
      · cases e
def fSorted : List D → Option R := fun ds => match ds with
  | [.lst es] => match intsL es with
    | some xs => some (.fr (.lst ((sortI xs).map D.int)))
    | none => match texts es with
      | some xs => some (.fr (.lst ((sortT xs).map D.str)))
      | none => none
  | [.dk kvs] => match keyTexts kvs with
    | some xs => if xs.length < 64 then some (.fr (.lst ((sortT xs).map D.str))) else none
    | none => none
  | _ => none
def rSortedA (K : PySem.W.Frag) : List V → Hp → VK → Prop := fun vs H Q => (rSortedSA K vs H Q ∨ rSortedI K vs H Q) ∨ ∃ (a : Addr) (kvs : List (Key × V)) (ks : List Str), vs = [.ref a] ∧ Rd H a (.dK kvs) ∧ kvs.map (·.1) = ks.map Sum.inr ∧ ks.length < 64 ∧ ∀ ys p, ys.Perm ks → sortedS ys = true → H p = none → Q (.ref p) (upd H p (.lst (ys.map V.str)))
theorem sort_fin {ys : List Str} {xs : List Tx} (h1 : ys.Perm (xs.map S)) (h2 : sortedS ys = true) : ys = (sortT xs).map S := by
  obtain ⟨zs, rfl, hz⟩ := perm_map_S h1
  rw [sorted_unique (hz.trans (sortT_perm xs).symm) (sortedS_pair h2) (sortT_sorted xs)]
theorem ok_sorted {K : PySem.W.Frag} : CallOk K (rSortedA K) fSorted := fun F H vs ds res Q ag hd e k => by
  unfold fSorted at e
  split at e
  · rename_i es
    split at e
    · rename_i xs h1
      cases e
      cases hd with
      | cons h t =>
        cases t
        obtain ⟨a, ws, rfl, h3, h4⟩ := h.lst_inv ag
        rw [ints_dn h4 h1] at h3
        refine .inl (.inr ⟨a, xs, rfl, .of h3, fun ns p hp hs hn => ?_⟩)
        have : ns = sortI xs := sortedI_unique (hp.trans (sortI_perm xs).symm) hs (sortI_sorted xs)
        rw [this]
        exact k _ _ F (Xt.fresh ag hn) ((dn_ints _).toRF ag hn)
    · split at e
      · rename_i xs h1
        cases e
        cases hd with
        | cons h t =>
          cases t
          obtain ⟨a, ws, rfl, h3, h4⟩ := h.lst_inv ag
          rw [texts_dn h4 h1] at h3
          refine .inl (.inl ⟨a, xs.map S, rfl, .of h3, fun ys p hp hs hn => ?_⟩)
          rw [sort_fin hp hs]
          exact k _ _ F (Xt.fresh ag hn) ((dn_texts _).toRF ag hn)
      · cases e
  · rename_i kvs
    split at e
    · rename_i xs h1
      split at e
      · rename_i hz
        cases e
        cases hd with
        | cons h t =>
          cases t
          obtain ⟨a, ks, rfl, h3, h4⟩ := h.dk_inv ag
          refine .inr ⟨a, ks, xs.map S, rfl, h3, keyTexts_ok h4 h1, by rw [List.length_map]; exact hz, fun ys p hp hs hn => ?_⟩
          rw [sort_fin hp hs]
          exact k _ _ F (Xt.fresh ag hn) ((dn_texts _).toRF ag hn)
      · cases e
    · cases e
  · cases e
theorem cr_sortedA (hc : X.calm = true) : CallR X (.builtin "sorted") (rSortedA X.K) := (cr_sortedSA.or cr_sortedI).or (call_sortedD hc)
/-! ### repr -/
def D.okR (d : D) : Bool := d.plain && decide (d.dep ≤ 100) && d.py.showable && decide (d.py.shown.length ≤ SL)
def fRepr : List D → Option R := fun ds => match ds with
  | [d] => if d.okR = true then some (.im (.str d.py.shown.cps.toList)) else none
  | _ => none
mutual
theorem py_nodict : ∀ d : D, d.py.hasDict = false
  | .non => rfl
  | .bl _ => rfl
  | .int _ => rfl
  | .str _ => rfl
  | .tup ds => by rw [D.py, PyData.hasDict]; exact pys_nodict ds
  | .lst ds => by rw [D.py, PyData.hasDict]; exact pys_nodict ds
  | .dk _ => rfl
  | .dt _ => rfl
  | .st _ => rfl
  | .fz _ => rfl
  | .ty _ => rfl
  | .rf _ => rfl
theorem pys_nodict : ∀ ds : List D, PyData.hasDictAll (D.pys ds) = false
  | [] => rfl
  | d :: ds => by rw [D.pys, PyData.hasDictAll, py_nodict d, pys_nodict ds]; rfl
end
def rRepr (K : PySem.W.Frag) : List V → Hp → VK → Prop := fun vs H Q => ∃ v d, vs = [v] ∧ Dp K H v d ∧ d.showable = true ∧ d.hasDict = false ∧ d.depth ≤ 100 ∧ d.shown.length ≤ sizeLine ∧ Q (.str d.shown) H
theorem cr_repr {k : Nat} (hr : RG k X.A) : CallR X (.builtin "repr") (rRepr X.K) := by
  intro pins s σ H vs us Q I r h
  obtain ⟨v, d, rfl, hd, h1, h2, h3, h4, q⟩ := h
  obtain ⟨u, rfl, rx⟩ := vals1 r
  have hun := hr.r.un
  cases hd with
  | non => cases rx; exact PySem.P.repr_of_none ⟨.str _, H, I.tok _, ⟨_, rfl⟩, q⟩
  | bl b => cases rx; exact PySem.P.repr_of_bool ⟨.str _, H, I.tok _, ⟨_, by cases b <;> rfl⟩, q⟩
  | int i =>
    obtain ⟨t, rfl⟩ := rx
    exact PySem.P.repr_of_int (by simpa [PyData.showable] using h1) ⟨.str _, H, I.tok _, ⟨_, rfl⟩, q⟩
  | str x =>
    obtain ⟨t, rfl⟩ := rx
    exact PySem.P.repr_of_str ⟨.str _, H, I.tok _, ⟨_, rfl⟩, q⟩ h4
  | lst a1 a2 =>
    cases rx
    obtain ⟨as, rd⟩ := Dp.reads I _ _ _ (.lst a1 a2) rfl
    exact repr_of_reads' rd h1 (fun z => by rw [h2] at z; cases z) hr.g (by omega) (fun _ _ e => e) (fun h' u tk hk => ⟨.str _, H, I.kept hk, ⟨_, rfl⟩, q⟩) h4
  | tup a1 a2 =>
    cases rx
    obtain ⟨as, rd⟩ := Dp.reads I _ _ _ (.tup a1 a2) rfl
    exact repr_of_reads' rd h1 (fun z => by rw [h2] at z; cases z) hr.g (by omega) (fun _ _ e => e) (fun h' u tk hk => ⟨.str _, H, I.kept hk, ⟨_, rfl⟩, q⟩) h4
theorem ok_repr {K : PySem.W.Frag} : CallOk K (rRepr K) fRepr := fun F H vs ds res Q ag hd e k => by
  unfold fRepr at e
  split at e
  · rename_i d
    split at e
    · rename_i c
      cases e
      cases hd with
      | cons h t =>
        cases t
        unfold D.okR at c
        rw [Bool.and_eq_true, Bool.and_eq_true, Bool.and_eq_true, decide_eq_true_eq, decide_eq_true_eq] at c
        refine ⟨_, d.py, rfl, h.dp ag c.1.1.1, c.1.2, py_nodict d, by rw [py_dep]; exact c.1.1.2, by rw [SL_eq]; exact c.2, ?_⟩
        have := k (.str (S d.py.shown.cps.toList)) H F (Xt.refl ag) (Dn.str _)
        rw [← S_of] at this
        exact this
    · cases e
  · cases e
end
end MP
namespace MP
open PySem PySem.Spec PyProof.Rows L2
/-! ### sets of keys, with their tables (after the ints' ones of the library) -/
def keyM (e : Int × Value) : Key := match e.2 with
  | .int k _ => .inl k
  | .str x _ => .inr x
  | _ => .inl 0
theorem keyM_eq {e : Int × Value} {k : Key} (r : RelV (kV k) e.2) : keyM e = k := by
  unfold keyM
  cases k with
  | inl i => obtain ⟨t, h⟩ := (show ∃ t, e.2 = Value.int i t from r); rw [h]
  | inr x => obtain ⟨t, h⟩ := (show ∃ t, e.2 = Value.str x t from r); rw [h]
def memK (ks : List Key) (j : Key) : Bool := ks.any fun i => decide (j = i)
theorem memK_iff {ks : List Key} {j : Key} : memK ks j = true ↔ j ∈ ks := by
  unfold memK
  rw [List.any_eq_true]
  exact ⟨fun ⟨x, h1, h2⟩ => of_decide_eq_true h2 ▸ h1, fun h => ⟨j, h, decide_eq_true rfl⟩⟩
theorem memK_append (ks : List Key) (z j : Key) : memK (ks ++ (some z).toList) j = (memK ks j || decide (j = z)) := by
  unfold memK
  rw [List.any_append]
  simp
def GoodM (w : World) (e : Int × Value) : Prop := ∃ k : Key, RelV (kV k) e.2 ∧ e.1 = keyH w k
def SetM (w : World) (h : Heap) (a : Addr) (S : Key → Bool) (n : Nat) : Prop :=
  ∃ o es ep t, h.get? a = some o ∧ o.ExactSet ∧ o.data = .set es ep t ∧ (∀ e ∈ es.toList, GoodM w e) ∧ (es.toList.map keyM).Nodup ∧ (∀ k, S k = true ↔ k ∈ es.toList.map keyM) ∧
    es.size < scanBound ∧ t.fits es.size = true ∧ es.size = n ∧ Ris t.place.toList ∧ (w.params.followText "set-order" = true ∨ t.led = true)

section
variable {P : Program} {w : World} {h h' : Heap} {a : Addr} {S : Key → Bool} {n : Nat}

theorem SetM.at (R : SetM w h a S n) (k : ∀ o, h.get? a = some o → h'.get? a = some o) : SetM w h' a S n := by
  obtain ⟨o, es, ep, t, ho, r⟩ := R
  exact ⟨o, es, ep, t, k o ho, r⟩
theorem SetM.lt (R : SetM w h a S n) : a < h.objs.size := by
  obtain ⟨o, es, ep, t, ho, r⟩ := R
  exact Heap.lt_size ho
theorem SetM.congr {S' : Key → Bool} (R : SetM w h a S n) (e : ∀ k, S' k = S k) : SetM w h a S' n := by
  have q : S' = S := funext e
  rw [q]; exact R
theorem gm_elems {l : List (Int × Value)} (g : ∀ e ∈ l, GoodM w e) : ElemsOf (mixKind P w) l := fun e he => by
  obtain ⟨k, h1, h2⟩ := g e he
  exact ⟨⟨k, kV_is h1, h2⟩, key_scan h1⟩
theorem gm_is {e : Int × Value} (g : GoodM w e) (k : Key) : (mixKind P w).is k e.2 = true ↔ keyM e = k := by
  obtain ⟨k0, h1, _⟩ := g
  rw [keyM_eq h1]
  constructor
  · intro h
    exact (mixKind P w).inj _ _ _ (kV_is h1) h
  · rintro rfl
    exact kV_is h1
theorem gm_mem {l : List (Int × Value)} (g : ∀ e ∈ l, GoodM w e) (k : Key) : k ∈ l.map keyM ↔ ∃ e ∈ l, (mixKind P w).is k e.2 = true := by
  rw [List.mem_map]
  constructor
  · rintro ⟨e, he, q⟩
    exact ⟨e, he, (gm_is (g e he) k).2 q⟩
  · rintro ⟨e, he, q⟩
    exact ⟨e, he, (gm_is (g e he) k).1 q⟩
theorem SetM.setOf (R : SetM w h a S n) : h.SetOf (mixKind P w) a S n := by
  obtain ⟨o, es, ep, t, ho, hx, hd, g, nd, hm, hb, hf, hn, _⟩ := R
  exact ⟨o, es, ep, t, ho, hx, hd, gm_elems g, fun k => (hm k).trans (gm_mem g k), hb, hf, hn⟩
end

section
variable {P : Program} {w : World} {A : Around} {E : Value → Shared → Prop} {s : Shared} {a : Addr} {S : Key → Bool} {n : Nat}

theorem setM_add_tail {g : Bool → Sem Unit} (hg : ∀ (b : Bool) (s₁ : Shared) (Q' : Unit → Shared → Prop), Q' () s₁ → wpAny (model P w) A (g b) Q' E s₁)
    {o : Obj} {es : Array (Int × Value)} {ep : Nat} {t : SetTable} (ho : s.heap.get? a = some o) (hex : o.ExactSet) (hd : o.data = .set es ep t)
    {es1 : Array (Int × Value)} {t2 : SetTable} {S' : Key → Bool} (g1 : ∀ e ∈ es1.toList, GoodM w e) (nd1 : (es1.toList.map keyM).Nodup) (m1 : ∀ k, S' k = true ↔ k ∈ es1.toList.map keyM)
    (hb1 : es1.size < scanBound) (hf2 : t2.fits es1.size = true) (hr : Ris t2.place.toList) (hl : w.params.followText "set-order" = true ∨ t2.led = true) {wasDummy : Bool} {R : Option Bool → Shared → Prop}
    (hR : ∀ h', Heap.SameBut a s.heap h' → SetM w h' a S' es1.size → R (some true) { s with heap := h' }) :
    wpAny (model P w) A (do
        storeSet a es1 t2
        if (!wasDummy && t2.tooFull) = true then do
            g (relayAll t2 es1 (SetTable.grown es1.size)).2.2
            storeSet a (relayAll t2 es1 (SetTable.grown es1.size)).1 (relayAll t2 es1 (SetTable.grown es1.size)).2.1
            pure (some true)
          else pure (some true)) R E s := by
  refine wpAny_bind (wpAny_storeSet_of ho hd ?_ (fits_of_scanBound hb1))
  have ho1 := store_at (es' := es1) (t' := t2) ho hd
  have sb1 := Heap.SameBut.update s.heap a (Obj.putSet es1 t2)
  split
  · have pm := relayAll_perm t2 es1 (SetTable.grown es1.size)
    have hf3 := relayAll_fits t2 es1 (SetTable.grown es1.size)
    have hr3 := relayAll_ris t2 es1 (SetTable.grown es1.size)
    have hl3 := relayAll_led t2 es1 (SetTable.grown es1.size)
    generalize relayAll t2 es1 (SetTable.grown es1.size) = Z at pm hf3 hr3 hl3 ⊢
    obtain ⟨es2, t3, gave⟩ := Z
    dsimp only at pm hf3 hr3 hl3 ⊢
    have hsz : es2.size = es1.size := by rw [← Array.length_toList, pm.length_eq, Array.length_toList]
    have hb2 : es2.size < scanBound := by rw [hsz]; exact hb1
    refine wpAny_bind (hg _ _ _ ?_)
    refine wpAny_bind (wpAny_storeSet_of ho1 rfl ?_ (fits_of_scanBound hb2))
    have ho2 := store_at (es' := es2) (t' := t3) ho1 rfl
    refine wpAny_pure (hR _ (sb1.trans (Heap.SameBut.update _ a _)) ?_)
    exact ⟨_, es2, _, t3, ho2, hex, rfl, fun e he => g1 e (pm.mem_iff.mp he), (pm.map keyM).nodup_iff.mpr nd1, fun k => (m1 k).trans (pm.map keyM).mem_iff.symm, hb2, hf3, hsz, hr3,
      hl.imp id fun z => by rw [hl3]; exact z⟩
  · exact wpAny_pure (hR _ sb1 ⟨_, es1, _, t2, ho1, hex, rfl, g1, nd1, m1, hb1, hf2, rfl, hr, hl⟩)

theorem setM_add_hashed {k : Key} {u : Value} {Q : Bool → Shared → Prop} (ru : RelV (kV k) u) (R : SetM w s.heap a S n) (room : n + 1 < scanBound)
    (hQ : ∀ h', Heap.SameBut a s.heap h' → SetM w h' a (fun j => S j || decide (j = k)) (if S k = true then n else n + 1) → Q (!S k) { s with heap := h' }) :
    wpAny (model P w) A (setAddHashed a u ((mixKind P w).hash k)) Q E s := by
  obtain ⟨o, es, ep, t, ho, hex, hd, g, nd, hm, hb, hf, hn, hr, hl⟩ := R
  have hkey : (mixKind P w).is k u = true := kV_is ru
  have hsc : u.scannable = true := key_scan ru
  have hel : ElemsOf (mixKind P w) es.toList := gm_elems g
  unfold setAddHashed setAddHashedIn
  refine wpAny_holding (wpAny_bind (wpAny_setState_of ho hd hf ?_))
  dsimp only
  rw [byScan_of hsc hb hel]
  simp only [↓reduceIte]
  unfold setAddByScan
  refine wpAny_bind ?_
  refine wpAny_bind (wpAny_rule ?_)
  refine wpAny_bind (wpAny_setScan_of hkey ho hd hf hel ?_)
  cases hfi : List.findIdx? (fun e => (mixKind P w).is k e.2) es.toList with
  | some j =>
    dsimp only
    obtain ⟨hj, pj, _⟩ := List.findIdx?_eq_some_iff_getElem.mp hfi
    have hSk : S k = true := (hm k).2 ((gm_mem (P := P) (w := w) g k).2 ⟨es.toList[j], List.getElem_mem hj, pj⟩)
    refine wpAny_pure (wpAny_pure ?_)
    have q := hQ s.heap (Heap.SameBut.refl a s.heap) ⟨o, es, ep, t, ho, hex, hd, g, nd, fun i => by
      rw [Bool.or_eq_true, decide_eq_true_eq, ← hm i]
      exact ⟨fun z => z.elim id (fun e => e ▸ hSk), .inl⟩, hb, hf, by rw [if_pos hSk]; exact hn, hr, hl⟩
    rw [hSk] at q
    exact q
  | none =>
    dsimp only
    have hnk : k ∉ es.toList.map keyM := fun z => by
      obtain ⟨e, he, q⟩ := (gm_mem (P := P) (w := w) g k).1 z
      have c := List.findIdx?_eq_none_iff.mp hfi e he
      rw [q] at c
      cases c
    have hSk : S k = false := by
      cases q : S k with
      | false => rfl
      | true => exact absurd ((hm k).1 q) hnk
    have hgw : ∀ (b : Bool) {s₁ : Shared} {Q' : Unit → Shared → Prop}, Q' () s₁ → wpAny (model P w) A (match b with | true => rule "set.scan.the-table-gave-way" | false => pure ()) Q' E s₁ :=
      fun b s₁ Q' q => by cases b <;> first | exact wpAny_pure q | exact wpAny_rule q
    have pm := layNew_perm t es ((mixKind P w).hash k) u
    have hf1 := layNew_fits t es ((mixKind P w).hash k) u
    have hr1 := layNew_ris t es ((mixKind P w).hash k) u hr
    have hl1 := layNew_led t es ((mixKind P w).hash k) u
    generalize layNew t es ((mixKind P w).hash k) u = Z at pm hf1 hr1 hl1 ⊢
    obtain ⟨es1, t1, wasDummy, gave⟩ := Z
    dsimp only at pm hf1 hr1 hl1 ⊢
    rw [Array.toList_push] at pm
    have pc : es1.toList.Perm (((mixKind P w).hash k, u) :: es.toList) := pm.trans (List.perm_append_singleton _ _)
    have pk : (es1.toList.map keyM).Perm (k :: es.toList.map keyM) := by
      have q := pc.map keyM
      rw [List.map_cons, keyM_eq (e := ((mixKind P w).hash k, u)) ru] at q
      exact q
    have g1 : ∀ e ∈ es1.toList, GoodM w e := fun e he => by
      rcases List.mem_cons.mp (pc.mem_iff.mp he) with z | z
      · rw [z]; exact ⟨k, ru, rfl⟩
      · exact g e z
    have nd1 : (es1.toList.map keyM).Nodup := pk.nodup_iff.mpr (List.nodup_cons.mpr ⟨hnk, nd⟩)
    have m1 : ∀ i, (S i || decide (i = k)) = true ↔ i ∈ es1.toList.map keyM := fun i => by
      rw [Bool.or_eq_true, decide_eq_true_eq, hm i, pk.mem_iff, List.mem_cons]
      exact Or.comm
    have hsz : es1.size = n + 1 := by rw [← Array.length_toList, pc.length_eq, List.length_cons, Array.length_toList, hn]
    have hb1 : es1.size < scanBound := by rw [hsz]; exact room
    have hled : w.params.followText "set-order" = true ∨ t1.led = true := hl.imp id fun z => by rw [hl1]; exact z
    have fin : ∀ h', Heap.SameBut a s.heap h' → SetM w h' a (fun j => S j || decide (j = k)) es1.size → Q true { s with heap := h' } := fun h' sb r => by
      have q := hQ h' sb
      rw [hSk] at q
      rw [hsz] at r
      exact q r
    refine wpAny_bind (hgw _ ?_)
    split
    · refine wpAny_bind ?_
      rw [hashByValue_scannable 8 hsc]
      refine wpAny_pure ?_
      refine setM_add_tail ?_ ho hex hd g1 nd1 m1 hb1 ?_ ?_ ?_ ?_
      · intro b s₁ Q' q; cases b <;> first | exact wpAny_pure q | exact wpAny_rule q
      · first | (split <;> first | exact hf1 | exact SetTable.fits_plain_off hf1) | exact hf1
      · first | (split <;> exact hr1) | exact hr1
      · first | (split <;> exact hled) | exact hled
      · intro h' sb r; dsimp only; exact wpAny_pure (fin h' sb r)
    · refine wpAny_bind (wpAny_pure ?_)
      simp only [↓reduceIte]
      refine setM_add_tail ?_ ho hex hd g1 nd1 m1 hb1 hf1 hr1 hled ?_
      · intro b s₁ Q' q; cases b <;> first | exact wpAny_pure q | exact wpAny_rule q
      · intro h' sb r; dsimp only; exact wpAny_pure (fin h' sb r)

end
theorem setM_new_at {w : World} {h : Heap} {a : Addr} {ns : List Key} (ho : h.get? a = some { cls := .type "set", dict := none, data := .set #[] 0 (.fresh 0 0 (!w.params.followText "set-order")) }) : SetM w h a (fun j => memK (ns.take 0) j) 0 :=
  ⟨_, #[], 0, _, ho, ⟨rfl, rfl, rfl⟩, rfl, (fun e he => by simp at he), (by simp), (fun k => by simp [memK]), (by decide), (by rfl), rfl, List.Pairwise.nil, by
    show _ ∨ (!w.params.followText "set-order") = true
    cases w.params.followText "set-order"
    · exact .inr rfl
    · exact .inl rfl⟩
section
variable {P : Program} {w : World} {A : Around} {E : Value → Shared → Prop} {s : Shared}
theorem set_update_keys {I : Addr} {fp wr : List Addr} {G : Array GenState → Array GenState → Prop} {n : Nat} {Pv : Nat → Value → Prop} {St : Nat → Shared → Prop} {R : Result → Shared → Prop}
    (W : WalksS P w A.in1 I fp wr G n Pv St) (S : Addr) (hSf : S ∉ fp) (ns : List Key) (hn : n = ns.length) (hb : ns.length + 1 < scanBound) (hval : ∀ i v, Pv i v → ∃ k, ns[i]? = some k ∧ RelV (kV k) v) :
    ∀ (k i : Nat) (s : Shared), n - i = k → i ≤ n → St i s → (∃ c, c ≤ i ∧ SetM w s.heap S (fun j => memK (ns.take i) j) c) →
      (∀ s' c, Moved (S :: wr) G s s' → c ≤ n → SetM w s'.heap S (fun j => memK ns j) c → R (.ok (.ret .none)) s') →
      codeAny (model P w) A (.builtin "set.update.loop" ⟨[.ref S, .ref I], []⟩) R s := by
  have hSw : S ∉ wr := fun h => hSf (W.sub _ h)
  have hsub : ∀ b ∈ wr, b ∈ S :: wr := fun b hb => List.mem_cons_of_mem _ hb
  intro k
  induction k with
  | zero =>
    intro i s hk' hi hst ⟨c, hc, hS⟩ hR
    have hin : i = n := by omega
    subst hin
    refine codeAny_builtin F.entry_set_update_loop ?_
    rw [Around.under_plainId F.plain_set_update_loop _]
    show wpAny _ A.in1 (pyNext (.ref I) >>= _) _ _ s
    refine wpAny_bind (W.done s _ _ hst fun s' hm => ?_)
    show wpAny _ A.in1 (ret Value.none) _ _ s'
    have e : ns.take i = ns := List.take_of_length_le (by omega)
    rw [e] at hS
    exact wpAny_pure (hR s' c (hm.mono hsub) hc (hS.at fun o e => hm.heap S o hSw e))
  | succ k ih =>
    intro i s hk' hi hst ⟨c, hc, hS⟩ hR
    have hlt : i < n := by omega
    refine codeAny_builtin F.entry_set_update_loop ?_
    rw [Around.under_plainId F.plain_set_update_loop _]
    show wpAny _ A.in1 (pyNext (.ref I) >>= _) _ _ s
    refine wpAny_bind (W.item i s _ _ hlt hst fun v s' hP hst' hm => ?_)
    obtain ⟨z, hz, rz⟩ := hval i v hP
    have hS' : SetM w s'.heap S (fun j => memK (ns.take i) j) c := hS.at fun o e => hm.heap S o hSw e
    show wpAny _ A.in1 (holding [v] (setAdd S v) >>= _) _ _ s'
    refine wpAny_bind (wpAny_holding ?_)
    unfold setAdd
    refine wpAny_holding ?_
    refine wpAny_bind ((mixKind P w).pyHash (k := z) (kV_is rz) ?_)
    refine setM_add_hashed rz (s := { s' with toks := s'.toks + 1 }) hS' (by omega) fun h' hsb hS2 => ?_
    have hS3 : SetM w h' S (fun j => memK (ns.take (i + 1)) j) (if memK (ns.take i) z = true then c else c + 1) := hS2.congr fun j => by
      rw [List.take_add_one, hz, memK_append]
    have hc3 : (if memK (ns.take i) z = true then c else c + 1) ≤ i + 1 := by
      split <;> omega
    refine wpAny_pure ⟨plainId_quiet F.plain_set_update_loop _, ih (i + 1) _ (by omega) hlt (W.frame _ s' _ _ hst' (Nat.le_succ _) fun b hb o e => ?_) ⟨_, hc3, hS3⟩ fun s'' c2 hm'' hc'' hS'' => ?_⟩
    · rw [hsb.2 b (fun h : b = S => hSf (by rw [← h]; exact hb))]; exact e
    · refine hR s'' c2 (Moved.trans W.gtrans ((hm.mono hsub).then_heap (Nat.le_succ _) fun b o hb e => ?_) hm'') hc'' hS''
      rw [hsb.2 b (fun h : b = S => hb (by rw [h]; exact List.mem_cons_self))]; exact e


set_option maxRecDepth 100000 in
set_option maxHeartbeats 3200000 in
/-- set(xs) -/
theorem call_set_keys {l : Addr} {items : Array Value} (ks : List Key) {Q : Value → Shared → Prop} (hh : A.handled = none) (hl : s.heap.IsList l items) (hit : Vals (ks.map kV) items.toList) (hb : ks.length + 1 < scanBound)
    (h : ∀ (h' : Heap) (tk : Nat) c, SetM w h' s.heap.objs.size (fun j => memK ks j) c → c ≤ ks.length → (∀ b o, s.heap.get? b = some o → h'.get? b = some o) → Q (.ref s.heap.objs.size) { s with heap := h', toks := tk }) :
    wpAny (model P w) A (call (.type "set") [.ref l]) Q E s := by
  have hisz : items.size = ks.length := by
    have q := Vals.length hit
    rw [List.length_map, Array.length_toList] at q
    exact q.symm
  obtain ⟨c, tl, hmro⟩ := F.called_set.mro
  have hmade := F.called_set.made
  have hsub := F.called_set.sub
  refine wpAny_call (codeAny_of_tree ?_)
  show wpAny _ _ (callAny (.type "set") _) _ _ _
  refine wpAny_pure ⟨Code.quiet_builtin _ (by decide +kernel), codeAny_builtin F.entry_type_call ?_⟩
  rw [Around.under_plain (weight_type_call_type "set" [.ref l] []) rfl]
  have h1 := F.called_set.notType
  have h2 := F.called_set.canCreate
  have hct := F.typeCall_set_1 (.ref l)
  repeat (any_goals (first | assumption | wp_step))

  refine codeAny_mono (code_set_led1 (.ref l) (E := E) (Q₁ := fun obj s₁ => obj = .ref s.heap.objs.size ∧ s₁ = { s with heap := s.heap.push { cls := .type "set", dict := none, data := .set #[] 0 (.fresh 0 0 (!w.params.followText "set-order")) } }) ⟨rfl, rfl⟩) fun r s₁ hr => ?_
  cases r with
  | error e => exact hr
  | ok fl =>
    cases fl with
    | ret obj =>
      obtain ⟨rfl, rfl⟩ := hr
      have hS : (s.heap.push { cls := .type "set", dict := none, data := .set #[] 0 (.fresh 0 0 (!w.params.followText "set-order")) }).get? s.heap.objs.size = some { cls := .type "set", dict := none, data := .set #[] 0 (.fresh 0 0 (!w.params.followText "set-order")) } := Heap.get?_push_size _ rfl
      have hT : Shared.TypeIs { s with heap := s.heap.push { cls := .type "set", dict := none, data := .set #[] 0 (.fresh 0 0 (!w.params.followText "set-order")) } } (.ref s.heap.objs.size) "set" := ⟨_, hS, rfl⟩
      have hli := F.called_set.init.lookup
      have hbi := F.called_set.init.bind (.ref s.heap.objs.size)
      repeat (any_goals (first | assumption | wp_step))

      refine codeAny_mono (codeAny_call_builtin (R := wants (fun r s₂ => r = .none ∧ ∃ h' tk c, s₂ = { s with heap := h', toks := tk } ∧ SetM w h' s.heap.objs.size (fun j => memK ks j) c ∧ c ≤ ks.length ∧
          (∀ b o, s.heap.get? b = some o → h'.get? b = some o)) E) F.called_set.init.plain F.entry_set_init (check_set_init_1 hT ?_)) fun r₂ s₂ hr₂ => ?_
      · obtain ⟨ol, hol, hcl, nl, hdl⟩ := hl
        obtain ⟨ocls, odict, odata, oslots⟩ := ol
        simp only at hcl hdl
        subst hcl; subst hdl
        have hol' : (s.heap.push { cls := .type "set", dict := none, data := .set #[] 0 (.fresh 0 0 (!w.params.followText "set-order")) }).get? l = some { cls := .type "list", dict := odict, data := .seq items nl, slots := oslots } := Heap.get?_push_of_some _ hol
        have hsls := F.sub_list_set
        have hslf := F.sub_list_frozenset
        have hne : (Value.type "list" == Value.type "dict") = false := by decide
        have hl1 : (s.heap.push { cls := .type "set", dict := none, data := .set #[] 0 (.fresh 0 0 (!w.params.followText "set-order")) }).IsList l items := ⟨_, hol', rfl, nl, rfl⟩
        unfold Builtin.«set.__init__» noKeywords Builtin.Frozenset.updateFrom
        generalize hPI : pyIter = PI
        wp_walk
        subst hPI

        refine wpAny_pyIter_list hl1 ?_
        refine wpAny_bind (wpAny_runValue ?_)
        have hlS : l < s.heap.objs.size := Heap.lt_size hol
        have hh3 : A.in1.in1.in1.handled = none := by simp [hh]
        have hneI : l ≠ (s.heap.push { cls := .type "set", dict := none, data := .set #[] 0 (.fresh 0 0 (!w.params.followText "set-order")) }).objs.size := by
          rw [Heap.size_push]; exact Nat.ne_of_lt (Nat.lt_succ_of_lt hlS)
        have hSf : s.heap.objs.size ∉ [(s.heap.push { cls := .type "set", dict := none, data := .set #[] 0 (.fresh 0 0 (!w.params.followText "set-order")) }).objs.size, l] := by
          rw [Heap.size_push]; simp only [List.mem_cons, List.mem_singleton, List.not_mem_nil, or_false, not_or]
          exact ⟨Nat.ne_of_lt (Nat.lt_succ_self _), Nat.ne_of_gt hlS⟩
        have hval : ∀ (i : Nat) (v : Value), items[i]? = some v → ∃ k, ks[i]? = some k ∧ RelV (kV k) v := fun i v hv => by
          have q : items.toList[i]? = some v := by rw [Array.getElem?_toList]; exact hv
          have hlt : i < ks.length := by
            have := (List.getElem?_eq_some_iff.mp q).1
            rw [Array.length_toList, hisz] at this
            exact this
          refine ⟨ks[i], List.getElem?_eq_getElem hlt, ?_⟩
          obtain ⟨u, hu, ru⟩ := hit.get (i := i) (x := kV ks[i]) (by rw [List.getElem?_map, List.getElem?_eq_getElem hlt]; rfl)
          rw [q] at hu
          cases hu
          exact ru
        refine set_update_keys ((Walks.list hh3 _ l hneI items).toS) s.heap.objs.size
          hSf ks hisz hb hval (items.size - 0) 0 _ (by omega) (Nat.zero_le _)
          ⟨⟨_, Heap.get?_push_size _ rfl, rfl, rfl⟩, (hl1.push _)⟩ ?hS0 ?hR
        case hS0 =>
          have hget : ((s.heap.push { cls := .type "set", dict := none, data := .set #[] 0 (.fresh 0 0 (!w.params.followText "set-order")) }).push { cls := .type "list_iterator", data := .fields #[.ref l, .int 0 0] }).get? s.heap.objs.size
              = some { cls := .type "set", dict := none, data := .set #[] 0 (.fresh 0 0 (!w.params.followText "set-order")) } := Heap.get?_push_of_some _ hS
          exact ⟨0, Nat.le_refl _, setM_new_at hget⟩
        case hR =>
          intro s' c' hm hc' hS'
          obtain ⟨h', g2, d', tk', os'⟩ := s'
          have eg : g2 = s.gens := hm.gens
          have ed : d' = s.drawn := hm.drawn
          have eo : os' = s.os := hm.os
          subst eg; subst ed; subst eo
          show wpAny _ _ _ _ _ _
          refine wpAny_pure ?_
          show wpAny _ _ (ret Value.none) _ _ _
          rw [hisz] at hc'
          refine wpAny_pure ⟨rfl, h', tk', c', rfl, hS', hc', fun b o e => ?_⟩
          have hb0 : b < s.heap.objs.size := Heap.lt_size e
          have hb1 : b ≠ s.heap.objs.size := Nat.ne_of_lt hb0
          have hb2 : b ≠ (s.heap.push { cls := .type "set", dict := none, data := .set #[] 0 (.fresh 0 0 (!w.params.followText "set-order")) }).objs.size := by
            rw [Heap.size_push]; exact Nat.ne_of_lt (Nat.lt_succ_of_lt hb0)
          exact hm.heap b o (by simp only [List.mem_cons, List.mem_singleton, List.not_mem_nil, or_false, not_or]; exact ⟨hb1, hb2⟩) (Heap.get?_push_of_some _ (Heap.get?_push_of_some _ e))

      · cases r₂ with
        | error e => exact hr₂
        | ok fl₂ =>
          cases fl₂ with
          | ret r =>
            obtain ⟨rfl, h', tk, c', rfl, hS', hc', hk'⟩ := hr₂
            repeat (any_goals (first | assumption | wp_step))
            exact h _ _ _ hS' hc' hk'
          | _ => exact hr₂.elim
    | _ => exact hr.elim


end
end MP
namespace MP
open PySem PySem.Spec PyProof.Rows L2
section
variable {P : Program} {w : World} {A : Around} {E : Value → Shared → Prop} {s : Shared} {a : Addr} {S : Key → Bool} {n : Nat}
def strK : Key → Str
  | .inl _ => ⟨#[]⟩
  | .inr x => x
theorem sorted_setM {Q : Value → Shared → Prop} (R : SetM w s.heap a S n) (hh : A.handled = none) (ht : ∀ k, S k = true → ∃ x, k = Sum.inr x)
    (hQ : ∀ s' p (out : Array Value) (c : Nat) (ys : List Str), (∀ b o, s.heap.get? b = some o → s'.heap.get? b = some o) → s'.gens = s.gens → s'.os = s.os → s.heap.objs.size ≤ p →
      s'.heap.get? p = some (seqObj "list" out c) → StrsAre out.toList ys → sortedS ys = true → ys.Nodup → (∀ x, x ∈ ys ↔ S (.inr x) = true) → ys.length = n → ys.length ≤ sizeLine → Q (.ref p) s') :
    wpAny (model P w) A (call (.builtin "sorted") [.ref a]) Q E s := by
  obtain ⟨o, es, ep, t, ho, hex, hd, g, nd, hm, hb, hf, hn, hr, hl⟩ := R
  refine Calls.call_function_entry kind_sorted plain_sorted entry_sorted (args_sorted1 _) ?_
  unfold Builtin.«sorted»
  refine wpAny_bind (m := checkCount "sorted" 1 1 _) (wpAny_pure ?_)
  refine wpAny_bind (collect_set (A := A.in1) hh ⟨o, ho, hex.1, hd⟩ hf hb hr hl fun s1 vs k1 hz g1 o1 pm => ?_)
  have hvl : vs.length = n := by rw [pm.length_eq, List.length_map, Array.length_toList]; exact hn
  have hsl : vs.length ≤ sizeLine := by
    rw [hvl, ← hn, sizeLine_eq]
    unfold scanBound at hb
    omega
  -- the values are texts
  have hall : ∀ v ∈ vs, ∃ x tk, v = Value.str x tk ∧ S (.inr x) = true := fun v hv => by
    obtain ⟨e, he, q⟩ := List.mem_map.mp (pm.mem_iff.mp hv)
    obtain ⟨k, r, _⟩ := g e he
    have hk : S k = true := (hm k).2 (List.mem_map.mpr ⟨e, he, keyM_eq r⟩)
    obtain ⟨x, rfl⟩ := ht k hk
    obtain ⟨tk, e2⟩ := (show ∃ t, e.2 = Value.str x t from r)
    exact ⟨x, tk, by rw [← q, e2], hk⟩
  have hkey : ∀ v ∈ vs, RelV (kV (keyM (0, v))) v := fun v hv => by
    obtain ⟨x, tk, rfl, _⟩ := hall v hv
    exact ⟨tk, rfl⟩
  have hI : StrsAre vs (vs.map fun v => strK (keyM (0, v))) := by
    have go : ∀ l : List Value, (∀ v ∈ l, ∃ x tk, v = Value.str x tk) → StrsAre l (l.map fun v => strK (keyM (0, v))) := by
      intro l
      induction l with
      | nil => intro _; exact .nil
      | cons v l ih =>
        intro h
        obtain ⟨x, tk, rfl⟩ := h v List.mem_cons_self
        exact .cons x tk (ih fun u hu => h u (List.mem_cons_of_mem _ hu))
    exact go vs fun v hv => let ⟨x, tk, e, _⟩ := hall v hv; ⟨x, tk, e⟩
  have pk : (vs.map fun v => keyM (0, v)).Perm (es.toList.map keyM) := by
    have q := pm.map fun v => keyM (0, v)
    rw [List.map_map] at q
    exact q
  have nk : (vs.map fun v => keyM (0, v)).Nodup := pk.nodup_iff.mpr nd
  have ek : (vs.map fun v => keyM (0, v)) = (vs.map fun v => strK (keyM (0, v))).map Sum.inr := by
    rw [List.map_map]
    refine List.map_congr_left fun v hv => ?_
    obtain ⟨x, tk, rfl, _⟩ := hall v hv
    rfl
  refine wpAny_bind (wpAny_newList ?_ (by rw [sizeLine_eq] at *; omega))
  have hoL : (s1.heap.push (seqObj "list" vs.toArray 0)).get? s1.heap.objs.size = some (seqObj "list" vs.toArray 0) := Heap.get?_push_size _ rfl
  refine wpAny_bind (wpAny_holding (wpAny_call_entry slot_list_sort ⟨_, hoL, rfl⟩ entry_list_sort (list_sort_treeKAny strKind_oneLt hoL hI.keysOf (fun v₁ v₂ rest e => keyKind_strs (by rw [← e]; exact hI)) hsl fun st' hp hs => ⟨_, rfl, ?_⟩) (args_list_sort _)))
  obtain ⟨ys, h1, h2, h3⟩ := sorted_out_str hI hp hs
  obtain ⟨c, hc⟩ := sortedHeap_at (vs := vs) (out := (arrOf st').map (·.2)) hoL
  have nys : ys.Nodup := by
    rw [h2.nodup_iff]
    rw [ek] at nk
    exact List.Pairwise.of_map Sum.inr (fun _ _ hne e => hne (congrArg Sum.inr e)) nk
  refine wpAny_pure ⟨_, rfl, hQ _ s1.heap.objs.size _ c ys (fun b u e => ?_) g1 o1 hz hc h1 h3 nys (fun x => ?_) ?_ ?_⟩
  · have q := k1 b u e
    have hlt := Heap.lt_size q
    show (sortedHeap (s1.heap.push (seqObj "list" vs.toArray 0)) s1.heap.objs.size vs _).get? b = some u
    rw [sortedHeap_old (Nat.ne_of_lt hlt) (by rw [size_push']; exact Nat.lt_succ_of_lt hlt)]
    exact Heap.get?_push_of_some _ q
  · rw [h2.mem_iff, hm, ← pk.mem_iff, ek]
    constructor
    · intro h
      exact List.mem_map.mpr ⟨x, h, rfl⟩
    · intro h
      obtain ⟨y, hy, e⟩ := List.mem_map.mp h
      cases e
      exact hy
  · rw [h2.length_eq, List.length_map]; exact hvl
  · rw [h2.length_eq, List.length_map]; exact hsl
end
/-- sorted(set(xs)), texts -/
def nubT : List Tx → List Tx
  | [] => []
  | x :: r => if x ∈ r then nubT r else x :: nubT r
theorem mem_nubT {x : Tx} : ∀ {l : List Tx}, x ∈ nubT l ↔ x ∈ l
  | [] => by simp [nubT]
  | y :: r => by
    unfold nubT
    split
    · rename_i h
      rw [mem_nubT, List.mem_cons]
      exact ⟨.inr, fun q => q.elim (fun e => e ▸ h) id⟩
    · rw [List.mem_cons, List.mem_cons, mem_nubT]
theorem nodup_nubT : ∀ l : List Tx, (nubT l).Nodup
  | [] => .nil
  | y :: r => by
    unfold nubT
    split
    · exact nodup_nubT r
    · rename_i h
      exact List.nodup_cons.mpr ⟨fun q => h (mem_nubT.mp q), nodup_nubT r⟩
def setT (l : List Tx) : List Tx := sortT (nubT l)
def fSortSet : List D → Option R := fun ds => match ds with
  | [.lst es] => match texts es with
    | some xs => if xs.length < 4000 then some (.fr (.lst ((setT xs).map D.str))) else none
    | none => none
  | _ => none
section
variable {X : Cx}
def rSortSet (K : PySem.W.Frag) : V → Hp → VK → Prop := fun x H Q => ∃ (l : Addr) (xs : List Tx), x = V.ref l ∧ SqL K H l ((xs.map MP.S).map V.str) ∧ xs.length < 4000 ∧ ∀ p, H p = none → Q (.ref p) (upd H p (.lst (((setT xs).map MP.S).map V.str)))
theorem pe_sortset {a : Expr} {ta : TE} {p p2 q pos : Pos} (hc : X.calm = true) (hg : Gl X "sorted") (hm : X.mg "sorted" = none) (hg2 : Gl X "set") (hm2 : X.mg "set" = none) (ha : PE X a ta)
    (na : starEach [a] X.env = (false, eval a X.env) :: starEach [] X.env := by rfl) : PE X (.Call (.Name "sorted" p) [.Call (.Name "set" p2) [a] [] q] [] pos) (fun σ H Q => ta σ H fun x H1 => rSortSet X.K x H1 Q) := by
  refine ⟨fun pins s σ H Q I h => ?_⟩
  refine Call_ (ld_blt I hg hm (show bootBuiltins "sorted" = some (.builtin "sorted") by decide +kernel) ?_)
  refine PyProof.Rows.callWith_builtin1 (PyProof.Rows.args_cons ?_ rfl) rfl rfl
  refine Call_ (ld_blt I hg2 hm2 PyProof.Rows.boot_set ?_)
  refine PyProof.Rows.callWith_type1 (PyProof.Rows.args_cons (thn (ha.run pins s σ H _ I h) fun v s1 ⟨x, H1, I1, r1, q1⟩ => PyProof.Rows.args_nil ?_) na) na rfl
  obtain ⟨l, xs, rfl, hq, h1, q1⟩ := q1
  cases r1
  obtain ⟨its, r, pl, hz⟩ := I1.list hq
  have rk : Vals (((xs.map MP.S).map Sum.inr).map kV) its.toArray.toList := by
    rw [List.map_map]
    exact r
  refine call_set_keys ((xs.map MP.S).map Sum.inr) (I1.ok.hd hc) pl.isList rk (by rw [List.length_map, List.length_map]; unfold scanBound; omega) fun h' tk c hS hc' hk => ?_
  have I2 : Inv X pins σ H1 { s1 with heap := h', toks := tk } := I1.kept hk
  refine PyProof.Rows.args_nil ?_
  refine sorted_setM (s := { s1 with heap := h', toks := tk }) hS (I2.ok.hd hc) (fun k hkk => ?_) fun s' p out cc ys k g o hp hgp hi hs hnd hmem hlen hsl => ?_
  · obtain ⟨x, _, e⟩ := List.mem_map.mp (memK_iff.mp hkk)
    exact ⟨x, e.symm⟩
  · have hn : H1 p = none := I2.hok.fresh hp
    have ey : ys = (setT xs).map MP.S := by
      have hp2 : ys.Perm ((nubT xs).map MP.S) := by
        refine (List.perm_ext_iff_of_nodup hnd ?_).mpr fun x => ?_
        · have := nodup_nubT xs
          unfold List.Nodup at this ⊢
          rw [List.pairwise_map]
          exact this.imp fun h e => h (S_inj e)
        · rw [hmem, memK_iff]
          constructor
          · intro h
            obtain ⟨y, hy, e⟩ := List.mem_map.mp h
            cases e
            obtain ⟨z, hz, rfl⟩ := List.mem_map.mp hy
            exact List.mem_map.mpr ⟨z, mem_nubT.mpr hz, rfl⟩
          · intro h
            obtain ⟨z, hz, rfl⟩ := List.mem_map.mp h
            exact List.mem_map.mpr ⟨_, List.mem_map.mpr ⟨z, mem_nubT.mp hz, rfl⟩, rfl⟩
      exact sort_fin hp2 hs
    have J : Inv X pins σ (upd H1 p (.lst (ys.map V.str))) { s1 with heap := s'.heap, gens := s'.gens, drawn := s'.drawn, toks := s'.toks } :=
      Inv.call (s := { s1 with heap := h', toks := tk }) I2 (ch := []) (Un.laid k hp hn) (I2.hok.laid k hp ⟨by rw [List.length_map]; exact hsl, out.toList, cc, vals_of_strs hi, hgp⟩) (by rw [g]; exact I2.bare) (fun _ z => nomatch z)
    have e : s' = { s1 with heap := s'.heap, gens := s'.gens, drawn := s'.drawn, toks := s'.toks } := by
      cases s'
      cases s1
      cases o
      rfl
    rw [e]
    refine ⟨.ref p, _, J, rfl, ?_⟩
    rw [ey]
    exact q1 p hn
/-- one operand -/
def eU (f : D → Option R) (pa : PF) : EF := fun env => match pa env with
  | none => none
  | some (p, e1) => match rdP e1 p with
    | none => none
    | some x => match f x with
      | none => none
      | some r => some (r, e1)
def UnOk (K : PySem.W.Frag) (r : V → Hp → VK → Prop) (f : D → Option R) : Prop := ∀ F H x dx res Q, Ag F H → RdD K F H x dx → f dx = some res →
  (∀ v H' F', Xt F H F' H' → RF K H F' H' v res → Q v H') → r x H Q
theorem tUn_of {r : V → Hp → VK → Prop} {f : D → Option R} {pa : PF} (ok : UnOk X.K r f) {σ : L2.St} {H : Hp} {Q : VK} (q : tEv X.K (eU f pa) σ H Q) : tPv X.K pa σ H fun x H1 => r x H1 Q := by
  obtain ⟨b, F, env, res, env', g, hf, k⟩ := q
  unfold eU at hf
  split at hf
  · cases hf
  rename_i p e1 h1
  split at hf
  · cases hf
  rename_i x h3
  split at hf
  · cases hf
  rename_i r h5
  cases hf
  refine ⟨b, F, env, p, env', g, h1, fun v H1 F1 g1 s1 r1 => ?_⟩
  refine ok F1 H1 v x res Q g1.same (g1.rd r1 h3) h5 fun u H3 F3 xt rf => ?_
  exact k u H3 F3 (g1.ext xt) (s1.trans xt.ff) (rf.rv g1)
def fNeg : D → Option R := fun d => match d with
  | .int i => some (.im (.int (-i)))
  | _ => none
theorem ok_neg {K : PySem.W.Frag} : UnOk K (rU fun i => .int (-i)) fNeg := fun F H x dx res Q ag hd e k => by
  unfold fNeg at e
  split at e
  · rename_i i
    cases e
    exact ⟨i, hd.int_inv, k _ H F (Xt.refl ag) (Dn.int _)⟩
  · cases e
def eNeg (p : PF) : EF := eU fNeg p
theorem q_neg {a : Expr} {pa : PF} {pos : Pos} (ha : QP X a pa) : QE X (.UnaryOp .USub a pos) (eNeg pa) :=
  (pe_un un_neg ha).imp fun _ _ _ q => tUn_of ok_neg q
def fSS : D → Option R := fun d => fSortSet [d]
theorem ok_ss {K : PySem.W.Frag} : UnOk K (rSortSet K) fSS := fun F H x dx res Q ag hd e k => by
  unfold fSS fSortSet at e
  split at e
  · rename_i es he
    cases he
    split at e
    · rename_i xs h1
      split at e
      · rename_i hz
        cases e
        obtain ⟨a, ws, rfl, h3, h4⟩ := hd.lst_inv ag
        rw [texts_dn h4 h1] at h3
        exact ⟨a, xs, rfl, .of h3, hz, fun p hp => k _ _ F (Xt.fresh ag hp) ((dn_texts _).toRF ag hp)⟩
      · cases e
    · cases e
  · cases e
def eSS (p : PF) : EF := eU fSS p
theorem q_sortset {a : Expr} {pa : PF} {p p2 q pos : Pos} (hm : X.mg "sorted" = none) (hm2 : X.mg "set" = none) (ha : QP X a pa) (hc : X.calm = true := by rfl) (hg : Gl X "sorted" := by rfl) (hg2 : Gl X "set" := by rfl)
    (na : starEach [a] X.env = (false, eval a X.env) :: starEach [] X.env := by rfl) : QE X (.Call (.Name "sorted" p) [.Call (.Name "set" p2) [a] [] q] [] pos) (eSS pa) :=
  (pe_sortset hc hg hm hg2 hm2 ha na).imp fun _ _ _ q => tUn_of ok_ss q
theorem call_listA' (hc : X.calm = true) : CallR X (.type "list") (rListA X.K) := call_list_of.or (call_listD hc)
/-! ### min of a dict's text keys -/
def minT : List Tx → Option Tx
  | [] => none
  | x :: r => match minT r with
    | none => some x
    | some y => if y < x then some y else some x
theorem minT_spec : ∀ {l : List Tx} {m : Tx}, minT l = some m → m ∈ l ∧ ∀ y ∈ l, ¬ y < m
  | [], _, h => by cases h
  | x :: r, m, h => by
    unfold minT at h
    split at h
    · rename_i h0
      cases h
      refine ⟨List.mem_cons_self, fun y hy => ?_⟩
      rcases List.mem_cons.mp hy with rfl | hy
      · exact tlt_irrefl _
      · cases r with
        | nil => cases hy
        | cons z r =>
          unfold minT at h0
          split at h0
          · cases h0
          · split at h0 <;> cases h0
    · rename_i y h0
      obtain ⟨h1, h2⟩ := minT_spec h0
      split at h
      · rename_i hl
        cases h
        refine ⟨List.mem_cons_of_mem _ h1, fun z hz => ?_⟩
        rcases List.mem_cons.mp hz with rfl | hz
        · exact fun q => tlt_irrefl _ (tlt_trans hl q)
        · exact h2 z hz
      · rename_i hl
        cases h
        refine ⟨List.mem_cons_self, fun z hz => ?_⟩
        rcases List.mem_cons.mp hz with rfl | hz
        · exact tlt_irrefl _
        · intro q
          by_cases c : x < y
          · exact h2 z hz (tlt_trans q c)
          · have e : x = y := tle_antisymm c hl
            subst e
            exact h2 z hz q
theorem minT_uniq {l : List Tx} {m m' : Tx} (h : minT l = some m) (h1 : m' ∈ l) (h2 : ∀ y ∈ l, ¬ y < m') : m' = m := by
  obtain ⟨a, b⟩ := minT_spec h
  exact tle_antisymm (fun q => b m' h1 q) (fun q => h2 m a q)
theorem cmp_strs_lt {prog : Program} {w : World} {A : Around} {P : Nat → Value → Prop} (val : Nat → Str) (hval : ∀ i v, P i v → ∃ t, v = .str (val i) t) :
    CmpOf prog w A .Lt P (fun i j => decide ((val i).cps.toList < (val j).cps.toList)) := fun i j vi vj s Q E hi hj h => by
  obtain ⟨t, rfl⟩ := hval i vi hi
  obtain ⟨u, rfl⟩ := hval j vj hj
  exact richCompare_gives (op := .Lt) rfl rfl F.slot_str_lt F.entry_str_lt (F.args_str_lt_2 _ _) (gives_str_lt _ _ t u) (fun x => nomatch x) h
theorem argBest_ltT (f : Nat → Tx) : ∀ n, argBest (fun i j => decide (f i < f j)) n ≤ n ∧ ∀ i ≤ n, ¬ f i < f (argBest (fun i j => decide (f i < f j)) n)
  | 0 => ⟨Nat.le_refl _, fun i hi => by
      have : i = 0 := by omega
      subst this
      exact tlt_irrefl _⟩
  | n + 1 => by
    obtain ⟨h1, h2⟩ := argBest_ltT f n
    unfold argBest
    split
    · rename_i c
      have c := of_decide_eq_true c
      refine ⟨Nat.le_refl _, fun i hi q => ?_⟩
      by_cases e : i = n + 1
      · subst e; exact tlt_irrefl _ q
      · exact h2 i (by omega) (tlt_trans q c)
    · rename_i c
      have c := fun q => c (decide_eq_true q)
      refine ⟨by omega, fun i hi => ?_⟩
      by_cases e : i = n + 1
      · subst e; exact c
      · exact h2 i (by omega)
def rMinKS : List V → Hp → VK → Prop := fun vs H Q => ∃ (a : Addr) (kvs : List (Key × V)) (is : List Tx), vs = [V.ref a] ∧ Rd H a (.dK kvs) ∧ kvs.map (·.1) = (is.map MP.S).map Sum.inr ∧ is ≠ [] ∧ ∀ m, m ∈ is → (∀ j ∈ is, ¬ j < m) → Q (.str (MP.S m)) H
theorem cr_minKS (hc : X.calm = true) : CallR X (.builtin "min") rMinKS := by
  intro pins s σ H vs us Q I r h
  obtain ⟨a, kvs, is, rfl, ha, hv, hne, q⟩ := h
  rw [Vals.ref1 r]
  obtain ⟨_, hsys, vs, rel, dof⟩ := dk_rd I.hok ha
  obtain ⟨ep, dat⟩ := dof.dictAt
  obtain ⟨ob, es, ho, hex, hdat, hko, hpr, hnd⟩ := id dat
  have hlt : a < s.heap.objs.size := Heap.lt_size ho
  have hkeys : vs.map (·.1) = (is.map MP.S).map Sum.inr := (KV.keys rel).symm.trans hv
  have hlv : vs.length = is.length := by
    have e1 := congrArg List.length hkeys
    rw [List.length_map, List.length_map, List.length_map] at e1
    exact e1
  have hlen : 0 < vs.length := by
    rw [hlv]
    exact List.length_pos_iff.mpr hne
  have hval : ∀ (i : Nat) (v : Value), (∃ k x, vs[i]? = some (k, x) ∧ (mixKind X.prog X.w).is k v = true) → ∃ t, v = Value.str (MP.S (is.getD i [])) t := fun i v ⟨k, x, hk, hkey⟩ => by
    have e1 : (vs.map (·.1))[i]? = some k := by rw [List.getElem?_map, hk] <;> rfl
    rw [hkeys, List.getElem?_map] at e1
    obtain ⟨j, hj, e2⟩ := Option.map_eq_some_iff.mp e1
    subst e2
    rw [List.getElem?_map] at hj
    obtain ⟨z, hz, e4⟩ := Option.map_eq_some_iff.mp hj
    subst e4
    have hi : Value.isStrOf (MP.S z) v = true := hkey
    obtain ⟨t, e3⟩ := Value.isStrOf_shape (x := MP.S z) (v := v) hi
    refine ⟨t, ?_⟩
    rw [e3, List.getD_eq_getElem?_getD, hz] <;> rfl
  refine call_min_walk (wpAny_pyIter_dict (knd := mixKind X.prog X.w) hsys dat ?_)
  refine ⟨_, _, _, _, _, _, _, rfl, Walks.dictKeys (knd := mixKind X.prog X.w) (A := X.A.in1) (I.ok.hd hc) s.heap.objs.size a (Nat.ne_of_lt hlt) vs ep,
    ⟨⟨_, Heap.get?_push_size _ rfl, rfl, rfl⟩, dat.keep fun b u e => Heap.get?_push_of_some _ e⟩, fun b hb => ?_, hlen, cmp_strs_lt (fun i => MP.S (is.getD i [])) hval, fun v h' tk hP hk => ?_⟩
  · show b < (s.heap.push _).objs.size
    rw [Heap.size_push]
    rcases List.mem_cons.mp hb with e | hb
    · rw [e]
      exact Nat.lt_succ_self _
    · rw [List.mem_singleton.mp hb]
      exact Nat.lt_succ_of_lt hlt
  · obtain ⟨t, rfl⟩ := hval _ v hP
    have ef : (fun i j => decide ((MP.S (is.getD i [])).cps.toList < (MP.S (is.getD j [])).cps.toList)) = fun i j => decide (is.getD i [] < is.getD j []) := by
      funext i j
      rw [S_cps, S_cps]
    rw [ef]
    obtain ⟨b1, b2⟩ := argBest_ltT (fun i => is.getD i []) (vs.length - 1)
    refine ⟨.str _, H, I.kept (t' := tk) fun b u e => hk b u (fun hmem => ?_) (Heap.get?_push_of_some _ e), ⟨t, rfl⟩, q _ ?_ fun j hj => ?_⟩
    · have e1 : b = s.heap.objs.size := List.mem_singleton.mp hmem
      have e2 := Heap.lt_size e
      rw [e1] at e2
      exact absurd e2 (Nat.lt_irrefl _)
    · have hb : argBest (fun i j => decide (is.getD i [] < is.getD j [])) (vs.length - 1) < is.length := by omega
      rw [List.getD_eq_getElem?_getD, List.getElem?_eq_getElem hb]
      exact List.getElem_mem hb
    · obtain ⟨i, hi, e⟩ := List.mem_iff_getElem.mp hj
      have e2 : is.getD i [] = j := by rw [List.getD_eq_getElem?_getD, List.getElem?_eq_getElem hi, ← e] <;> rfl
      rw [← e2]
      exact b2 i (by omega)
def fMinD : List D → Option R := fun ds => match ds with
  | [.dk kvs] => match keyTexts kvs with
    | some xs => match minT xs with
      | some m => some (.im (.str m))
      | none => none
    | none => none
  | _ => none
theorem ok_minD {K : PySem.W.Frag} : CallOk K rMinKS fMinD := fun F H vs ds res Q ag hd e k => by
  unfold fMinD at e
  split at e
  · rename_i kvs
    split at e
    · rename_i xs h1
      split at e
      · rename_i m h2
        cases e
        cases hd with
        | cons h t =>
          cases t
          obtain ⟨a, ks, rfl, h3, h4⟩ := h.dk_inv ag
          refine ⟨a, ks, xs, rfl, h3, keyTexts_ok h4 h1, fun z => (by subst z; cases h2), fun m' hm hle => ?_⟩
          rw [minT_uniq h2 hm hle]
          exact k _ H F (Xt.refl ag) (Dn.str _)
      · cases e
    · cases e
  · cases e
end
end MP
namespace MP
open PySem PySem.Spec PyProof.Rows L2
theorem RG.u1 {k : Nat} {A : Around} (h : RG k A) : A.units + 1 < cLine := by have := h.r.un; omega
theorem RG.u65 {k : Nat} {A : Around} (h : RG k A) : A.units + 65 < cLine := by have := h.r.un; omega
end MP
namespace MP
open PySem PySem.Spec PyProof.Rows L2
theorem no_exc {P : Program} {w : World} {H : Hp} {s s' : Shared} {Q : VK} {e : Value} (h : CR CX0 [] P w H s Q E0 (.error e) s') : False := by
  first | exact h | exact h.elim | (obtain ⟨_, h⟩ := h; exact h)
theorem law_callG {P : Program} {w : World} {K : PySem.W.Frag} {mg mb : Str → Option Value} {k : Nat} {fa a : Addr} {fd : FuncData} {x : Str} {sp : Sp} {s₁ : Shared} {vs : List Value} {ns : List Int}
    (KX : K.In s₁.heap) (hns : s₁.heap.Ns mainGlobals mg) (hb : s₁.heap.Ns builtinsNs mb) (hbb : ∀ x : Str, x ≠ "__name__" → mb x = bootBuiltins x) (hlim : s₁.heap.NoLimit) (hg : s₁.gens = #[])
    (ha : s₁.heap.get? a = some { cls := .type "list", data := .seq vs.toArray }) (hi : IntsAre vs ns) (hl : ns.length ≤ sizeLine) (hr : Room k callerA)
    (F : ∀ base : Heap, K.In base → base.Ns mainGlobals mg → FnG P w K mg base k fa fd [x] sp) (hbind : ∀ (s : Shared) (u : Value), BindsTo s fd ⟨[u], []⟩ [(x, u)])
    (hsp : ∀ H : Hp, Only H → SqL K H a (ns.map V.int) → sp [.ref a] H (fun v _ => v = .bl true) E0) :
    codeAny (model P w) callerA (.call (.ref fa) ⟨[.ref a], []⟩) (fun r s' => r = .ok (.ret (.bool true)) ∧ OldK s₁.heap s'.heap ∧ s'.os = s₁.os ∧ AllBare s'.gens) s₁ := by
  have rv := vals_ints hi
  have lenV := hi.length
  -- from an abstract heap in which nothing but the script may be tracked
  have core : ∀ H : Hp, Only H → SqL K H a (ns.map V.int) → HOk P w H s₁.heap → (∀ b, H b ≠ none → b = a) → (H a ≠ none → K.lookup a = none) →
      codeAny (model P w) callerA (.call (.ref fa) ⟨[.ref a], []⟩) (fun r s' => r = .ok (.ret (.bool true)) ∧ OldK s₁.heap s'.heap ∧ s'.os = s₁.os ∧ AllBare s'.gens) s₁ := by
    intro H hO hS hok hA hK
    have base_of : ∀ {b : Addr} {o : Obj}, s₁.heap.get? b = some o → H b = none → (hidT s₁.heap H).get? b = some o := fun e n => hidT_get e n
    have noA : ∀ {b : Addr} {o : Obj} {es : Array DictEntry} {ep : Nat}, s₁.heap.get? b = some o → o.data = .dict es ep → H b = none := fun {b o es ep} e d => by
      cases q : H b with
      | none => rfl
      | some u =>
        have e' : b = a := hA b (by rw [q]; simp)
        subst e'
        rw [ha] at e; cases e
        have d' : Data.seq vs.toArray _ = Data.dict es ep := d
        cases d'
    have nsK : ∀ {b : Addr} {m : Str → Option Value}, s₁.heap.Ns b m → (hidT s₁.heap H).Ns b m := fun {b m} ⟨o, es, ep, e, d, r⟩ => ⟨o, es, ep, base_of e (noA e d), d, r⟩
    have hKb : K.In (hidT s₁.heap H) := fun b o e => base_of (KX b o e) (by
      cases q : H b with
      | none => rfl
      | some u =>
        have e' : b = a := hA b (by rw [q]; simp)
        subst e'
        rw [hK (by rw [q]; simp)] at e; cases e)
    have hM : Mod K mg (hidT s₁.heap H) := ⟨hKb, nsK hns, ⟨mb, nsK hb, hbb⟩, let ⟨mc, h1, h2⟩ := hlim; ⟨mc, nsK h1, h2⟩⟩
    have e0 : Env0 P w K mg (hidT s₁.heap H) callerA [] s₁ H := ⟨rfl, hM, fun b o e => of_hidT e, Nat.le_of_eq (hidT_size _ _), trivial, fun b hb => absurd (show b ∈ ([] : List Addr) from hb) (by simp), hok, .of_eq hg⟩
    refine codeAny_mono ((F _ hKb (nsK hns)).run callerA [] s₁ H ⟨[.ref a], []⟩ [.ref a] [.ref a] _ hr rfl e0 (hbind s₁ (.ref a)) (.cons rfl .nil) (hsp H hO hS)) fun r s' h => ?_
    cases r with
    | error e => exact (no_exc h).elim
    | ok fl =>
      cases fl with
      | next => exact False.elim h
      | brk => exact False.elim h
      | cont => exact False.elim h
      | ret u =>
        obtain ⟨v, H', os, bare, un, hok', r', q⟩ := h
        have q' : v = .bl true := q
        subst q'
        obtain rfl : u = Value.bool true := r'
        refine ⟨rfl, OldK.of_keep fun b o e => ?_, os, bare⟩
        cases q : H b with
        | none => exact un.keep b o e q (by intro z; exact absurd (show b ∈ ([] : List Addr) from z) (by simp)) (by simp)
        | some u =>
          rcases hO b with z | ⟨ob, xs, z⟩
          · rw [q] at z; cases z
          · have z2 := un.frzs b ob _ z
            obtain ⟨e1, _⟩ := hok b _ z
            obtain ⟨e2, _⟩ := hok' b _ z2
            rw [e] at e1; cases e1
            exact e2
  cases hk : K.lookup a with
  | some o =>
    -- the script is one of the module's own objects
    have e := KX a o hk
    rw [ha] at e
    cases e
    refine core (fun _ => none) (fun _ => .inl rfl) (.inr ⟨_, vs.toArray, _, hk, rfl, rfl, rfl, by rw [List.size_toArray, lenV]; exact hl, by simpa using rv⟩) (fun b u z => by have z' : (none : Option HO) = some u := z; cases z') (fun b z => absurd rfl z) fun z => absurd rfl z
  | none =>
    refine core (fun b => if b = a then some (.frz { cls := .type "list", data := .seq vs.toArray } (.lst (ns.map V.int))) else none) (fun b => ?_) (.inl (.inr ⟨{ cls := .type "list", data := .seq vs.toArray }, if_pos rfl⟩)) (fun b u z => ?_) (fun b z => ?_) fun _ => hk
    · by_cases hb : b = a
      · exact .inr ⟨_, _, if_pos hb⟩
      · exact .inl (if_neg hb)
    · by_cases hb : b = a
      · have z' := (if_pos hb).symm.trans z
        cases z'
        subst hb
        exact ⟨ha, by rw [List.length_map]; exact hl, vs, _, rv, ha⟩
      · have z' := (if_neg hb).symm.trans z
        cases z'
    · by_cases hb : b = a
      · exact hb
      · exact absurd (if_neg hb) z
theorem walk_ofG {l : PySem.W.OpenLaw} {n k : Nat} {q : Program} {loose : List Str} {XP : (Str → Option Value) → Heap → Prop} {YP : World → Heap → Prop} {d : DefRec} {K : Params → PySem.W.Frag} {sp : World → Sp} {x : Str}
    (hn : l.most = some n) (hn2 : n ≤ sizeLine) (hdf : d.params.defaults = []) (hr : Room k callerA)
    (hY : ∀ (w : World) (h : Heap), YP w h → (K w.params).In h)
    (F : ∀ (w : World) (mg : Str → Option Value) (fa : Addr) (h : Heap), (K w.params).In h → h.Ns mainGlobals mg → mg d.name = some (.ref fa) →
      ∃ fd : FuncData, (∀ (s : Shared) (u : Value), BindsTo s fd ⟨[u], []⟩ [(x, u)]) ∧
        ∀ base : Heap, (K w.params).In base → base.Ns mainGlobals mg → FnG l.prog w (K w.params) mg base k fa fd [x] (sp w))
    (hsp : ∀ (w : World) (H : Hp) (a : Addr) (ns : List Int), ns.length ≤ n → Only H → SqL (K w.params) H a (ns.map V.int) → sp w [.ref a] H (fun v _ => v = .bl true) E0) :
    PySem.W.WalkO q loose XP YP l.row.toRowW d [] (fun f vs => PySem.call f vs) := by
  refine Att.attach_call hn hdf fun w s₀ s₁ mg mb fa o pm cd doc a vs ns G Y ho hd hcd hmg hobj hints hlen hg => ?_
  have KX := hY w _ Y
  obtain ⟨fd, hb, hF⟩ := F w mg fa _ KX G.T.g hmg
  exact law_callG KX G.T.g G.T.b G.T.builtins G.T.nolimit hg hobj hints (Nat.le_trans hlen hn2) hr hF hb (fun H hO hS => hsp w H a ns hlen hO hS)

/-- the law's promise, of its combinator: at any script it gives True -/
theorem law_sp {K : PySem.W.Frag} {Φ : Fn} (hΦ : ∀ ns : List Int, ns.length ≤ 63 → ∃ args', Φ [.im (.fz (ns.map D.int))] = some (.im (.bl true), args')) (H : Hp) (a : Addr) (ns : List Int) (hl : ns.length ≤ 63) (hO : Only H) (hS : SqL K H a (ns.map V.int)) :
    spOf K 1 Φ [.ref a] H (fun v _ => v = .bl true) E0 := by
  obtain ⟨args', h⟩ := hΦ ns hl
  have ag : Ag H H := fun b o e => .inl e
  refine ⟨H, [.im (.fz (ns.map D.int))], _, args', rfl, ⟨rfl, fun i v x h1 h2 => ?_, fun i j p h1 h2 => ?_⟩, ag, h, fun v H' F' s1 a1 _ _ _ _ rf => ?_⟩
  · match i with
    | 0 =>
      cases h1
      cases h2
      exact Dn.fz hS (dn_ints ns)
    | i + 1 => simp at h1
  · obtain ⟨⟨d, h1⟩, _⟩ := h1
    match i with
    | 0 => cases h1
    | i + 1 => simp at h1
  · exact RdD.bl_inv (H := H') (.inl rf)
end MP
namespace MP
open PySem PySem.Spec PyProof.Rows L2
@[simp] theorem x_pE (f : EF) (env : Ev) : pE f env = match f env with
  | none => none
  | some (r, e) => some (.val r.d, e) := id rfl
@[simp] theorem x_pV (i : Nat) (env : Ev) : pV i env = match (env[i]?).bind C.rd with
  | some _ => some (.slot i, env)
  | none => none := id rfl
@[simp] theorem x_eC (d : D) (env : Ev) : eC d env = some (.im d, env) := id rfl
@[simp] theorem x_eV (i : Nat) (env : Ev) : eV i env = match env[i]? with
  | some c => match c.rd with
    | none => none
    | some d => some (.im d, env.set i c.fz)
  | none => none := id rfl
@[simp] theorem x_eOp (f : D → D → Option R) (pa pb : PF) (env : Ev) : eOp f pa pb env = match pa env with
  | none => none
  | some (p, e1) => match pb e1 with
    | none => none
    | some (q, e2) => match rdP e2 p with
      | none => none
      | some x => match rdP e2 q with
        | none => none
        | some y => match f x y with
          | none => none
          | some r => some (r, e2) := id rfl
@[simp] theorem x_bE (f : EF) (env : Ev) : bE f env = match f env with
  | some (.im (.bl k), e) => some (k, e)
  | _ => none := id rfl
@[simp] theorem x_bAnd (f g : BF) (env : Ev) : bAnd f g env = match f env with
  | none => none
  | some (true, e) => g e
  | some (false, e) => some (false, e) := id rfl
@[simp] theorem x_bOr (f g : BF) (env : Ev) : bOr f g env = match f env with
  | none => none
  | some (true, e) => some (true, e)
  | some (false, e) => g e := id rfl
@[simp] theorem x_bNot (f : BF) (env : Ev) : bNot f env = match f env with
  | none => none
  | some (k, e) => some (!k, e) := id rfl
@[simp] theorem x_bP (p : PF) (env : Ev) : bP p env = match p env with
  | none => none
  | some (q, e) => match rdP e q with
    | none => none
    | some d => match d.truth with
      | none => none
      | some k => some (k, e) := id rfl
@[simp] theorem x_eIf (t : BF) (f g : EF) (env : Ev) : eIf t f g env = match t env with
  | none => none
  | some (true, e) => f e
  | some (false, e) => g e := id rfl
@[simp] theorem x_eOr (f g : EF) (env : Ev) : eOr f g env = match f env with
  | none => none
  | some (r, e) => match r.d.truthN with
    | none => none
    | some true => some (.im r.d, e)
    | some false => g e := id rfl
@[simp] theorem x_eAnd (f g : EF) (env : Ev) : eAnd f g env = match f env with
  | none => none
  | some (r, e) => match r.d.truthN with
    | none => none
    | some false => some (.im r.d, e)
    | some true => g e := id rfl
@[simp] theorem x_eNot (f : EF) (env : Ev) : eNot f env = match f env with
  | none => none
  | some (r, e) => match r.d.truthN with
    | none => none
    | some k => some (.im (.bl (!k)), e) := id rfl
@[simp] theorem x_aNil (env : Ev) : aNil  env = some ([], env) := id rfl
@[simp] theorem x_aCons (p : PF) (a : AF) (env : Ev) : aCons p a env = match p env with
  | none => none
  | some (x, e1) => match a e1 with
    | none => none
    | some (xs, e2) => some (x :: xs, e2) := id rfl
@[simp] theorem x_eCall (f : List D → Option R) (a : AF) (env : Ev) : eCall f a env = match a env with
  | none => none
  | some (ps, e) => match rdPs e ps with
    | none => none
    | some ds => match f ds with
      | none => none
      | some r => some (r, e) := id rfl
@[simp] theorem x_eTup (a : AF) (env : Ev) : eTup a env = match a env with
  | none => none
  | some (ps, e) => match vals ps with
    | none => none
    | some ds => if ds.length ≤ SL then some (.im (.tup ds), e) else none := id rfl
@[simp] theorem x_eLst (a : AF) (env : Ev) : eLst a env = match a env with
  | none => none
  | some (ps, e) => match vals ps with
    | none => none
    | some ds => if ds.length ≤ SL then some (.fr (.lst ds), e) else none := id rfl
@[simp] theorem x_sNil (env : Ev) : sNil  env = some (.nx, env) := id rfl
@[simp] theorem x_sSeq (f g : SF) (env : Ev) : sSeq f g env = match f env with
  | none => none
  | some (.nx, e) => g e
  | some (fl, e) => some (fl, e) := id rfl
@[simp] theorem x_sAsg (i : Nat) (f : EF) (env : Ev) : sAsg i f env = match f env with
  | none => none
  | some (r, e) => match put e i r.cell with
    | none => none
    | some e2 => some (.nx, e2) := id rfl
@[simp] theorem x_sAsgG (f : EF) (g : GF) (env : Ev) : sAsgG f g env = match f env with
  | none => none
  | some (r, e) => match g r.d e with
    | none => none
    | some e2 => some (.nx, e2) := id rfl
@[simp] theorem x_sPar (i j : Nat) (f h : EF) (env : Ev) : sPar i j f h env = match f env with
  | none => none
  | some (r, e1) => match h e1 with
    | none => none
    | some (q, e2) => match put e2 i (.im r.d) with
      | none => none
      | some e3 => match put e3 j (.im q.d) with
        | none => none
        | some e4 => some (.nx, e4) := id rfl
@[simp] theorem x_sExpr (f : EF) (env : Ev) : sExpr f env = match f env with
  | none => none
  | some (_, e) => some (.nx, e) := id rfl
@[simp] theorem x_sRet (f : EF) (env : Ev) : sRet f env = match f env with
  | none => none
  | some (r, e) => some (.rt r, e) := id rfl
@[simp] theorem x_sRetN (env : Ev) : sRetN  env = some (.rt (.im .non), env) := id rfl
@[simp] theorem x_sRetV (i : Nat) (env : Ev) : sRetV i env = match env[i]? with
  | some (.ow d) => some (.rt (.fr d), env.set i .un)
  | some c => match c.rd with
    | none => none
    | some d => some (.rt (.im d), env.set i c.fz)
  | none => none := id rfl
@[simp] theorem x_sPass (env : Ev) : sPass  env = some (.nx, env) := id rfl
@[simp] theorem x_sBreak (env : Ev) : sBreak  env = some (.bk, env) := id rfl
@[simp] theorem x_sCont (env : Ev) : sCont  env = some (.ct, env) := id rfl
@[simp] theorem x_sIf (t : BF) (f g : SF) (env : Ev) : sIf t f g env = match t env with
  | none => none
  | some (true, e) => f e
  | some (false, e) => g e := id rfl
@[simp] theorem x_sAug (i : Nat) (f : D → D → Option R) (p : PF) (env : Ev) : sAug i f p env = match (env[i]?).bind C.rd with
  | none => none
  | some _ => match p env with
    | none => none
    | some (q, e) => match (e[i]?).bind C.rd with
      | none => none
      | some x => match rdP e q with
        | none => none
        | some y => match f x y with
          | none => none
          | some r => match put e i r.cell with
            | none => none
            | some e2 => some (.nx, e2) := id rfl
@[simp] theorem x_sFor (it : IF) (g : GF) (f : SF) (env : Ev) : sFor it g f env = match it env with
  | none => none
  | some (ds, e) => forF g f ds e := id rfl
@[simp] theorem x_gN (i : Nat) (d : D) (env : Ev) : gN i d env = put env i (.im d) := id rfl
@[simp] theorem x_gsNil (ds : List D) (env : Ev) : gsNil  ds env = match ds with
  | [] => some env
  | _ => none := id rfl
@[simp] theorem x_gsCons (g : GF) (gs : GFs) (ds : List D) (env : Ev) : gsCons g gs ds env = match ds with
  | [] => none
  | d :: r => match g d env with
    | none => none
    | some e => gs r e := id rfl
@[simp] theorem x_gT (gs : GFs) (d : D) (env : Ev) : gT gs d env = match d with
  | .tup ds => gs ds env
  | _ => none := id rfl
@[simp] theorem x_gSub (j : Nat) (pi : PF) (d : D) (env : Ev) : gSub j pi d env = match (env[j]?).bind C.rd with
  | none => none
  | some _ => match pi env with
    | none => none
    | some (q, e1) => match rdP e1 q with
      | none => none
      | some i => match e1[j]? with
        | some c => if c.own = true then match c.rd with
          | some x => match putIx x i d with
            | some x' => some (e1.set j (c.with x'))
            | none => none
          | none => none
          else none
        | none => none := id rfl
@[simp] theorem x_iE (f : EF) (env : Ev) : iE f env = match f env with
  | none => none
  | some (r, e) => match r.d.items with
    | none => none
    | some ds => some (ds, e) := id rfl
@[simp] theorem x_iR (w : List D → Option (List D)) (a : AF) (env : Ev) : iR w a env = match a env with
  | none => none
  | some (ps, e) => match rdPs e ps with
    | none => none
    | some xs => match w xs with
      | none => none
      | some ds => some (ds, e) := id rfl
@[simp] theorem x_iEn (a : AF) (env : Ev) : iEn a env = match a env with
  | none => none
  | some (ps, e) => match valLst ps with
    | none => none
    | some ds => some (pairsF 0 ds, e) := id rfl
@[simp] theorem x_iZp (a : AF) (env : Ev) : iZp a env = match a env with
  | none => none
  | some (ps, e) => match valZip ps with
    | none => none
    | some ds => some (ds, e) := id rfl
@[simp] theorem x_bTrue (env : Ev) : bTrue  env = some (true, env) := id rfl
theorem x_eLc (is : List Nat) (it : IF) (g : GF) (t : BF) (f : EF) (env : Ev) : eLc is it g t f env = match it env with
  | none => none
  | some (ds, e) => match lcF is g t f ds (fzs e is) [] with
    | none => none
    | some (acc, e2) => some (.fr (.lst acc), back (fzs e is) e2 is) := id rfl
theorem x_eDc (is : List Nat) (it : IF) (g : GF) (t : BF) (f h : EF) (env : Ev) : eDc is it g t f h env = match it env with
  | none => none
  | some (ds, e) => match dcF is g t f h ds (fzs e is) [] with
    | none => none
    | some (acc, e2) => some (.fr (.dk acc), back (fzs e is) e2 is) := id rfl
@[simp] theorem x_eFn (Φ : Fn) (a : AF) (env : Ev) : eFn Φ a env = match a env with
  | none => none
  | some (ps, e) => match toArgs e ps with
    | none => none
    | some args => if apart (lent ps args) then match Φ args with
      | none => none
      | some (r, args') => some (r, writeB e ps args args')
      else none := id rfl
@[simp] theorem x_eU (f : D → Option R) (pa : PF) (env : Ev) : eU f pa env = match pa env with
  | none => none
  | some (p, e1) => match rdP e1 p with
    | none => none
    | some x => match f x with
      | none => none
      | some r => some (r, e1) := id rfl
@[simp] theorem x_eSl (p : PF) (lo hi : OF) (env : Ev) : eSl p lo hi env = match p env with
  | none => none
  | some (q, e1) => match lo e1 with
    | none => none
    | some (l, e2) => match hi e2 with
      | none => none
      | some (h, e3) => match rdP e3 q with
        | none => none
        | some d => match fSl d l h with
          | none => none
          | some r => some (r, e3) := id rfl
@[simp] theorem x_oNo (env : Ev) : oNo  env = some (none, env) := id rfl
@[simp] theorem x_oI (p : PF) (env : Ev) : oI p env = match p env with
  | none => none
  | some (q, e) => match rdP e q with
    | some (.int i) => some (some i, e)
    | _ => none := id rfl
@[simp] theorem x_eSetd (i : Nat) (q : PF) (f : EF) (env : Ev) : eSetd i q f env = match env[i]? with
  | some c0 => match c0.own, c0.rd with
    | true, some (.dk _) => match q env with
      | none => none
      | some (y, e2) => match f e2 with
        | none => none
        | some (r, e3) => match e3[i]? with
          | some c => match c.own, c.rd with
            | true, some (.dk kvs) => match rdP e3 y with
              | none => none
              | some yd => match yd.ky with
                | none => none
                | some kk => if kvs.length < SL then match lkD kvs kk with
                  | some d => some (.im d, e3)
                  | none => some (.im r.d, e3.set i (c.with (.dk (putD kvs kk r.d))))
                  else none
            | _, _ => none
          | none => none
    | _, _ => none
  | none => none := id rfl
@[simp] theorem x_eGet2 (p q : PF) (f : EF) (env : Ev) : eGet2 p q f env = match p env with
  | none => none
  | some (x, e1) => match rdP e1 x with
    | some (.dk _) => match q e1 with
      | none => none
      | some (y, e2) => match f e2 with
        | none => none
        | some (r, e3) => match rdP e3 x with
          | some (.dk kvs) => match rdP e3 y with
            | none => none
            | some yd => match yd.ky with
              | none => none
              | some kk => some (.im ((lkD kvs kk).getD r.d), e3)
          | _ => none
    | _ => none := id rfl
@[simp] theorem x_eGet1 (p q : PF) (env : Ev) : eGet1 p q env = match p env with
  | none => none
  | some (x, e1) => match rdP e1 x with
    | some (.dk _) => match q e1 with
      | none => none
      | some (y, e2) => match rdP e2 x with
          | some (.dk kvs) => match rdP e2 y with
            | none => none
            | some yd => match yd.ky with
              | none => none
              | some kk => some (.im ((lkD kvs kk).getD .non), e2)
          | _ => none
    | _ => none := id rfl
@[simp] theorem x_eMutT (T : String) (f : D → List D → Option (D × D)) (i : Nat) (a : AF) (env : Ev) : eMutT T f i a env = match env[i]? with
  | some c0 => match c0.rd with
    | some x0 => if (c0.own && tyB T x0) = true then eMut f i a env else none
    | none => none
  | none => none := id rfl
@[simp] theorem x_eMut (f : D → List D → Option (D × D)) (i : Nat) (a : AF) (env : Ev) : eMut f i a env = match env[i]? with
  | some c0 => if c0.own = true then match a env with
    | none => none
    | some (ps, e) => match vals ps with
      | none => none
      | some ds => match e[i]? with
        | some c => if c.own = true then match c.rd with
          | some x => match f x ds with
            | some (r, x') => some (.im r, e.set i (c.with x'))
            | none => none
          | none => none
          else none
        | none => none
    else none
  | none => none := id rfl
@[simp] theorem x_eMeth (ty : D → Bool) (f : D → List D → Option R) (p : PF) (a : AF) (env : Ev) : eMeth ty f p a env = match p env with
  | none => none
  | some (q, e1) => match rdP e1 q with
    | none => none
    | some d1 => if ty d1 = true then match a e1 with
      | none => none
      | some (ps, e2) => match rdP e2 q with
        | none => none
        | some d => match rdPs e2 ps with
          | none => none
          | some ds => match f d ds with
            | none => none
            | some r => some (r, e2)
      else none := id rfl
@[simp] theorem x_eDk (env : Ev) : eDk  env = some (.fr (.dk []), env) := id rfl
end MP
namespace MP
open PySem PySem.Spec PyProof.Rows L2
@[simp] theorem y_0  : C.rd .un = none := id rfl
@[simp] theorem y_1 (d : D) : C.rd (.im d) = some d := id rfl
@[simp] theorem y_2 (d : D) : C.rd (.ow d) = some d := id rfl
@[simp] theorem y_3 (d : D) : C.rd (.bo d) = some d := id rfl
@[simp] theorem y_4 (d : D) : C.rd (.bf d) = some d := id rfl
@[simp] theorem y_5  : C.free .un = true := id rfl
@[simp] theorem y_6 (d : D) : C.free (.im d) = true := id rfl
@[simp] theorem y_7 (d : D) : C.free (.ow d) = true := id rfl
@[simp] theorem y_8 (d : D) : C.own (.ow d) = true := id rfl
@[simp] theorem y_9 (d : D) : C.own (.bo d) = true := id rfl
@[simp] theorem y_10 (d : D) : C.own (.im d) = false := id rfl
@[simp] theorem y_11  : C.own .un = false := id rfl
@[simp] theorem y_12 (d x : D) : C.with (.ow d) x = C.ow x := id rfl
@[simp] theorem y_13 (d x : D) : C.with (.bo d) x = C.bo x := id rfl
@[simp] theorem y_14 (d : D) : R.cell (.im d) = C.im d := id rfl
@[simp] theorem y_15 (d : D) : R.cell (.fr d) = C.ow d := id rfl
@[simp] theorem y_16 (d : D) : R.d (.im d) = d := id rfl
@[simp] theorem y_17 (d : D) : R.d (.fr d) = d := id rfl
@[simp] theorem y_18 (env : Ev) (d : D) : rdP env (.val d) = some d := id rfl
@[simp] theorem y_19 (env : Ev) (i : Nat) : rdP env (.slot i) = (env[i]?).bind C.rd := id rfl
@[simp] theorem y_20 (env : Ev) : rdPs env [] = some [] := id rfl
@[simp] theorem y_21 (env : Ev) (p : P) (ps : List P) : rdPs env (p :: ps) = (match rdP env p with | none => none | some d => match rdPs env ps with | none => none | some ds => some (d :: ds)) := id rfl
@[simp] theorem y_22  : vals [] = some [] := id rfl
@[simp] theorem y_23 (d : D) (ps : List P) : vals (.val d :: ps) = (match vals ps with | some ds => some (d :: ds) | none => none) := id rfl
@[simp] theorem y_24 (env : Ev) (i : Nat) (c : C) : put env i c = (match env[i]? with | none => none | some c0 => if c0.free then some (env.set i c) else none) := id rfl
@[simp] theorem y_25 (env : Ev) : toArgs env [] = some [] := id rfl
@[simp] theorem y_26 (env : Ev) (p : P) (ps : List P) : toArgs env (p :: ps) = (match toArg env p with | none => none | some a => match toArgs env ps with | none => none | some as => some (a :: as)) := id rfl
@[simp] theorem y_27 (env : Ev) (d : D) : toArg env (.val d) = some (.im d) := id rfl
@[simp] theorem y_28 (env : Ev) (i : Nat) : toArg env (.slot i) = (match env[i]? with | some (.im d) => some (.im d) | some (.bf d) => some (.im d) | some (.ow d) => some (.bo d) | some (.bo d) => some (.bo d) | _ => none) := id rfl
@[simp] theorem y_29 (d x : D) : C.back (.ow d) (.bo x) = C.ow x := id rfl
@[simp] theorem y_30 (d x : D) : C.back (.ow d) (.im x) = C.im x := id rfl
@[simp] theorem y_31 (d x : D) : C.back (.bo d) (.bo x) = C.bo x := id rfl
@[simp] theorem y_32 (d x : D) : C.back (.bo d) (.im x) = C.bf x := id rfl
@[simp] theorem y_33 (as : List Arg) : lent [] as = [] := id rfl
@[simp] theorem y_34 (i : Nat) (ps : List P) (d : D) (as : List Arg) : lent (.slot i :: ps) (.bo d :: as) = i :: lent ps as := id rfl
@[simp] theorem y_35 (i : Nat) (ps : List P) (d : D) (as : List Arg) : lent (.slot i :: ps) (.im d :: as) = lent ps as := id rfl
@[simp] theorem y_36 (x : D) (ps : List P) (d : D) (as : List Arg) : lent (.val x :: ps) (.im d :: as) = lent ps as := id rfl
@[simp] theorem y_37  : apart [] = true := id rfl
@[simp] theorem y_38 (i : Nat) (is : List Nat) : apart (i :: is) = (!is.contains i && apart is) := id rfl
@[simp] theorem y_39 (env : Ev) (as bs : List Arg) : writeB env [] as bs = env := id rfl
@[simp] theorem y_40 (env : Ev) (i : Nat) (ps : List P) (d : D) (as : List Arg) (b : Arg) (bs : List Arg) : writeB env (.slot i :: ps) (.bo d :: as) (b :: bs) = (match env[i]? with | some c => writeB (env.set i (c.back b)) ps as bs | none => writeB env ps as bs) := id rfl
@[simp] theorem y_41 (env : Ev) (i : Nat) (ps : List P) (d : D) (as : List Arg) (b : Arg) (bs : List Arg) : writeB env (.slot i :: ps) (.im d :: as) (b :: bs) = writeB env ps as bs := id rfl
@[simp] theorem y_42 (env : Ev) (x : D) (ps : List P) (d : D) (as : List Arg) (b : Arg) (bs : List Arg) : writeB env (.val x :: ps) (.im d :: as) (b :: bs) = writeB env ps as bs := id rfl
@[simp] theorem y_43 (env : Ev) : outs [] env = some [] := id rfl
@[simp] theorem y_44 (d : D) (as : List Arg) (c : C) (e : Ev) : outs (.im d :: as) (c :: e) = (match outs as e with | some r => some (.im d :: r) | none => none) := id rfl
@[simp] theorem y_45 (d x : D) (as : List Arg) (e : Ev) : outs (.bo d :: as) (.bo x :: e) = (match outs as e with | some r => some (.bo x :: r) | none => none) := id rfl
@[simp] theorem y_46 (d x : D) (as : List Arg) (e : Ev) : outs (.bo d :: as) (.bf x :: e) = (match outs as e with | some r => some (.im x :: r) | none => none) := id rfl
@[simp] theorem y_47 (d : D) : Arg.cell (.im d) = C.im d := id rfl
@[simp] theorem y_48 (d : D) : Arg.cell (.bo d) = C.bo d := id rfl
@[simp] theorem y_49 (n : Nat) (args : List Arg) : env0 n args = args.map Arg.cell ++ List.replicate (n - args.length) .un := id rfl
@[simp] theorem y_50  : C.fz .un = C.un := id rfl
@[simp] theorem y_51 (d : D) : C.fz (.im d) = C.im d := id rfl
@[simp] theorem y_52 (d : D) : C.fz (.ow d) = C.im d := id rfl
@[simp] theorem y_53 (d : D) : C.fz (.bo d) = C.bf d := id rfl
@[simp] theorem y_54 (d : D) : C.fz (.bf d) = C.bf d := id rfl
@[simp] theorem y_55 (i : Int) : D.ky (.int i) = some (.inl i) := id rfl
@[simp] theorem y_56 (i : Tx) : D.ky (.str i) = some (.inr i) := id rfl
@[simp] theorem y_57  : D.truth .non = some false := id rfl
@[simp] theorem y_58 (b : Bool) : D.truth (.bl b) = some b := id rfl
@[simp] theorem y_59 (i : Int) : D.truth (.int i) = some (i != 0) := id rfl
@[simp] theorem y_60 (xs : List D) : D.truth (.tup xs) = some (!xs.isEmpty) := id rfl
@[simp] theorem y_61 (xs : List D) : D.truth (.lst xs) = some (!xs.isEmpty) := id rfl
@[simp] theorem y_62 (xs : List D) : D.truth (.fz xs) = some (!xs.isEmpty) := id rfl
@[simp] theorem y_63 (xs : List (Ky × D)) : D.truth (.dk xs) = some (!xs.isEmpty) := id rfl
@[simp] theorem y_64 (x : Tx) : D.truth (.str x) = (if x.length ≤ SL then some (!x.isEmpty) else none) := id rfl
@[simp] theorem y_65  : D.truthN .non = some false := id rfl
@[simp] theorem y_66 (b : Bool) : D.truthN (.bl b) = some b := id rfl
@[simp] theorem y_67 (i : Int) : D.truthN (.int i) = some (i != 0) := id rfl
@[simp] theorem y_68 (x : Tx) : D.truthN (.str x) = (if x.length ≤ SL then some (!x.isEmpty) else none) := id rfl
@[simp] theorem y_69 (xs : List D) : D.truthN (.tup xs) = some (!xs.isEmpty) := id rfl
@[simp] theorem y_70 (xs : List D) : D.truthN (.lst xs) = some (!xs.isEmpty) := id rfl
@[simp] theorem y_71 (xs : List D) : D.truthN (.fz xs) = some (!xs.isEmpty) := id rfl
@[simp] theorem y_72 (xs : List D) : D.items (.tup xs) = some xs := id rfl
@[simp] theorem y_73 (xs : List D) : D.seq (.tup xs) = some xs := id rfl
@[simp] theorem y_74 (xs : List D) : D.items (.lst xs) = some xs := id rfl
@[simp] theorem y_75 (xs : List D) : D.seq (.lst xs) = some xs := id rfl
@[simp] theorem y_76 (xs : List D) : D.items (.fz xs) = some xs := id rfl
@[simp] theorem y_77 (xs : List D) : D.seq (.fz xs) = some xs := id rfl
@[simp] theorem y_78 (x : Tx) : D.items (.str x) = some (x.map fun c => D.str [c]) := id rfl
@[simp] theorem y_79 (i j : Int) : fAdd (.int i) (.int j) = some (.im (.int (i + j))) := id rfl
@[simp] theorem y_80 (g : Int → Int → Option D) (i j : Int) : fInt g (.int i) (.int j) = (match g i j with | some d => some (.im d) | none => none) := id rfl
@[simp] theorem y_81 (i j : Int) : fLt (.int i) (.int j) = some (.im (.bl (decide (i < j)))) := id rfl
@[simp] theorem y_82 (i j : Int) : fGt (.int i) (.int j) = some (.im (.bl (decide (j < i)))) := id rfl
@[simp] theorem y_83 (i j : Int) : fLe (.int i) (.int j) = some (.im (.bl (decide (i ≤ j)))) := id rfl
@[simp] theorem y_84 (i j : Int) : fGe (.int i) (.int j) = some (.im (.bl (decide (j ≤ i)))) := id rfl
@[simp] theorem y_85 (a b : Tx) : fAdd (.str a) (.str b) = (if a.length + b.length ≤ SL then some (.im (.str (a ++ b))) else none) := id rfl
@[simp] theorem y_86 (a b : List D) : fAdd (.tup a) (.tup b) = (if a.length + b.length ≤ SL then some (.im (.tup (a ++ b))) else none) := id rfl
@[simp] theorem y_87 (a b : List D) : fAdd (.lst a) (.lst b) = (if a.length + b.length ≤ SL then some (.fr (.lst (a ++ b))) else none) := id rfl
@[simp] theorem y_88 (i : Int) : fNeg (.int i) = some (.im (.int (-i))) := id rfl
@[simp] theorem y_89 (xs : List D) (i : Int) : fIx (.lst xs) (.int i) = (match atI xs i with | some d => some (.im d) | none => none) := id rfl
@[simp] theorem y_90 (xs : List D) (i : Int) : fIx (.fz xs) (.int i) = (match atI xs i with | some d => some (.im d) | none => none) := id rfl
@[simp] theorem y_91 (xs : List D) (i : Int) : fIx (.tup xs) (.int i) = (match atI xs i with | some d => some (.im d) | none => none) := id rfl
@[simp] theorem y_92 (x : Tx) (i : Int) : fIx (.str x) (.int i) = (if x.length ≤ SL then match atI x i with | some c => some (.im (.str [c])) | none => none else none) := id rfl
@[simp] theorem y_93 (kvs : List (Ky × D)) (y : D) : fIx (.dk kvs) y = (match y.ky with | none => none | some k => match lkD kvs k with | none => none | some d => some (.im d)) := id rfl
@[simp] theorem y_94 (z : Tx) (lo hi : Option Int) : fSl (.str z) lo hi = (if z.length ≤ SL then some (.im (.str (cutT z lo hi))) else none) := id rfl
@[simp] theorem y_95 (z : List D) (lo hi : Option Int) : fSl (.lst z) lo hi = some (.fr (.lst (cutT z lo hi))) := id rfl
@[simp] theorem y_96 (z : List D) (lo hi : Option Int) : fSl (.fz z) lo hi = some (.fr (.lst (cutT z lo hi))) := id rfl
@[simp] theorem y_97 (z : List D) (lo hi : Option Int) : fSl (.tup z) lo hi = some (.im (.tup (cutT z lo hi))) := id rfl
@[simp] theorem y_98 (xs : List D) (k : Int) (d : D) : putIx (.lst xs) (.int k) d = (match ixN xs.length k with | some j => some (.lst (xs.set j d)) | none => none) := id rfl
@[simp] theorem y_99 (x y : D) : fEq x y = (match eqD x y with | some k => some (.im (.bl k)) | none => none) := id rfl
@[simp] theorem y_100 (x y : D) : fNe x y = (match eqD x y with | some k => some (.im (.bl (!k))) | none => none) := id rfl
@[simp] theorem y_101 (x y : D) : fIn x y = (match fInB x y with | some k => some (.im (.bl k)) | none => none) := id rfl
@[simp] theorem y_102 (x y : D) : fNotIn x y = (match fInB x y with | some k => some (.im (.bl (!k))) | none => none) := id rfl
@[simp] theorem y_103 (a b : Tx) : fInB (.str a) (.str b) = some (subIn a b) := id rfl
@[simp] theorem y_104 (a : Tx) (b : List (Ky × D)) : fInB (.str a) (.dk b) = some (lkD b (.inr a)).isSome := id rfl
@[simp] theorem y_105 (a : Int) (b : List (Ky × D)) : fInB (.int a) (.dk b) = some (lkD b (.inl a)).isSome := id rfl
@[simp] theorem y_106 (x : D) : fIs x .non = some (.im (.bl x.isNon)) := id rfl
@[simp] theorem y_107 (x : D) : fIsN x .non = some (.im (.bl (!x.isNon))) := id rfl
@[simp] theorem y_108  : D.isNon .non = true := id rfl
@[simp] theorem y_109 (i : Int) : D.isNon (.int i) = false := id rfl
@[simp] theorem y_110 (i : Tx) : D.isNon (.str i) = false := id rfl
@[simp] theorem y_111 (i : Bool) : D.isNon (.bl i) = false := id rfl
@[simp] theorem y_112 (i : List D) : D.isNon (.tup i) = false := id rfl
@[simp] theorem y_113 (i : List D) : D.isNon (.lst i) = false := id rfl
@[simp] theorem y_114 (i j : Int) : fMax2 [.int i, .int j] = some (.im (.int (if j > i then j else i))) := id rfl
@[simp] theorem y_115 (i j : Int) : fMin2 [.int i, .int j] = some (.im (.int (if j < i then j else i))) := id rfl
@[simp] theorem y_116 (i : Int) : fInt1 [.int i] = some (.im (.int i)) := id rfl
@[simp] theorem y_117 (b : Bool) : fInt1 [.bl b] = some (.im (.int (if b then 1 else 0))) := id rfl
@[simp] theorem y_118 (i : Int) : fAbs [.int i] = some (.im (.int (if i < 0 then -i else i))) := id rfl
@[simp] theorem y_119 (x : Tx) : fLen [.str x] = (if x.length ≤ SL then some (.im (.int (x.length : Nat))) else none) := id rfl
@[simp] theorem y_120 (x : List D) : fLen [.lst x] = some (.im (.int (x.length : Nat))) := id rfl
@[simp] theorem y_121 (x : List D) : fLen [.fz x] = some (.im (.int (x.length : Nat))) := id rfl
@[simp] theorem y_122 (x : List D) : fLen [.tup x] = some (.im (.int (x.length : Nat))) := id rfl
@[simp] theorem y_123 (x : List (Ky × D)) : fLen [.dk x] = some (.im (.int (x.length : Nat))) := id rfl
@[simp] theorem y_124 (x : List D) : fList [.lst x] = some (.fr (.lst x)) := id rfl
@[simp] theorem y_125 (x : List D) : fTuple [.lst x] = some (.im (.tup x)) := id rfl
@[simp] theorem y_126 (x : List D) : fList [.fz x] = some (.fr (.lst x)) := id rfl
@[simp] theorem y_127 (x : List D) : fTuple [.fz x] = some (.im (.tup x)) := id rfl
@[simp] theorem y_128 (x : List D) : fList [.tup x] = some (.fr (.lst x)) := id rfl
@[simp] theorem y_129 (x : List D) : fTuple [.tup x] = some (.im (.tup x)) := id rfl
@[simp] theorem y_130 (x : List (Ky × D)) : fList [.dk x] = some (.fr (.lst (keysD x))) := id rfl
@[simp] theorem y_131 (a b : Tx) : fCount (.str a) [.str b] = some (.im (.int (cntIn b a : Nat))) := id rfl
@[simp] theorem y_132 (a : Tx) (x : List D) : fJoin (.str a) [.lst x] = (match texts x with | none => none | some xs => if (xs.map List.length).sum + xs.length * a.length ≤ SL then some (.im (.str (joinT a xs))) else none) := id rfl
@[simp] theorem y_133 (a : Tx) (x : List D) : fJoin (.str a) [.fz x] = (match texts x with | none => none | some xs => if (xs.map List.length).sum + xs.length * a.length ≤ SL then some (.im (.str (joinT a xs))) else none) := id rfl
@[simp] theorem y_134 (a : Tx) (x : List D) : fJoin (.str a) [.tup x] = (match texts x with | none => none | some xs => if (xs.map List.length).sum + xs.length * a.length ≤ SL then some (.im (.str (joinT a xs))) else none) := id rfl
@[simp] theorem y_rng1 {j : Int} (h : small j = true) : rng1 [.int j] = some (rng 0 j.toNat 1) := by
  simp only [rng1, h, if_true]
@[simp] theorem y_rng2 {i j : Int} (h : small i = true) (h2 : small j = true) : rng2 [.int i, .int j] = some (rng i (j - i).toNat 1) := by
  simp only [rng2, h, h2, Bool.and_self, if_true]
@[simp] theorem y_rng3 {i j : Int} (h : small i = true) (h2 : small j = true) : rng3 [.int i, .int j, .int (-1)] = some (rng i (i - j).toNat (-1)) := by
  simp only [rng3, h, h2, Bool.and_self, beq_self_eq_true, if_true]
@[simp] theorem small_0 : small 0 = true := by decide +kernel
@[simp] theorem small_1 : small 1 = true := by decide +kernel
@[simp] theorem small_2 : small 2 = true := by decide +kernel
@[simp] theorem small_3 : small 3 = true := by decide +kernel
@[simp] theorem small_4 : small 4 = true := by decide +kernel
@[simp] theorem small_5 : small 5 = true := by decide +kernel
@[simp] theorem small_6 : small 6 = true := by decide +kernel
@[simp] theorem small_7 : small 7 = true := by decide +kernel
@[simp] theorem small_8 : small 8 = true := by decide +kernel
@[simp] theorem small_9 : small 9 = true := by decide +kernel
@[simp] theorem small_10 : small 10 = true := by decide +kernel

@[simp] theorem y_136 (xs : List D) (d : D) : mAppend (.lst xs) [d] = (if xs.length < SL then some (.non, .lst (xs ++ [d])) else none) := id rfl
@[simp] theorem y_137 (xs : List D) (i : Int) : mPopAt (.lst xs) [.int i] = (if 0 ≤ i ∧ i < xs.length ∧ small i = true then match xs[i.toNat]? with | some d => some (d, .lst (xs.eraseIdx i.toNat)) | none => none else none) := id rfl
@[simp] theorem y_138 (xs : List D) : tyB "list" (.lst xs) = true := id rfl
@[simp] theorem y_139 (xs : List (Ky × D)) : tyB "dict" (.dk xs) = true := id rfl
@[simp] theorem y_140 (x : Tx) : D.isStr (.str x) = true := id rfl
@[simp] theorem y_141 (a b : Int) : scalD (.int a) (.int b) = some (a == b) := id rfl
@[simp] theorem y_142 (env : Ev) : blank env [] = env := id rfl
@[simp] theorem y_143 (env : Ev) (i : Nat) (is : List Nat) : blank env (i :: is) = (blank env is).set i .un := id rfl
@[simp] theorem y_144 (o env : Ev) : back o env [] = env := id rfl
@[simp] theorem y_145 (o env : Ev) (i : Nat) (is : List Nat) : back o env (i :: is) = (back o env is).set i (o[i]?.getD .un) := id rfl
@[simp] theorem y_146 (env : Ev) : fzs env [] = env := id rfl
@[simp] theorem y_147 (env : Ev) (i : Nat) (is : List Nat) : fzs env (i :: is) = (match (fzs env is)[i]? with | some c => (fzs env is).set i c.fz | none => fzs env is) := id rfl
@[simp] theorem y_148 (g : GF) (f : SF) (env : Ev) : forF g f [] env = some (.nx, env) := id rfl
@[simp] theorem y_149 (T : String) (f : D → List D → Option (D × D)) (i : Nat) : eMut0 T f i = eMutT T f i aNil := id rfl
@[simp] theorem y_150 (p : PF) : eNeg p = eU fNeg p := id rfl
@[simp] theorem y_151 (p : PF) : eSS p = eU fSS p := id rfl
end MP
namespace MP
open PySem PySem.Spec PyProof.Rows L2
/-! ### the drawing of cases: the helpers that the laws share -/
def fuel : Nat := 1000000000
def ce_law_start_0 : EF := (eCall fInt1 (aCons (pV 1) aNil))
def st_law_start_0 : SF := (sRet (eLst (aCons (pE (eLc [1] (iE (eSl (pV 0) oNo (oI (pE (eC (.int 63)))))) (gN 1) bTrue ce_law_start_0)) (aCons (pE (eC (.int 0))) (aCons (pE (eC (.int 0))) (aCons (pE (eC (.int 0))) (aCons (pE (eC (.int 20))) aNil)))))))
def code_law_start : SF := (sSeq st_law_start_0 sNil)
def fn_law_start : Fn := runF code_law_start 2
def st_law_fill_0 : SF := (sRetV 1)
def bk_law_fill_0 : SF := (sSeq st_law_fill_0 sNil)
def st_law_fill_1 : SF := (sAsg 1 (eCall fMax2 (aCons (pE (eOp fIx (pE (eOp fIx (pV 0) (pE (eC (.int 0))))) (pE (eOp fIx (pV 0) (pE (eC (.int 1))))))) (aCons (pE (eOp fSub (pE (eOp fSub (pE (eC (.int 0))) (pE (eC (.int 1))))) (pE (eOp fIx (pE (eOp fIx (pV 0) (pE (eC (.int 0))))) (pE (eOp fIx (pV 0) (pE (eC (.int 1))))))))) aNil))))
def st_law_fill_2 : SF := (sAsgG (eOp fAdd (pE (eOp fIx (pV 0) (pE (eC (.int 1))))) (pE (eC (.int 1)))) (gSub 0 (pE (eC (.int 1)))))
def st_law_fill_3 : SF := (sIf (bE (eOp fGe (pV 1) (pE (eOp fPow (pE (eC (.int 10))) (pE (eC (.int 18))))))) bk_law_fill_0 sNil)
def bk_law_fill_1 : SF := (sSeq st_law_fill_1 (sSeq st_law_fill_2 (sSeq st_law_fill_3 sNil)))
def st_law_fill_4 : SF := (sAsg 1 (eOp fAdd (pV 1) (pE (eOp fMod (pE (eCall fInt1 (aCons (pE (eOp fIx (pE (eOp fIx (pV 0) (pE (eC (.int 0))))) (pE (eNeg (pE (eC (.int 1))))))) aNil))) (pE (eC (.int 1000003)))))))
def bk_law_fill_2 : SF := (sSeq st_law_fill_4 sNil)
def st_law_fill_5 : SF := (sAsgG (eOp fAdd (pE (eOp fIx (pV 0) (pE (eC (.int 3))))) (pE (eC (.int 1)))) (gSub 0 (pE (eC (.int 3)))))
def st_law_fill_6 : SF := (sAsg 1 (eOp fAdd (pE (eOp fMul (pE (eOp fIx (pV 0) (pE (eC (.int 3))))) (pE (eC (.int 69621))))) (pE (eC (.int 12345)))))
def st_law_fill_7 : SF := (sIf (bE (eOp fLt (pE (eOp fIx (pV 0) (pE (eC (.int 1))))) (pE (eCall fLen (aCons (pE (eOp fIx (pV 0) (pE (eC (.int 0))))) aNil))))) bk_law_fill_1 sNil)
def st_law_fill_8 : SF := (sIf (bAnd (bP (pE (eOp fIx (pV 0) (pE (eC (.int 0)))))) (bE (eOp fGe (pE (eOp fIx (pV 0) (pE (eC (.int 1))))) (pE (eCall fLen (aCons (pE (eOp fIx (pV 0) (pE (eC (.int 0))))) aNil)))))) bk_law_fill_2 sNil)
def st_law_fill_9 : SF := (sAsg 1 (eOp fMod (pE (eCall fInt1 (aCons (pE (eOp fAdd (pE (eOp fMul (pV 1) (pE (eC (.int 48271))))) (pE (eOp fMul (pE (eOp fIx (pV 0) (pE (eC (.int 3))))) (pE (eC (.int 69621))))))) aNil))) (pE (eC (.int 2147483647)))))
def st_law_fill_10 : SF := (sRet (eOp fAdd (pE (eOp fDiv (pE (eCall fInt1 (aCons (pE (eOp fAdd (pE (eOp fAdd (pE (eOp fMul (pV 1) (pV 1))) (pE (eOp fMul (pE (eOp fIx (pV 0) (pE (eC (.int 3))))) (pE (eC (.int 7919))))))) (pE (eC (.int 11))))) aNil))) (pE (eC (.int 64))))) (pE (eC (.int 36028797018963968)))))
def code_law_fill : SF := (sSeq st_law_fill_5 (sSeq st_law_fill_6 (sSeq st_law_fill_7 (sSeq st_law_fill_8 (sSeq st_law_fill_9 (sSeq st_law_fill_10 sNil))))))
def fn_law_fill : Fn := runF code_law_fill 2
def st_law_take_0 : SF := (sAsgG (eFn fn_law_fill (aCons (pV 0) aNil)) (gSub 0 (pE (eC (.int 2)))))
def bk_law_take_0 : SF := (sSeq st_law_take_0 sNil)
def st_law_take_1 : SF := (sIf (bE (eOp fLt (pE (eOp fIx (pV 0) (pE (eC (.int 2))))) (pV 1))) bk_law_take_0 sNil)
def st_law_take_2 : SF := (sAsg 2 (eOp fMod (pE (eCall fInt1 (aCons (pE (eOp fIx (pV 0) (pE (eC (.int 2))))) aNil))) (pV 1)))
def st_law_take_3 : SF := (sAsgG (eOp fDiv (pE (eOp fIx (pV 0) (pE (eC (.int 2))))) (pV 1)) (gSub 0 (pE (eC (.int 2)))))
def st_law_take_4 : SF := (sRetV 2)
def code_law_take : SF := (sSeq st_law_take_1 (sSeq st_law_take_2 (sSeq st_law_take_3 (sSeq st_law_take_4 sNil))))
def fn_law_take : Fn := runF code_law_take 3
def st_law_shuffled_0 : SF := (sExpr (eMutT "list" mAppend 3 (aCons (pE (eMutT "list" mPopAt 2 (aCons (pE (eFn fn_law_take (aCons (pV 0) (aCons (pE (eCall fLen (aCons (pV 2) aNil))) aNil)))) aNil))) aNil)))
def bk_law_shuffled_0 : SF := (sSeq st_law_shuffled_0 sNil)
def st_law_shuffled_1 : SF := (sAsg 2 (eCall fList (aCons (pV 1) aNil)))
def st_law_shuffled_2 : SF := (sAsg 3 (eLst aNil))
def st_law_shuffled_3 : SF := (sWhile fuel (bP (pV 2)) bk_law_shuffled_0)
def st_law_shuffled_4 : SF := (sRetV 3)
def code_law_shuffled : SF := (sSeq st_law_shuffled_1 (sSeq st_law_shuffled_2 (sSeq st_law_shuffled_3 (sSeq st_law_shuffled_4 sNil))))
def fn_law_shuffled : Fn := runF code_law_shuffled 4
def ce_law_word_0 : EF := (eOp fIx (pV 1) (pE (eFn fn_law_take (aCons (pV 0) (aCons (pE (eCall fLen (aCons (pV 1) aNil))) aNil)))))
def st_law_word_0 : SF := (sRet (eMeth D.isStr fJoin (pE (eC (.str []))) (aCons (pE (eLc [3] (iR rng1 (aCons (pE (eFn fn_law_take (aCons (pV 0) (aCons (pE (eOp fAdd (pV 2) (pE (eC (.int 1))))) aNil)))) aNil)) (gN 3) bTrue ce_law_word_0)) aNil)))
def code_law_word : SF := (sSeq st_law_word_0 sNil)
def fn_law_word : Fn := runF code_law_word 4

def cD (ns : List Int) (i p k : Int) : D := .lst [.lst (ns.map D.int), .int i, .int p, .int k, .int 20]
theorem atI_of_nat {α : Type} (xs : List α) (j : Nat) : atI xs (j : Int) = xs[j]? := by
  unfold atI ixN
  rw [if_pos (by omega)]
  by_cases h : (j : Int) < xs.length
  · rw [if_pos h]; simp
  · rw [if_neg h, List.getElem?_eq_none (by omega)]; rfl
theorem ixN_nat (n j : Nat) : ixN n (j : Int) = if j < n then some j else none := by
  unfold ixN
  rw [if_pos (by omega)]
  by_cases h : j < n
  · rw [if_pos h, if_pos (by omega)]; simp
  · rw [if_neg h, if_neg (by omega)]
@[simp] theorem atI_0 {α : Type} (xs : List α) : atI xs 0 = xs[0]? := atI_of_nat xs 0
@[simp] theorem ixN_0 (n : Nat) : ixN n 0 = if 0 < n then some 0 else none := ixN_nat n 0
@[simp] theorem atI_1 {α : Type} (xs : List α) : atI xs 1 = xs[1]? := atI_of_nat xs 1
@[simp] theorem ixN_1 (n : Nat) : ixN n 1 = if 1 < n then some 1 else none := ixN_nat n 1
@[simp] theorem atI_2 {α : Type} (xs : List α) : atI xs 2 = xs[2]? := atI_of_nat xs 2
@[simp] theorem ixN_2 (n : Nat) : ixN n 2 = if 2 < n then some 2 else none := ixN_nat n 2
@[simp] theorem atI_3 {α : Type} (xs : List α) : atI xs 3 = xs[3]? := atI_of_nat xs 3
@[simp] theorem ixN_3 (n : Nat) : ixN n 3 = if 3 < n then some 3 else none := ixN_nat n 3
@[simp] theorem atI_4 {α : Type} (xs : List α) : atI xs 4 = xs[4]? := atI_of_nat xs 4
@[simp] theorem ixN_4 (n : Nat) : ixN n 4 = if 4 < n then some 4 else none := ixN_nat n 4
@[simp] theorem atI_5 {α : Type} (xs : List α) : atI xs 5 = xs[5]? := atI_of_nat xs 5
@[simp] theorem ixN_5 (n : Nat) : ixN n 5 = if 5 < n then some 5 else none := ixN_nat n 5
@[simp] theorem atI_6 {α : Type} (xs : List α) : atI xs 6 = xs[6]? := atI_of_nat xs 6
@[simp] theorem ixN_6 (n : Nat) : ixN n 6 = if 6 < n then some 6 else none := ixN_nat n 6
@[simp] theorem atI_7 {α : Type} (xs : List α) : atI xs 7 = xs[7]? := atI_of_nat xs 7
@[simp] theorem ixN_7 (n : Nat) : ixN n 7 = if 7 < n then some 7 else none := ixN_nat n 7
@[simp] theorem atI_neg1 {α : Type} (xs : List α) : atI xs (-1) = xs.getLast? := by
  cases xs with
  | nil => rfl
  | cons x r =>
    unfold atI ixN
    rw [if_neg (by omega), if_pos (by simp; omega)]
    rw [List.getLast?_eq_getElem?]
    show (x :: r)[(-1 + ((x :: r).length : Int)).toNat]? = _
    congr 1
    simp
    omega
/-! ### one step after the other -/
theorem seq_nx {f g : SF} {env e1 : Ev} {X : Option (Fl × Ev)} (h : f env = some (.nx, e1)) (k : g e1 = X) : sSeq f g env = X := by rw [x_sSeq, h]; exact k
theorem seq_rt {f g : SF} {env e1 : Ev} {r : R} (h : f env = some (.rt r, e1)) : sSeq f g env = some (.rt r, e1) := by rw [x_sSeq, h]
theorem if_tt {t : BF} {f g : SF} {env e1 : Ev} {X : Option (Fl × Ev)} (h : t env = some (true, e1)) (k : f e1 = X) : sIf t f g env = X := by rw [x_sIf, h]; exact k
theorem if_ff {t : BF} {f g : SF} {env e1 : Ev} {X : Option (Fl × Ev)} (h : t env = some (false, e1)) (k : g e1 = X) : sIf t f g env = X := by rw [x_sIf, h]; exact k
theorem run_rt {f : SF} {n : Nat} {args as : List Arg} {e : Ev} {r : R} (h : f (env0 n args) = some (.rt r, e)) (o : outs args e = some as) : runF f n args = some (r, as) := by
  unfold runF
  rw [h]
  simp only [o]
theorem run_nx {f : SF} {n : Nat} {args as : List Arg} {e : Ev} (h : f (env0 n args) = some (.nx, e)) (o : outs args e = some as) : runF f n args = some (.im .non, as) := by
  unfold runF
  rw [h]
  simp only [o]
/-- the drawer's state -/
def CSt (d : D) : Prop := ∃ ns i p k, d = cD ns i p k ∧ 0 ≤ i ∧ i ≤ ((ns : List Int).length : Int) ∧ 0 ≤ p ∧ 0 ≤ k
theorem atI_map {α β : Type} (f : α → β) (xs : List α) (i : Int) : atI (xs.map f) i = (atI xs i).map f := by
  unfold atI
  rw [List.length_map]
  cases ixN xs.length i with
  | none => rfl
  | some j => simp
theorem atI_some {α : Type} (xs : List α) {i : Int} (h0 : 0 ≤ i) (h1 : i < xs.length) : ∃ x, atI xs i = some x := by
  obtain ⟨j, rfl⟩ := Int.eq_ofNat_of_zero_le h0
  have hj : j < xs.length := by omega
  exact ⟨xs[j], by rw [atI_of_nat, List.getElem?_eq_getElem hj]⟩
theorem fill_ok (ns : List Int) (i p k : Int) (h0 : 0 ≤ i) (h1 : i ≤ ns.length) (hk : 0 ≤ k) : ∃ n i' k', fn_law_fill [.bo (cD ns i p k)] = some (.im (.int n), [.bo (cD ns i' p k')]) ∧ 0 ≤ n ∧ 0 ≤ i' ∧ i' ≤ ns.length ∧ 0 ≤ k' := by
  -- the last rows
  have tail : ∀ (i m : Int), 0 ≤ i → i ≤ ns.length → ∃ n e, (sSeq st_law_fill_8 (sSeq st_law_fill_9 (sSeq st_law_fill_10 sNil))) [.bo (cD ns i p (k + 1)), .im (.int m)] = some (.rt (.im (.int n)), e) ∧ (∀ x : D, outs [.bo x] e = some [.bo (cD ns i p (k + 1))]) ∧ 0 ≤ n := by
    intro i m h0 h1
    have t2 : ∀ m : Int, ∃ n e, (sSeq st_law_fill_9 (sSeq st_law_fill_10 sNil)) [.bo (cD ns i p (k + 1)), .im (.int m)] = some (.rt (.im (.int n)), e) ∧ (∀ x : D, outs [.bo x] e = some [.bo (cD ns i p (k + 1))]) ∧ 0 ≤ n := by
      intro m
      have hb : ((m * 48271 + (k + 1) * 69621) % 2147483647).natAbs < 18446744073709551616 := by omega
      refine ⟨_, _, seq_nx (by simp [st_law_fill_9, cD]; exact rfl) (seq_rt (by simp [st_law_fill_10, cD, hb]; exact ⟨rfl, rfl⟩)), fun _ => rfl, ?_⟩
      have h2 : 0 ≤ (m * 48271 + (k + 1) * 69621) % 2147483647 := by omega
      have h3 := Int.mul_nonneg h2 h2
      omega
    cases hl : ns.getLast? with
    | none =>
      have hn : ns = [] := List.getLast?_eq_none_iff.mp hl
      obtain ⟨n, e, h2, h3⟩ := t2 m
      refine ⟨n, e, seq_nx ?_ h2, h3⟩
      refine if_ff (e1 := [.bo (cD ns i p (k + 1)), .im (.int m)]) ?_ rfl
      subst hn
      simp [cD]
    | some z =>
      have hn : ns.isEmpty = false := by
        cases ns with
        | nil => cases hl
        | cons _ _ => rfl
      by_cases hi : (ns.length : Int) ≤ i
      · obtain ⟨n, e, h2, h3⟩ := t2 (m + z % 1000003)
        refine ⟨n, e, seq_nx ?_ h2, h3⟩
        refine if_tt (e1 := [.bo (cD ns i p (k + 1)), .im (.int m)]) ?_ ?_
        · simp [cD, hn, hi]
        · simp [bk_law_fill_2, st_law_fill_4, cD, hl]
      · obtain ⟨n, e, h2, h3⟩ := t2 m
        refine ⟨n, e, seq_nx ?_ h2, h3⟩
        refine if_ff (e1 := [.bo (cD ns i p (k + 1)), .im (.int m)]) ?_ rfl
        simp [cD, hn, hi]
  have head : ∀ X, (sSeq st_law_fill_7 (sSeq st_law_fill_8 (sSeq st_law_fill_9 (sSeq st_law_fill_10 sNil)))) [.bo (cD ns i p (k + 1)), .im (.int ((k + 1) * 69621 + 12345))] = X → code_law_fill [.bo (cD ns i p k), .un] = X := fun X h =>
    seq_nx (by simp [st_law_fill_5, cD]; exact rfl) (seq_nx (by simp [st_law_fill_6, cD]) h)
  by_cases hi : i < ns.length
  · obtain ⟨v, hv⟩ := atI_some ns h0 hi
    have hv2 : atI (ns.map D.int) i = some (.int v) := by rw [atI_map, hv]; rfl
    have s1 : st_law_fill_1 [.bo (cD ns i p (k + 1)), .im (.int ((k + 1) * 69621 + 12345))] = some (.nx, [.bo (cD ns i p (k + 1)), .im (.int (if v < -1 - v then -1 - v else v))]) := by
      simp [st_law_fill_1, cD, hv2]
    have s2 : ∀ m : Int, st_law_fill_2 [.bo (cD ns i p (k + 1)), .im (.int m)] = some (.nx, [.bo (cD ns (i + 1) p (k + 1)), .im (.int m)]) := fun m => by
      simp [st_law_fill_2, cD]
    have c1 : ∀ m : Int, (bE (eOp fLt (pE (eOp fIx (pV 0) (pE (eC (.int 1))))) (pE (eCall fLen (aCons (pE (eOp fIx (pV 0) (pE (eC (.int 0))))) aNil))))) [.bo (cD ns i p (k + 1)), .im (.int m)] = some (true, [.bo (cD ns i p (k + 1)), .im (.int m)]) := fun m => by
      simp [cD, hi]
    by_cases hb : (1000000000000000000 : Int) ≤ (if v < -1 - v then -1 - v else v)
    · have s3 : st_law_fill_3 [.bo (cD ns (i + 1) p (k + 1)), .im (.int (if v < -1 - v then -1 - v else v))] = some (.rt (.im (.int (if v < -1 - v then -1 - v else v))), [.bo (cD ns (i + 1) p (k + 1)), .im (.int (if v < -1 - v then -1 - v else v))]) := by
        simp [st_law_fill_3, bk_law_fill_0, st_law_fill_0, hb]
      exact ⟨_, i + 1, k + 1, run_rt (head _ (seq_rt (if_tt (c1 _) (seq_nx s1 (seq_nx (s2 _) (seq_rt s3)))))) rfl, by omega, by omega, by omega, by omega⟩
    · have s3 : st_law_fill_3 [.bo (cD ns (i + 1) p (k + 1)), .im (.int (if v < -1 - v then -1 - v else v))] = some (.nx, [.bo (cD ns (i + 1) p (k + 1)), .im (.int (if v < -1 - v then -1 - v else v))]) := by
        simp [st_law_fill_3, bk_law_fill_0, st_law_fill_0, hb]
      obtain ⟨n, e, h2, h3, h4⟩ := tail (i + 1) (if v < -1 - v then -1 - v else v) (by omega) (by omega)
      exact ⟨n, i + 1, k + 1, run_rt (head _ (seq_nx (if_tt (c1 _) (seq_nx s1 (seq_nx (s2 _) (seq_nx s3 rfl)))) h2)) (h3 _), h4, by omega, by omega, by omega⟩
  · obtain ⟨n, e, h2, h3, h4⟩ := tail i ((k + 1) * 69621 + 12345) h0 h1
    refine ⟨n, i, k + 1, run_rt (head _ (seq_nx (if_ff (e1 := [.bo (cD ns i p (k + 1)), .im (.int ((k + 1) * 69621 + 12345))]) ?_ rfl) h2)) (h3 _), h4, by omega, by omega, by omega⟩
    simp [cD, hi]
theorem take_ok {c : D} (hc : CSt c) (m : Int) (h1 : 1 ≤ m) (h2 : m < 1073741824) : ∃ d c', fn_law_take [.bo c, .im (.int m)] = some (.im (.int d), [.bo c', .im (.int m)]) ∧ CSt c' ∧ 0 ≤ d ∧ d < m := by
  obtain ⟨ns, i, p, k, rfl, a1, a2, a3, a4⟩ := hc
  have hm : 0 < m := by omega
  have tail : ∀ (i p k : Int), 0 ≤ i → i ≤ ns.length → 0 ≤ p → 0 ≤ k → ∃ d c' e, (sSeq st_law_take_2 (sSeq st_law_take_3 (sSeq st_law_take_4 sNil))) [.bo (cD ns i p k), .im (.int m), .un] = some (.rt (.im (.int d)), e) ∧ (∀ x : D, outs [.bo x, .im (.int m)] e = some [.bo c', .im (.int m)]) ∧ CSt c' ∧ 0 ≤ d ∧ d < m := by
    intro i p k b1 b2 b3 b4
    refine ⟨p % m, cD ns i (p / m) k, _, seq_nx (by simp [st_law_take_2, cD, hm]; exact rfl) (seq_nx (by simp [st_law_take_3, cD, hm, h2]; exact rfl) (seq_rt (by simp [st_law_take_4]; exact rfl))), fun _ => rfl, ⟨ns, i, p / m, k, rfl, b1, b2, Int.ediv_nonneg b3 (by omega), b4⟩, Int.emod_nonneg _ (by omega), Int.emod_lt_of_pos _ hm⟩
  by_cases hp : p < m
  · obtain ⟨n, i', k', f1, f2, f3, f4, f5⟩ := fill_ok ns i p k a1 a2 a4
    obtain ⟨d, c', e, g1, g2, g3, g4, g5⟩ := tail i' n k' f3 f4 f2 f5
    refine ⟨d, c', run_rt (seq_nx (if_tt (e1 := [.bo (cD ns i p k), .im (.int m), .un]) ?_ (seq_nx ?_ rfl)) g1) (g2 _), g3, g4, g5⟩
    · simp [cD, hp]
    · simp [st_law_take_0, f1]
      simp [cD]
  · obtain ⟨d, c', e, g1, g2, g3, g4, g5⟩ := tail i p k a1 a2 a3 a4
    refine ⟨d, c', run_rt (seq_nx (if_ff (e1 := [.bo (cD ns i p k), .im (.int m), .un]) ?_ rfl) g1) (g2 _), g3, g4, g5⟩
    simp [cD, hp]
end MP
namespace MP
open PySem PySem.Spec PyProof.Rows L2
/-! ### slots put back -/
theorem len_blank : ∀ (is : List Nat) (env : Ev), (blank env is).length = env.length
  | [], _ => rfl
  | i :: is, env => by rw [blank, List.length_set, len_blank is]
theorem get_blank : ∀ (is : List Nat) (env : Ev) (j : Nat), (blank env is)[j]? = if j ∈ is then (if j < env.length then some .un else none) else env[j]?
  | [], env, j => by simp [blank]
  | i :: is, env, j => by
    rw [blank, List.getElem?_set, get_blank is env j, len_blank]
    by_cases h : i = j
    · subst h; simp
    · have : j ≠ i := fun q => h q.symm
      simp [h, this]
theorem len_back : ∀ (is : List Nat) (o n : Ev), (back o n is).length = n.length
  | [], _, _ => rfl
  | i :: is, o, n => by rw [back, List.length_set, len_back is]
theorem get_back : ∀ (is : List Nat) (o n : Ev) (j : Nat), o.length = n.length → (back o n is)[j]? = if j ∈ is then o[j]? else n[j]?
  | [], o, n, j, _ => by simp [back]
  | i :: is, o, n, j, h => by
    rw [back, List.getElem?_set, get_back is o n j h, len_back]
    by_cases e : i = j
    · subst e
      by_cases hl : i < n.length
      · simp [hl, List.getElem?_eq_getElem (by omega : i < o.length)]
      · simp [hl, List.getElem?_eq_none (by omega : o.length ≤ i)]
    · have : j ≠ i := fun q => e q.symm
      simp [e, this]
theorem back_blank {is : List Nat} {o n : Ev} (h : blank n is = blank o is) : back o n is = o := by
  have hl : o.length = n.length := by rw [← len_blank is o, ← len_blank is n, h]
  apply List.ext_getElem?
  intro j
  rw [get_back is o n j hl]
  split
  · rfl
  · rename_i hj
    have := congrArg (fun e : Ev => e[j]?) h
    simp only [get_blank, if_neg hj] at this
    exact this
/-! ### comprehensions -/
theorem lcF_ind {is : List Nat} {g : GF} {t : BF} {f : EF} (P : Nat → Ev → List D → Prop) : ∀ (ds : List D) (k : Nat) (env : Ev) (acc : List D), P k env acc →
    (∀ (j : Nat) (d : D) (env : Ev) (acc : List D), ds[j]? = some d → P (k + j) env acc → ∃ e1 e2 e3 r, g d (blank env is) = some e1 ∧ t e1 = some (true, e2) ∧ f e2 = some (r, e3) ∧ acc.length < SL ∧ P (k + j + 1) e3 (acc ++ [r.d])) →
    ∃ acc' env', lcF is g t f ds env acc = some (acc', env') ∧ P (k + ds.length) env' acc'
  | [], k, env, acc, h, _ => ⟨acc, env, rfl, h⟩
  | d :: ds, k, env, acc, h, st => by
    obtain ⟨e1, e2, e3, r, h1, h2, h3, h4, h5⟩ := st 0 d env acc rfl h
    obtain ⟨acc', env', q1, q2⟩ := lcF_ind P ds (k + 1) e3 (acc ++ [r.d]) h5 fun j d' env' acc' hj hp => by
      have := st (j + 1) d' env' acc' (by simpa using hj) (by rw [show k + (j + 1) = k + 1 + j by omega]; exact hp)
      rw [show k + (j + 1) + 1 = k + 1 + j + 1 by omega] at this
      exact this
    refine ⟨acc', env', ?_, by rw [List.length_cons, show k + (ds.length + 1) = k + 1 + ds.length by omega]; exact q2⟩
    rw [lcF, h1]
    simp only [h2, h3, if_pos h4]
    exact q1
theorem lcF_filter {is : List Nat} {g : GF} {t : BF} {f : EF} {B : Ev} (p : D → Bool) (φ : D → D) : ∀ (ds : List D) (env : Ev) (acc : List D), blank env is = B → acc.length + ds.length ≤ SL →
    (∀ d ∈ ds, ∃ e1 e2, g d B = some e1 ∧ t e1 = some (p d, e2) ∧ (p d = false → blank e2 is = B) ∧ (p d = true → ∃ r e3, f e2 = some (r, e3) ∧ r.d = φ d ∧ blank e3 is = B)) →
    ∃ env', lcF is g t f ds env acc = some (acc ++ (ds.filter p).map φ, env') ∧ blank env' is = B
  | [], env, acc, h, _, _ => ⟨env, by simp [lcF], h⟩
  | d :: ds, env, acc, h, hl, st => by
    obtain ⟨e1, e2, h1, h2, h3, h4⟩ := st d List.mem_cons_self
    rw [List.length_cons] at hl
    cases hp : p d with
    | false =>
      obtain ⟨env', q1, q2⟩ := lcF_filter p φ ds e2 acc (h3 hp) (by omega) fun d' hd => st d' (List.mem_cons_of_mem _ hd)
      refine ⟨env', ?_, q2⟩
      rw [lcF, h, h1]
      simp only [h2, hp, List.filter_cons, Bool.false_eq_true, if_false]
      exact q1
    | true =>
      obtain ⟨r, e3, h5, h6, h7⟩ := h4 hp
      obtain ⟨env', q1, q2⟩ := lcF_filter p φ ds e3 (acc ++ [φ d]) h7 (by rw [List.length_append, List.length_singleton]; omega) fun d' hd => st d' (List.mem_cons_of_mem _ hd)
      refine ⟨env', ?_, q2⟩
      rw [lcF, h, h1]
      simp only [h2, hp, h5, h6, if_pos (show acc.length < SL by omega), List.filter_cons, if_true]
      rw [q1]
      simp
theorem lc_filter {is : List Nat} {it : IF} {g : GF} {t : BF} {f : EF} {env e : Ev} {ds : List D} (p : D → Bool) (φ : D → D) (hi : it env = some (ds, e)) (hl : ds.length ≤ SL)
    (st : ∀ d ∈ ds, ∃ e1 e2, g d (blank (fzs e is) is) = some e1 ∧ t e1 = some (p d, e2) ∧ (p d = false → blank e2 is = blank (fzs e is) is) ∧ (p d = true → ∃ r e3, f e2 = some (r, e3) ∧ r.d = φ d ∧ blank e3 is = blank (fzs e is) is)) :
    eLc is it g t f env = some (.fr (.lst ((ds.filter p).map φ)), fzs e is) := by
  obtain ⟨env', q1, q2⟩ := lcF_filter p φ ds (fzs e is) [] rfl (by simpa using hl) st
  rw [x_eLc, hi]
  simp only [q1]
  rw [back_blank q2]
  rfl
theorem lc_map {is : List Nat} {it : IF} {g : GF} {f : EF} {env e : Ev} {ds : List D} (φ : D → D) (hi : it env = some (ds, e)) (hl : ds.length ≤ SL)
    (st : ∀ d ∈ ds, ∃ e1 r e3, g d (blank (fzs e is) is) = some e1 ∧ f e1 = some (r, e3) ∧ r.d = φ d ∧ blank e3 is = blank (fzs e is) is) :
    eLc is it g bTrue f env = some (.fr (.lst (ds.map φ)), fzs e is) := by
  have := lc_filter (t := bTrue) (f := f) (fun _ => true) φ hi hl fun d hd => by
    obtain ⟨e1, r, e3, h1, h2, h3, h4⟩ := st d hd
    exact ⟨e1, e1, h1, rfl, fun q => (by cases q), fun _ => ⟨r, e3, h2, h3, h4⟩⟩
  rw [this, List.filter_eq_self.mpr fun _ _ => rfl]
theorem dcF_map {is : List Nat} {g : GF} {f h : EF} {B : Ev} (κ : D → Ky) (φ : D → D) : ∀ (ds : List D) (env : Ev) (acc : List (Ky × D)), blank env is = B → acc.length + ds.length ≤ SL →
    (∀ d ∈ ds, ∃ e1 r e2 w e3, g d B = some e1 ∧ f e1 = some (r, e2) ∧ r.d.ky = some (κ d) ∧ h e2 = some (w, e3) ∧ w.d = φ d ∧ blank e3 is = B) →
    ∃ env', dcF is g bTrue f h ds env acc = some (ds.foldl (fun acc d => putD acc (κ d) (φ d)) acc, env') ∧ blank env' is = B
  | [], env, acc, h, _, _ => ⟨env, by simp [dcF], h⟩
  | d :: ds, env, acc, hb, hl, st => by
    obtain ⟨e1, r, e2, w, e3, h1, h2, h3, h4, h5, h6⟩ := st d List.mem_cons_self
    rw [List.length_cons] at hl
    have hp : (putD acc (κ d) (φ d)).length ≤ acc.length + 1 := by
      unfold putD
      split
      · rw [List.length_map]; omega
      · rw [List.length_append]; simp
    obtain ⟨env', q1, q2⟩ := dcF_map κ φ ds e3 (putD acc (κ d) (φ d)) h6 (by omega) fun d' hd => st d' (List.mem_cons_of_mem _ hd)
    refine ⟨env', ?_, q2⟩
    rw [dcF, hb, h1]
    simp only [bTrue, h2, h3, h4, h5, if_pos (show acc.length < SL by omega), List.foldl_cons]
    exact q1
theorem dc_map {is : List Nat} {it : IF} {g : GF} {f h : EF} {env e : Ev} {ds : List D} (κ : D → Ky) (φ : D → D) (hi : it env = some (ds, e)) (hl : ds.length ≤ SL)
    (st : ∀ d ∈ ds, ∃ e1 r e2 w e3, g d (blank (fzs e is) is) = some e1 ∧ f e1 = some (r, e2) ∧ r.d.ky = some (κ d) ∧ h e2 = some (w, e3) ∧ w.d = φ d ∧ blank e3 is = blank (fzs e is) is) :
    eDc is it g bTrue f h env = some (.fr (.dk (ds.foldl (fun acc d => putD acc (κ d) (φ d)) [])), fzs e is) := by
  obtain ⟨env', q1, q2⟩ := dcF_map κ φ ds (fzs e is) [] rfl (by simpa using hl) st
  rw [x_eDc, hi]
  simp only [q1]
  rw [back_blank q2]
theorem lc_of {is : List Nat} {it : IF} {g : GF} {t : BF} {f : EF} {env e e1 e2 e3 : Ev} {ds acc : List D} (hi : it env = some (ds, e)) (hz : fzs e is = e1) (h : lcF is g t f ds e1 [] = some (acc, e2)) (hb : back e1 e2 is = e3) : eLc is it g t f env = some (.fr (.lst acc), e3) := by
  subst hz
  subst hb
  rw [x_eLc, hi]
  simp only [h]
theorem dc_of {is : List Nat} {it : IF} {g : GF} {t : BF} {f h : EF} {env e e1 e2 e3 : Ev} {ds : List D} {acc : List (Ky × D)} (hi : it env = some (ds, e)) (hz : fzs e is = e1) (hh : dcF is g t f h ds e1 [] = some (acc, e2)) (hb : back e1 e2 is = e3) : eDc is it g t f h env = some (.fr (.dk acc), e3) := by
  subst hz
  subst hb
  rw [x_eDc, hi]
  simp only [hh]
/-! ### loops -/
/-- what a loop may end as -/
theorem forF_ind {g : GF} {f : SF} (P : Nat → Ev → Prop) (Z : Ev → Prop) (Q : R → Ev → Prop) : ∀ (ds : List D) (k : Nat) (env : Ev), P k env →
    (∀ (j : Nat) (d : D) (env : Ev), ds[j]? = some d → P (k + j) env → ∃ e1 fl e2, g d env = some e1 ∧ f e1 = some (fl, e2) ∧ (match fl with | .nx => P (k + j + 1) e2 | .ct => P (k + j + 1) e2 | .bk => Z e2 | .rt r => Q r e2)) →
    (∃ e, forF g f ds env = some (.nx, e) ∧ (P (k + ds.length) e ∨ Z e)) ∨ ∃ r e, forF g f ds env = some (.rt r, e) ∧ Q r e
  | [], k, env, h, _ => .inl ⟨env, rfl, .inl h⟩
  | d :: ds, k, env, h, st => by
    obtain ⟨e1, fl, e2, h1, h2, h3⟩ := st 0 d env rfl h
    have go : P (k + 1) e2 → (∃ e, forF g f ds e2 = some (.nx, e) ∧ (P (k + (d :: ds).length) e ∨ Z e)) ∨ ∃ r e, forF g f ds e2 = some (.rt r, e) ∧ Q r e := fun hp => by
      have := forF_ind P Z Q ds (k + 1) e2 hp fun j d' env' hj hp' => by
        have := st (j + 1) d' env' (by simpa using hj) (by rw [show k + (j + 1) = k + 1 + j by omega]; exact hp')
        rw [show k + (j + 1) + 1 = k + 1 + j + 1 by omega] at this
        exact this
      rw [List.length_cons, show k + (ds.length + 1) = k + 1 + ds.length by omega]
      exact this
    rw [forF, h1]
    simp only [h2]
    cases fl with
    | nx => exact go h3
    | ct => exact go h3
    | bk => exact .inl ⟨e2, rfl, .inr h3⟩
    | rt r => exact .inr ⟨r, e2, rfl, h3⟩
/-- a loop that runs through -/
theorem forF_all {g : GF} {f : SF} (P : Nat → Ev → Prop) (ds : List D) (env : Ev) (h : P 0 env)
    (st : ∀ (j : Nat) (d : D) (env : Ev), ds[j]? = some d → P j env → ∃ e1 e2, g d env = some e1 ∧ f e1 = some (.nx, e2) ∧ P (j + 1) e2) :
    ∃ e, forF g f ds env = some (.nx, e) ∧ P ds.length e := by
  rcases forF_ind P (fun _ => False) (fun _ _ => False) ds 0 env h fun j d env hj hp => by
    rw [Nat.zero_add] at hp
    obtain ⟨e1, e2, h1, h2, h3⟩ := st j d env hj hp
    exact ⟨e1, .nx, e2, h1, h2, by rw [Nat.zero_add]; exact h3⟩ with ⟨e, h1, h2⟩ | ⟨_, _, _, h2⟩
  · rcases h2 with h2 | h2
    · rw [Nat.zero_add] at h2; exact ⟨e, h1, h2⟩
    · exact h2.elim
  · exact h2.elim
/-- while, with a measure -/
theorem whileF_ind {t : BF} {f : SF} (P : Nat → Ev → Prop) (Z : Ev → Prop) (Q : R → Ev → Prop)
    (st : ∀ (k : Nat) (env : Ev), P k env → (∃ e, t env = some (false, e) ∧ Z e) ∨ ∃ e1 fl e2, t env = some (true, e1) ∧ f e1 = some (fl, e2) ∧ (match fl with | .nx => ∃ j, j < k ∧ P j e2 | .ct => ∃ j, j < k ∧ P j e2 | .bk => Z e2 | .rt r => Q r e2)) :
    ∀ (n k : Nat) (env : Ev), k < n → P k env → (∃ e, whileF t f n env = some (.nx, e) ∧ Z e) ∨ ∃ r e, whileF t f n env = some (.rt r, e) ∧ Q r e
  | 0, k, env, h, _ => absurd h (Nat.not_lt_zero _)
  | n + 1, k, env, h, hp => by
    rw [whileF]
    rcases st k env hp with ⟨e, h1, h2⟩ | ⟨e1, fl, e2, h1, h2, h3⟩
    · simp only [h1]
      exact .inl ⟨e, rfl, h2⟩
    · simp only [h1, h2]
      cases fl with
      | nx => obtain ⟨j, hj, hp2⟩ := h3; exact whileF_ind P Z Q st n j e2 (by omega) hp2
      | ct => obtain ⟨j, hj, hp2⟩ := h3; exact whileF_ind P Z Q st n j e2 (by omega) hp2
      | bk => exact .inl ⟨e2, rfl, h3⟩
      | rt r => exact .inr ⟨r, e2, rfl, h3⟩
/-! ### ranges -/
theorem rngL (lo : Int) (n : Nat) (c : Int) : (rng lo n c).length = n := by unfold rng; simp
theorem rngG {lo : Int} {n : Nat} {c : Int} {j : Nat} {d : D} (h : (rng lo n c)[j]? = some d) : j < n ∧ d = .int (lo + (j : Int) * c) := by
  unfold rng at h
  rw [List.getElem?_map] at h
  by_cases hj : j < n
  · rw [List.getElem?_range hj] at h
    cases h
    exact ⟨hj, rfl⟩
  · rw [List.getElem?_eq_none (by simp; omega)] at h; cases h
theorem mem_rng {lo : Int} {n : Nat} {c : Int} {d : D} (h : d ∈ rng lo n c) : ∃ j : Nat, j < n ∧ d = .int (lo + (j : Int) * c) := by
  obtain ⟨j, hj, e⟩ := List.getElem_of_mem h
  exact ⟨j, rngG (by rw [List.getElem?_eq_getElem hj, e])⟩
theorem small_of {i : Int} (h1 : -1000000000000 ≤ i) (h2 : i ≤ 1000000000000) : small i = true := by
  unfold small
  rw [decide_eq_true_eq]
  omega
theorem texts_map (xs : List Tx) : texts (xs.map D.str) = some xs := by
  induction xs with
  | nil => rfl
  | cons x r ih => rw [List.map_cons, texts, ih]
theorem intsL_map (xs : List Int) : intsL (xs.map D.int) = some xs := by
  induction xs with
  | nil => rfl
  | cons x r ih => rw [List.map_cons, intsL, ih]
theorem joinT_nil : ∀ xs : List Tx, joinT [] xs = xs.flatten
  | [] => rfl
  | [x] => by simp [joinT]
  | x :: y :: r => by rw [joinT, joinT_nil (y :: r)]; simp
end MP
namespace MP
open PySem PySem.Spec PyProof.Rows L2
/-! ### the drawer's other helpers -/
theorem start_ok (ns : List Int) (hl : ns.length ≤ 63) : ∃ c args', fn_law_start [.im (.fz (ns.map D.int))] = some (.fr c, args') ∧ CSt c := by
  have hc : cutT (ns.map D.int) none (some 63) = ns.map D.int := by
    unfold cutT
    rw [show HT.sIx (ns.map D.int).length 0 none = 0 from rfl, show HT.sIx (ns.map D.int).length (ns.map D.int).length (some 63) = min 63 (ns.map D.int).length from HT.sIx_nat _ _ 63]
    rw [List.drop_zero, List.take_of_length_le]
    rw [List.length_map]
    omega
  have lc : eLc [1] (iE (eSl (pV 0) oNo (oI (pE (eC (.int 63)))))) (gN 1) bTrue ce_law_start_0 [.im (.fz (ns.map D.int)), .un] = some (.fr (.lst ((ns.map D.int).map id)), [.im (.fz (ns.map D.int)), .un]) := by
    refine lc_map (e := [.im (.fz (ns.map D.int)), .un]) id ?_ (by rw [List.length_map]; unfold SL; omega) fun d hd => ?_
    · simp [hc]
    · obtain ⟨z, _, rfl⟩ := List.mem_map.mp hd
      exact ⟨[.im (.fz (ns.map D.int)), .im (.int z)], .im (.int z), _, by simp, by simp [ce_law_start_0]; exact rfl, rfl, by simp⟩
  rw [List.map_id] at lc
  refine ⟨cD ns 0 0 0, _, run_rt (seq_rt (e1 := [.im (.fz (ns.map D.int)), .un]) ?_) rfl, ⟨ns, 0, 0, 0, rfl, by omega, by omega, by omega, by omega⟩⟩
  simp [st_law_start_0, lc, cD, SL]
theorem word_ok {c : D} (hc : CSt c) (ls : Tx) (h0 : ls ≠ []) (h1 : ls.length ≤ 1000) (m : Nat) (h2 : m ≤ 1000) : ∃ w c', fn_law_word [.bo c, .im (.str ls), .im (.int m)] = some (.im (.str w), [.bo c', .im (.str ls), .im (.int m)]) ∧ CSt c' ∧ w.length ≤ m ∧ ∀ x ∈ w, x ∈ ls := by
  obtain ⟨n, c1, t1, hc1, n0, n1⟩ := take_ok hc ((m : Int) + 1) (by omega) (by omega)
  obtain ⟨k, rfl⟩ := Int.eq_ofNat_of_zero_le n0
  have hll : 0 < ls.length := List.length_pos_iff.mpr h0
  have hb : ls.length ≤ SL := by unfold SL; omega
  have lc : ∃ ws : List Tx, ∃ c2 : D, eLc [3] (iR rng1 (aCons (pE (eFn fn_law_take (aCons (pV 0) (aCons (pE (eOp fAdd (pV 2) (pE (eC (.int 1))))) aNil)))) aNil)) (gN 3) bTrue ce_law_word_0 [.bo c, .im (.str ls), .im (.int m), .un]
      = some (.fr (.lst (ws.map D.str)), [.bo c2, .im (.str ls), .im (.int m), .un]) ∧ CSt c2 ∧ ws.length = k ∧ ∀ w ∈ ws, ∃ x ∈ ls, w = [x] := by
    obtain ⟨acc, e, q1, ws, c2, x, q2, q3, q4, q5, q6⟩ := lcF_ind (is := [3]) (g := gN 3) (t := bTrue) (f := ce_law_word_0) (fun j env acc => ∃ (ws : List Tx) (c2 : D) (x : C), env = [.bo c2, .im (.str ls), .im (.int m), x] ∧ acc = ws.map D.str ∧ CSt c2 ∧ ws.length = j ∧ ∀ w ∈ ws, ∃ x ∈ ls, w = [x])
      (rng 0 k 1) 0 [.bo c1, .im (.str ls), .im (.int m), .un] [] ⟨[], c1, .un, rfl, rfl, hc1, rfl, fun _ h => by cases h⟩ fun j d env acc hj hp => by
        obtain ⟨ws, c2, x, rfl, rfl, p3, p4, p5⟩ := hp
        obtain ⟨hjk, rfl⟩ := rngG hj
        obtain ⟨i, c3, t3, hc3, i0, i1⟩ := take_ok p3 (ls.length : Int) (by omega) (by omega)
        obtain ⟨z, hz⟩ := atI_some ls i0 i1
        have hz2 : z ∈ ls := by
          obtain ⟨i', rfl⟩ := Int.eq_ofNat_of_zero_le i0
          rw [atI_of_nat] at hz
          exact List.mem_of_getElem? hz
        refine ⟨[.bo c2, .im (.str ls), .im (.int m), .im (.int (0 + (j : Int) * 1))], _, [.bo c3, .im (.str ls), .im (.int m), .im (.int (0 + (j : Int) * 1))], .im (.str [z]), by simp, rfl, ?_, ?_, ws ++ [[z]], c3, _, rfl, by simp, hc3, by simp [p4], fun w hw => ?_⟩
        · simp [ce_law_word_0, hb, t3, hz]
        · rw [List.length_map, p4]; unfold SL; omega
        · rcases List.mem_append.mp hw with hw | hw
          · exact p5 w hw
          · rw [List.mem_singleton.mp hw]; exact ⟨z, hz2, rfl⟩
    refine ⟨ws, c2, ?_, q4, by rw [q5, rngL]; omega, q6⟩
    have hs : small (k : Int) = true := small_of (by omega) (by omega)
    subst q2
    subst q3
    refine lc_of (e := [.bo c1, .im (.str ls), .im (.int m), .un]) ?_ rfl q1 ?_
    · simp [t1, hs]
    · rfl
  obtain ⟨ws, c2, lc, h3, h4, h5⟩ := lc
  have hw : ∀ x ∈ ws.flatten, x ∈ ls := fun x hx => by
    obtain ⟨w, hw, hx⟩ := List.mem_flatten.mp hx
    obtain ⟨y, hy, rfl⟩ := h5 w hw
    rw [List.mem_singleton.mp hx]
    exact hy
  have h6 : (ws.map List.length).sum = ws.length := by
    clear lc h4 hw
    induction ws with
    | nil => rfl
    | cons w r ih =>
      obtain ⟨y, hy, rfl⟩ := h5 w List.mem_cons_self
      rw [List.map_cons, List.sum_cons, ih fun w hw => h5 w (List.mem_cons_of_mem _ hw), List.length_cons]
      simp
      omega
  refine ⟨ws.flatten, c2, run_rt (seq_rt (e1 := [.bo c2, .im (.str ls), .im (.int m), .un]) ?_) rfl, h3, by rw [List.length_flatten, h6]; omega, hw⟩
  have hx : (ws.map List.length).sum ≤ SL := by rw [h6]; unfold SL; omega
  simp [st_law_word_0, lc, texts_map, joinT_nil, hx]
end MP
namespace MP
open PySem PySem.Spec PyProof.Rows L2
/-! ### repr of tame data -/
mutual
/-- signs in repr at most -/
def D.wt : D → Nat
  | .str x => 10 * x.length + 2
  | .tup ds => D.wts ds + 3
  | .lst ds => D.wts ds + 3
  | _ => 21
def D.wts : List D → Nat
  | [] => 0
  | d :: ds => d.wt + 2 + D.wts ds
end
mutual
/-- plain, with ints of at most 18 digits -/
def D.tame : D → Bool
  | .non => true
  | .bl _ => true
  | .int i => decide (i.natAbs < 1000000000000000000)
  | .str x => x.all (· < 1114112)
  | .tup ds => D.tames ds
  | .lst ds => D.tames ds
  | _ => false
def D.tames : List D → Bool
  | [] => true
  | d :: ds => d.tame && D.tames ds
end
mutual
theorem tame_plain : ∀ {d : D}, d.tame = true → d.plain = true
  | .non, _ => rfl
  | .bl _, _ => rfl
  | .int _, _ => rfl
  | .str x, h => h
  | .tup ds, h => tames_plains (ds := ds) h
  | .lst ds, h => tames_plains (ds := ds) h
  | .dk _, h => nomatch h
  | .dt _, h => nomatch h
  | .st _, h => nomatch h
  | .fz _, h => nomatch h
  | .ty _, h => nomatch h
  | .rf _, h => nomatch h
theorem tames_plains : ∀ {ds : List D}, D.tames ds = true → D.plains ds = true
  | [], _ => rfl
  | d :: ds, h => by
    rw [D.tames, Bool.and_eq_true] at h
    rw [D.plains, tame_plain h.1, tames_plains h.2]; rfl
end
theorem log2_small {n : Nat} (h : n < 1000000000000000000) : n.log2 < 1920 := by
  by_cases h0 : n = 0
  · subst h0; decide
  · rw [Nat.log2_lt h0]
    exact Nat.lt_of_lt_of_le (m := 2 ^ 60) (by omega) (Nat.pow_le_pow_right (by omega) (by omega))
mutual
theorem tame_show : ∀ {d : D}, d.tame = true → d.py.showable = true
  | .non, _ => rfl
  | .bl _, _ => rfl
  | .int i, h => by
    rw [D.tame, decide_eq_true_eq] at h
    rw [D.py, PyData.showable, decide_eq_true_eq]
    exact log2_small h
  | .str x, h => rfl
  | .tup ds, h => tames_show (ds := ds) h
  | .lst ds, h => tames_show (ds := ds) h
  | .dk _, h => nomatch h
  | .dt _, h => nomatch h
  | .st _, h => nomatch h
  | .fz _, h => nomatch h
  | .ty _, h => nomatch h
  | .rf _, h => nomatch h
theorem tames_show : ∀ {ds : List D}, D.tames ds = true → PyData.showableAll (D.pys ds) = true
  | [], _ => rfl
  | d :: ds, h => by
    rw [D.tames, Bool.and_eq_true] at h
    rw [D.pys, PyData.showableAll, tame_show h.1, tames_show h.2]; rfl
end
theorem textFrom_le : ∀ (ts : List Str) (k : Nat) (acc : Str), (textFrom k acc ts).length ≤ acc.length + piled ts
  | [], k, acc => by show acc.length ≤ _; omega
  | t :: r, k, acc => by
    have e : (acc ++ (if k > 0 then ", " else "" : String) ++ t).length = acc.length + (if k > 0 then 2 else 0) + t.length := by
      rw [strLen_append, strLen_append]
      split <;> rfl
    have ih := textFrom_le r (k + 1) (acc ++ (if k > 0 then ", " else "" : String) ++ t)
    rw [e] at ih
    rw [piled_cons]
    show (textFrom (k + 1) _ r).length ≤ _
    have : (if k > 0 then 2 else 0 : Nat) ≤ 2 := by split <;> omega
    omega
theorem listText_le (ts : List Str) : (listText ts).length ≤ piled ts + 2 := by
  unfold listText
  rw [strLen_append]
  have := textFrom_le ts 0 "["
  have e1 : (("[" : String) : Str).length = 1 := rfl
  have e2 : (("]" : String) : Str).length = 1 := rfl
  omega
theorem tupleText_le (ts : List Str) : (tupleText ts).length ≤ piled ts + 3 := by
  unfold tupleText
  rw [strLen_append, strLen_append]
  have e1 : ((("(" : String) : Str)).length = 1 := rfl
  have e3 : (((if ts.length == 1 then ",)" else ")" : String) : Str)).length ≤ 2 := by split <;> decide
  rw [e1]
  by_cases h : ts = []
  · subst h
    have : (Str.join ", " ([] : List Str)).length = 0 := rfl
    omega
  · have := join_length_add ts h
    omega
mutual
theorem shown_le : ∀ {d : D}, d.tame = true → d.py.shown.length ≤ d.wt
  | .non, _ => by show ((("None" : String) : Str)).length ≤ 21; decide
  | .bl b, _ => by cases b <;> decide
  | .int i, h => by
    rw [D.tame, decide_eq_true_eq] at h
    show (Str.ofString (toString i)).length ≤ 21
    have := int_text_length_le10 (a := i) (k := 18) (by omega) (by omega)
    have e : (Str.ofString (toString i)).length = (toString i).length := PySem.ofString_length _
    omega
  | .str x, h => by
    rw [D.tame, List.all_eq_true] at h
    have := PySem.StrLaws.reprText_len (S x) fun c hc => by
      rw [S_cps] at hc
      have := h c hc
      simp at this
      omega
    rw [S_length] at this
    exact this
  | .tup ds, h => by
    have := showns_le (ds := ds) h
    exact Nat.le_trans (tupleText_le _) (Nat.add_le_add_right this 3)
  | .lst ds, h => by
    have := showns_le (ds := ds) h
    have h2 := listText_le (PyData.shownAll (D.pys ds))
    show (listText (PyData.shownAll (D.pys ds))).length ≤ D.wts ds + 3
    omega
  | .dk _, h => nomatch h
  | .dt _, h => nomatch h
  | .st _, h => nomatch h
  | .fz _, h => nomatch h
  | .ty _, h => nomatch h
  | .rf _, h => nomatch h
theorem showns_le : ∀ {ds : List D}, D.tames ds = true → piled (PyData.shownAll (D.pys ds)) ≤ D.wts ds
  | [], _ => Nat.le_refl _
  | d :: ds, h => by
    rw [D.tames, Bool.and_eq_true] at h
    rw [D.pys, PyData.shownAll, piled_cons, D.wts]
    have := shown_le h.1
    have := showns_le h.2
    omega
end
/-- the text that repr gives -/
def rp (d : D) : Tx := d.py.shown.cps.toList
theorem okR_of {d : D} (h : d.tame = true) (hd : d.dep ≤ 100) (hw : d.wt ≤ SL) : d.okR = true := by
  unfold D.okR
  rw [tame_plain h, tame_show h, decide_eq_true hd, decide_eq_true (Nat.le_trans (shown_le h) hw)]; rfl
theorem repr_ok {d : D} (h : d.tame = true) (hd : d.dep ≤ 100) (hw : d.wt ≤ SL) : fRepr [d] = some (.im (.str (rp d))) := by
  unfold fRepr
  simp only [okR_of h hd hw, if_true]
  rfl
@[simp] theorem eq_txt (a b : Tx) : eqD (.str a) (.str b) = some (a == b) := id rfl
@[simp] theorem eq_int (a b : Int) : eqD (.int a) (.int b) = some (a == b) := id rfl
@[simp] theorem eq_bl (a b : Bool) : eqD (.bl a) (.bl b) = some (a == b) := id rfl
theorem eqD_plain {x y : D} (h : scalD x y = none) (hx : x.okE = true) (hy : y.okE = true) : eqD x y = some (eqP x y) := by
  unfold eqD
  rw [h, hx, hy]
  rfl
mutual
theorem eqP_refl : ∀ {d : D}, d.plain = true → eqP d d = true
  | .non, _ => rfl
  | .bl b, _ => by simp [eqP]
  | .int b, _ => by simp [eqP]
  | .str b, _ => by simp [eqP]
  | .tup ds, h => eqPs_refl (ds := ds) h
  | .lst ds, h => eqPs_refl (ds := ds) h
  | .dk _, h => nomatch h
  | .dt _, h => nomatch h
  | .st _, h => nomatch h
  | .fz _, h => nomatch h
  | .ty _, h => nomatch h
  | .rf _, h => nomatch h
theorem eqPs_refl : ∀ {ds : List D}, D.plains ds = true → eqPs ds ds = true
  | [], _ => rfl
  | d :: ds, h => by
    rw [D.plains, Bool.and_eq_true] at h
    rw [eqPs, eqP_refl h.1, eqPs_refl h.2]; rfl
end
theorem wts_texts (xs : List Tx) (n : Nat) (h : ∀ x ∈ xs, x.length ≤ n) : D.wts (xs.map D.str) ≤ xs.length * (10 * n + 4) := by
  induction xs with
  | nil => simp [D.wts]
  | cons x r ih =>
    rw [List.map_cons, D.wts, D.wt, List.length_cons, Nat.add_mul, Nat.one_mul]
    have := ih fun y hy => h y (List.mem_cons_of_mem _ hy)
    have := h x List.mem_cons_self
    omega
theorem wts_ints (xs : List Int) : D.wts (xs.map D.int) = xs.length * 23 := by
  induction xs with
  | nil => rfl
  | cons x r ih =>
    rw [List.map_cons, D.wts, ih, List.length_cons]
    show 21 + 2 + r.length * 23 = _
    omega
theorem tames_texts (xs : List Tx) (h : ∀ x ∈ xs, ∀ c ∈ x, c < 1114112) : D.tames (xs.map D.str) = true := by
  induction xs with
  | nil => rfl
  | cons x r ih =>
    rw [List.map_cons, D.tames, ih fun y hy => h y (List.mem_cons_of_mem _ hy), D.tame, Bool.and_true, List.all_eq_true]
    intro c hc
    simpa using h x List.mem_cons_self c hc
theorem tames_ints (xs : List Int) (h : ∀ x ∈ xs, x.natAbs < 1000000000000000000) : D.tames (xs.map D.int) = true := by
  induction xs with
  | nil => rfl
  | cons x r ih =>
    rw [List.map_cons, D.tames, ih fun y hy => h y (List.mem_cons_of_mem _ hy), D.tame, Bool.and_true, decide_eq_true (h x List.mem_cons_self)]
theorem deps_flat {α : Type} (f : α → D) (hf : ∀ x, (f x).dep = 0) (xs : List α) : D.deps (xs.map f) = 0 := by
  induction xs with
  | nil => rfl
  | cons x r ih => rw [List.map_cons, D.deps, ih, hf]; rfl
end MP
namespace MP
open PySem PySem.Spec PyProof.Rows L2
/-! ### pieces of words -/
/-- the pieces of n letters, by their places -/
def pcs (u : Tx) (n : Nat) : List Tx := (List.range (u.length + 1 - n)).map fun i => (u.drop i).take n
theorem mem_pcs {u x : Tx} {n : Nat} : x ∈ pcs u n ↔ ∃ i, i + n ≤ u.length ∧ x = (u.drop i).take n := by
  unfold pcs
  rw [List.mem_map]
  constructor
  · rintro ⟨i, hi, rfl⟩
    exact ⟨i, by have := List.mem_range.mp hi; omega, rfl⟩
  · rintro ⟨i, hi, rfl⟩
    exact ⟨i, List.mem_range.mpr (by omega), rfl⟩
theorem pcs_len {u x : Tx} {n : Nat} (h : x ∈ pcs u n) : x.length = n := by
  obtain ⟨i, hi, rfl⟩ := mem_pcs.mp h
  rw [List.length_take, List.length_drop]
  omega
theorem pcs_le {u x : Tx} {n : Nat} (h : x ∈ pcs u n) : n ≤ u.length := by
  obtain ⟨i, hi, rfl⟩ := mem_pcs.mp h
  omega
theorem mem_pcs_iff {u x : Tx} {n : Nat} : x ∈ pcs u n ↔ x.length = n ∧ ∃ p s, u = p ++ x ++ s := by
  constructor
  · intro h
    refine ⟨pcs_len h, ?_⟩
    obtain ⟨i, hi, rfl⟩ := mem_pcs.mp h
    refine ⟨u.take i, (u.drop i).drop n, ?_⟩
    rw [List.append_assoc, List.take_append_drop, List.take_append_drop]
  · rintro ⟨rfl, p, s, rfl⟩
    refine mem_pcs.mpr ⟨p.length, by simp, ?_⟩
    simp
theorem pcs_length (u : Tx) (n : Nat) : (pcs u n).length = u.length + 1 - n := by unfold pcs; simp
theorem subIn_pcs {u x : Tx} : subIn x u = true ↔ x ∈ pcs u x.length := by
  rw [subIn_iff, mem_pcs]
  constructor
  · rintro ⟨i, h1, h2⟩
    exact ⟨i, h1, h2.symm⟩
  · rintro ⟨i, h1, h2⟩
    exact ⟨i, h1, h2.symm⟩
theorem cut_pc (u : Tx) (i n : Nat) (h : i + n ≤ u.length) : cutT u (some (i : Int)) (some ((i : Int) + (n : Int))) = (u.drop i).take n := by
  unfold cutT
  rw [HT.sIx_nat, show ((i : Int) + (n : Int)) = ((i + n : Nat) : Int) by omega, HT.sIx_nat, Nat.min_eq_left (a := i + n) h, Nat.min_eq_left (a := i) (by omega)]
  congr 1
  omega
/-! ### first occurrences -/
def dedup (l : List Tx) : List Tx := l.foldl (fun acc x => if x ∈ acc then acc else acc ++ [x]) []
theorem dedup_go (l : List Tx) : ∀ acc : List Tx, acc.Nodup → (l.foldl (fun acc x => if x ∈ acc then acc else acc ++ [x]) acc).Nodup ∧ ∀ y, y ∈ l.foldl (fun acc x => if x ∈ acc then acc else acc ++ [x]) acc ↔ y ∈ acc ∨ y ∈ l := by
  induction l with
  | nil => intro acc h; exact ⟨h, fun y => by simp⟩
  | cons x r ih =>
    intro acc h
    rw [List.foldl_cons]
    by_cases hx : x ∈ acc
    · rw [if_pos hx]
      obtain ⟨h1, h2⟩ := ih acc h
      refine ⟨h1, fun y => ?_⟩
      rw [h2, List.mem_cons]
      exact ⟨fun q => q.elim .inl fun q => .inr (.inr q), fun q => q.elim .inl fun q => q.elim (fun e => .inl (e ▸ hx)) .inr⟩
    · rw [if_neg hx]
      obtain ⟨h1, h2⟩ := ih (acc ++ [x]) (by
        rw [List.nodup_append]
        refine ⟨h, by simp, ?_⟩
        intro a ha b hb e
        rw [List.mem_singleton] at hb
        subst hb
        subst e
        exact hx ha)
      refine ⟨h1, fun y => ?_⟩
      rw [h2, List.mem_append, List.mem_singleton, List.mem_cons, or_assoc]
theorem nodup_dedup (l : List Tx) : (dedup l).Nodup := (dedup_go l [] List.nodup_nil).1
theorem mem_dedup {l : List Tx} {x : Tx} : x ∈ dedup l ↔ x ∈ l := by
  have := (dedup_go l [] List.nodup_nil).2 x
  unfold dedup
  rw [this]
  simp
theorem dedup_nodup_go : ∀ (l acc : List Tx), (acc ++ l).Nodup → l.foldl (fun acc x => if x ∈ acc then acc else acc ++ [x]) acc = acc ++ l
  | [], acc, _ => by simp
  | x :: r, acc, h => by
    have hx : x ∉ acc := by
      rw [List.nodup_append] at h
      intro q
      exact h.2.2 x q x List.mem_cons_self rfl
    rw [List.foldl_cons, if_neg hx, dedup_nodup_go r (acc ++ [x]) (by simpa using h)]
    simp
theorem dedup_nodup {l : List Tx} (h : l.Nodup) : dedup l = l := by
  unfold dedup
  rw [dedup_nodup_go l [] (by simpa using h)]
  rfl
theorem len_le_of_mem : ∀ {l m : List Tx}, l.Nodup → (∀ x ∈ l, x ∈ m) → l.length ≤ m.length
  | [], m, _, _ => Nat.zero_le _
  | x :: l, m, h, hs => by
    rw [List.nodup_cons] at h
    have hx := hs x List.mem_cons_self
    have := len_le_of_mem (l := l) (m := m.erase x) h.2 fun y hy => by
      have hne : y ≠ x := fun e => h.1 (e ▸ hy)
      exact (List.mem_erase_of_ne hne).mpr (hs y (List.mem_cons_of_mem _ hy))
    rw [List.length_erase_of_mem hx] at this
    have hp : 0 < m.length := List.length_pos_of_mem hx
    rw [List.length_cons]
    omega
theorem dedup_len (l : List Tx) : (dedup l).length ≤ l.length := len_le_of_mem (nodup_dedup l) fun x h => mem_dedup.mp h
theorem nub_len (l : List Tx) : (nubT l).length ≤ l.length := len_le_of_mem (nodup_nubT l) fun x h => mem_nubT.mp h
theorem setT_mem {l : List Tx} {x : Tx} : x ∈ setT l ↔ x ∈ l := by
  unfold setT
  rw [(sortT_perm _).mem_iff, mem_nubT]
theorem setT_nodup (l : List Tx) : (setT l).Nodup := by
  unfold setT
  exact (sortT_perm _).nodup_iff.mpr (nodup_nubT l)
theorem setT_sorted (l : List Tx) : (setT l).Pairwise fun a b => ¬ b < a := sortT_sorted _
theorem setT_len (l : List Tx) : (setT l).length ≤ l.length := by
  unfold setT
  rw [(sortT_perm _).length_eq]
  exact nub_len l
theorem sort_dedup (l : List Tx) : sortT (dedup l) = setT l := by
  refine sorted_unique ?_ (sortT_sorted _) (setT_sorted _)
  refine (sortT_perm _).trans ?_
  refine (List.perm_ext_iff_of_nodup (nodup_dedup l) (setT_nodup l)).mpr fun x => ?_
  rw [mem_dedup, setT_mem]
theorem dedup_length (l : List Tx) : (dedup l).length = (setT l).length := by
  rw [← sort_dedup, (sortT_perm _).length_eq]
/-! ### dicts as sets of texts -/
def setD (ys : List Tx) : List (Ky × D) := ys.map fun x => (Sum.inr x, D.bl true)
theorem any_setD (ys : List Tx) (x : Tx) : ((setD ys).any fun kv => decide (kv.1 = Sum.inr x)) = decide (x ∈ ys) := by
  unfold setD
  induction ys with
  | nil => rfl
  | cons y r ih =>
    rw [List.map_cons, List.any_cons, ih]
    by_cases h : y = x
    · subst h; simp
    · have h1 : ¬ ((Sum.inr y : Ky) = Sum.inr x) := fun q => h (Sum.inr.inj q)
      have h2 : ¬ x = y := fun q => h q.symm
      simp [h1, h2]
theorem putD_setD (ys : List Tx) (x : Tx) : putD (setD ys) (.inr x) (.bl true) = setD (if x ∈ ys then ys else ys ++ [x]) := by
  unfold putD
  rw [any_setD]
  by_cases h : x ∈ ys
  · rw [if_pos (decide_eq_true h), if_pos h]
    unfold setD
    rw [List.map_map]
    refine List.map_congr_left fun y hy => ?_
    simp only [Function.comp]
    split <;> rfl
  · rw [if_neg (by simp [h]), if_neg h]
    unfold setD
    rw [List.map_append]
    rfl
def txK (d : D) : Ky := match d with
  | .str x => .inr x
  | _ => .inl 0
theorem foldl_setD (l : List Tx) : ∀ acc : List Tx, (l.map D.str).foldl (fun acc d => putD acc (txK d) (.bl true)) (setD acc) = setD (l.foldl (fun acc x => if x ∈ acc then acc else acc ++ [x]) acc) := by
  induction l with
  | nil => intro acc; rfl
  | cons x r ih =>
    intro acc
    rw [List.map_cons, List.foldl_cons, List.foldl_cons]
    show List.foldl _ (putD (setD acc) (Sum.inr x) (.bl true)) _ = _
    rw [putD_setD]
    exact ih _
theorem lkD_setD (ys : List Tx) (x : Tx) : (lkD (setD ys) (.inr x)).isSome = decide (x ∈ ys) := by
  unfold lkD
  rw [Option.isSome_map, ← any_setD ys x, Bool.eq_iff_iff, List.find?_isSome, List.any_eq_true]
theorem keysD_setD (ys : List Tx) : keysD (setD ys) = ys.map D.str := by
  unfold keysD setD
  rw [List.map_map]
  rfl
theorem keyTexts_setD (ys : List Tx) : keyTexts (setD ys) = some ys := by
  unfold setD
  induction ys with
  | nil => rfl
  | cons y r ih => rw [List.map_cons, keyTexts, ih]
/-! ### counting one letter -/
theorem occ_one (u : Tx) (c : Nat) : ∀ (l acc : List Nat) (free : Nat), l.Pairwise (· < ·) → (∀ i ∈ l, free ≤ i) → acc.length + l.length ≤ u.length + 1 →
    (∀ i ∈ l, i ≤ u.length) → (occL u [c] u.length (u.length + 1) l acc free).length = acc.length + (l.filter fun i => u[i]? == some c).length
  | [], acc, free, _, _, _, _ => by simp [occL]
  | i :: l, acc, free, hp, hf, hl, hi => by
    rw [List.pairwise_cons] at hp
    rw [List.length_cons] at hl
    have hfi := hf i List.mem_cons_self
    have hs : (u.drop i).take 1 = [c] ↔ u[i]? = some c := by
      cases hq : u.drop i with
      | nil =>
        have := List.drop_eq_nil_iff.mp hq
        rw [List.getElem?_eq_none this]
        simp
      | cons z r =>
        have : u[i]? = some z := by
          have := congrArg (fun l => l[0]?) hq
          simpa using this
        rw [this]
        simp
    unfold occL
    by_cases h : u[i]? = some c
    · have hlt : i < u.length := by
        rcases Nat.lt_or_ge i u.length with q | q
        · exact q
        · rw [List.getElem?_eq_none q] at h; cases h
      rw [if_pos ⟨by omega, hfi, by simp; omega, hs.mpr h⟩]
      rw [occ_one u c l (acc ++ [i]) (i + [c].length) hp.2 (fun j hj => by have := hp.1 j hj; simp; omega) (by simp; omega) fun j hj => hi j (List.mem_cons_of_mem _ hj)]
      simp [List.filter_cons, h]
      omega
    · rw [if_neg fun q => h (hs.mp q.2.2.2)]
      rw [occ_one u c l acc free hp.2 (fun j hj => hf j (List.mem_cons_of_mem _ hj)) (by omega) fun j hj => hi j (List.mem_cons_of_mem _ hj)]
      have : (u[i]? == some c) = false := by simpa using h
      rw [List.filter_cons, this]
      simp
theorem filter_range_count (c : Nat) : ∀ u : Tx, ((List.range (u.length + 1)).filter fun i => u[i]? == some c).length = u.count c
  | [] => by simp [List.range_succ]
  | x :: r => by
    rw [List.range_succ_eq_map, List.filter_cons, List.filter_map, List.length_cons]
    have ih := filter_range_count c r
    have e : ((fun i => (x :: r)[i]? == some c) ∘ Nat.succ) = fun i => r[i]? == some c := by funext i; simp
    rw [e]
    by_cases h : x = c
    · subst h; simp [ih]
    · have : ((x :: r)[0]? == some c) = false := by simpa using h
      rw [this]
      simp [List.count_cons, ih, h]
theorem cnt_one (c : Nat) (u : Tx) : cntIn [c] u = u.count c := by
  unfold cntIn
  rw [← List.range_eq_range', occ_one u c _ [] 0 List.pairwise_lt_range (fun _ _ => Nat.zero_le _) (by simp) fun i hi => by have := List.mem_range.mp hi; omega]
  rw [filter_range_count]
  simp
end MP
namespace MP
open PySem PySem.Spec PyProof.Rows L2
/-! ### one road or the other -/
def eAlt (f g : EF) : EF := fun env => match f env with
  | some r => some r
  | none => g env
theorem q_alt {X : Cx} {e : Expr} {f g : EF} (hf : QE X e f) (hg : QE X e g) : QE X e (eAlt f g) := ⟨fun pins s σ H Q I q => by
  obtain ⟨b, F, env, r, env', gd, h, k⟩ := q
  unfold eAlt at h
  split at h
  · rename_i r1 h1
    cases h
    exact hf.run pins s σ H Q I ⟨b, F, env, r, env', gd, h1, k⟩
  · exact hg.run pins s σ H Q I ⟨b, F, env, r, env', gd, h, k⟩⟩
def fAlt (f g : D → D → Option R) : D → D → Option R := fun x y => match f x y with
  | some r => some r
  | none => g x y
theorem ok_alt {K : PySem.W.Frag} {r r' : R2} {f g : D → D → Option R} (h : OpOk K r f) (h' : OpOk K r' g) : OpOk K (fun x y H Q => r x y H Q ∨ r' x y H Q) (fAlt f g) := fun F H x y dx dy res Q ag hx hy e k => by
  unfold fAlt at e
  split at e
  · rename_i r1 h1
    cases e
    exact .inl (h F H x y dx dy res Q ag hx hy h1 k)
  · exact .inr (h' F H x y dx dy res Q ag hx hy e k)
def fAltC (f g : List D → Option R) : List D → Option R := fun x => match f x with
  | some r => some r
  | none => g x
theorem ok_altC {K : PySem.W.Frag} {r r' : List V → Hp → VK → Prop} {f g : List D → Option R} (h : CallOk K r f) (h' : CallOk K r' g) : CallOk K (fun x H Q => r x H Q ∨ r' x H Q) (fAltC f g) := fun F H x dx res Q ag hx e k => by
  unfold fAltC at e
  split at e
  · rename_i r1 h1
    cases e
    exact .inl (h F H x dx res Q ag hx h1 k)
  · exact .inr (h' F H x dx res Q ag hx e k)
section
variable {X : Cx}
/-! ### text times number -/
def repT (x : Tx) (n : Nat) : Tx := (List.replicate n x).flatten
theorem foldl_rep (x : Tx) : ∀ (n : Nat) (acc : Array Nat), (List.replicate n (S x).cps).foldl (· ++ ·) acc = ⟨acc.toList ++ repT x n⟩
  | 0, acc => by simp [repT]
  | n + 1, acc => by
    rw [List.replicate_succ, List.foldl_cons, foldl_rep x n]
    simp [repT, List.replicate_succ, S]
theorem repT_length (x : Tx) (n : Nat) : (repT x n).length = n * x.length := by
  unfold repT
  rw [List.length_flatten, List.map_replicate, List.sum_replicate_nat]
def rMulS : R2 := fun x y H Q => ∃ (a : Tx) (n : Int), x = .str (S a) ∧ y = .int n ∧ -1000000 ≤ n ∧ n ≤ 1000000 ∧ a.length * n.toNat ≤ 16777216 ∧ a.length ≤ 16777216 ∧ Q (.str (S (repT a n.toNat))) H
theorem op_mulS : OpR X (binaryOp .Mult) rMulS := by
  intro pins s σ H x y v u Q I rx ry h
  obtain ⟨a, n, rfl, rfl, n1, n2, hl, hl2, q⟩ := h
  obtain ⟨t, rfl⟩ := rx
  obtain ⟨t2, rfl⟩ := ry
  refine P.mul_str ?_ (fun h1 h2 => ?_) (fun h1 h2 => ?_) ?_
  · have a1 : ¬ n < -(2 ^ 63 : Int) := by omega
    have a2 : ¬ n ≥ 2 ^ 63 := by omega
    rw [decide_eq_false a1, decide_eq_false a2]; rfl
  · rw [S_length]
    have : (9223372036854775807 : Int) / 1000000 ≤ (2 ^ 63 - 1) / n := by
      rw [Int.le_ediv_iff_mul_le (by omega)]
      have := Int.mul_le_mul_of_nonneg_left n2 (show (0 : Int) ≤ 9223372036854775807 / 1000000 by decide)
      have e : (9223372036854775807 : Int) / 1000000 * 1000000 ≤ 2 ^ 63 - 1 := by decide
      omega
    have e : (9223372036854775807 : Int) / 1000000 = 9223372036854 := by decide
    omega
  · rw [S_length]
    unfold Builtin.Str.tooLong
    have hs := sizeLine_eq
    first | (simp; omega) | (rw [decide_eq_false]; omega)
  · by_cases h1 : n < 1
    · rw [if_pos h1]
      refine ⟨by decide, .str _, H, I.tok _, ⟨_, rfl⟩, ?_⟩
      rw [show n.toNat = 0 by omega] at q
      exact q
    · rw [if_neg h1]
      by_cases h2 : (n == 1 || (S a).length == 0) = true
      · rw [if_pos h2]
        refine ⟨.str _, H, I, ⟨_, rfl⟩, ?_⟩
        have e : repT a n.toNat = a := by
          rw [Bool.or_eq_true, beq_iff_eq, beq_iff_eq, S_length] at h2
          rcases h2 with rfl | h2
          · simp [repT]
          · have : a = [] := List.length_eq_zero_iff.mp h2
            subst this
            unfold repT
            generalize n.toNat = k
            induction k with
            | zero => rfl
            | succ k ih => rw [List.replicate_succ, List.flatten_cons, ih]; rfl
        rw [e] at q
        exact q
      · rw [if_neg h2]
        rw [foldl_rep]
        refine ⟨?_, .str _, H, I.tok _, ⟨_, rfl⟩, ?_⟩
        · have e : (S (repT a n.toNat)).length ≤ sizeLine := by
            rw [S_length, repT_length, sizeLine_eq, Nat.mul_comm]
            exact hl
          exact e
        · exact q

def fMulS : D → D → Option R := fun x y => match x, y with
  | .str a, .int n => if -1000000 ≤ n ∧ n ≤ 1000000 ∧ a.length * n.toNat ≤ SL ∧ a.length ≤ SL then some (.im (.str (repT a n.toNat))) else none
  | _, _ => none
theorem ok_mulS {K : PySem.W.Frag} : OpOk K rMulS fMulS := fun F H x y dx dy res Q ag hx hy e k => by
  unfold fMulS at e
  split at e
  · rename_i a n
    split at e
    · rename_i c
      cases e
      exact ⟨a, n, hx.str_inv, hy.int_inv, c.1, c.2.1, c.2.2.1, c.2.2.2, k _ H F (Xt.refl ag) (Dn.str _)⟩
    · cases e
  · cases e
abbrev fMulA := fAlt fMul (fAlt fMulS fRep)
abbrev rMulA : R2 := fun x y H Q => rI CMul (fun i j => .int (i * j)) x y H Q ∨ rMulS x y H Q ∨ rRep x y H Q
theorem ok_mulA {K : PySem.W.Frag} : OpOk K rMulA fMulA := ok_alt ok_mul (ok_alt ok_mulS ok_rep)
theorem op_mulA : OpR X (binaryOp .Mult) rMulA := op_mul.or (op_mulS.or op_rep)
/-! ### list.index, list.count -/
theorem pys_map : ∀ ds : List D, D.pys ds = ds.map D.py
  | [] => rfl
  | d :: ds => by rw [D.pys, pys_map ds]; rfl
def fIndexL : D → List D → Option R := fun x ds => match x, ds with
  | .lst es, [d] => if ((D.lst es).okE && d.okE) = true then match es.findIdx? fun e => eqP e d with
    | some j => some (.im (.int (j : Nat)))
    | none => none
    else none
  | _, _ => none
theorem plains_mem : ∀ {es : List D}, D.plains es = true → ∀ e ∈ es, e.plain = true
  | [], _, e, h => by cases h
  | d :: ds, hp, e, h => by
    rw [D.plains, Bool.and_eq_true] at hp
    rcases List.mem_cons.mp h with rfl | h
    · exact hp.1
    · exact plains_mem hp.2 e h
theorem ok_indexL {K : PySem.W.Frag} : MtOk K (rIndexD K) fIndexL := fun F H x vs dx ds res Q ag hx hd e k => by
  unfold fIndexL at e
  split at e
  · rename_i es d
    split at e
    · rename_i c
      rw [Bool.and_eq_true] at c
      split at e
      · rename_i j hj
        cases e
        cases hd with
        | cons h t =>
          cases t
          obtain ⟨hjl, hj1, hj2⟩ := List.findIdx?_eq_some_iff_getElem.mp hj
          have hpl : D.plains es = true := okE_plain c.1
          have hpd := okE_plain c.2
          have hX := hx.dp ag (okE_plain c.1)
          obtain ⟨a, ws, rfl, _, _⟩ := hx.lst_inv ag
          have hmem : ∀ (m : Nat) (hm : m < es.length), es[m].plain = true := fun m hm => plains_mem hpl _ (List.getElem_mem hm)
          refine ⟨a, _, d.py, D.pys es, j, es[j].py, rfl, rfl, hX, h.dp ag hpd, okE_shaped c.1, okE_shaped c.2, ?_, ?_, fun m z' hm hz => ?_, k _ H F (Xt.refl ag) (Dn.int _)⟩
          · rw [pys_map, List.getElem?_map, List.getElem?_eq_getElem hjl]; rfl
          · rw [py_eq _ _ (hmem j hjl) hpd]; exact hj1
          · rw [pys_map, List.getElem?_map, List.getElem?_eq_getElem (show m < es.length by omega)] at hz
            cases hz
            rw [py_eq _ _ (hmem m (by omega)) hpd]
            simpa using hj2 m hm
      · cases e
    · cases e
  · cases e
def rCountD (K : PySem.W.Frag) : V → List V → Hp → VK → Prop := fun x xs H Q => ∃ (a : Addr) (y : V) (d : PyData) (ds : List PyData), x = V.ref a ∧ xs = [y] ∧ Dp K H (V.ref a) (.list ds) ∧ Dp K H y d ∧
  SeqAt.shaped (.list ds) = true ∧ SeqAt.shaped d = true ∧ Q (.int (ds.countP (fun z => PyData.eqv z d) : Nat)) H
theorem mt_countD (hu : X.A.units + 65 < cLine) : MtR X "list.count" (rCountD X.K) := by
  intro pins s σ H x xs v us Q I rx rxs h
  obtain ⟨a, y, d, ds, rfl, rfl, hl, hy, sl, sd, q⟩ := h
  cases rx
  cases rxs with
  | cons ry rt =>
    rename_i uy ut
    cases rt
    obtain ⟨bs, r1⟩ := Dp.reads I d y uy hy ry
    have hxs : PyData.canLayAll0 ds = true := SeqAt.canLay_of_shaped sl
    have hroom : X.A.units + 1 + min (PyData.depthAll ds) d.depth < cLine := room_in_shaped sd hu
    cases hl with
    | lst hs ha =>
      obtain ⟨its, rv, ⟨⟨cls, dd, data, sls⟩, n, ho, hc, hdn, hdt⟩, hlen⟩ := I.list hs
      simp only at hc hdt
      subst hc hdt
      obtain ⟨as, h4⟩ := Dp.readsAll I ds _ its ha rv
      have hmap : its.map (SeqAt.readOf s.heap) = ds := SeqAt.readsAll_map ds its as hxs h4
      refine call_meets PySem.F.slot_list_count ⟨_, ho, rfl⟩ PySem.F.entry_list_count (PySem.F.args_list_count_2 _ _)
        (SeqAt.list_countAt a its.toArray n dd sls uy (fun u => PyData.eqv (SeqAt.readOf s.heap u) d)) ⟨ho, SeqAt.items_eqAt (vs := its.toArray) (show ReadsAll s.heap its.toArray.toList ds as from h4) r1 hxs (SeqAt.canLay_of_shaped sd) hroom, ?_⟩
      have ec : its.toArray.toList.countP (fun u => PyData.eqv (SeqAt.readOf s.heap u) d) = ds.countP fun z => PyData.eqv z d := by
        rw [← hmap, List.countP_map]
        rfl
      refine ⟨.int (ds.countP (fun z => PyData.eqv z d) : Nat), H, I.tok _, ⟨s.toks, ?_⟩, q⟩
      rw [ec]
def fCountL : D → List D → Option R := fun x ds => match x, ds with
  | .lst es, [d] => if ((D.lst es).okE && d.okE) = true then some (.im (.int (es.countP (fun e => eqP e d) : Nat))) else none
  | _, _ => none
theorem ok_countL {K : PySem.W.Frag} : MtOk K (rCountD K) fCountL := fun F H x vs dx ds res Q ag hx hd e k => by
  unfold fCountL at e
  split at e
  · rename_i es d
    split at e
    · rename_i c
      rw [Bool.and_eq_true] at c
      cases e
      cases hd with
      | cons h t =>
        cases t
        have hpl : D.plains es = true := okE_plain c.1
        have hpd := okE_plain c.2
        have hX := hx.dp ag (okE_plain c.1)
        obtain ⟨a, ws, rfl, _, _⟩ := hx.lst_inv ag
        refine ⟨a, _, d.py, D.pys es, rfl, rfl, hX, h.dp ag hpd, okE_shaped c.1, okE_shaped c.2, ?_⟩
        rw [pys_map, List.countP_map]
        have : es.countP ((fun z => PyData.eqv z d.py) ∘ D.py) = es.countP fun e => eqP e d := List.countP_congr fun e he => by
          show PyData.eqv e.py d.py = true ↔ _
          rw [py_eq _ _ (plains_mem hpl e he) hpd]
        rw [this]
        exact k _ H F (Xt.refl ag) (Dn.int _)
    · cases e
  · cases e
/-! ### text.index(text), found -/
def fIndexS : D → List D → Option R := fun x ds => match x, ds with
  | .str a, [.str b] => match occL a b a.length 1 (List.range' 0 (a.length + 1)) [] 0 with
    | i :: _ => some (.im (.int (i : Nat)))
    | [] => none
  | _, _ => none
end
end MP
namespace MP
open PySem PySem.Spec PyProof.Rows L2
section
variable {X : Cx}
theorem ok_indexS {K : PySem.W.Frag} : MtOk K (fun x xs H Q => ∃ a b i rest, x = .str a ∧ xs = [.str b] ∧ Builtin.Str.occurrences a b 0 a.length 1 = i :: rest ∧ Q (.int (i : Nat)) H) fIndexS := fun F H x vs dx ds res Q ag hx hd e k => by
  unfold fIndexS at e
  split at e
  · rename_i a b
    split at e
    · rename_i i r ho
      cases e
      cases hd with
      | cons h t =>
        cases t
        refine ⟨MP.S a, MP.S b, i, r, hx.str_inv, by rw [h.str_inv], ?_, k _ H F (Xt.refl ag) (Dn.int _)⟩
        rw [occ_S, S_length]
        exact ho
    · cases e
  · cases e
/-! ### globals: texts, defs as values -/
theorem q_gstr {x : Str} {z : Tx} {pos : Pos} (hm : ∃ t, X.mg x = some (.str (MP.S z) t)) (hg : Gl X x := by rfl) (hdb : (x == ("__debug__" : Str)) = false := by decide) : QE X (.Name x pos) (eC (.str z)) := by
  obtain ⟨t, hm⟩ := hm
  exact q_c (pe_glob hg hm ⟨t, rfl⟩ hdb)
theorem q_gint {x : Str} {z : Int} {pos : Pos} (hm : ∃ t, X.mg x = some (.int z t)) (hg : Gl X x := by rfl) (hdb : (x == ("__debug__" : Str)) = false := by decide) : QE X (.Name x pos) (eC (.int z)) := by
  obtain ⟨t, hm⟩ := hm
  exact q_c (pe_glob hg hm ⟨t, rfl⟩ hdb)
theorem q_gref {x : Str} {f : Addr} {pos : Pos} (hm : X.mg x = some (.ref f)) (hg : Gl X x := by rfl) (hdb : (x == ("__debug__" : Str)) = false := by decide) : QE X (.Name x pos) (eC (.rf f)) :=
  q_c (pe_glob hg hm rfl hdb)
/-! ### op= -/
theorem iop_addA : OpR X (inplaceOp .Add) (rI0 fun i j => .int (i + j)) := iop_add
theorem ok_addI {K : PySem.W.Frag} : OpOk K (rI0 fun i j => .int (i + j)) (fInt fun i j => some (.int (i + j))) := ok_int0 fun _ _ => ⟨rfl, rfl⟩
/-! ### list(range(..)), tuple(range(..)) -/

theorem rgV_dn {K : PySem.W.Frag} {F : Hp} (a b : Int) : DnAll K F (rgV a b) (rng a (b - a).toNat 1) := by
  unfold rgV rng
  generalize List.range (b - a).toNat = l
  induction l with
  | nil => exact .nil
  | cons i l ih =>
    rw [List.map_cons, List.map_cons]
    refine .cons ?_ ih
    rw [Int.mul_one]
    exact .int _
def eRgL1 (f : EF) : EF := fun env => match f env with
  | some (.im (.int n), e) => if small n = true ∧ n.toNat ≤ SL then some (.fr (.lst (rng 0 n.toNat 1)), e) else none
  | _ => none
def eRgL2 (f g : EF) : EF := fun env => match f env with
  | some (.im (.int m), e1) => match g e1 with
    | some (.im (.int n), e) => if (small m = true ∧ small n = true) ∧ (n - m).toNat ≤ SL then some (.fr (.lst (rng m (n - m).toNat 1)), e) else none
    | _ => none
  | _ => none
theorem rgOk {a b : Int} (h1 : small a = true) (h2 : small b = true) (h3 : (b - a).toNat ≤ SL) : RgOk a b := by
  obtain ⟨q1, q2⟩ := small_iff h1
  obtain ⟨q3, q4⟩ := small_iff h2
  refine ⟨by omega, by omega, by omega, by omega, ?_⟩
  unfold SL at h3
  omega
theorem q_listrng1 {a : Expr} {f : EF} {p p2 pos pos2 : Pos} (hm : X.mg "list" = none) (hm2 : X.mg "range" = none) (ha : QE X a f) (hc : X.calm = true := by rfl) (hg : Gl X "list" := by rfl) (hg2 : Gl X "range" := by rfl)
    (na : starEach [a] X.env = (false, eval a X.env) :: starEach [] X.env := by rfl) (nb : starEach [.Call (.Name "range" p2) [a] [] pos2] X.env = (false, eval (.Call (.Name "range" p2) [a] [] pos2) X.env) :: starEach [] X.env := by rfl) :
    QE X (.Call (.Name "list" p) [.Call (.Name "range" p2) [a] [] pos2] [] pos) (eRgL1 f) :=
  (pe_listRg hc hg hm (prg_1 hg2 hm2 ha na) nb).imp fun σ H Q q => by
    obtain ⟨b, F, env, res, env', g, hf, k⟩ := q
    unfold eRgL1 at hf
    split at hf
    · rename_i n e h1
      split at hf
      · rename_i c
        cases hf
        refine ⟨b, F, env, _, _, g, h1, fun v H1 F1 g1 s1 r1 => ⟨n, ?_, rgOk (by decide +kernel) c.1 (by rw [Int.sub_zero]; exact c.2), fun q hq => ?_⟩⟩
        · exact RdD.int_inv (H := H1) (.inl r1)
        · have rf := (rgV_dn (K := X.K) (F := F1) 0 n).toRF g1.same hq
          rw [Int.sub_zero] at rf
          exact k _ _ _ (g1.ext (Xt.fresh g1.same hq)) s1 (rf.rv g1)
      · cases hf
    · cases hf
theorem q_listrng2 {a c : Expr} {f h : EF} {p p2 pos pos2 : Pos} (hm : X.mg "list" = none) (hm2 : X.mg "range" = none) (ha : QE X a f) (hb : QE X c h) (hc : X.calm = true := by rfl) (hg : Gl X "list" := by rfl) (hg2 : Gl X "range" := by rfl)
    (na : starEach [a, c] X.env = (false, eval a X.env) :: starEach [c] X.env := by rfl) (na2 : starEach [c] X.env = (false, eval c X.env) :: starEach [] X.env := by rfl) (hp : (backTo pos2 (starEach [c] X.env)).any (·.1) = false := by rfl)
    (nb : starEach [.Call (.Name "range" p2) [a, c] [] pos2] X.env = (false, eval (.Call (.Name "range" p2) [a, c] [] pos2) X.env) :: starEach [] X.env := by rfl) :
    QE X (.Call (.Name "list" p) [.Call (.Name "range" p2) [a, c] [] pos2] [] pos) (eRgL2 f h) :=
  (pe_listRg hc hg hm (prg_2 hg2 hm2 ha hb na na2 hp) nb).imp fun σ H Q q => by
    obtain ⟨b, F, env, res, env', g, hf, k⟩ := q
    unfold eRgL2 at hf
    split at hf
    · rename_i m e1 h1
      split at hf
      · rename_i n e h2
        split at hf
        · rename_i c
          cases hf
          refine ⟨b, F, env, _, _, g, h1, fun v H1 F1 g1 s1 r1 => ⟨b, F1, _, _, _, g1, h2, fun v2 H2 F2 g2 s2 r2 => ⟨m, n, ?_, ?_, rgOk c.1.1 c.1.2 c.2, fun q hq => ?_⟩⟩⟩
          · exact RdD.int_inv (H := H1) (.inl r1)
          · exact RdD.int_inv (H := H2) (.inl r2)
          · exact k _ _ _ (g2.ext (Xt.fresh g2.same hq)) (s1.trans s2) (((rgV_dn (K := X.K) (F := F2) m n).toRF g2.same hq).rv g2)
        · cases hf
      · cases hf
    · cases hf
end
end MP
namespace MP
open PySem PySem.Spec PyProof.Rows L2
section
variable {X : Cx}
/-! ### sorted() of alike data -/
abbrev leD : D → D → Bool := PySem.W.dataLe false D.py
def rSortG (K : PySem.W.Frag) : List V → Hp → VK → Prop := fun vs H Q => ∃ (a : Addr) (bs : List (D × V)), vs = [V.ref a] ∧ SqL K H a (bs.map (·.2)) ∧ (∀ b ∈ bs, Dp K H b.2 b.1.py) ∧ PySem.W.AllAlike (bs.map fun b => b.1.py) ∧ PySem.W.Sortable (bs.map fun b => b.1.py) ∧
  bs.length ≤ sizeLine ∧ (∀ b ∈ bs, b.1.py.depth ≤ 64) ∧ ∀ p, H p = none → Q (.ref p) (upd H p (.lst ((bs.mergeSort (PySem.W.dataLe false fun b => b.1.py)).map (·.2))))
theorem each_vals : ∀ {bs : List (D × V)} {us : List Value}, Vals (bs.map (·.2)) us → PySem.W.EachIs (fun v (b : D × V) => RelV b.2 v) us bs
  | [], _, .nil => .nil
  | b :: bs, _, .cons h t => .cons h (each_vals t)
theorem vals_each : ∀ {bs : List (D × V)} {us : List Value}, PySem.W.EachIs (fun v (b : D × V) => RelV b.2 v) us bs → Vals (bs.map (·.2)) us
  | _, _, .nil => .nil
  | _, _, .cons h t => .cons h (vals_each t)
theorem cr_sortG (hu : X.A.units + 66 < cLine) : CallR X (.builtin "sorted") (rSortG X.K) := by
  intro pins s σ H vs us Q I r h
  obtain ⟨a, bs, rfl, hs, hd, hal, hk, hL, hdep, q⟩ := h
  obtain ⟨its, rv, hl, hz⟩ := I.list hs
  rw [Vals.ref1 r]
  have e := each_vals rv
  have er : PySem.W.EachIs (fun v (b : D × V) => ∃ as, Reads s.heap v b.1.py as) its bs := (PySem.W.each_mem e).mono fun v b ⟨h1, h2⟩ => Dp.reads I b.1.py b.2 v (hd b h2) h1
  refine PySem.W.sorted_data hl.isList e er hal hk hL (fun b hb => by have := hdep b hb; omega) fun out h1 h2 => ?_
  obtain ⟨ep, he'⟩ := PyProof.Rows.sortedAll_at s.heap its out.toArray
  refine ⟨.ref _, upd H (s.heap.objs.size + 1) (.lst ((bs.mergeSort (PySem.W.dataLe false fun b => b.1.py)).map (·.2))), I.laid (t' := s.toks) (fun _ _ => PyProof.Rows.sortedAll_old) (Nat.le_succ _) ⟨?_, out, ep, vals_each h2, he'⟩, rfl, q _ (I.hok.fresh (Nat.le_succ _))⟩
  rw [List.length_map, List.length_mergeSort]
  exact hL

def D.isTup1 : D → Bool
  | .tup (_ :: _) => true
  | _ => false
def D.noTup : D → Bool
  | .bl _ => true
  | .int _ => true
  | .str _ => true
  | .lst _ => true
  | _ => false
def sortOk (es : List D) : Bool := es.all D.okE && es.all (fun a => es.all fun b => PySem.W.alike a.py b.py) && (es.all D.isTup1 || es.all D.noTup)
theorem sortOk_alike {es : List D} (h : sortOk es = true) : PySem.W.AllAlike (es.map D.py) := by
  unfold sortOk at h
  rw [Bool.and_eq_true, Bool.and_eq_true] at h
  intro d hd d' hd'
  obtain ⟨e, he, rfl⟩ := List.mem_map.mp hd
  obtain ⟨e', he', rfl⟩ := List.mem_map.mp hd'
  exact List.all_eq_true.mp (List.all_eq_true.mp h.1.2 e he) e' he'
theorem sortOk_able {es : List D} (h : sortOk es = true) : PySem.W.Sortable (es.map D.py) := by
  unfold sortOk at h
  rw [Bool.and_eq_true, Bool.or_eq_true] at h
  rcases h.2 with h | h
  · refine .inl fun d hd => ?_
    obtain ⟨e, he, rfl⟩ := List.mem_map.mp hd
    have := List.all_eq_true.mp h e he
    cases e with
    | tup ds =>
      cases ds with
      | nil => cases this
      | cons x r => exact ⟨x.py, D.pys r, rfl⟩
    | _ => cases this
  · refine .inr fun d hd => ?_
    obtain ⟨e, he, rfl⟩ := List.mem_map.mp hd
    have := List.all_eq_true.mp h e he
    cases e with
    | bl _ => exact ⟨fun q => (nomatch q), fun _ q => (nomatch q)⟩
    | int _ => exact ⟨fun q => (nomatch q), fun _ q => (nomatch q)⟩
    | str _ => exact ⟨fun q => (nomatch q), fun _ q => (nomatch q)⟩
    | lst _ => exact ⟨fun q => (nomatch q), fun _ q => (nomatch q)⟩
    | _ => cases this
theorem sortOk_okE {es : List D} (h : sortOk es = true) : ∀ e ∈ es, e.okE = true := by
  unfold sortOk at h
  rw [Bool.and_eq_true, Bool.and_eq_true] at h
  exact List.all_eq_true.mp h.1.1
theorem dn_zip {K : PySem.W.Frag} {F : Hp} : ∀ {vs : List V} {ds : List D}, DnAll K F vs ds → ∃ bs : List (D × V), bs.map (·.2) = vs ∧ bs.map (·.1) = ds ∧ ∀ b ∈ bs, Dn K F b.2 b.1
  | _, _, .nil => ⟨[], rfl, rfl, fun _ h => by cases h⟩
  | v :: _, d :: _, .cons h t => by
    obtain ⟨bs, h1, h2, h3⟩ := dn_zip t
    refine ⟨(d, v) :: bs, by rw [List.map_cons, h1], by rw [List.map_cons, h2], fun b hb => ?_⟩
    rcases List.mem_cons.mp hb with rfl | hb
    · exact h
    · exact h3 b hb
theorem zip_dn {K : PySem.W.Frag} {F : Hp} : ∀ {bs : List (D × V)}, (∀ b ∈ bs, Dn K F b.2 b.1) → DnAll K F (bs.map (·.2)) (bs.map (·.1))
  | [], _ => .nil
  | b :: bs, h => .cons (h b List.mem_cons_self) (zip_dn fun c hc => h c (List.mem_cons_of_mem _ hc))
def fSortG : List D → Option R := fun ds => match ds with
  | [.lst es] => if sortOk es = true ∧ es.length ≤ SL then some (.fr (.lst (es.mergeSort leD))) else none
  | _ => none
theorem ok_sortG {K : PySem.W.Frag} : CallOk K (rSortG K) fSortG := fun F H vs ds res Q ag hd e k => by
  unfold fSortG at e
  split at e
  · rename_i es
    split at e
    · rename_i c
      cases e
      cases hd with
      | cons h t =>
        cases t
        obtain ⟨a, ws, rfl, h3, h4⟩ := h.lst_inv ag
        obtain ⟨bs, rfl, rfl, hb⟩ := dn_zip h4
        have ok := sortOk_okE c.1
        have mm : bs.map (fun b => b.1.py) = (bs.map (·.1)).map D.py := by rw [List.map_map]; rfl
        refine ⟨a, bs, rfl, .of h3, fun b hb' => ?_, by rw [mm]; exact sortOk_alike c.1, by rw [mm]; exact sortOk_able c.1, ?_, fun b hb' => ?_, fun p hp => ?_⟩
        · have := ok b.1 (List.mem_map.mpr ⟨b, hb', rfl⟩)
          exact RdD.dp (H := H) ag (.inl (hb b hb')) (okE_plain this)
        · have := c.2
          rw [List.length_map] at this
          rw [sizeLine_eq]
          unfold SL at this
          exact this
        · have := ok b.1 (List.mem_map.mpr ⟨b, hb', rfl⟩)
          unfold D.okE at this
          rw [Bool.and_eq_true, decide_eq_true_eq] at this
          rw [py_dep]
          exact this.2
        · have hm : (bs.mergeSort (PySem.W.dataLe false fun b => b.1.py)).map (·.1) = (bs.map (·.1)).mergeSort leD := List.map_mergeSort fun a _ b _ => rfl
          rw [← hm] at k
          exact k _ _ F (Xt.fresh ag hp) ((zip_dn fun b hb' => hb b (List.mem_mergeSort.mp hb')).toRF ag hp)
    · cases e
  · cases e
abbrev fSortA := fAltC fSorted fSortG
theorem ok_sortA {K : PySem.W.Frag} : CallOk K (fun x H Q => rSortedA K x H Q ∨ rSortG K x H Q) fSortA := ok_altC ok_sorted ok_sortG
theorem cr_sortA (hc : X.calm = true) (hu : X.A.units + 66 < cLine) : CallR X (.builtin "sorted") (fun x H Q => rSortedA X.K x H Q ∨ rSortG X.K x H Q) := (cr_sortedA hc).or (cr_sortG hu)
end
end MP
namespace MP
open PySem PySem.Spec PyProof.Rows L2
mutual
theorem py_inj : ∀ {a b : D}, a.plain = true → b.plain = true → a.py = b.py → a = b
  | .non, b, _, hb, h => by cases b <;> first | rfl | (simp [D.py] at h; done) | (simp [D.plain] at hb; done)
  | .bl x, b, _, hb, h => by cases b <;> first | (simp [D.py] at h; done) | (simp [D.plain] at hb; done) | (simp [D.py] at h; subst h; rfl)
  | .int x, b, _, hb, h => by cases b <;> first | (simp [D.py] at h; done) | (simp [D.plain] at hb; done) | (simp [D.py] at h; subst h; rfl)
  | .str x, b, _, hb, h => by
    cases b with
    | str y =>
      injection h with h
      rw [S_inj h]
    | _ => first | (simp [D.py] at h; done) | (simp [D.plain] at hb; done)
  | .tup ds, b, ha, hb, h => by
    cases b with
    | tup es =>
      injection h with h
      rw [pys_inj (as := ds) (bs := es) ha hb h]
    | _ => first | (simp [D.py] at h; done) | (simp [D.plain] at hb; done)
  | .lst ds, b, ha, hb, h => by
    cases b with
    | lst es =>
      injection h with h
      rw [pys_inj (as := ds) (bs := es) ha hb h]
    | _ => first | (simp [D.py] at h; done) | (simp [D.plain] at hb; done)
  | .dk _, _, h, _, _ => by cases h
  | .dt _, _, h, _, _ => by cases h
  | .st _, _, h, _, _ => by cases h
  | .fz _, _, h, _, _ => by cases h
  | .ty _, _, h, _, _ => by cases h
  | .rf _, _, h, _, _ => by cases h
theorem pys_inj : ∀ {as bs : List D}, D.plains as = true → D.plains bs = true → D.pys as = D.pys bs → as = bs
  | [], [], _, _, _ => rfl
  | [], _ :: _, _, _, h => by cases h
  | _ :: _, [], _, _, h => by cases h
  | a :: as, b :: bs, ha, hb, h => by
    rw [D.plains, Bool.and_eq_true] at ha hb
    rw [D.pys, D.pys] at h
    injection h with h1 h2
    rw [py_inj ha.1 hb.1 h1, pys_inj ha.2 hb.2 h2]
end
def ltD (a b : D) : Bool := PySem.W.dataLt a.py b.py
def minG (x : D) (xs : List D) : D := xs.foldl (fun a y => if ltD y a then y else a) x
def maxG (x : D) (xs : List D) : D := xs.foldl (fun a y => if ltD a y then y else a) x
theorem minG_py : ∀ (xs : List D) (x : D), (minG x xs).py = PySem.W.minD x.py (xs.map D.py)
  | [], x => rfl
  | y :: r, x => by
    show (minG (if ltD y x then y else x) r).py = _
    rw [minG_py r]
    show _ = PySem.W.minD (if PySem.W.dataLt y.py x.py then y.py else x.py) (r.map D.py)
    unfold ltD
    split <;> rfl
theorem maxG_py : ∀ (xs : List D) (x : D), (maxG x xs).py = PySem.W.maxD x.py (xs.map D.py)
  | [], x => rfl
  | y :: r, x => by
    show (maxG (if ltD x y then y else x) r).py = _
    rw [maxG_py r]
    show _ = PySem.W.maxD (if PySem.W.dataLt x.py y.py then y.py else x.py) (r.map D.py)
    unfold ltD
    split <;> rfl
theorem minG_mem : ∀ (xs : List D) (x : D), minG x xs ∈ x :: xs
  | [], x => List.mem_cons_self
  | y :: r, x => by
    show minG (if ltD y x then y else x) r ∈ _
    have := minG_mem r (if ltD y x then y else x)
    rcases List.mem_cons.mp this with h | h
    · rw [h]
      split <;> simp
    · exact List.mem_cons_of_mem _ (List.mem_cons_of_mem _ h)
theorem maxG_mem : ∀ (xs : List D) (x : D), maxG x xs ∈ x :: xs
  | [], x => List.mem_cons_self
  | y :: r, x => by
    show maxG (if ltD x y then y else x) r ∈ _
    have := maxG_mem r (if ltD x y then y else x)
    rcases List.mem_cons.mp this with h | h
    · rw [h]
      split <;> simp
    · exact List.mem_cons_of_mem _ (List.mem_cons_of_mem _ h)
section
variable {X : Cx}
def rBest (f : PyData → List PyData → PyData) (K : PySem.W.Frag) : List V → Hp → VK → Prop := fun vs H Q => ∃ (a : Addr) (ws : List V) (x : PyData) (xs : List PyData), vs = [V.ref a] ∧ SqL K H a ws ∧ DpAll K H ws (x :: xs) ∧ PySem.W.AlikeAll (x :: xs) ∧ PyData.depthAll (x :: xs) ≤ 64 ∧
  ∀ (i : Nat) (v : V), ws[i]? = some v → (x :: xs)[i]? = some (f x xs) → Q v H
theorem best_at {K : PySem.W.Frag} {pins : List (Addr × Obj)} {σ : L2.St} {H : Hp} {s : Shared} {h' : Heap} {ws : List V} {its : List Value} {ds : List PyData} {m : PyData} {i : Nat} {v : Value} {bs as : List Addr}
    (rs : ReadsAll s.heap its ds as) (hal : PySem.W.AlikeAll ds) (hm : m ∈ ds) (hv : its[i]? = some v) (hr : Reads h' v m bs) (hk : ∀ b o, s.heap.get? b = some o → h'.get? b = some o) : ds[i]? = some m := by
  obtain ⟨cs, r, hi, hmem, _⟩ := PySem.W.readsAll_at rs i v hv
  have r' : Reads h' v (ds.getD i .none) cs := PyProof.Rows.Reads.keeps hk r
  have e := PySem.W.alike_unique (ds.getD i .none) m v cs bs (hal.1 _ hmem _ hm) r' hr
  rw [List.getD_eq_getElem?_getD, List.getElem?_eq_getElem hi] at e
  rw [List.getElem?_eq_getElem hi]
  exact congrArg some e
theorem minD_mem : ∀ (xs : List PyData) (x : PyData), PySem.W.minD x xs ∈ x :: xs
  | [], x => List.mem_cons_self
  | y :: r, x => by
    show PySem.W.minD (if PySem.W.dataLt y x then y else x) r ∈ _
    have := minD_mem r (if PySem.W.dataLt y x then y else x)
    rcases List.mem_cons.mp this with h | h
    · rw [h]
      split <;> simp
    · exact List.mem_cons_of_mem _ (List.mem_cons_of_mem _ h)
theorem maxD_mem : ∀ (xs : List PyData) (x : PyData), PySem.W.maxD x xs ∈ x :: xs
  | [], x => List.mem_cons_self
  | y :: r, x => by
    show PySem.W.maxD (if PySem.W.dataLt x y then y else x) r ∈ _
    have := maxD_mem r (if PySem.W.dataLt x y then y else x)
    rcases List.mem_cons.mp this with h | h
    · rw [h]
      split <;> simp
    · exact List.mem_cons_of_mem _ (List.mem_cons_of_mem _ h)
theorem vals_back : ∀ {ws : List V} {us : List Value} {i : Nat} {u : Value}, Vals ws us → us[i]? = some u → ∃ w, ws[i]? = some w ∧ RelV w u
  | _, _, _, _, .nil, h => by simp at h
  | _, _, 0, _, .cons r _, h => by simp at h; subst h; exact ⟨_, rfl, r⟩
  | _, _, i + 1, _, .cons _ t, h => by
    obtain ⟨w, h1, h2⟩ := vals_back (i := i) t (by simpa using h)
    exact ⟨w, by simpa using h1, h2⟩
theorem cr_minG (hc : X.calm = true) (hu : X.A.units + 66 < cLine) : CallR X (.builtin "min") (rBest PySem.W.minD X.K) := by
  intro pins s σ H vs us Q I r h
  obtain ⟨a, ws, x, xs, rfl, hs, hd, hal, hdep, q⟩ := h
  obtain ⟨its, rv, hl, hz⟩ := I.list hs
  rw [Vals.ref1 r]
  obtain ⟨as, rs⟩ := Dp.readsAll I (x :: xs) ws its hd rv
  refine PySem.W.min_list_data (vs := its.toArray) (I.ok.hd hc) hl.isList rs hal (by omega) fun i v h' tk bs hv hr hk => ?_
  have hv' : its[i]? = some v := by simpa using hv
  have hb := best_at (K := X.K) (pins := pins) (σ := σ) (H := H) (ws := ws) rs hal (minD_mem xs x) hv' hr hk
  obtain ⟨w, hw, rw'⟩ := vals_back rv hv'
  exact ⟨w, H, I.kept hk, rw', q i w hw hb⟩
theorem cr_maxG (hc : X.calm = true) (hu : X.A.units + 66 < cLine) : CallR X (.builtin "max") (rBest PySem.W.maxD X.K) := by
  intro pins s σ H vs us Q I r h
  obtain ⟨a, ws, x, xs, rfl, hs, hd, hal, hdep, q⟩ := h
  obtain ⟨its, rv, hl, hz⟩ := I.list hs
  rw [Vals.ref1 r]
  obtain ⟨as, rs⟩ := Dp.readsAll I (x :: xs) ws its hd rv
  refine PySem.W.max_list_data (vs := its.toArray) (I.ok.hd hc) hl.isList rs hal (by omega) fun i v h' tk bs hv hr hk => ?_
  have hv' : its[i]? = some v := by simpa using hv
  have hb := best_at (K := X.K) (pins := pins) (σ := σ) (H := H) (ws := ws) rs hal (maxD_mem xs x) hv' hr hk
  obtain ⟨w, hw, rw'⟩ := vals_back rv hv'
  exact ⟨w, H, I.kept hk, rw', q i w hw hb⟩

def bestOk (es : List D) : Bool := (D.lst es).okE && es.all (fun a => es.all fun b => PySem.W.alike a.py b.py) && es.all fun a => !a.isNon
def fBest (g : D → List D → D) : List D → Option R := fun ds => match ds with
  | [.lst (e :: es)] => if bestOk (e :: es) = true then some (.im (g e es)) else none
  | _ => none
theorem py_non {d : D} (h : d.plain = true) (e : d.py = .none) : d = .non := py_inj (b := .non) h rfl e
theorem dpAll_of {K : PySem.W.Frag} {F H : Hp} (ag : Ag F H) : ∀ {vs : List V} {ds : List D}, DnAll K F vs ds → D.plains ds = true → DpAll K H vs (ds.map D.py)
  | _, _, .nil, _ => .nil
  | _, _, .cons h t, hp => by
    rw [D.plains, Bool.and_eq_true] at hp
    exact .cons (RdD.dp (H := H) ag (.inl h) hp.1) (dpAll_of ag t hp.2)
theorem ok_best {K : PySem.W.Frag} {g : D → List D → D} {f : PyData → List PyData → PyData} (hg : ∀ (xs : List D) (x : D), (g x xs).py = f x.py (xs.map D.py)) (hm : ∀ (xs : List D) (x : D), g x xs ∈ x :: xs) : CallOk K (rBest f K) (fBest g) := fun F H vs ds res Q ag hd e k => by
  unfold fBest at e
  split at e
  · rename_i x es
    split at e
    · rename_i c
      cases e
      unfold bestOk at c
      rw [Bool.and_eq_true, Bool.and_eq_true] at c
      obtain ⟨⟨c1, c2⟩, c3⟩ := c
      cases hd with
      | cons h t =>
        cases t
        obtain ⟨a, ws, rfl, h3, h4⟩ := h.lst_inv ag
        have hpl : D.plains (x :: es) = true := okE_plain c1
        have hdp := c1
        unfold D.okE at hdp
        rw [Bool.and_eq_true, decide_eq_true_eq, D.dep] at hdp
        refine ⟨a, ws, x.py, es.map D.py, rfl, .of h3, dpAll_of (ds := x :: es) ag h4 hpl, ⟨fun d hd d' hd' => ?_, fun d hd q => ?_⟩, ?_, fun i v hv hi => ?_⟩
        · obtain ⟨z, hz, rfl⟩ := List.mem_map.mp (show d ∈ (x :: es).map D.py from hd)
          obtain ⟨z', hz', rfl⟩ := List.mem_map.mp (show d' ∈ (x :: es).map D.py from hd')
          exact List.all_eq_true.mp (List.all_eq_true.mp c2 z hz) z' hz'
        · obtain ⟨z, hz, rfl⟩ := List.mem_map.mp (show d ∈ (x :: es).map D.py from hd)
          have := py_non (plains_mem hpl z hz) q
          have c4 := List.all_eq_true.mp c3 z hz
          rw [this] at c4
          cases c4
        · have e1 := pys_dep (x :: es)
          rw [pys_map] at e1
          show PyData.depthAll ((x :: es).map D.py) ≤ 64
          rw [e1]
          omega
        · have hi2 : ((x :: es).map D.py)[i]? = some (g x es).py := by rw [hg]; exact hi
          rw [List.getElem?_map] at hi2
          obtain ⟨z, hz, ez⟩ := Option.map_eq_some_iff.mp hi2
          have hzm := List.mem_of_getElem? hz
          have : z = g x es := py_inj (plains_mem hpl z hzm) (plains_mem hpl _ (hm es x)) ez
          subst this
          obtain ⟨v', hv', hdn⟩ := h4.get hz
          rw [hv] at hv'
          cases hv'
          exact k _ H F (Xt.refl ag) hdn
    · cases e
  · cases e
abbrev fMinG := fBest minG
abbrev fMaxG := fBest maxG
theorem ok_minG {K : PySem.W.Frag} : CallOk K (rBest PySem.W.minD K) fMinG := ok_best minG_py minG_mem
theorem ok_maxG {K : PySem.W.Frag} : CallOk K (rBest PySem.W.maxD K) fMaxG := ok_best maxG_py maxG_mem
abbrev fMinA := fAltC fMin1 (fAltC fMinD fMinG)
abbrev fMaxA := fAltC fMax1 fMaxG
theorem ok_minA {K : PySem.W.Frag} : CallOk K (fun x H Q => rMin K x H Q ∨ rMinKS x H Q ∨ rBest PySem.W.minD K x H Q) fMinA := ok_altC ok_min1 (ok_altC ok_minD ok_minG)
theorem cr_minA (hc : X.calm = true) (hu : X.A.units + 66 < cLine) : CallR X (.builtin "min") (fun x H Q => rMin X.K x H Q ∨ rMinKS x H Q ∨ rBest PySem.W.minD X.K x H Q) := (cr_min hc).or ((cr_minKS hc).or (cr_minG hc hu))
theorem ok_maxA {K : PySem.W.Frag} : CallOk K (fun x H Q => rMax K x H Q ∨ rBest PySem.W.maxD K x H Q) fMaxA := ok_altC ok_max1 ok_maxG
theorem cr_maxA (hc : X.calm = true) (hu : X.A.units + 66 < cLine) : CallR X (.builtin "max") (fun x H Q => rMax X.K x H Q ∨ rBest PySem.W.maxD X.K x H Q) := (cr_max hc).or (cr_maxG hc hu)
theorem RG.u66 {k : Nat} {A : Around} (h : RG k A) : A.units + 66 < cLine := by have := h.r.un; omega
end
end MP
namespace MP
open PySem PySem.Spec PyProof.Rows L2
/-! ### comprehensions with two fors -/
def lcF2 (is js : List Nat) (g : GF) (t : BF) (it1 : IF) (g1 : GF) (t1 : BF) (f : EF) : List D → Ev → List D → Option (List D × Ev)
  | [], env, acc => some (acc, env)
  | d :: ds, env, acc => match g d (blank env is) with
    | none => none
    | some e1 => match t e1 with
      | none => none
      | some (false, e2) => lcF2 is js g t it1 g1 t1 f ds e2 acc
      | some (true, e2) => match it1 e2 with
        | none => none
        | some (ds1, e3) => match lcF js g1 t1 f ds1 e3 acc with
          | none => none
          | some (acc1, e4) => lcF2 is js g t it1 g1 t1 f ds e4 acc1
def eLc2 (is js : List Nat) (it : IF) (g : GF) (t : BF) (it1 : IF) (g1 : GF) (t1 : BF) (f : EF) : EF := fun env => match it env with
  | none => none
  | some (ds, e) => match lcF2 is js g t it1 g1 t1 f ds (fzs e is) [] with
    | none => none
    | some (acc, e2) => some (.fr (.lst acc), back (fzs e is) e2 is)
/-- where the list in the making stands -/
structure Mk (K : PySem.W.Frag) (b : Base) (F1 : Hp) (D : Addr) (F H : Hp) (σ : L2.St) (env : Ev) (acc : List MP.D) : Prop where
  gd : Gd K b F σ H env
  sm : Same F1 F
  at_ : ∃ vs, H D = some (.lst vs) ∧ DnAll K F vs acc
  nf : F D = none
  n0 : b.H0 D = none
  no : ∀ i, ¬ OwnAt env σ i D
section
variable {K : PySem.W.Frag} {b : Base} {F1 F H : Hp} {D : Addr} {σ : L2.St} {env : Ev} {acc : List MP.D}
theorem own_blank {is : List Nat} {j : Nat} {p : Addr} (h : OwnAt (blank env is) (wipe σ is) j p) : OwnAt env σ j p := by
  obtain ⟨⟨c, h1, h2⟩, h3⟩ := h
  rw [blank_get] at h1
  rw [wipe_get] at h3
  by_cases e : j ∈ is
  · rw [if_pos e] at h3
    cases q : σ[j]? with
    | none => rw [q] at h3; cases h3
    | some w => rw [q] at h3; cases h3
  · rw [if_neg e] at h1 h3; exact ⟨⟨c, h1, h2⟩, h3⟩
theorem Mk.blank (m : Mk K b F1 D F H σ env acc) (is : List Nat) : Mk K b F1 D F H (wipe σ is) (blank env is) acc :=
  ⟨m.gd.blank is, m.sm, m.at_, m.nf, m.n0, fun i o => m.no i (own_blank o)⟩
/-- a step that reads or makes objects -/
theorem Mk.ext {F' H' : Hp} (m : Mk K b F1 D F H σ env acc) (x : Xt F H F' H') : Mk K b F1 D F' H' σ env acc := by
  obtain ⟨vs, v1, v2⟩ := m.at_
  refine ⟨m.gd.ext x, m.sm.trans x.ff, ⟨vs, x.hh _ _ v1, v2.mono x.ff⟩, ?_, m.n0, m.no⟩
  cases w : F' D with
  | none => rfl
  | some y =>
    rcases x.nw D y w with z | z
    · rw [m.nf] at z; cases z
    · rw [v1] at z; cases z
/-- from one expression to the next -/
theorem Mk.go {F6 H6 : Hp} {σ6 : L2.St} {e6 : Ev} (m : Mk K b F1 D F H σ env acc) (g6 : Gd K (b.re F σ H env) F6 σ6 H6 e6) (s6 : Same F F6) : Mk K b F1 D F6 H6 σ6 e6 acc := by
  obtain ⟨vs, v1, v2⟩ := m.at_
  obtain ⟨k1, k2, k3⟩ := m.gd.kept g6 v1 m.no
  exact ⟨m.gd.unre g6, m.sm.trans s6, ⟨vs, k1, v2.mono s6⟩, k2 m.nf, m.n0, k3⟩
/-- the list grows -/
theorem Mk.put {ws : List V} {ac : List MP.D} (m : Mk K b F1 D F H σ env acc) (h : DnAll K F ws ac) : Mk K b F1 D F (upd H D (.lst ws)) σ env ac :=
  ⟨m.gd.other m.nf m.n0 m.no, m.sm, ⟨ws, upd_same, h⟩, m.nf, m.n0, m.no⟩
theorem wipe_wipe {is js : List Nat} (h : ∀ i ∈ js, i ∈ is) : wipe (wipe σ js) is = wipe σ is := by
  apply List.ext_getElem?
  intro j
  rw [wipe_get, wipe_get, wipe_get]
  by_cases e : j ∈ is
  · rw [if_pos e, if_pos e]
    by_cases e2 : j ∈ js
    · rw [if_pos e2]; cases σ[j]? <;> rfl
    · rw [if_neg e2]
  · rw [if_neg e, if_neg e, if_neg fun q => e (h j q)]
theorem blank_blank {is js : List Nat} (h : ∀ i ∈ js, i ∈ is) : blank (blank env js) is = blank env is := by
  apply List.ext_getElem?
  intro j
  rw [blank_get, blank_get, blank_get]
  by_cases e : j ∈ is
  · rw [if_pos e, if_pos e]
    by_cases e2 : j ∈ js
    · rw [if_pos e2]; cases env[j]? <;> rfl
    · rw [if_neg e2]
  · rw [if_neg e, if_neg e, if_neg fun q => e (h j q)]
theorem wipe_eq {is js : List Nat} {σ' : L2.St} (h : ∀ i ∈ js, i ∈ is) (e : wipe σ' js = wipe σ js) : wipe σ' is = wipe σ is := by
  rw [← wipe_wipe (σ := σ') h, e, wipe_wipe h]
end
section
variable {X : Cx}
theorem tLc2_of {is js : List Nat} {it it1 : IF} {g g1 : GF} {t t1 : BF} {f : EF} (hv : ∀ i ∈ js, i ∈ is) {σ : L2.St} {H : Hp} {Q : VK} (q : tEv X.K (eLc2 is js it g t it1 g1 t1 f) σ H Q) :
    tLc2 (tIv X.K it) (tGc X.K is g) (tBv X.K t) (tIv X.K it1) (tGc X.K js g1) (tBv X.K t1) (tEv X.K f) is js σ H Q := by
  obtain ⟨b, F, env, r, env', gd, hf, k⟩ := q
  unfold eLc2 at hf
  split at hf
  · cases hf
  rename_i ds e1 h1
  split at hf
  · cases hf
  rename_i acc0 e2 h2
  cases hf
  refine ⟨b, F, env, ds, e1, gd, h1, fun J H1 F1 g1' s1 ok D hD => ?_⟩
  obtain ⟨F2, s2, g2, no2⟩ := g1'.fzs is
  have h0D : b.H0 D = none := g1'.h0 hD
  refine ⟨fun i m H => ∃ F3 env3 acc σ3, m = ds.length - i ∧ Mk X.K b F2 D F3 H (wipe σ3 is) (blank env3 is) acc ∧ wipe σ3 is = wipe σ is ∧ env3.length = σ.length ∧ lcF2 is js g t it1 g1 t1 f (ds.drop i) env3 acc = some (acc0, e2), ⟨ds.length, F2, fzs e1 is, [], σ, rfl, ?_, rfl, g2.len, h2⟩, ?_⟩
  · have gb := (g2.ext (Xt.fresh (o := .lst []) g2.same hD)).blank is
    refine ⟨gb, Same.refl _, ⟨[], upd_same, .nil⟩, g2.same.free hD, h0D, fun i o => ?_⟩
    obtain ⟨⟨c, c1, c2⟩, _⟩ := id o
    obtain ⟨q, w, ⟨x, hx⟩, _⟩ := ((g2.blank is).cells i c c1).ownSome c2
    rw [o.join] at w; cases w
    rw [hD] at hx; cases hx
  · rintro i m H3 ⟨F3, env3, acc, σ3, rfl, mk, hw3, hln, hw⟩
    rw [hw3] at mk
    obtain ⟨okS, okG⟩ := ok F3 H3 (s2.trans mk.sm) mk.gd.same
    cases q : ds[i]? with
    | none =>
      have hl := List.getElem?_eq_none_iff.mp q
      rw [List.drop_of_length_le hl] at hw
      cases hw
      refine .inl ⟨okS i hl, ?_⟩
      obtain ⟨vs, v1, v2⟩ := mk.at_
      have gk := mk.gd.back g2 mk.sm no2
      refine k _ H3 F3 gk ((s1.trans s2).trans mk.sm) ⟨D, rfl, ⟨vs, v1, v2⟩, mk.nf, h0D, fun j o => ?_⟩
      obtain ⟨⟨c, c1, c2⟩, c3⟩ := o
      rw [back_get] at c1
      by_cases e : j ∈ is
      · rw [if_pos e] at c1
        cases q3 : e2[j]? with
        | none => rw [q3] at c1; cases c1
        | some w =>
          rw [q3] at c1
          cases q4 : (fzs e1 is)[j]? with
          | none => rw [q4] at c1; cases c1; cases c2
          | some w4 => rw [q4] at c1; cases c1; rw [show (some w4).getD .un = w4 from rfl, no2 j e _ q4] at c2; cases c2
      · rw [if_neg e] at c1
        exact mk.no j ⟨⟨c, by rw [blank_get, if_neg e]; exact c1, c2⟩, by rw [wipe_get, if_neg e]; exact c3⟩
    | some d =>
      have hl := lt_of_get q
      rw [List.drop_eq_getElem_cons hl] at hw
      have hd : ds[i] = d := by rw [List.getElem?_eq_getElem hl] at q; exact Option.some.inj q
      rw [hd] at hw
      obtain ⟨go, yl⟩ := okG i d q
      refine .inr ⟨go, fun H => ∃ F3 env3 acc σ3, Mk X.K b F2 D F3 H (wipe σ3 is) (blank env3 is) acc ∧ wipe σ3 is = wipe σ is ∧ env3.length = σ.length ∧ lcF2 is js g t it1 g1 t1 f (ds.drop (i + 1)) env3 acc = some (acc0, e2), fun H' ⟨F4, e4, a4, σ4, l4, w3, n4, w4⟩ => ⟨ds.length - (i + 1), by omega, F4, e4, a4, σ4, rfl, l4, w3, n4, w4⟩, fun x H4 hy => ?_⟩
      obtain ⟨F4, xt, dn⟩ := yl x H4 hy
      have mk4 := mk.ext xt
      unfold lcF2 at hw
      split at hw
      · cases hw
      rename_i e5 h5
      have wself : wipe (wipe σ is) is = wipe σ is := wipe_wipe fun i h => h
      refine ⟨b.re F4 (wipe σ is) H4 (blank env3 is), F4, blank env3 is, d, e5, mk4.gd.re, dn, h5, fun σ5 H5 F5 g5 s5 w5 => ⟨w5.trans wself, ?_⟩⟩
      have ww : wipe σ5 is = wipe σ is := w5.trans wself
      have hlen : ∀ {F6 H6 : Hp} {e6 : Ev} {b' : Base} {σ6 : L2.St}, Gd X.K b' F6 σ6 H6 e6 → wipe σ6 is = wipe σ is → e6.length = σ.length := fun {F6 H6 e6 b' σ6} g6 w6 => by
        have := g6.len
        have e := congrArg List.length w6
        rw [wipe_length, wipe_length] at e
        omega
      have fin : ∀ {F6 H6 : Hp} {e6 : Ev} {ac : List MP.D} {σ6 : L2.St}, Mk X.K b F2 D F6 H6 σ6 e6 ac → wipe σ6 is = wipe σ is → lcF2 is js g t it1 g1 t1 f (ds.drop (i + 1)) e6 ac = some (acc0, e2) →
          ∃ F3 env3 acc σ3, Mk X.K b F2 D F3 H6 (wipe σ3 is) (blank env3 is) acc ∧ wipe σ3 is = wipe σ is ∧ env3.length = σ.length ∧ lcF2 is js g t it1 g1 t1 f (ds.drop (i + 1)) env3 acc = some (acc0, e2) := fun {F6 H6 e6 ac σ6} m6 w6 h => ⟨F6, e6, ac, σ6, m6.blank is, w6, hlen m6.gd w6, h⟩
      cases q2 : t e5 with
      | none => rw [q2] at hw; cases hw
      | some re =>
        obtain ⟨kk, e6⟩ := re
        rw [q2] at hw
        refine ⟨_, F5, e5, kk, e6, g5, q2, fun H6 F6 g6 s6 => ?_⟩
        have mk6 := mk4.go g6 (s5.trans s6)
        cases kk with
        | false => exact iteF (fin mk6 ww hw)
        | true =>
          simp only at hw
          cases q3 : it1 e6 with
          | none => rw [q3] at hw; cases hw
          | some re =>
            obtain ⟨ds1, e7⟩ := re
            rw [q3] at hw
            simp only at hw
            split at hw
            · cases hw
            rename_i acc1 e8 q4
            refine iteT ⟨_, F6, e6, ds1, e7, mk6.gd.re, q3, fun J1 H7 F7 g7 s7 ok1 => ?_⟩
            have mk7 := mk6.go g7 s7
            -- the inner loop
            refine ⟨fun j m H => ∃ F8 e9 ac σ8, m = ds1.length - j ∧ Mk X.K b F2 D F8 H (wipe σ8 js) (blank e9 js) ac ∧ Same F7 F8 ∧ wipe σ8 js = wipe σ5 js ∧ e9.length = σ.length ∧ lcF js g1 t1 f (ds1.drop j) e9 ac = some (acc1, e8), ⟨ds1.length, F7, e7, acc, σ5, rfl, mk7.blank js, Same.refl _, rfl, hlen mk7.gd ww, q4⟩, ?_⟩
            rintro j m H8 ⟨F8, e9, ac, σ8, rfl, mk8, s8, w8, hl8, hw8⟩
            rw [w8] at mk8
            obtain ⟨okS1, okG1⟩ := ok1 F8 H8 s8 mk8.gd.same
            cases q5 : ds1[j]? with
            | none =>
              have hl1 := List.getElem?_eq_none_iff.mp q5
              rw [List.drop_of_length_le hl1] at hw8
              cases hw8
              refine .inl ⟨okS1 j hl1, ?_⟩
              have mb := mk8.blank is
              rw [wipe_wipe hv, blank_blank hv] at mb
              exact ⟨F8, e8, acc1, σ5, mb, ww, hl8, hw⟩
            | some d1 =>
              have hl1 := lt_of_get q5
              rw [List.drop_eq_getElem_cons hl1] at hw8
              have hd1 : ds1[j] = d1 := by rw [List.getElem?_eq_getElem hl1] at q5; exact Option.some.inj q5
              rw [hd1] at hw8
              obtain ⟨go1, yl1⟩ := okG1 j d1 q5
              refine .inr ⟨go1, fun H => ∃ F8 e9 ac σ8, Mk X.K b F2 D F8 H (wipe σ8 js) (blank e9 js) ac ∧ Same F7 F8 ∧ wipe σ8 js = wipe σ5 js ∧ e9.length = σ.length ∧ lcF js g1 t1 f (ds1.drop (j + 1)) e9 ac = some (acc1, e8), fun H' ⟨Fa, ea, aa, σa, z1, z2, z3, z4, z5⟩ => ⟨ds1.length - (j + 1), by omega, Fa, ea, aa, σa, rfl, z1, z2, z3, z4, z5⟩, fun x1 H9 hy1 => ?_⟩
              obtain ⟨F9, xt1, dn1⟩ := yl1 x1 H9 hy1
              have mk9 := mk8.ext xt1
              unfold lcF at hw8
              split at hw8
              · cases hw8
              rename_i ea ha
              have wself1 : wipe (wipe σ5 js) js = wipe σ5 js := wipe_wipe fun i h => h
              refine ⟨b.re F9 (wipe σ5 js) H9 (blank e9 js), F9, blank e9 js, d1, ea, mk9.gd.re, dn1, ha, fun σa Ha Fa ga sa wa => ⟨wa.trans wself1, ?_⟩⟩
              have wwa : wipe σa js = wipe σ5 js := wa.trans wself1
              have wwi : wipe σa is = wipe σ is := (wipe_eq hv wwa).trans ww
              cases q6 : t1 ea with
              | none => rw [q6] at hw8; cases hw8
              | some re =>
                obtain ⟨kb, eb⟩ := re
                rw [q6] at hw8
                refine ⟨_, Fa, ea, kb, eb, ga, q6, fun Hb Fb gb sb => ?_⟩
                have mkb := mk9.go gb (sa.trans sb)
                have s7b := ((s8.trans xt1.ff).trans sa).trans sb
                cases kb with
                | false => exact iteF ⟨Fb, eb, ac, σa, mkb.blank js, s7b, wwa, hlen mkb.gd wwi, hw8⟩
                | true =>
                  simp only at hw8
                  cases q7 : f eb with
                  | none => rw [q7] at hw8; cases hw8
                  | some re =>
                    obtain ⟨rc, ec⟩ := re
                    rw [q7] at hw8
                    simp only at hw8
                    split at hw8
                    · rename_i hz
                      refine iteT ⟨_, Fb, eb, rc, ec, gb, q7, fun v Hc Fc gc sc rv => ?_⟩
                      obtain ⟨Fd, sd, gd', dd⟩ := rv.freeze gc
                      have mkd := mk9.go gd' (((sa.trans sb).trans sc).trans sd)
                      obtain ⟨vs, v1, v2⟩ := mkd.at_
                      exact ⟨vs, v1, by rw [v2.length, SL_eq]; exact hz, Fd, ec, _, σa, (mkd.put (v2.append (.cons dd .nil))).blank js, (s7b.trans sc).trans sd, wwa, hlen mkd.gd wwi, hw8⟩
                    · cases hw8
theorem q_lc2 {elt tg iter tg1 iter1 : Expr} {ifs ifs1 : List Expr} {scope : Scope} (own : List (Str × Nat)) {is js : List Nat} {it it1 : IF} {g g1 : GF} {t t1 : BF} {f : EF} {pos : Pos} (hc : X.calm = true) (hN : X.N.Nodup) (hi : QI X tg iter it) (ok : BlkOk X.N X.env.scope scope own) (hv : ∀ i ∈ js, i ∈ is)
    (hg : ∀ (s : Shared) (H : Hp) (C : Addr) (cl : List (Str × Addr)) (fp : List Addr), QGc (X.blk s H scope (compEnvC scope cl C X.env) fp) is tg g) (ht : ∀ (s : Shared) (H : Hp) (C : Addr) (cl : List (Str × Addr)) (fp : List Addr), QTs (X.blk s H scope (compEnvC scope cl C X.env) fp) ifs t)
    (hi1 : ∀ (s : Shared) (H : Hp) (C : Addr) (cl : List (Str × Addr)) (fp : List Addr), QI (X.blk s H scope (compEnvC scope cl C X.env) fp) tg1 iter1 it1)
    (hg1 : ∀ (s : Shared) (H : Hp) (C : Addr) (cl : List (Str × Addr)) (fp : List Addr), QGc (X.blk s H scope (compEnvC scope cl C X.env) fp) js tg1 g1) (ht1 : ∀ (s : Shared) (H : Hp) (C : Addr) (cl : List (Str × Addr)) (fp : List Addr), QTs (X.blk s H scope (compEnvC scope cl C X.env) fp) ifs1 t1)
    (he : ∀ (s : Shared) (H : Hp) (C : Addr) (cl : List (Str × Addr)) (fp : List Addr), QE (X.blk s H scope (compEnvC scope cl C X.env) fp) elt f) (his : own.map (·.2) = is := by rfl) (hs : ∀ x, foldedSetIterable iter X.env x = pure x := by intro _; rfl) (hs1 : ∀ env x, foldedSetIterable iter1 env x = pure x := by intro _ _; rfl) :
    QE X (.ListComp elt [⟨tg, iter, ifs, 0⟩, ⟨tg1, iter1, ifs1, 0⟩] scope pos) (eLc2 is js it g t it1 g1 t1 f) := by
  subst his
  exact (pe_lc2 hc hN hi ok hv hg ht hi1 hg1 ht1 he hs hs1).imp fun _ _ _ q => tLc2_of hv q
theorem q_asgLc2 {i : Nat} {y : Str} {py : Pos} {elt tg iter tg1 iter1 : Expr} {ifs ifs1 : List Expr} {scope : Scope} (own : List (Str × Nat)) {is js : List Nat} {it it1 : IF} {g g1 : GF} {t t1 : BF} {f : EF} {pos spos : Pos} (hc : X.calm = true) (hN : X.N.Nodup)
    (hsw : swapsWith (.ListComp elt [⟨tg, iter, ifs, 0⟩, ⟨tg1, iter1, ifs1, 0⟩] scope pos) (some (.Name y py)) spos.line X.env = pure true) (hi : QI X tg iter it) (ok : BlkOk X.N X.env.scope scope own) (hv : ∀ i ∈ js, i ∈ is)
    (hg : ∀ (s : Shared) (H : Hp) (C : Addr) (cl : List (Str × Addr)) (fp : List Addr), QGc (X.blk s H scope (compEnvC scope cl C X.env) fp) is tg g) (ht : ∀ (s : Shared) (H : Hp) (C : Addr) (cl : List (Str × Addr)) (fp : List Addr), QTs (X.blk s H scope (compEnvC scope cl C X.env) fp) ifs t)
    (hi1 : ∀ (s : Shared) (H : Hp) (C : Addr) (cl : List (Str × Addr)) (fp : List Addr), QI (X.blk s H scope (compEnvC scope cl C X.env) fp) tg1 iter1 it1)
    (hg1 : ∀ (s : Shared) (H : Hp) (C : Addr) (cl : List (Str × Addr)) (fp : List Addr), QGc (X.blk s H scope (compEnvC scope cl C X.env) fp) js tg1 g1) (ht1 : ∀ (s : Shared) (H : Hp) (C : Addr) (cl : List (Str × Addr)) (fp : List Addr), QTs (X.blk s H scope (compEnvC scope cl C X.env) fp) ifs1 t1)
    (he : ∀ (s : Shared) (H : Hp) (C : Addr) (cl : List (Str × Addr)) (fp : List Addr), QE (X.blk s H scope (compEnvC scope cl C X.env) fp) elt f) (hy : X.N[i]? = some y := by rfl) (hyl : X.env.scope.names.lookup y = some .local := by rfl) (his : own.map (·.2) = is := by rfl) (hs : ∀ x, foldedSetIterable iter X.env x = pure x := by intro _; rfl) (hs1 : ∀ env x, foldedSetIterable iter1 env x = pure x := by intro _ _; rfl) :
    QS X (.Assign [.Name y py] (.ListComp elt [⟨tg, iter, ifs, 0⟩, ⟨tg1, iter1, ifs1, 0⟩] scope pos) spos) (sAsg i (eLc2 is js it g t it1 g1 t1 f)) := by
  subst his
  exact q_asgT (ps_setLc2 hc hN hy hyl hsw hi ok hv hg ht hi1 hg1 ht1 he hs hs1) fun _ _ _ q => tLc2_of hv q
end
end MP
namespace MP
open PySem PySem.Spec PyProof.Rows L2
/-! ### sorted(texts, key=len) -/
abbrev lenLe : Tx → Tx → Bool := fun a b => decide ((a.length : Int) ≤ (b.length : Int))
section
variable {X : Cx}
def rSortLen (K : PySem.W.Frag) : List V → Hp → VK → Prop := fun vs H Q => ∃ (a : Addr) (ys : List Tx), vs = [V.ref a] ∧ SqL K H a (ys.map fun y => V.str (MP.S y)) ∧ (∀ y ∈ ys, y.length ≤ sizeLine) ∧ ys.length ≤ sizeLine ∧
  ∀ p, H p = none → Q (.ref p) (upd H p (.lst ((ys.mergeSort lenLe).map fun y => V.str (MP.S y))))
theorem txt_each : ∀ {ys : List Tx} {us : List Value}, Vals (ys.map fun y => V.str (MP.S y)) us → PySem.W.EachIs (fun v (y : Tx) => RelV (.str (MP.S y)) v) us ys
  | [], _, .nil => .nil
  | _ :: _, _, .cons h t => .cons h (txt_each t)
theorem each_txt : ∀ {ys : List Tx} {us : List Value}, PySem.W.EachIs (fun v (y : Tx) => RelV (.str (MP.S y)) v) us ys → Vals (ys.map fun y => V.str (MP.S y)) us
  | _, _, .nil => .nil
  | _, _, .cons h t => .cons h (each_txt t)
theorem S_len (y : Tx) : (MP.S y).length = y.length := by
  simp [MP.S, Str.length]
theorem run_sortLen (hu : X.A.units + 66 < cLine) {pins : List (Addr × Obj)} {s : Shared} {σ : L2.St} {H : Hp} {vs : List V} {us : List Value} {Q : VK} (I : Inv X pins σ H s) (r : Vals vs us) (h : rSortLen X.K vs H Q) :
    wpAny (model X.prog X.w) X.A (call (.builtin "sorted") us [(Str.ofString "key", .builtin "len")]) (EP X pins σ Q) X.xe s := by
  obtain ⟨a, ys, rfl, hs, hl1, hl2, q⟩ := h
  obtain ⟨its, rv, hl, hz⟩ := I.list hs
  rw [Vals.ref1 r]
  have e := txt_each rv
  refine PySem.W.sorted_key_data (b := false) (fun y : Tx => .int (y.length : Int)) hl.isList e (PySem.W.AllAlike.of fun _ _ => by simp [PySem.W.alike]) ?_ hl2 ?_ (PyProof.Rows.ksk_s1 _ _) (fun _ => PyProof.Rows.ksk_l1 _ _) (fun _ => PyProof.Rows.ksk_t4 _ _) ?_ ?_
  · refine .inr fun d hd => ?_
    obtain ⟨y, _, rfl⟩ := List.mem_map.mp hd
    exact ⟨fun q => (nomatch q), fun xs q => (nomatch q)⟩
  · intro y _
    have : (PyData.int (y.length : Int)).depth = 0 := rfl
    omega
  · intro v y hv hy hp tk kp
    obtain ⟨t, rfl⟩ := hv
    have hz : (MP.S y).length ≤ sizeLine := by rw [S_len]; exact hl1 y hy
    have hn := line63
    refine len_str (by omega) ⟨hp, _, rfl, fun _ _ q => q, ?_⟩
    rw [S_len]
    first | exact .int | exact .int _ _ | exact Reads.int
  · intro out c h' tk kp fr hD hlen eo
    rw [PySem.W.dataLe_int] at eo
    refine ⟨.ref _, upd H (s.heap.objs.size + 1) (.lst ((ys.mergeSort lenLe).map fun y => V.str (MP.S y))), I.laid (t' := tk) kp (Nat.le_succ _) ⟨?_, out, c, each_txt eo, hD⟩, rfl, q _ (I.hok.fresh (Nat.le_succ _))⟩
    rw [List.length_map, List.length_mergeSort]
    exact hl2
theorem pe_sortLen {e : Expr} {t : TA} {p p2 kp pos : Pos} (hu : X.A.units + 66 < cLine) (hm : X.mg "sorted" = none) (hm2 : X.mg "len" = none) (ha : PA X [e] t) (hg : Gl X "sorted" := by rfl) (hg2 : Gl X "len" := by rfl)
    (he : backTo pos (starEach [e] X.env) = (false, eval e X.env) :: backTo pos (starEach [] X.env) := by rfl) (hpl : (backTo pos (starEach [e] X.env)).any (·.1) = false := by rfl) :
    PE X (.Call (.Name "sorted" p) [e] [⟨some "key", .Name "len" p2, kp⟩] pos) (tCB (rSortLen X.K) t) := by
  refine ⟨fun pins s σ H Q I h => ?_⟩
  refine wpAny_Call_Name_kw (ld_blt I hg hm (by decide +kernel : bootBuiltins "sorted" = some (.builtin "sorted")) ?_)
  refine PyProof.Rows.callWith_kw (thn (ha.run pos pins s σ H _ I h) fun us s1 ⟨vs, H1, I1, r1, q1⟩ => ?_) he hpl
  show wpAny _ _ (evalAll [(do let v ← eval (.Name "len" p2) X.env; standAt pos; pure v)]) _ _ s1
  refine wpAny_evalAll_cons (wpAny_bind (ld_blt I1 hg2 hm2 (by decide +kernel : bootBuiltins "len" = some (.builtin "len")) (wpAny_bind (wpAny_standAt (wpAny_pure (wpAny_evalAll_nil ?_))))))
  exact run_sortLen hu I1 r1 q1
end
def fSortLen : List D → Option R := fun ds => match ds with
  | [.lst es] => match texts es with
    | some xs => if (∀ y ∈ xs, y.length ≤ SL) ∧ xs.length ≤ SL then some (.fr (.lst ((xs.mergeSort lenLe).map D.str))) else none
    | none => none
  | _ => none
theorem ok_sortLen {K : PySem.W.Frag} : CallOk K (rSortLen K) fSortLen := fun F H vs ds res Q ag hd e k => by
  unfold fSortLen at e
  split at e
  · rename_i es
    split at e
    · rename_i xs h1
      split at e
      · rename_i c
        cases e
        cases hd with
        | cons h t =>
          cases t
          obtain ⟨a, ws, rfl, h3, h4⟩ := h.lst_inv ag
          rw [texts_dn h4 h1, List.map_map] at h3
          refine ⟨a, xs, rfl, .of h3, fun y hy => ?_, ?_, fun p hp => ?_⟩
          · rw [sizeLine_eq]; exact c.1 y hy
          · rw [sizeLine_eq]; exact c.2
          · have := k (.ref p) (upd H p (.lst ((xs.mergeSort lenLe).map fun y => V.str (MP.S y)))) F (Xt.fresh ag hp) ((by rw [show ((xs.mergeSort lenLe).map fun y => V.str (MP.S y)) = ((xs.mergeSort lenLe).map MP.S).map V.str by rw [List.map_map]; rfl]; exact dn_texts _ : DnAll K F _ _).toRF ag hp)
            exact this
      · cases e
    · cases e
  · cases e
theorem q_sortLen {X : Cx} {e : Expr} {a : AF} {p p2 kp pos : Pos} (hu : X.A.units + 66 < cLine) (hm : X.mg "sorted" = none) (hm2 : X.mg "len" = none) (ha : QA X [e] a) (hg : Gl X "sorted" := by rfl) (hg2 : Gl X "len" := by rfl)
    (he : backTo pos (starEach [e] X.env) = (false, eval e X.env) :: backTo pos (starEach [] X.env) := by rfl) (hpl : (backTo pos (starEach [e] X.env)).any (·.1) = false := by rfl) :
    QE X (.Call (.Name "sorted" p) [e] [⟨some "key", .Name "len" p2, kp⟩] pos) (eCall fSortLen a) :=
  (pe_sortLen hu hm hm2 ha hg hg2 he hpl).imp fun _ _ _ q => tCB_of ok_sortLen q
end MP
namespace MP
open PySem PySem.Spec PyProof.Rows L2
/-! ### a, b = e1, e2, fresh objects kept one's own -/
def sParO (i j : Nat) (f h : EF) : SF := fun env => match f env with
  | none => none
  | some (r, e1) => match h e1 with
    | none => none
    | some (q, e2) => match put e2 i r.cell with
      | none => none
      | some e3 => match put e3 j q.cell with
        | none => none
        | some e4 => some (.nx, e4)
section
variable {X : Cx}
theorem q_parO {i j : Nat} {x y : Str} {a c : Expr} {f h : EF} {px py pt pos : Pos} {kt k2 pt2} (hc : X.calm = true) (hN : X.N.Nodup) (hi : X.N[i]? = some x := by rfl) (hj : X.N[j]? = some y := by rfl) (hij : i ≠ j := by decide)
    (hx : X.env.scope.names.lookup x = some .local := by rfl) (hy : X.env.scope.names.lookup y = some .local := by rfl) (ha : QE X a f) (hb : QE X c h)
    (hw : swappedStores [.Tuple [.Name x px, .Name y py] kt pt] (.Tuple [a, c] k2 pt2) X.env = pure (some [x, y]) := by rfl)
    (hs : swapsWithSole [.Tuple [.Name x px, .Name y py] kt pt] (.Tuple [a, c] k2 pt2) pos.line X.env = pure false := by rfl)
    (n1 : starEach [a, c] X.env = (false, eval a X.env) :: starEach [c] X.env := by rfl) (n2 : starEach [c] X.env = (false, eval c X.env) :: starEach [] X.env := by rfl) :
    QS X (.Assign [.Tuple [.Name x px, .Name y py] kt pt] (.Tuple [a, c] k2 pt2) pos) (sParO i j f h) :=
  (ps_par hc hN hi hj hij hx hy (pa_cons ha (pa_cons hb pa_nil n2) n1) hw hs).imp fun D σ H q => by
    obtain ⟨b, F, env, fl, env', gd, hf, k⟩ := q
    unfold sParO at hf
    split at hf
    · cases hf
    rename_i r e1 h1
    split at hf
    · cases hf
    rename_i r2 e2 h2
    split at hf
    · cases hf
    rename_i e3 h3
    split at hf
    · cases hf
    rename_i e4 h4
    cases hf
    refine ⟨b, F, env, r, e1, gd, h1, fun v H1 F1 g1 s1 rv1 => ?_⟩
    refine ⟨b.re F1 σ H1 e1, F1, e1, r2, e2, g1.re, h2, fun w H3 F3 g3 s3 rv3 => ?_⟩
    have g4 := g1.unre g3
    have z : ∀ p, (b.re F1 σ H1 e1).H0 p = none → b.H0 p = none := fun p hp => by
      rcases Base.re_cases (b := b) (F := F1) (H := H1) (env := e1) (σ := σ) p with ⟨i, q⟩ | ⟨_, q⟩
      · exact (g1.own0 q).1
      · rw [q] at hp; exact g1.h0 hp
    have rv1' : RV X.K b F3 H3 σ e2 v r := by
      cases r with
      | im d => exact Dn.mono s3 rv1
      | fr d =>
        obtain ⟨p, e, o1, n1, n0, no⟩ := rv1
        obtain ⟨o, ho⟩ := o1.has
        obtain ⟨k1, k2, k3⟩ := g1.kept g3 ho no
        exact ⟨p, e, o1.mono s3 (k1.trans ho.symm), k2 n1, n0, k3⟩
    have g5 := g4.put (i := i) (r := r) (v := v) rv1' h3
    have rv3' : RV X.K b F3 H3 (σ.set i (some v)) e3 w r2 := by
      cases r2 with
      | im d => exact rv3
      | fr d =>
        obtain ⟨p', e, o3, n3, n0, no⟩ := rv3
        refine ⟨p', e, o3, n3, z p' n0, fun t ot => ?_⟩
        obtain ⟨c0, q1, q2, rfl⟩ := put_some h3
        obtain ⟨⟨c, ot1, ot2⟩, ot3⟩ := ot
        by_cases ht : i = t
        · subst ht
          have hl := lt_of_get q1
          rw [List.getElem?_set_self hl] at ot1
          cases ot1
          have hσ : i < σ.length := by rw [← g4.len]; exact hl
          rw [List.getElem?_set_self hσ] at ot3
          cases ot3
          cases r with
          | im d => cases ot2
          | fr d =>
            obtain ⟨p, e', o1, n1, n0', no'⟩ := rv1
            cases e'
            obtain ⟨o, ho⟩ := o1.has
            rw [Base.re_no no', ho] at n0
            cases n0
        · rw [List.getElem?_set_ne ht] at ot1 ot3
          exact no t ⟨⟨c, ot1, ot2⟩, ot3⟩
    have g6 := g5.put (i := j) (r := r2) (v := w) rv3' h4
    exact ⟨v, w, rfl, k _ _ _ g6 (s1.trans s3)⟩
end
@[simp] theorem x_sParO (i j : Nat) (f h : EF) (env : Ev) : sParO i j f h env = (match f env with
  | none => none
  | some (r, e1) => match h e1 with
    | none => none
    | some (q, e2) => match put e2 i r.cell with
      | none => none
      | some e3 => match put e3 j q.cell with
        | none => none
        | some e4 => some (.nx, e4)) := id rfl
end MP
namespace MP
open PySem PySem.Spec PyProof.Rows L2
@[simp] theorem x_eAlt (f g : EF) (env : Ev) : eAlt f g env = (match f env with
  | some r => some r
  | none => g env) := id rfl
@[simp] theorem x_eRgL1 (f : EF) (env : Ev) : eRgL1 f env = (match f env with
  | some (.im (.int n), e) => if small n = true ∧ n.toNat ≤ SL then some (.fr (.lst (rng 0 n.toNat 1)), e) else none
  | _ => none) := id rfl
@[simp] theorem x_eRgL2 (f g : EF) (env : Ev) : eRgL2 f g env = (match f env with
  | some (.im (.int m), e1) => match g e1 with
    | some (.im (.int n), e) => if (small m = true ∧ small n = true) ∧ (n - m).toNat ≤ SL then some (.fr (.lst (rng m (n - m).toNat 1)), e) else none
    | _ => none
  | _ => none) := id rfl
@[simp] theorem z_mulI (i j : Int) : fMulA (.int i) (.int j) = fMul (.int i) (.int j) := by
  show fAlt _ _ _ _ = _
  unfold fAlt
  split
  · rename_i r h; rw [h]
  · rename_i h; rw [h]; rfl
@[simp] theorem z_mulS (a : Tx) (n : Int) : fMulA (.str a) (.int n) = if -1000000 ≤ n ∧ n ≤ 1000000 ∧ a.length * n.toNat ≤ SL ∧ a.length ≤ SL then some (.im (.str (repT a n.toNat))) else none := by
  show (match fMul (.str a) (.int n) with | some r => some r | none => (match fMulS (.str a) (.int n) with | some r => some r | none => fRep (.str a) (.int n))) = _
  have h1 : fMul (.str a) (.int n) = none := rfl
  have h2 : fRep (.str a) (.int n) = none := rfl
  have h3 : fMulS (.str a) (.int n) = if -1000000 ≤ n ∧ n ≤ 1000000 ∧ a.length * n.toNat ≤ SL ∧ a.length ≤ SL then some (.im (.str (repT a n.toNat))) else none := rfl
  rw [h1, h2, h3]
  by_cases c : -1000000 ≤ n ∧ n ≤ 1000000 ∧ a.length * n.toNat ≤ SL ∧ a.length ≤ SL
  · rw [if_pos c]
  · rw [if_neg c]
@[simp] theorem z_mulL (xs : List D) (k : Int) : fMulA (.lst xs) (.int k) = fRep (.lst xs) (.int k) := by
  have h1 : fMul (.lst xs) (.int k) = none := rfl
  have h2 : fMulS (.lst xs) (.int k) = none := rfl
  show (match fMul (.lst xs) (.int k) with | some r => some r | none => (match fMulS (.lst xs) (.int k) with | some r => some r | none => fRep (.lst xs) (.int k))) = _
  rw [h1, h2]
@[simp] theorem z_s0 (x : List D) : D.isStr (.lst x) = false := id rfl
@[simp] theorem z_s1 (x : List D) : D.isStr (.fz x) = false := id rfl
@[simp] theorem z_s2 (x : List D) : D.isStr (.tup x) = false := id rfl
@[simp] theorem z_l0 (x : List D) : D.isLst (.lst x) = true := id rfl
@[simp] theorem z_l1 (x : List D) : D.isLst (.fz x) = true := id rfl
@[simp] theorem z_l2 (x : Tx) : D.isLst (.str x) = false := id rfl
@[simp] theorem z_ltS (a b : Tx) : fLt (.str a) (.str b) = some (.im (.bl (ltT a b))) := id rfl
@[simp] theorem z_leS (a b : Tx) : fLe (.str a) (.str b) = some (.im (.bl (!ltT b a))) := id rfl
@[simp] theorem z_gtS (a b : Tx) : fGt (.str a) (.str b) = some (.im (.bl (ltT b a))) := id rfl
@[simp] theorem z_geS (a b : Tx) : fGe (.str a) (.str b) = some (.im (.bl (!ltT a b))) := id rfl
@[simp] theorem z_len1 (x : List D) : fSortLen [.lst x] = (match texts x with | some xs => if (∀ y ∈ xs, y.length ≤ SL) ∧ xs.length ≤ SL then some (.fr (.lst ((xs.mergeSort lenLe).map D.str))) else none | none => none) := id rfl
/-! ### texts in order -/
theorem ltT_irrefl (a : Tx) : ltT a a = false := by
  unfold ltT
  rw [decide_eq_false_iff_not]
  exact List.lt_irrefl a
theorem ltT_iff {a b : Tx} : ltT a b = true ↔ a < b := by unfold ltT; rw [decide_eq_true_eq]
theorem ltT_false {a b : Tx} : ltT a b = false ↔ ¬ a < b := by unfold ltT; rw [decide_eq_false_iff_not]
theorem tx_trans {a b c : Tx} (h : a < b) (h' : b < c) : a < c := List.lt_trans h h'
theorem tx_total {a b : Tx} (h : ¬ a < b) (h' : ¬ b < a) : a = b := List.le_antisymm (List.not_lt.mp h') (List.not_lt.mp h)
/-! ### the least text -/
def uniT (x : Tx) : Prop := ∀ c ∈ x, c < 1114112
theorem plain_str {x : Tx} (h : uniT x) : D.plain (.str x) = true := by
  rw [D.plain, List.all_eq_true]
  intro c hc
  rw [decide_eq_true_eq]
  exact h c hc
theorem plains_strs : ∀ {xs : List Tx}, (∀ x ∈ xs, uniT x) → D.plains (xs.map D.str) = true
  | [], _ => rfl
  | x :: xs, h => by
    rw [List.map_cons, D.plains, plain_str (h x List.mem_cons_self), plains_strs fun y hy => h y (List.mem_cons_of_mem _ hy)]
    rfl
theorem okE_str {x : Tx} (h : uniT x) : (D.str x).okE = true := by
  unfold D.okE
  rw [plain_str h]
  rfl
theorem okE_strs {xs : List Tx} (h : ∀ x ∈ xs, uniT x) : (D.lst (xs.map D.str)).okE = true := by
  unfold D.okE
  rw [D.plain, plains_strs h, D.dep, deps_flat D.str fun _ => rfl]
  rfl
theorem ltD_str (a b : Tx) : ltD (.str a) (.str b) = ltT a b := by
  unfold ltD
  show PySem.W.dataLt (.str (MP.S a)) (.str (MP.S b)) = _
  rw [PySem.W.dataLt_str]
  rfl
def minX (x : Tx) (xs : List Tx) : Tx := xs.foldl (fun a y => if ltT y a then y else a) x
theorem minG_txt : ∀ (xs : List Tx) (x : Tx), minG (.str x) (xs.map D.str) = .str (minX x xs)
  | [], x => rfl
  | y :: r, x => by
    show minG (if ltD (.str y) (.str x) then .str y else .str x) (r.map D.str) = _
    rw [ltD_str]
    unfold minX
    rw [List.foldl_cons]
    cases h : ltT y x
    · exact minG_txt r x
    · exact minG_txt r y
theorem minX_mem : ∀ (xs : List Tx) (x : Tx), minX x xs ∈ x :: xs
  | [], x => List.mem_cons_self
  | y :: r, x => by
    unfold minX
    rw [List.foldl_cons]
    cases h : ltT y x
    · have := minX_mem r x
      show minX x r ∈ _
      rcases List.mem_cons.mp this with q | q
      · rw [q]; exact List.mem_cons_self
      · exact List.mem_cons_of_mem _ (List.mem_cons_of_mem _ q)
    · exact List.mem_cons_of_mem _ (minX_mem r y)
theorem minX_le : ∀ (xs : List Tx) (x : Tx), ∀ y ∈ x :: xs, ¬ y < minX x xs
  | [], x, y, hy => by
    rw [List.mem_singleton] at hy
    subst hy
    exact List.lt_irrefl _
  | z :: r, x, y, hy => by
    unfold minX
    rw [List.foldl_cons]
    have ih := minX_le r
    cases h : ltT z x
    · simp only [Bool.false_eq_true, if_false]
      rw [ltT_false] at h
      have hx := ih x x List.mem_cons_self
      rcases List.mem_cons.mp hy with rfl | hy
      · exact hx
      · rcases List.mem_cons.mp hy with rfl | hy
        · intro q
          by_cases e : y = x
          · subst e; exact hx q
          · have : x < y := Classical.byContradiction fun w => e (tx_total h w)
            exact hx (tx_trans this q)
        · exact ih x y (List.mem_cons_of_mem _ hy)
    · simp only [if_true]
      rw [ltT_iff] at h
      have hz := ih z z List.mem_cons_self
      rcases List.mem_cons.mp hy with rfl | hy
      · exact fun q => hz (tx_trans h q)
      · exact ih z y hy
theorem minX_uniq {x y : Tx} {xs ys : List Tx} (h : ∀ z, z ∈ x :: xs ↔ z ∈ y :: ys) : minX x xs = minX y ys := by
  have h1 := minX_mem xs x
  have h2 := minX_mem ys y
  exact tx_total (fun q => minX_le ys y _ ((h _).mp h1) q) (fun q => minX_le xs x _ ((h _).mpr h2) q)
theorem alike_str (a b : Tx) : PySem.W.alike (D.str a).py (D.str b).py = true := by
  show PySem.W.alike (.str (MP.S a)) (.str (MP.S b)) = true
  simp [PySem.W.alike]
theorem fMin_txt (x : Tx) (xs : List Tx) (h : ∀ y ∈ x :: xs, uniT y) : fMinA [.lst ((x :: xs).map D.str)] = some (.im (.str (minX x xs))) := by
  have h1 : fMin1 [.lst ((x :: xs).map D.str)] = none := rfl
  have h2 : fMinD [.lst ((x :: xs).map D.str)] = none := rfl
  show (match fMin1 [.lst ((x :: xs).map D.str)] with | some r => some r | none => (match fMinD [.lst ((x :: xs).map D.str)] with | some r => some r | none => fMinG [.lst ((x :: xs).map D.str)])) = _
  rw [h1, h2]
  suffices hh : fMinG [.lst ((x :: xs).map D.str)] = some (.im (.str (minX x xs))) by rw [hh]
  show fBest minG [.lst (.str x :: xs.map D.str)] = _
  unfold fBest
  have hb : bestOk (.str x :: xs.map D.str) = true := by
    unfold bestOk
    rw [Bool.and_eq_true, Bool.and_eq_true]
    refine ⟨⟨okE_strs (xs := x :: xs) h, ?_⟩, ?_⟩
    · rw [List.all_eq_true]
      intro a ha
      rw [List.all_eq_true]
      intro b hb
      obtain ⟨a, _, rfl⟩ := List.mem_map.mp (show a ∈ (x :: xs).map D.str from ha)
      obtain ⟨b, _, rfl⟩ := List.mem_map.mp (show b ∈ (x :: xs).map D.str from hb)
      exact alike_str a b
    · rw [List.all_eq_true]
      intro a ha
      obtain ⟨a, _, rfl⟩ := List.mem_map.mp (show a ∈ (x :: xs).map D.str from ha)
      rfl
  show (if bestOk (.str x :: xs.map D.str) = true then some (R.im (minG (.str x) (xs.map D.str))) else none) = _
  rw [if_pos hb, minG_txt]
/-! ### list.index, list.count of texts -/
theorem fIndex_txt {xs : List Tx} {x : Tx} (h : ∀ y ∈ xs, uniT y) (hx : x ∈ xs) : fIndexL (.lst (xs.map D.str)) [.str x] = some (.im (.int (xs.idxOf x : Nat))) := by
  unfold fIndexL
  simp only [okE_strs h, okE_str (h x hx), Bool.and_self, if_true]
  have : ∀ ys : List Tx, x ∈ ys → (ys.map D.str).findIdx? (fun e => eqP e (.str x)) = some (ys.idxOf x) := fun ys hy => by
    induction ys with
    | nil => cases hy
    | cons y r ih =>
      rw [List.map_cons, List.findIdx?_cons]
      show (if (y == x) = true then _ else _) = _
      rw [List.idxOf_cons]
      cases e : (y == x)
      · have hne : x ≠ y := fun q => by subst q; simp at e
        have hr : x ∈ r := (List.mem_cons.mp hy).resolve_left hne
        simp [ih hr]
      · simp
  rw [this xs hx]
theorem fCount_txt {xs : List Tx} {x : Tx} (h : ∀ y ∈ xs, uniT y) (hx : uniT x) : fCountL (.lst (xs.map D.str)) [.str x] = some (.im (.int (xs.count x : Nat))) := by
  unfold fCountL
  simp only [okE_strs h, okE_str hx, Bool.and_self, if_true]
  rw [List.countP_map]
  rfl
/-! ### all, any of made lists -/
theorem bools_map {α : Type} (b : α → Bool) : ∀ l : List α, bools (l.map fun x => D.bl (b x)) = some (l.map b)
  | [] => rfl
  | x :: l => by rw [List.map_cons, bools, bools_map b l]; rfl
theorem fAll_map {α : Type} (b : α → Bool) (l : List α) : fAll [.lst (l.map fun x => D.bl (b x))] = some (.im (.bl (l.all b))) := by
  unfold fAll fBoolsL
  simp only [bools_map, List.all_map]
  rfl
theorem fAny_map {α : Type} (b : α → Bool) (l : List α) : fAny [.lst (l.map fun x => D.bl (b x))] = some (.im (.bl (l.any b))) := by
  unfold fAny fBoolsL
  simp only [bools_map, List.any_map]
  rfl
/-! ### comprehensions over ranges and texts -/
def nI (i : Nat) : D := .int (i : Int)
theorem rng_range' (lo n : Nat) : rng (lo : Int) n 1 = (List.range' lo n).map nI := by
  unfold rng
  rw [List.range'_eq_map_range, List.map_map]
  refine List.map_congr_left fun i _ => ?_
  show D.int _ = D.int _
  simp
theorem rng_range (n : Nat) : rng 0 n 1 = (List.range n).map nI := by
  have := rng_range' 0 n
  rw [List.range_eq_range']
  exact this
def natB (b : Nat → D) : D → D
  | .int i => b i.toNat
  | _ => .non
def natP (p : Nat → Bool) : D → Bool
  | .int i => p i.toNat
  | _ => false
theorem natB_nI (b : Nat → D) (l : List Nat) : (l.map nI).map (natB b) = l.map b := by
  rw [List.map_map]
  exact List.map_congr_left fun i _ => rfl
theorem natP_nI (p : Nat → Bool) (l : List Nat) : (l.map nI).filter (natP p) = (l.filter p).map nI := by
  rw [List.filter_map]
  rfl
section
variable {is : List Nat} {it : IF} {g : GF} {t : BF} {f : EF} {env e : Ev}
theorem lc_nats (l : List Nat) (b : Nat → D) (hi : it env = some (l.map nI, e)) (hl : l.length ≤ SL)
    (st : ∀ i ∈ l, ∃ e1 r e3, g (.int (i : Int)) (blank (fzs e is) is) = some e1 ∧ f e1 = some (r, e3) ∧ r.d = b i ∧ blank e3 is = blank (fzs e is) is) :
    eLc is it g bTrue f env = some (.fr (.lst (l.map b)), fzs e is) := by
  rw [lc_map (ds := l.map nI) (natB b) hi (by rw [List.length_map]; exact hl) fun d hd => ?_, natB_nI]
  obtain ⟨i, hi, rfl⟩ := List.mem_map.mp hd
  exact st i hi
theorem lc_natsF (l : List Nat) (p : Nat → Bool) (b : Nat → D) (hi : it env = some (l.map nI, e)) (hl : l.length ≤ SL)
    (st : ∀ i ∈ l, ∃ e1 e2, g (.int (i : Int)) (blank (fzs e is) is) = some e1 ∧ t e1 = some (p i, e2) ∧ (p i = false → blank e2 is = blank (fzs e is) is) ∧ (p i = true → ∃ r e3, f e2 = some (r, e3) ∧ r.d = b i ∧ blank e3 is = blank (fzs e is) is)) :
    eLc is it g t f env = some (.fr (.lst ((l.filter p).map b)), fzs e is) := by
  rw [lc_filter (ds := l.map nI) (natP p) (natB b) hi (by rw [List.length_map]; exact hl) fun d hd => ?_, natP_nI, natB_nI]
  obtain ⟨i, hi, rfl⟩ := List.mem_map.mp hd
  exact st i hi
def txB (b : Tx → D) : D → D
  | .str i => b i
  | _ => .non
def txP (p : Tx → Bool) : D → Bool
  | .str i => p i
  | _ => false
theorem lc_txts (l : List Tx) (b : Tx → D) (hi : it env = some (l.map D.str, e)) (hl : l.length ≤ SL)
    (st : ∀ x ∈ l, ∃ e1 r e3, g (.str x) (blank (fzs e is) is) = some e1 ∧ f e1 = some (r, e3) ∧ r.d = b x ∧ blank e3 is = blank (fzs e is) is) :
    eLc is it g bTrue f env = some (.fr (.lst (l.map b)), fzs e is) := by
  rw [lc_map (ds := l.map D.str) (txB b) hi (by rw [List.length_map]; exact hl) fun d hd => ?_, List.map_map]
  · rfl
  · obtain ⟨i, hi, rfl⟩ := List.mem_map.mp hd
    exact st i hi
theorem lc_txtsF (l : List Tx) (p : Tx → Bool) (b : Tx → D) (hi : it env = some (l.map D.str, e)) (hl : l.length ≤ SL)
    (st : ∀ x ∈ l, ∃ e1 e2, g (.str x) (blank (fzs e is) is) = some e1 ∧ t e1 = some (p x, e2) ∧ (p x = false → blank e2 is = blank (fzs e is) is) ∧ (p x = true → ∃ r e3, f e2 = some (r, e3) ∧ r.d = b x ∧ blank e3 is = blank (fzs e is) is)) :
    eLc is it g t f env = some (.fr (.lst ((l.filter p).map b)), fzs e is) := by
  rw [lc_filter (ds := l.map D.str) (txP p) (txB b) hi (by rw [List.length_map]; exact hl) fun d hd => ?_, List.filter_map, List.map_map]
  · rfl
  · obtain ⟨i, hi, rfl⟩ := List.mem_map.mp hd
    exact st i hi
end
/-! ### loops that look for the first one -/
def fndR (r : Nat → R) : Option Nat → Fl
  | some i => .rt (r i)
  | none => .nx
theorem forF_find {g : GF} {f : SF} (P : Ev → Prop) (p : Nat → Bool) (r : Nat → R) : ∀ (l : List Nat) (env : Ev), P env →
    (∀ i ∈ l, ∀ env, P env → ∃ e1 e2, g (.int (i : Int)) env = some e1 ∧ f e1 = some ((if p i then Fl.rt (r i) else Fl.nx), e2) ∧ P e2) →
    ∃ e, P e ∧ forF g f (l.map nI) env = some (fndR r (l.find? p), e)
  | [], env, h, _ => ⟨env, h, rfl⟩
  | i :: l, env, h, st => by
    obtain ⟨e1, e2, h1, h2, h3⟩ := st i List.mem_cons_self env h
    cases hp : p i with
    | true =>
      refine ⟨e2, h3, ?_⟩
      rw [hp] at h2
      rw [List.map_cons, forF, show nI i = .int (i : Int) from rfl, h1]
      simp only [h2, List.find?_cons, hp, if_true]
      rfl
    | false =>
      rw [hp] at h2
      obtain ⟨e, q1, q2⟩ := forF_find P p r l e2 h3 fun j hj => st j (List.mem_cons_of_mem _ hj)
      refine ⟨e, q1, ?_⟩
      rw [List.map_cons, forF, show nI i = .int (i : Int) from rfl, h1]
      simp only [h2, List.find?_cons, hp, Bool.false_eq_true, if_false]
      exact q2
/-- loops over texts -/
def fndT (r : Tx → R) : Option Tx → Fl
  | some i => .rt (r i)
  | none => .nx
theorem forF_findT {g : GF} {f : SF} (P : Ev → Prop) (p : Tx → Bool) (r : Tx → R) : ∀ (l : List Tx) (env : Ev), P env →
    (∀ i ∈ l, ∀ env, P env → ∃ e1 e2, g (.str i) env = some e1 ∧ f e1 = some ((if p i then Fl.rt (r i) else Fl.nx), e2) ∧ P e2) →
    ∃ e, P e ∧ forF g f (l.map D.str) env = some (fndT r (l.find? p), e)
  | [], env, h, _ => ⟨env, h, rfl⟩
  | i :: l, env, h, st => by
    obtain ⟨e1, e2, h1, h2, h3⟩ := st i List.mem_cons_self env h
    cases hp : p i with
    | true =>
      refine ⟨e2, h3, ?_⟩
      rw [hp] at h2
      rw [List.map_cons, forF, h1]
      simp only [h2, List.find?_cons, hp, if_true]
      rfl
    | false =>
      rw [hp] at h2
      obtain ⟨e, q1, q2⟩ := forF_findT P p r l e2 h3 fun j hj => st j (List.mem_cons_of_mem _ hj)
      refine ⟨e, q1, ?_⟩
      rw [List.map_cons, forF, h1]
      simp only [h2, List.find?_cons, hp, Bool.false_eq_true, if_false]
      exact q2
/-- a loop over a range, that runs through -/
theorem forF_nats {g : GF} {f : SF} (P : Nat → Ev → Prop) : ∀ (n lo : Nat) (env : Ev), P lo env →
    (∀ i env, lo ≤ i → i < lo + n → P i env → ∃ e1 e2, g (.int (i : Int)) env = some e1 ∧ f e1 = some (.nx, e2) ∧ P (i + 1) e2) →
    ∃ e, forF g f ((List.range' lo n).map nI) env = some (.nx, e) ∧ P (lo + n) e
  | 0, lo, env, h, _ => ⟨env, rfl, h⟩
  | n + 1, lo, env, h, st => by
    obtain ⟨e1, e2, h1, h2, h3⟩ := st lo env (Nat.le_refl _) (by omega) h
    obtain ⟨e, q1, q2⟩ := forF_nats P n (lo + 1) e2 h3 fun i env a b => st i env (by omega) (by omega)
    refine ⟨e, ?_, by rw [show lo + (n + 1) = lo + 1 + n by omega]; exact q2⟩
    rw [List.range'_succ, List.map_cons, forF, show nI lo = .int (lo : Int) from rfl, h1]
    simp only [h2]
    exact q1
/-! ### cuts -/
theorem cut_to {α : Type} (w : List α) (k : Nat) (h : k ≤ w.length) : cutT w none (some (k : Int)) = w.take k := by
  unfold cutT
  rw [HT.sIx_none, HT.sIx_nat, Nat.min_eq_left h, List.drop_zero, Nat.sub_zero]
theorem cut_to' {α : Type} (w : List α) (k : Nat) : cutT w none (some (k : Int)) = w.take k := by
  by_cases h : k ≤ w.length
  · exact cut_to w k h
  · unfold cutT
    rw [HT.sIx_none, HT.sIx_nat, Nat.min_eq_right (by omega), List.drop_zero, Nat.sub_zero, List.take_of_length_le (Nat.le_refl _), List.take_of_length_le (by omega)]
theorem cut_from {α : Type} (w : List α) (k : Nat) : cutT w (some (k : Int)) none = w.drop k := by
  unfold cutT
  rw [HT.sIx_nat, HT.sIx_none]
  by_cases h : k ≤ w.length
  · rw [Nat.min_eq_left h]
    exact List.take_of_length_le (by rw [List.length_drop]; omega)
  · rw [Nat.min_eq_right (by omega), List.drop_of_length_le (Nat.le_refl _), List.drop_of_length_le (by omega)]
    simp
theorem cut_mid {α : Type} (w : List α) (i j : Nat) : cutT w (some (i : Int)) (some (j : Int)) = (w.drop i).take (j - i) := by
  unfold cutT
  rw [HT.sIx_nat, HT.sIx_nat]
  by_cases h : i ≤ w.length
  · rw [Nat.min_eq_left h]
    by_cases h2 : j ≤ w.length
    · rw [Nat.min_eq_left h2]
    · rw [Nat.min_eq_right (by omega), List.take_of_length_le (by rw [List.length_drop]; omega), List.take_of_length_le (by rw [List.length_drop]; omega)]
  · rw [show min i w.length = w.length by omega, List.drop_of_length_le (Nat.le_refl _), List.drop_of_length_le (by omega)]
    simp
end MP
namespace MP
/-! ### loops that keep their cells in full form: for the kernel's evaluation -/
section
variable {α : Type}
def natN (n : Nat) (k : Nat → α) : α := match n with
  | 0 => k 0
  | m + 1 => k (m + 1)
def intN (i : Int) (k : Int → α) : α := match i with
  | .ofNat n => natN n fun n => k (.ofNat n)
  | .negSucc n => natN n fun n => k (.negSucc n)
def boolN (b : Bool) (k : Bool → α) : α := match b with
  | true => k true
  | false => k false
def txN : Tx → (Tx → α) → α
  | [], k => k []
  | c :: t, k => natN c fun c => txN t fun t => k (c :: t)
def kyN (x : Ky) (k : Ky → α) : α := match x with
  | .inl i => intN i fun i => k (.inl i)
  | .inr t => txN t fun t => k (.inr t)
theorem natN_eq (n : Nat) (k : Nat → α) : natN n k = k n := by cases n <;> rfl
theorem intN_eq (n : Int) (k : Int → α) : intN n k = k n := by
  cases n with
  | ofNat n => exact natN_eq n fun n => k (.ofNat n)
  | negSucc n => exact natN_eq n fun n => k (.negSucc n)
theorem boolN_eq (n : Bool) (k : Bool → α) : boolN n k = k n := by cases n <;> rfl
theorem txN_eq : ∀ (t : Tx) (k : Tx → α), txN t k = k t
  | [], k => rfl
  | c :: t, k => by rw [txN, natN_eq, txN_eq t]
theorem kyN_eq (n : Ky) (k : Ky → α) : kyN n k = k n := by
  cases n with
  | inl i => exact intN_eq i fun i => k (.inl i)
  | inr t => exact txN_eq t fun t => k (.inr t)
mutual
def D.nf : D → (D → α) → α
  | .bl b, k => boolN b fun b => k (.bl b)
  | .int i, k => intN i fun i => k (.int i)
  | .str x, k => txN x fun x => k (.str x)
  | .tup xs, k => D.nfs xs fun xs => k (.tup xs)
  | .lst xs, k => D.nfs xs fun xs => k (.lst xs)
  | .fz xs, k => D.nfs xs fun xs => k (.fz xs)
  | .dk kvs, k => D.nfk kvs fun kvs => k (.dk kvs)
  | .non, k => k .non
  | .dt x, k => k (.dt x)
  | .st x, k => k (.st x)
  | .ty x, k => k (.ty x)
  | .rf x, k => k (.rf x)
def D.nfs : List D → (List D → α) → α
  | [], k => k []
  | d :: ds, k => D.nf d fun d => D.nfs ds fun ds => k (d :: ds)
def D.nfk : List (Ky × D) → (List (Ky × D) → α) → α
  | [], k => k []
  | (y, d) :: ds, k => kyN y fun y => D.nf d fun d => D.nfk ds fun ds => k ((y, d) :: ds)
end
mutual
theorem D.nf_eq : ∀ (d : D) (k : D → α), d.nf k = k d
  | .bl b, k => by rw [D.nf, boolN_eq]
  | .int i, k => by rw [D.nf, intN_eq]
  | .str x, k => by rw [D.nf, txN_eq]
  | .tup xs, k => by rw [D.nf, D.nfs_eq xs]
  | .lst xs, k => by rw [D.nf, D.nfs_eq xs]
  | .fz xs, k => by rw [D.nf, D.nfs_eq xs]
  | .dk kvs, k => by rw [D.nf, D.nfk_eq kvs]
  | .non, k => by rw [D.nf]
  | .dt x, k => by rw [D.nf]
  | .st x, k => by rw [D.nf]
  | .ty x, k => by rw [D.nf]
  | .rf x, k => by rw [D.nf]
theorem D.nfs_eq : ∀ (ds : List D) (k : List D → α), D.nfs ds k = k ds
  | [], k => by rw [D.nfs]
  | d :: ds, k => by rw [D.nfs, D.nf_eq d, D.nfs_eq ds]
theorem D.nfk_eq : ∀ (ds : List (Ky × D)) (k : List (Ky × D) → α), D.nfk ds k = k ds
  | [], k => by rw [D.nfk]
  | (y, d) :: ds, k => by rw [D.nfk, kyN_eq, D.nf_eq d, D.nfk_eq ds]
end
def C.nf : C → (C → α) → α
  | .un, k => k .un
  | .im d, k => d.nf fun d => k (.im d)
  | .ow d, k => d.nf fun d => k (.ow d)
  | .bo d, k => d.nf fun d => k (.bo d)
  | .bf d, k => d.nf fun d => k (.bf d)
theorem C.nf_eq (c : C) (k : C → α) : c.nf k = k c := by 
  cases c with
  | un => rfl
  | im d => exact D.nf_eq d fun d => k (.im d)
  | ow d => exact D.nf_eq d fun d => k (.ow d)
  | bo d => exact D.nf_eq d fun d => k (.bo d)
  | bf d => exact D.nf_eq d fun d => k (.bf d)
def evN : Ev → (Ev → α) → α
  | [], k => k []
  | c :: e, k => c.nf fun c => evN e fun e => k (c :: e)
theorem evN_eq : ∀ (e : Ev) (k : Ev → α), evN e k = k e
  | [], k => rfl
  | c :: e, k => by rw [evN, C.nf_eq, evN_eq e]
end
def forS (g : GF) (f : SF) : List D → SF
  | [], env => some (Fl.nx, env)
  | d :: ds, env => match g d env with
    | none => none
    | some e => match evN e f with
      | none => none
      | some (Fl.nx, e2) => evN e2 (forS g f ds)
      | some (Fl.ct, e2) => evN e2 (forS g f ds)
      | some (Fl.bk, e2) => some (Fl.nx, e2)
      | some (Fl.rt r, e2) => some (Fl.rt r, e2)
theorem forS_eq (g : GF) (f : SF) : ∀ (ds : List D) (env : Ev), forF g f ds env = forS g f ds env
  | [], env => rfl
  | d :: ds, env => by
    rw [forF, forS]
    cases g d env with
    | none => rfl
    | some e =>
      simp only [evN_eq]
      cases f e with
      | none => rfl
      | some p =>
        obtain ⟨fl, e2⟩ := p
        cases fl <;> first | rfl | exact forS_eq g f ds e2
def sForS (it : IF) (g : GF) (f : SF) : SF := fun env => match it env with
  | none => none
  | some (ds, e) => D.nfs ds fun ds => evN e (forS g f ds)
theorem sForS_eq : sFor = sForS := by
  funext it g f env
  unfold sFor sForS
  cases it env with
  | none => rfl
  | some p => simp only [D.nfs_eq, evN_eq, forS_eq]
def whileS (t : BF) (f : SF) : Nat → SF
  | 0 => fun _ => none
  | n + 1 => fun env => match t env with
    | none => none
    | some (false, e) => some (Fl.nx, e)
    | some (true, e) => match f e with
      | none => none
      | some (Fl.nx, e2) => evN e2 (whileS t f n)
      | some (Fl.ct, e2) => evN e2 (whileS t f n)
      | some (Fl.bk, e2) => some (Fl.nx, e2)
      | some (Fl.rt r, e2) => some (Fl.rt r, e2)
theorem whileS_eq (t : BF) (f : SF) : ∀ (n : Nat) (env : Ev), whileF t f n env = whileS t f n env
  | 0, env => rfl
  | n + 1, env => by
    rw [whileF, whileS]
    show (match t env with
      | none => none
      | some (false, e) => some (Fl.nx, e)
      | some (true, e) => match f e with
        | none => none
        | some (Fl.nx, e2) => whileF t f n e2
        | some (Fl.ct, e2) => whileF t f n e2
        | some (Fl.bk, e2) => some (Fl.nx, e2)
        | some (Fl.rt r, e2) => some (Fl.rt r, e2)) = (match t env with
      | none => none
      | some (false, e) => some (Fl.nx, e)
      | some (true, e) => match f e with
        | none => none
        | some (Fl.nx, e2) => evN e2 (whileS t f n)
        | some (Fl.ct, e2) => evN e2 (whileS t f n)
        | some (Fl.bk, e2) => some (Fl.nx, e2)
        | some (Fl.rt r, e2) => some (Fl.rt r, e2))
    have ih := whileS_eq t f n
    cases t env with
    | none => rfl
    | some p =>
      obtain ⟨b, e⟩ := p
      cases b with
      | false => rfl
      | true =>
        simp only
        cases f e with
        | none => rfl
        | some p =>
          obtain ⟨fl, e2⟩ := p
          cases fl <;> first | rfl | (simp only [evN_eq]; exact ih e2)
def sWhileS (n : Nat) (t : BF) (f : SF) : SF := fun env => evN env (whileS t f n)
theorem sWhileS_eq : sWhile = sWhileS := by
  funext n t f env
  unfold sWhile sWhileS
  rw [evN_eq, whileS_eq]
def lcS (is : List Nat) (g : GF) (t : BF) (f : EF) : List D → Ev → List D → Option (List D × Ev)
  | [], env, acc => some (acc, env)
  | d :: ds, env, acc => match g d (blank env is) with
    | none => none
    | some e1 => match t e1 with
      | none => none
      | some (false, e2) => evN e2 fun e2 => lcS is g t f ds e2 acc
      | some (true, e2) => match f e2 with
        | none => none
        | some (r, e3) => if acc.length < SL then r.d.nf fun d => D.nfs (acc ++ [d]) fun acc => evN e3 fun e3 => lcS is g t f ds e3 acc else none
theorem lcS_eq (is : List Nat) (g : GF) (t : BF) (f : EF) : ∀ (ds : List D) (env : Ev) (acc : List D), lcF is g t f ds env acc = lcS is g t f ds env acc
  | [], env, acc => rfl
  | d :: ds, env, acc => by
    rw [lcF, lcS]
    cases g d (blank env is) with
    | none => rfl
    | some e1 =>
      simp only
      cases t e1 with
      | none => rfl
      | some p =>
        obtain ⟨b, e2⟩ := p
        cases b with
        | false => simp only [evN_eq]; exact lcS_eq is g t f ds e2 acc
        | true =>
          simp only
          cases f e2 with
          | none => rfl
          | some p =>
            obtain ⟨r, e3⟩ := p
            simp only [evN_eq, D.nf_eq, D.nfs_eq]
            rw [lcS_eq]
def eLcS (is : List Nat) (it : IF) (g : GF) (t : BF) (f : EF) : EF := fun env => match it env with
  | none => none
  | some (ds, e) => D.nfs ds fun ds => match evN (fzs e is) fun e => lcS is g t f ds e [] with
    | none => none
    | some (acc, e2) => some (.fr (.lst acc), back (fzs e is) e2 is)
theorem eLcS_eq : eLc = eLcS := by
  funext is it g t f env
  unfold eLc eLcS
  cases it env with
  | none => rfl
  | some p =>
    simp only [evN_eq, D.nfs_eq]
    rw [lcS_eq]
    try rfl
end MP
namespace signworth_k20_turning
open PySem PySem.Spec PyProof.Rows L2 MP
def topS (i : Nat) : Stmt := PySem.Challenge.pw_signworth_k20_turning.main.body.getD i (.Pass ⟨0, 0, 0, 0⟩)
def fuel : Nat := 1000000000
structure Bu (mg : Str → Option Value) : Prop where
  b_abs : mg "abs" = none
  b_all : mg "all" = none
  b_bool : mg "bool" = none
  b_int : mg "int" = none
  b_isinstance : mg "isinstance" = none
  b_len : mg "len" = none
  b_list : mg "list" = none
  b_max : mg "max" = none
  b_min : mg "min" = none
  b_range : mg "range" = none
  b_repr : mg "repr" = none
  b_sorted : mg "sorted" = none
  b_str : mg "str" = none
  b_tuple : mg "tuple" = none
abbrev s_common_divisor : Stmt := topS 4
theorem sc_common_divisor : FnScope ["first", "second"] ["first", "second"] (defScope s_common_divisor) := ⟨rfl, rfl, rfl, by decide +kernel, rfl, by decide +kernel, by decide +kernel⟩
def st_common_divisor_0 : SF := (sPar 0 1 (eV 1) (eOp fMod (pV 0) (pV 1)))
def bk_common_divisor_0 : SF := (sSeq st_common_divisor_0 sNil)
def st_common_divisor_1 : SF := (sPar 0 1 (eCall fAbs (aCons (pV 0) aNil)) (eCall fAbs (aCons (pV 1) aNil)))
def st_common_divisor_2 : SF := (sWhile fuel (bE (eOp fNe (pV 1) (pE (eC (.int 0))))) bk_common_divisor_0)
def st_common_divisor_3 : SF := (sRetV 0)
def code_common_divisor : SF := (sSeq st_common_divisor_1 (sSeq st_common_divisor_2 (sSeq st_common_divisor_3 sNil)))
def fn_common_divisor : Fn := runF code_common_divisor 2
abbrev s_is_integer : Stmt := topS 5
theorem sc_is_integer : FnScope ["value"] ["value"] (defScope s_is_integer) := ⟨rfl, rfl, rfl, by decide +kernel, rfl, by decide +kernel, by decide +kernel⟩
def st_is_integer_0 : SF := (sRet (eAnd (eCall fIsi (aCons (pV 0) (aCons (pE (eC (.ty "int"))) aNil))) (eNot (eCall fIsi (aCons (pV 0) (aCons (pE (eC (.ty "bool"))) aNil))))))
def code_is_integer : SF := (sSeq st_is_integer_0 sNil)
def fn_is_integer : Fn := runF code_is_integer 1
abbrev s_has_period : Stmt := topS 8
theorem sc_has_period : FnScope ["word", "p", "k"] ["word", "p"] (defScope s_has_period) := ⟨rfl, rfl, rfl, by decide +kernel, rfl, by decide +kernel, by decide +kernel⟩
def ce_has_period_0 : EF := (eOp fEq (pE (eOp fIx (pV 0) (pV 2))) (pE (eOp fIx (pV 0) (pE (eOp fAdd (pV 2) (pV 1))))))
def st_has_period_0 : SF := (sRet (eCall fAll (aCons (pE (eLc [2] (iR rng1 (aCons (pE (eOp fSub (pE (eCall fLen (aCons (pV 0) aNil))) (pV 1))) aNil)) (gN 2) bTrue ce_has_period_0)) aNil)))
def code_has_period : SF := (sSeq st_has_period_0 sNil)
def fn_has_period : Fn := runF code_has_period 3
abbrev s_periods : Stmt := topS 9
theorem sc_periods : FnScope ["word", "p"] ["word"] (defScope s_periods) := ⟨rfl, rfl, rfl, by decide +kernel, rfl, by decide +kernel, by decide +kernel⟩
def ce_periods_0 : EF := (eV 1)
def ct_periods_0 : BF := (bP (pE (eFn fn_has_period (aCons (pE (eV 0)) (aCons (pE (eV 1)) aNil)))))
def st_periods_0 : SF := (sRet (eCall fTuple (aCons (pE (eLc [1] (iR rng2 (aCons (pE (eC (.int 1))) (aCons (pE (eOp fAdd (pE (eCall fLen (aCons (pV 0) aNil))) (pE (eC (.int 1))))) aNil))) (gN 1) ct_periods_0 ce_periods_0)) aNil)))
def code_periods : SF := (sSeq st_periods_0 sNil)
def fn_periods : Fn := runF code_periods 2
abbrev s_borders : Stmt := topS 10
theorem sc_borders : FnScope ["word", "k"] ["word"] (defScope s_borders) := ⟨rfl, rfl, rfl, by decide +kernel, rfl, by decide +kernel, by decide +kernel⟩
def ce_borders_0 : EF := (eSl (pV 0) oNo (oI (pV 1)))
def ct_borders_0 : BF := (bE (eOp fEq (pE (eSl (pV 0) oNo (oI (pV 1)))) (pE (eSl (pV 0) (oI (pE (eOp fSub (pE (eCall fLen (aCons (pV 0) aNil))) (pV 1)))) oNo))))
def st_borders_0 : SF := (sRet (eCall fTuple (aCons (pE (eLc [1] (iR rng1 (aCons (pE (eCall fLen (aCons (pV 0) aNil))) aNil)) (gN 1) ct_borders_0 ce_borders_0)) aNil)))
def code_borders : SF := (sSeq st_borders_0 sNil)
def fn_borders : Fn := runF code_borders 2
abbrev s_shared_period : Stmt := topS 11
theorem sc_shared_period : FnScope ["p", "q", "n", "names", "more", "step", "k", "low", "order", "one"] ["p", "q"] (defScope s_shared_period) := ⟨rfl, rfl, rfl, by decide +kernel, rfl, by decide +kernel, by decide +kernel⟩
def st_shared_period_0 : SF := (sAsgG (eTup (aCons (pE (eV 7)) (aCons (pE (eV 7)) aNil))) (gT (gsCons (gSub 3 (pV 6)) (gsCons (gSub 3 (pE (eOp fAdd (pV 6) (pV 5)))) gsNil))))
def st_shared_period_1 : SF := (sAsg 4 (eC (.bl true)))
def bk_shared_period_0 : SF := (sSeq st_shared_period_0 (sSeq st_shared_period_1 sNil))
def st_shared_period_2 : SF := (sAsg 7 (eCall fMin2 (aCons (pE (eOp fIx (pV 3) (pV 6))) (aCons (pE (eOp fIx (pV 3) (pE (eOp fAdd (pV 6) (pV 5))))) aNil))))
def st_shared_period_3 : SF := (sIf (bOr (bE (eOp fNe (pE (eOp fIx (pV 3) (pV 6))) (pV 7))) (bE (eOp fNe (pE (eOp fIx (pV 3) (pE (eOp fAdd (pV 6) (pV 5))))) (pV 7)))) bk_shared_period_0 sNil)
def bk_shared_period_1 : SF := (sSeq st_shared_period_2 (sSeq st_shared_period_3 sNil))
def st_shared_period_4 : SF := (sFor (iR rng1 (aCons (pE (eOp fSub (pV 2) (pV 5))) aNil)) (gN 6) bk_shared_period_1)
def bk_shared_period_2 : SF := (sSeq st_shared_period_4 sNil)
def st_shared_period_5 : SF := (sAsg 4 (eC (.bl false)))
def st_shared_period_6 : SF := (sFor (iE (eTup (aCons (pE (eV 0)) (aCons (pE (eV 1)) aNil)))) (gN 5) bk_shared_period_2)
def bk_shared_period_3 : SF := (sSeq st_shared_period_5 (sSeq st_shared_period_6 sNil))
def st_shared_period_7 : SF := (sExpr (eMutT "list" mAppend 8 (aCons (pE (eV 9)) aNil)))
def bk_shared_period_4 : SF := (sSeq st_shared_period_7 sNil)
def st_shared_period_8 : SF := (sIf (bE (eOp fNotIn (pV 9) (pV 8))) bk_shared_period_4 sNil)
def bk_shared_period_5 : SF := (sSeq st_shared_period_8 sNil)
def st_shared_period_9 : SF := sNever
def bk_shared_period_6 : SF := (sSeq st_shared_period_9 sNil)
def ce_shared_period_0 : EF := (eOp fIx (pE (eC (.str [97, 98, 99, 100, 101, 102, 103, 104, 105, 106, 107, 108, 109, 110, 111, 112, 113, 114, 115, 116, 117, 118, 119, 120, 121, 122]))) (pE (eAlt (eMeth D.isStr fIndexS (pV 8) (aCons (pV 9) aNil)) (eMeth D.isLst fIndexL (pV 8) (aCons (pV 9) aNil)))))
def st_shared_period_10 : SF := (sAsg 2 (eOp fSub (pE (eOp fSub (pE (eOp fAdd (pV 0) (pV 1))) (pE (eFn fn_common_divisor (aCons (pE (eV 0)) (aCons (pE (eV 1)) aNil)))))) (pE (eC (.int 1)))))
def st_shared_period_11 : SF := (sAsg 3 (eRgL1 (eV 2)))
def st_shared_period_12 : SF := (sAsg 4 (eC (.bl true)))
def st_shared_period_13 : SF := (sWhile fuel (bP (pV 4)) bk_shared_period_3)
def st_shared_period_14 : SF := (sAsg 8 (eLst aNil))
def st_shared_period_15 : SF := (sFor (iE (eV 3)) (gN 9) bk_shared_period_5)
def st_shared_period_16 : SF := (sIf (bE (eOp fGt (pE (eCall fLen (aCons (pV 8) aNil))) (pE (eCall fLen (aCons (pE (eC (.str [97, 98, 99, 100, 101, 102, 103, 104, 105, 106, 107, 108, 109, 110, 111, 112, 113, 114, 115, 116, 117, 118, 119, 120, 121, 122]))) aNil))))) bk_shared_period_6 sNil)
def st_shared_period_17 : SF := (sRet (eMeth D.isStr fJoin (pE (eC (.str []))) (aCons (pE (eLc [9] (iE (eV 3)) (gN 9) bTrue ce_shared_period_0)) aNil)))
def code_shared_period : SF := (sSeq st_shared_period_10 (sSeq st_shared_period_11 (sSeq st_shared_period_12 (sSeq st_shared_period_13 (sSeq st_shared_period_14 (sSeq st_shared_period_15 (sSeq st_shared_period_16 (sSeq st_shared_period_17 sNil))))))))
def fn_shared_period : Fn := runF code_shared_period 10
abbrev s_root_of : Stmt := topS 12
theorem sc_root_of : FnScope ["word", "size"] ["word"] (defScope s_root_of) := ⟨rfl, rfl, rfl, by decide +kernel, rfl, by decide +kernel, by decide +kernel⟩
def st_root_of_0 : SF := (sRet (eTup (aCons (pE (eSl (pV 0) oNo (oI (pV 1)))) (aCons (pE (eOp fDiv (pE (eCall fLen (aCons (pV 0) aNil))) (pV 1))) aNil))))
def bk_root_of_0 : SF := (sSeq st_root_of_0 sNil)
def st_root_of_1 : SF := (sIf (bAnd (bE (eOp fEq (pE (eOp fMod (pE (eCall fLen (aCons (pV 0) aNil))) (pV 1))) (pE (eC (.int 0))))) (bE (eOp fEq (pE (eOp fMulA (pE (eSl (pV 0) oNo (oI (pV 1)))) (pE (eOp fDiv (pE (eCall fLen (aCons (pV 0) aNil))) (pV 1))))) (pV 0)))) bk_root_of_0 sNil)
def bk_root_of_1 : SF := (sSeq st_root_of_1 sNil)
def st_root_of_2 : SF := (sFor (iR rng2 (aCons (pE (eC (.int 1))) (aCons (pE (eOp fAdd (pE (eCall fLen (aCons (pV 0) aNil))) (pE (eC (.int 1))))) aNil))) (gN 1) bk_root_of_1)
def st_root_of_3 : SF := (sRet (eTup (aCons (pE (eV 0)) (aCons (pE (eC (.int 1))) aNil))))
def code_root_of : SF := (sSeq st_root_of_2 (sSeq st_root_of_3 sNil))
def fn_root_of : Fn := runF code_root_of 2
abbrev s_turned_by : Stmt := topS 13
theorem sc_turned_by : FnScope ["word", "at"] ["word", "at"] (defScope s_turned_by) := ⟨rfl, rfl, rfl, by decide +kernel, rfl, by decide +kernel, by decide +kernel⟩
def st_turned_by_0 : SF := (sRet (eOp fAdd (pE (eSl (pV 0) (oI (pV 1)) oNo)) (pE (eSl (pV 0) oNo (oI (pV 1))))))
def code_turned_by : SF := (sSeq st_turned_by_0 sNil)
def fn_turned_by : Fn := runF code_turned_by 2
abbrev s_least_rotation : Stmt := topS 14
theorem sc_least_rotation : FnScope ["word", "at"] ["word"] (defScope s_least_rotation) := ⟨rfl, rfl, rfl, by decide +kernel, rfl, by decide +kernel, by decide +kernel⟩
def ce_least_rotation_0 : EF := (eTup (aCons (pE (eFn fn_turned_by (aCons (pE (eV 0)) (aCons (pE (eV 1)) aNil)))) (aCons (pE (eV 1)) aNil)))
def st_least_rotation_0 : SF := (sRet (eCall fMinA (aCons (pE (eLc [1] (iR rng1 (aCons (pE (eCall fMax2 (aCons (pE (eC (.int 1))) (aCons (pE (eCall fLen (aCons (pV 0) aNil))) aNil)))) aNil)) (gN 1) bTrue ce_least_rotation_0)) aNil)))
def code_least_rotation : SF := (sSeq st_least_rotation_0 sNil)
def fn_least_rotation : Fn := runF code_least_rotation 2
abbrev s_turned_paper : Stmt := topS 15
theorem sc_turned_paper : FnScope ["word", "other", "at"] ["word", "other"] (defScope s_turned_paper) := ⟨rfl, rfl, rfl, by decide +kernel, rfl, by decide +kernel, by decide +kernel⟩
def st_turned_paper_0 : SF := (sRet (eTup (aCons (pE (eC (.str [116, 117, 114, 110, 101, 100]))) (aCons (pE (eV 2)) aNil))))
def bk_turned_paper_0 : SF := (sSeq st_turned_paper_0 sNil)
def st_turned_paper_1 : SF := (sIf (bE (eOp fEq (pE (eFn fn_turned_by (aCons (pE (eV 0)) (aCons (pE (eV 2)) aNil)))) (pV 1))) bk_turned_paper_0 sNil)
def bk_turned_paper_1 : SF := (sSeq st_turned_paper_1 sNil)
def st_turned_paper_2 : SF := (sFor (iR rng1 (aCons (pE (eCall fMax2 (aCons (pE (eC (.int 1))) (aCons (pE (eCall fLen (aCons (pV 0) aNil))) aNil)))) aNil)) (gN 2) bk_turned_paper_1)
def bk_turned_paper_2 : SF := (sSeq st_turned_paper_2 sNil)
def st_turned_paper_3 : SF := (sIf (bE (eOp fEq (pE (eCall fLen (aCons (pV 0) aNil))) (pE (eCall fLen (aCons (pV 1) aNil))))) bk_turned_paper_2 sNil)
def st_turned_paper_4 : SF := (sRet (eTup (aCons (pE (eC (.str [117, 110, 108, 105, 107, 101]))) (aCons (pE (eOp fIx (pE (eFn fn_least_rotation (aCons (pE (eV 0)) aNil))) (pE (eC (.int 0))))) (aCons (pE (eOp fIx (pE (eFn fn_least_rotation (aCons (pE (eV 1)) aNil))) (pE (eC (.int 0))))) aNil)))))
def code_turned_paper : SF := (sSeq st_turned_paper_3 (sSeq st_turned_paper_4 sNil))
def fn_turned_paper : Fn := runF code_turned_paper 3
abbrev s_judge_turned : Stmt := topS 16
theorem sc_judge_turned : FnScope ["word", "other", "value"] ["word", "other", "value"] (defScope s_judge_turned) := ⟨rfl, rfl, rfl, by decide +kernel, rfl, by decide +kernel, by decide +kernel⟩
def st_judge_turned_0 : SF := (sRet (eC (.bl false)))
def bk_judge_turned_0 : SF := (sSeq st_judge_turned_0 sNil)
def st_judge_turned_1 : SF := (sRet (eAnd (eOp fEq (pE (eCall fLen (aCons (pV 2) aNil))) (pE (eC (.int 2)))) (eAnd (eFn fn_is_integer (aCons (pE (eOp fIx (pV 2) (pE (eC (.int 1))))) aNil)) (eOp fEq (pE (eFn fn_turned_paper (aCons (pE (eV 0)) (aCons (pE (eV 1)) aNil)))) (pV 2)))))
def bk_judge_turned_1 : SF := (sSeq st_judge_turned_1 sNil)
def st_judge_turned_2 : SF := (sIf (bOr (bNot (bP (pE (eCall fIsi (aCons (pV 2) (aCons (pE (eC (.ty "tuple"))) aNil)))))) (bOr (bE (eOp fNotIn (pE (eCall fLen (aCons (pV 2) aNil))) (pE (eTup (aCons (pE (eC (.int 2))) (aCons (pE (eC (.int 3))) aNil)))))) (bNot (bP (pE (eCall fIsi (aCons (pE (eOp fIx (pV 2) (pE (eC (.int 0))))) (aCons (pE (eC (.ty "str"))) aNil)))))))) bk_judge_turned_0 sNil)
def st_judge_turned_3 : SF := (sIf (bE (eOp fEq (pE (eOp fIx (pV 2) (pE (eC (.int 0))))) (pE (eC (.str [116, 117, 114, 110, 101, 100]))))) bk_judge_turned_1 sNil)
def st_judge_turned_4 : SF := (sRet (eOp fEq (pE (eFn fn_turned_paper (aCons (pE (eV 0)) (aCons (pE (eV 1)) aNil)))) (pV 2)))
def code_judge_turned : SF := (sSeq st_judge_turned_2 (sSeq st_judge_turned_3 (sSeq st_judge_turned_4 sNil)))
def fn_judge_turned : Fn := runF code_judge_turned 3
abbrev s_lyndon_parts : Stmt := topS 17
theorem sc_lyndon_parts : FnScope ["word", "found", "begin", "i", "j"] ["word"] (defScope s_lyndon_parts) := ⟨rfl, rfl, rfl, by decide +kernel, rfl, by decide +kernel, by decide +kernel⟩
def st_lyndon_parts_0 : SF := (sAsg 3 (eIf (bE (eOp fLt (pE (eOp fIx (pV 0) (pV 3))) (pE (eOp fIx (pV 0) (pV 4))))) (eV 2) (eOp fAdd (pV 3) (pE (eC (.int 1))))))
def st_lyndon_parts_1 : SF := (sAug 4 (fInt fun i j => some (.int (i + j))) (pE (eC (.int 1))))
def bk_lyndon_parts_0 : SF := (sSeq st_lyndon_parts_0 (sSeq st_lyndon_parts_1 sNil))
def st_lyndon_parts_2 : SF := (sExpr (eMutT "list" mAppend 1 (aCons (pE (eSl (pV 0) (oI (pV 2)) (oI (pE (eOp fSub (pE (eOp fAdd (pV 2) (pV 4))) (pV 3)))))) aNil)))
def st_lyndon_parts_3 : SF := (sAug 2 (fInt fun i j => some (.int (i + j))) (pE (eOp fSub (pV 4) (pV 3))))
def bk_lyndon_parts_1 : SF := (sSeq st_lyndon_parts_2 (sSeq st_lyndon_parts_3 sNil))
def st_lyndon_parts_4 : SF := (sPar 3 4 (eV 2) (eOp fAdd (pV 2) (pE (eC (.int 1)))))
def st_lyndon_parts_5 : SF := (sWhile fuel (bAnd (bE (eOp fLt (pV 4) (pE (eCall fLen (aCons (pV 0) aNil))))) (bE (eOp fLe (pE (eOp fIx (pV 0) (pV 3))) (pE (eOp fIx (pV 0) (pV 4)))))) bk_lyndon_parts_0)
def st_lyndon_parts_6 : SF := (sWhile fuel (bE (eOp fLe (pV 2) (pV 3))) bk_lyndon_parts_1)
def bk_lyndon_parts_2 : SF := (sSeq st_lyndon_parts_4 (sSeq st_lyndon_parts_5 (sSeq st_lyndon_parts_6 sNil)))
def st_lyndon_parts_7 : SF := (sAsg 1 (eLst aNil))
def st_lyndon_parts_8 : SF := (sAsg 2 (eC (.int 0)))
def st_lyndon_parts_9 : SF := (sWhile fuel (bE (eOp fLt (pV 2) (pE (eCall fLen (aCons (pV 0) aNil))))) bk_lyndon_parts_2)
def st_lyndon_parts_10 : SF := (sRet (eCall fTuple (aCons (pV 1) aNil)))
def code_lyndon_parts : SF := (sSeq st_lyndon_parts_7 (sSeq st_lyndon_parts_8 (sSeq st_lyndon_parts_9 (sSeq st_lyndon_parts_10 sNil))))
def fn_lyndon_parts : Fn := runF code_lyndon_parts 5
abbrev s_lyndon_up_to : Stmt := topS 18
theorem sc_lyndon_up_to : FnScope ["letters", "n", "found", "word"] ["letters", "n"] (defScope s_lyndon_up_to) := ⟨rfl, rfl, rfl, by decide +kernel, rfl, by decide +kernel, by decide +kernel⟩
def st_lyndon_up_to_0 : SF := (sAsg 3 (eSl (pV 3) oNo (oI (pE (eNeg (pE (eC (.int 1))))))))
def bk_lyndon_up_to_0 : SF := (sSeq st_lyndon_up_to_0 sNil)
def st_lyndon_up_to_1 : SF := (sAsg 3 (eOp fAdd (pE (eSl (pV 3) oNo (oI (pE (eNeg (pE (eC (.int 1)))))))) (pE (eOp fIx (pV 0) (pE (eOp fAdd (pE (eAlt (eMeth D.isStr fIndexS (pV 0) (aCons (pE (eOp fIx (pV 3) (pE (eNeg (pE (eC (.int 1))))))) aNil)) (eMeth D.isLst fIndexL (pV 0) (aCons (pE (eOp fIx (pV 3) (pE (eNeg (pE (eC (.int 1))))))) aNil)))) (pE (eC (.int 1)))))))))
def bk_lyndon_up_to_1 : SF := (sSeq st_lyndon_up_to_1 sNil)
def st_lyndon_up_to_2 : SF := (sExpr (eMutT "list" mAppend 2 (aCons (pE (eV 3)) aNil)))
def st_lyndon_up_to_3 : SF := (sAsg 3 (eSl (pE (eOp fMulA (pV 3) (pE (eOp fAdd (pE (eOp fDiv (pV 1) (pE (eCall fLen (aCons (pV 3) aNil))))) (pE (eC (.int 1))))))) oNo (oI (pV 1))))
def st_lyndon_up_to_4 : SF := (sWhile fuel (bAnd (bE (eOp fNe (pV 3) (pE (eC (.str []))))) (bE (eOp fEq (pE (eOp fIx (pV 3) (pE (eNeg (pE (eC (.int 1))))))) (pE (eOp fIx (pV 0) (pE (eNeg (pE (eC (.int 1)))))))))) bk_lyndon_up_to_0)
def st_lyndon_up_to_5 : SF := (sIf (bE (eOp fNe (pV 3) (pE (eC (.str []))))) bk_lyndon_up_to_1 sNil)
def bk_lyndon_up_to_2 : SF := (sSeq st_lyndon_up_to_2 (sSeq st_lyndon_up_to_3 (sSeq st_lyndon_up_to_4 (sSeq st_lyndon_up_to_5 sNil))))
def st_lyndon_up_to_6 : SF := (sAsg 2 (eLst aNil))
def st_lyndon_up_to_7 : SF := (sAsg 3 (eOp fIx (pV 0) (pE (eC (.int 0)))))
def st_lyndon_up_to_8 : SF := (sWhile fuel (bE (eOp fNe (pV 3) (pE (eC (.str []))))) bk_lyndon_up_to_2)
def st_lyndon_up_to_9 : SF := (sRetV 2)
def code_lyndon_up_to : SF := (sSeq st_lyndon_up_to_6 (sSeq st_lyndon_up_to_7 (sSeq st_lyndon_up_to_8 (sSeq st_lyndon_up_to_9 sNil))))
def fn_lyndon_up_to : Fn := runF code_lyndon_up_to 4
abbrev s_lyndon_words : Stmt := topS 19
theorem sc_lyndon_words : FnScope ["letters", "n", "word"] ["letters", "n"] (defScope s_lyndon_words) := ⟨rfl, rfl, rfl, by decide +kernel, rfl, by decide +kernel, by decide +kernel⟩
def ce_lyndon_words_0 : EF := (eV 2)
def ct_lyndon_words_0 : BF := (bE (eOp fEq (pE (eCall fLen (aCons (pV 2) aNil))) (pV 1)))
def st_lyndon_words_0 : SF := (sRet (eCall fTuple (aCons (pE (eLc [2] (iE (eFn fn_lyndon_up_to (aCons (pE (eV 0)) (aCons (pE (eV 1)) aNil)))) (gN 2) ct_lyndon_words_0 ce_lyndon_words_0)) aNil)))
def code_lyndon_words : SF := (sSeq st_lyndon_words_0 sNil)
def fn_lyndon_words : Fn := runF code_lyndon_words 3
abbrev s_all_row : Stmt := topS 20
theorem sc_all_row : FnScope ["letters", "n", "word"] ["letters", "n"] (defScope s_all_row) := ⟨rfl, rfl, rfl, by decide +kernel, rfl, by decide +kernel, by decide +kernel⟩
def ce_all_row_0 : EF := (eV 2)
def ct_all_row_0 : BF := (bE (eOp fEq (pE (eOp fMod (pV 1) (pE (eCall fLen (aCons (pV 2) aNil))))) (pE (eC (.int 0)))))
def st_all_row_0 : SF := (sRet (eMeth D.isStr fJoin (pE (eC (.str []))) (aCons (pE (eLc [2] (iE (eFn fn_lyndon_up_to (aCons (pE (eV 0)) (aCons (pE (eV 1)) aNil)))) (gN 2) ct_all_row_0 ce_all_row_0)) aNil)))
def code_all_row : SF := (sSeq st_all_row_0 sNil)
def fn_all_row : Fn := runF code_all_row 3
abbrev s_words_of : Stmt := topS 21
theorem sc_words_of : FnScope ["letters", "n", "found", "turn", "word", "letter"] ["letters", "n"] (defScope s_words_of) := ⟨rfl, rfl, rfl, by decide +kernel, rfl, by decide +kernel, by decide +kernel⟩
def st_words_of_0 : SF := (sAsg 2 (eLc2 [4, 5] [5] (iE (eV 2)) (gN 4) bTrue (iE (eV 0)) (gN 5) bTrue (eOp fAdd (pV 4) (pV 5))))
def bk_words_of_0 : SF := (sSeq st_words_of_0 sNil)
def st_words_of_1 : SF := (sAsg 2 (eLst (aCons (pE (eC (.str []))) aNil)))
def st_words_of_2 : SF := (sFor (iR rng1 (aCons (pV 1) aNil)) (gN 3) bk_words_of_0)
def st_words_of_3 : SF := (sRetV 2)
def code_words_of : SF := (sSeq st_words_of_1 (sSeq st_words_of_2 (sSeq st_words_of_3 sNil)))
def fn_words_of : Fn := runF code_words_of 6
abbrev s_all_paper : Stmt := topS 22
theorem sc_all_paper : FnScope ["letters", "n", "word", "longer", "counts", "at", "piece"] ["letters", "n", "word"] (defScope s_all_paper) := ⟨rfl, rfl, rfl, by decide +kernel, rfl, by decide +kernel, by decide +kernel⟩
def st_all_paper_0 : SF := (sAsg 6 (eSl (pV 3) (oI (pV 5)) (oI (pE (eOp fAdd (pV 5) (pV 1))))))
def st_all_paper_1 : SF := (sAsgG (eOp fAdd (pE (eGet2 (pV 4) (pV 6) (eC (.int 0)))) (pE (eC (.int 1)))) (gSub 4 (pV 6)))
def bk_all_paper_0 : SF := (sSeq st_all_paper_0 (sSeq st_all_paper_1 sNil))
def st_all_paper_2 : SF := (sRet (eTup (aCons (pE (eC (.str [98, 97, 100]))) (aCons (pE (eV 6)) aNil))))
def bk_all_paper_1 : SF := (sSeq st_all_paper_2 sNil)
def st_all_paper_3 : SF := (sIf (bE (eOp fNe (pE (eGet2 (pV 4) (pV 6) (eC (.int 0)))) (pE (eC (.int 1))))) bk_all_paper_1 sNil)
def bk_all_paper_2 : SF := (sSeq st_all_paper_3 sNil)
def st_all_paper_4 : SF := (sAsg 3 (eIf (bP (pV 2)) (eOp fMulA (pV 2) (pE (eOp fAdd (pV 1) (pE (eC (.int 1)))))) (eC (.str []))))
def st_all_paper_5 : SF := (sAsg 4 eDk)
def st_all_paper_6 : SF := (sFor (iR rng1 (aCons (pE (eCall fLen (aCons (pV 2) aNil))) aNil)) (gN 5) bk_all_paper_0)
def st_all_paper_7 : SF := (sFor (iE (eFn fn_words_of (aCons (pE (eV 0)) (aCons (pE (eV 1)) aNil)))) (gN 6) bk_all_paper_2)
def st_all_paper_8 : SF := (sRet (eTup (aCons (pE (eC (.str [97, 108, 108]))) aNil)))
def code_all_paper : SF := (sSeq st_all_paper_4 (sSeq st_all_paper_5 (sSeq st_all_paper_6 (sSeq st_all_paper_7 (sSeq st_all_paper_8 sNil)))))
def fn_all_paper : Fn := runF code_all_paper 7
abbrev s_equal_powers : Stmt := topS 23
theorem sc_equal_powers : FnScope ["u", "v", "one", "two", "k", "root"] ["u", "v"] (defScope s_equal_powers) := ⟨rfl, rfl, rfl, by decide +kernel, rfl, by decide +kernel, by decide +kernel⟩
def st_equal_powers_0 : SF := (sRet (eTup (aCons (pE (eC (.str [117, 110, 108, 105, 107, 101]))) (aCons (pE (eV 4)) aNil))))
def bk_equal_powers_0 : SF := (sSeq st_equal_powers_0 sNil)
def st_equal_powers_1 : SF := (sIf (bE (eOp fNe (pE (eOp fIx (pV 2) (pV 4))) (pE (eOp fIx (pV 3) (pV 4))))) bk_equal_powers_0 sNil)
def bk_equal_powers_1 : SF := (sSeq st_equal_powers_1 sNil)
def st_equal_powers_2 : SF := (sPar 2 3 (eOp fAdd (pV 0) (pV 1)) (eOp fAdd (pV 1) (pV 0)))
def st_equal_powers_3 : SF := (sFor (iR rng1 (aCons (pE (eCall fLen (aCons (pV 2) aNil))) aNil)) (gN 4) bk_equal_powers_1)
def st_equal_powers_4 : SF := (sAsg 5 (eOp fIx (pE (eFn fn_root_of (aCons (pE (eV 0)) aNil))) (pE (eC (.int 0)))))
def st_equal_powers_5 : SF := (sRet (eTup (aCons (pE (eC (.str [112, 111, 119, 101, 114, 115]))) (aCons (pE (eV 5)) (aCons (pE (eOp fDiv (pE (eCall fLen (aCons (pV 0) aNil))) (pE (eCall fLen (aCons (pV 5) aNil))))) (aCons (pE (eOp fDiv (pE (eCall fLen (aCons (pV 1) aNil))) (pE (eCall fLen (aCons (pV 5) aNil))))) aNil))))))
def code_equal_powers : SF := (sSeq st_equal_powers_2 (sSeq st_equal_powers_3 (sSeq st_equal_powers_4 (sSeq st_equal_powers_5 sNil))))
def fn_equal_powers : Fn := runF code_equal_powers 6
abbrev s_law_start : Stmt := topS 25
theorem sc_law_start : FnScope ["script", "cell"] ["script"] (defScope s_law_start) := ⟨rfl, rfl, rfl, by decide +kernel, rfl, by decide +kernel, by decide +kernel⟩
def ce_law_start_0 : EF := (eCall fInt1 (aCons (pV 1) aNil))
def st_law_start_0 : SF := (sRet (eLst (aCons (pE (eLc [1] (iE (eSl (pV 0) oNo (oI (pE (eC (.int 63)))))) (gN 1) bTrue ce_law_start_0)) (aCons (pE (eC (.int 0))) (aCons (pE (eC (.int 0))) (aCons (pE (eC (.int 0))) (aCons (pE (eC (.int 20))) aNil)))))))
def code_law_start : SF := (sSeq st_law_start_0 sNil)
def fn_law_start : Fn := runF code_law_start 2
abbrev s_law_fill : Stmt := topS 26
theorem sc_law_fill : FnScope ["c", "number"] ["c"] (defScope s_law_fill) := ⟨rfl, rfl, rfl, by decide +kernel, rfl, by decide +kernel, by decide +kernel⟩
def st_law_fill_0 : SF := (sRetV 1)
def bk_law_fill_0 : SF := (sSeq st_law_fill_0 sNil)
def st_law_fill_1 : SF := (sAsg 1 (eCall fMax2 (aCons (pE (eOp fIx (pE (eOp fIx (pV 0) (pE (eC (.int 0))))) (pE (eOp fIx (pV 0) (pE (eC (.int 1))))))) (aCons (pE (eOp fSub (pE (eOp fSub (pE (eC (.int 0))) (pE (eC (.int 1))))) (pE (eOp fIx (pE (eOp fIx (pV 0) (pE (eC (.int 0))))) (pE (eOp fIx (pV 0) (pE (eC (.int 1))))))))) aNil))))
def st_law_fill_2 : SF := (sAsgG (eOp fAdd (pE (eOp fIx (pV 0) (pE (eC (.int 1))))) (pE (eC (.int 1)))) (gSub 0 (pE (eC (.int 1)))))
def st_law_fill_3 : SF := (sIf (bE (eOp fGe (pV 1) (pE (eOp fPow (pE (eC (.int 10))) (pE (eC (.int 18))))))) bk_law_fill_0 sNil)
def bk_law_fill_1 : SF := (sSeq st_law_fill_1 (sSeq st_law_fill_2 (sSeq st_law_fill_3 sNil)))
def st_law_fill_4 : SF := (sAsg 1 (eOp fAdd (pV 1) (pE (eOp fMod (pE (eCall fInt1 (aCons (pE (eOp fIx (pE (eOp fIx (pV 0) (pE (eC (.int 0))))) (pE (eNeg (pE (eC (.int 1))))))) aNil))) (pE (eC (.int 1000003)))))))
def bk_law_fill_2 : SF := (sSeq st_law_fill_4 sNil)
def st_law_fill_5 : SF := (sAsgG (eOp fAdd (pE (eOp fIx (pV 0) (pE (eC (.int 3))))) (pE (eC (.int 1)))) (gSub 0 (pE (eC (.int 3)))))
def st_law_fill_6 : SF := (sAsg 1 (eOp fAdd (pE (eOp fMul (pE (eOp fIx (pV 0) (pE (eC (.int 3))))) (pE (eC (.int 69621))))) (pE (eC (.int 12345)))))
def st_law_fill_7 : SF := (sIf (bE (eOp fLt (pE (eOp fIx (pV 0) (pE (eC (.int 1))))) (pE (eCall fLen (aCons (pE (eOp fIx (pV 0) (pE (eC (.int 0))))) aNil))))) bk_law_fill_1 sNil)
def st_law_fill_8 : SF := (sIf (bAnd (bP (pE (eOp fIx (pV 0) (pE (eC (.int 0)))))) (bE (eOp fGe (pE (eOp fIx (pV 0) (pE (eC (.int 1))))) (pE (eCall fLen (aCons (pE (eOp fIx (pV 0) (pE (eC (.int 0))))) aNil)))))) bk_law_fill_2 sNil)
def st_law_fill_9 : SF := (sAsg 1 (eOp fMod (pE (eCall fInt1 (aCons (pE (eOp fAdd (pE (eOp fMul (pV 1) (pE (eC (.int 48271))))) (pE (eOp fMul (pE (eOp fIx (pV 0) (pE (eC (.int 3))))) (pE (eC (.int 69621))))))) aNil))) (pE (eC (.int 2147483647)))))
def st_law_fill_10 : SF := (sRet (eOp fAdd (pE (eOp fDiv (pE (eCall fInt1 (aCons (pE (eOp fAdd (pE (eOp fAdd (pE (eOp fMul (pV 1) (pV 1))) (pE (eOp fMul (pE (eOp fIx (pV 0) (pE (eC (.int 3))))) (pE (eC (.int 7919))))))) (pE (eC (.int 11))))) aNil))) (pE (eC (.int 64))))) (pE (eC (.int 36028797018963968)))))
def code_law_fill : SF := (sSeq st_law_fill_5 (sSeq st_law_fill_6 (sSeq st_law_fill_7 (sSeq st_law_fill_8 (sSeq st_law_fill_9 (sSeq st_law_fill_10 sNil))))))
def fn_law_fill : Fn := runF code_law_fill 2
abbrev s_law_take : Stmt := topS 27
theorem sc_law_take : FnScope ["c", "many", "digit"] ["c", "many"] (defScope s_law_take) := ⟨rfl, rfl, rfl, by decide +kernel, rfl, by decide +kernel, by decide +kernel⟩
def st_law_take_0 : SF := (sAsgG (eFn fn_law_fill (aCons (pV 0) aNil)) (gSub 0 (pE (eC (.int 2)))))
def bk_law_take_0 : SF := (sSeq st_law_take_0 sNil)
def st_law_take_1 : SF := (sIf (bE (eOp fLt (pE (eOp fIx (pV 0) (pE (eC (.int 2))))) (pV 1))) bk_law_take_0 sNil)
def st_law_take_2 : SF := (sAsg 2 (eOp fMod (pE (eCall fInt1 (aCons (pE (eOp fIx (pV 0) (pE (eC (.int 2))))) aNil))) (pV 1)))
def st_law_take_3 : SF := (sAsgG (eOp fDiv (pE (eOp fIx (pV 0) (pE (eC (.int 2))))) (pV 1)) (gSub 0 (pE (eC (.int 2)))))
def st_law_take_4 : SF := (sRetV 2)
def code_law_take : SF := (sSeq st_law_take_1 (sSeq st_law_take_2 (sSeq st_law_take_3 (sSeq st_law_take_4 sNil))))
def fn_law_take : Fn := runF code_law_take 3
abbrev s_law_word : Stmt := topS 29
theorem sc_law_word : FnScope ["c", "letters", "most", "k"] ["c", "letters", "most"] (defScope s_law_word) := ⟨rfl, rfl, rfl, by decide +kernel, rfl, by decide +kernel, by decide +kernel⟩
def ce_law_word_0 : EF := (eOp fIx (pV 1) (pE (eFn fn_law_take (aCons (pV 0) (aCons (pE (eCall fLen (aCons (pV 1) aNil))) aNil)))))
def st_law_word_0 : SF := (sRet (eMeth D.isStr fJoin (pE (eC (.str []))) (aCons (pE (eLc [3] (iR rng1 (aCons (pE (eFn fn_law_take (aCons (pV 0) (aCons (pE (eOp fAdd (pV 2) (pE (eC (.int 1))))) aNil)))) aNil)) (gN 3) bTrue ce_law_word_0)) aNil)))
def code_law_word : SF := (sSeq st_law_word_0 sNil)
def fn_law_word : Fn := runF code_law_word 4
abbrev s_law_words : Stmt := topS 30
theorem sc_law_words : FnScope ["letters", "n", "found", "turn", "new", "word", "letter"] ["letters", "n"] (defScope s_law_words) := ⟨rfl, rfl, rfl, by decide +kernel, rfl, by decide +kernel, by decide +kernel⟩
def ce_law_words_0 : EF := (eOp fAdd (pV 5) (pV 6))
def st_law_words_0 : SF := (sAsg 4 (eOp fAdd (pV 4) (pE (eLc [6] (iE (eV 0)) (gN 6) bTrue ce_law_words_0))))
def bk_law_words_0 : SF := (sSeq st_law_words_0 sNil)
def st_law_words_1 : SF := (sAsg 4 (eLst aNil))
def st_law_words_2 : SF := (sFor (iE (eV 2)) (gN 5) bk_law_words_0)
def st_law_words_3 : SF := (sAsg 2 (eV 4))
def bk_law_words_1 : SF := (sSeq st_law_words_1 (sSeq st_law_words_2 (sSeq st_law_words_3 sNil)))
def st_law_words_4 : SF := (sAsg 2 (eLst (aCons (pE (eC (.str []))) aNil)))
def st_law_words_5 : SF := (sFor (iR rng1 (aCons (pV 1) aNil)) (gN 3) bk_law_words_1)
def st_law_words_6 : SF := (sRetV 2)
def code_law_words : SF := (sSeq st_law_words_4 (sSeq st_law_words_5 (sSeq st_law_words_6 sNil)))
def fn_law_words : Fn := runF code_law_words 7
abbrev s_law_periods : Stmt := topS 31
theorem sc_law_periods : FnScope ["word", "n", "p", "k"] ["word"] (defScope s_law_periods) := ⟨rfl, rfl, rfl, by decide +kernel, rfl, by decide +kernel, by decide +kernel⟩
def ce_law_periods_0 : EF := (eOp fEq (pE (eOp fIx (pV 0) (pV 3))) (pE (eOp fIx (pV 0) (pE (eOp fAdd (pV 3) (pV 2))))))
def ce_law_periods_1 : EF := (eV 2)
def ct_law_periods_0 : BF := (bP (pE (eCall fAll (aCons (pE (eLc [3] (iR rng1 (aCons (pE (eOp fSub (pV 1) (pV 2))) aNil)) (gN 3) bTrue ce_law_periods_0)) aNil))))
def st_law_periods_0 : SF := (sAsg 1 (eCall fLen (aCons (pV 0) aNil)))
def st_law_periods_1 : SF := (sRet (eLc [2] (iR rng2 (aCons (pE (eC (.int 1))) (aCons (pE (eOp fAdd (pV 1) (pE (eC (.int 1))))) aNil))) (gN 2) ct_law_periods_0 ce_law_periods_1))
def code_law_periods : SF := (sSeq st_law_periods_0 (sSeq st_law_periods_1 sNil))
def fn_law_periods : Fn := runF code_law_periods 4
abbrev s_law_rotations : Stmt := topS 32
theorem sc_law_rotations : FnScope ["word", "k"] ["word"] (defScope s_law_rotations) := ⟨rfl, rfl, rfl, by decide +kernel, rfl, by decide +kernel, by decide +kernel⟩
def ce_law_rotations_0 : EF := (eOp fAdd (pE (eSl (pV 0) (oI (pV 1)) oNo)) (pE (eSl (pV 0) oNo (oI (pV 1)))))
def st_law_rotations_0 : SF := (sRet (eLc [1] (iR rng1 (aCons (pE (eCall fLen (aCons (pV 0) aNil))) aNil)) (gN 1) bTrue ce_law_rotations_0))
def code_law_rotations : SF := (sSeq st_law_rotations_0 sNil)
def fn_law_rotations : Fn := runF code_law_rotations 2
abbrev s_law_root : Stmt := topS 33
theorem sc_law_root : FnScope ["word", "size"] ["word"] (defScope s_law_root) := ⟨rfl, rfl, rfl, by decide +kernel, rfl, by decide +kernel, by decide +kernel⟩
def st_law_root_0 : SF := (sRet (eTup (aCons (pE (eSl (pV 0) oNo (oI (pV 1)))) (aCons (pE (eOp fDiv (pE (eCall fLen (aCons (pV 0) aNil))) (pV 1))) aNil))))
def bk_law_root_0 : SF := (sSeq st_law_root_0 sNil)
def st_law_root_1 : SF := (sIf (bAnd (bE (eOp fEq (pE (eOp fMod (pE (eCall fLen (aCons (pV 0) aNil))) (pV 1))) (pE (eC (.int 0))))) (bE (eOp fEq (pE (eOp fMulA (pE (eSl (pV 0) oNo (oI (pV 1)))) (pE (eOp fDiv (pE (eCall fLen (aCons (pV 0) aNil))) (pV 1))))) (pV 0)))) bk_law_root_0 sNil)
def bk_law_root_1 : SF := (sSeq st_law_root_1 sNil)
def st_law_root_2 : SF := (sFor (iR rng2 (aCons (pE (eC (.int 1))) (aCons (pE (eOp fAdd (pE (eCall fLen (aCons (pV 0) aNil))) (pE (eC (.int 1))))) aNil))) (gN 1) bk_law_root_1)
def st_law_root_3 : SF := (sRet (eC .non))
def code_law_root : SF := (sSeq st_law_root_2 (sSeq st_law_root_3 sNil))
def fn_law_root : Fn := runF code_law_root 2
abbrev s_law_is_lyndon : Stmt := topS 34
theorem sc_law_is_lyndon : FnScope ["word", "k"] ["word"] (defScope s_law_is_lyndon) := ⟨rfl, rfl, rfl, by decide +kernel, rfl, by decide +kernel, by decide +kernel⟩
def ce_law_is_lyndon_0 : EF := (eOp fLt (pV 0) (pE (eOp fAdd (pE (eSl (pV 0) (oI (pV 1)) oNo)) (pE (eSl (pV 0) oNo (oI (pV 1)))))))
def st_law_is_lyndon_0 : SF := (sRet (eAnd (eOp fNe (pV 0) (pE (eC (.str [])))) (eCall fAll (aCons (pE (eLc [1] (iR rng2 (aCons (pE (eC (.int 1))) (aCons (pE (eCall fLen (aCons (pV 0) aNil))) aNil))) (gN 1) bTrue ce_law_is_lyndon_0)) aNil))))
def code_law_is_lyndon : SF := (sSeq st_law_is_lyndon_0 sNil)
def fn_law_is_lyndon : Fn := runF code_law_is_lyndon 2
abbrev s_law_parts : Stmt := topS 35
theorem sc_law_parts : FnScope ["word", "found", "turn", "size", "k"] ["word"] (defScope s_law_parts) := ⟨rfl, rfl, rfl, by decide +kernel, rfl, by decide +kernel, by decide +kernel⟩
def st_law_parts_0 : SF := sBreak
def bk_law_parts_0 : SF := (sSeq st_law_parts_0 sNil)
def ce_law_parts_0 : EF := (eV 4)
def ct_law_parts_0 : BF := (bP (pE (eFn fn_law_is_lyndon (aCons (pE (eSl (pV 0) oNo (oI (pV 4)))) aNil))))
def st_law_parts_1 : SF := (sIf (bE (eOp fEq (pV 0) (pE (eC (.str []))))) bk_law_parts_0 sNil)
def st_law_parts_2 : SF := (sAsg 3 (eCall fMaxA (aCons (pE (eLc [4] (iR rng2 (aCons (pE (eC (.int 1))) (aCons (pE (eOp fAdd (pE (eCall fLen (aCons (pV 0) aNil))) (pE (eC (.int 1))))) aNil))) (gN 4) ct_law_parts_0 ce_law_parts_0)) aNil)))
def st_law_parts_3 : SF := (sExpr (eMutT "list" mAppend 1 (aCons (pE (eSl (pV 0) oNo (oI (pV 3)))) aNil)))
def st_law_parts_4 : SF := (sAsg 0 (eSl (pV 0) (oI (pV 3)) oNo))
def bk_law_parts_1 : SF := (sSeq st_law_parts_1 (sSeq st_law_parts_2 (sSeq st_law_parts_3 (sSeq st_law_parts_4 sNil))))
def st_law_parts_5 : SF := (sAsg 1 (eLst aNil))
def st_law_parts_6 : SF := (sFor (iR rng1 (aCons (pE (eCall fLen (aCons (pV 0) aNil))) aNil)) (gN 2) bk_law_parts_1)
def st_law_parts_7 : SF := (sRet (eCall fTuple (aCons (pV 1) aNil)))
def code_law_parts : SF := (sSeq st_law_parts_5 (sSeq st_law_parts_6 (sSeq st_law_parts_7 sNil)))
def fn_law_parts : Fn := runF code_law_parts 5
abbrev s_law_shared : Stmt := topS 36
theorem sc_law_shared : FnScope ["p", "q", "a", "b", "turn", "n", "heads", "k", "step", "low", "names", "found"] ["p", "q"] (defScope s_law_shared) := ⟨rfl, rfl, rfl, by decide +kernel, rfl, by decide +kernel, by decide +kernel⟩
def st_law_shared_0 : SF := sBreak
def bk_law_shared_0 : SF := (sSeq st_law_shared_0 sNil)
def st_law_shared_1 : SF := (sIf (bE (eOp fEq (pV 3) (pE (eC (.int 0))))) bk_law_shared_0 sNil)
def st_law_shared_2 : SF := (sPar 2 3 (eV 3) (eOp fMod (pV 2) (pV 3)))
def bk_law_shared_1 : SF := (sSeq st_law_shared_1 (sSeq st_law_shared_2 sNil))
def st_law_shared_3 : SF := (sAsg 9 (eCall fMin2 (aCons (pE (eOp fIx (pV 6) (pV 7))) (aCons (pE (eOp fIx (pV 6) (pE (eOp fAdd (pV 7) (pV 8))))) aNil))))
def st_law_shared_4 : SF := (sAsgG (eTup (aCons (pE (eV 9)) (aCons (pE (eV 9)) aNil))) (gT (gsCons (gSub 6 (pV 7)) (gsCons (gSub 6 (pE (eOp fAdd (pV 7) (pV 8)))) gsNil))))
def bk_law_shared_2 : SF := (sSeq st_law_shared_3 (sSeq st_law_shared_4 sNil))
def st_law_shared_5 : SF := (sIf (bE (eOp fLt (pE (eOp fAdd (pV 7) (pV 8))) (pV 5))) bk_law_shared_2 sNil)
def bk_law_shared_3 : SF := (sSeq st_law_shared_5 sNil)
def st_law_shared_6 : SF := (sFor (iE (eTup (aCons (pE (eV 0)) (aCons (pE (eV 1)) aNil)))) (gN 8) bk_law_shared_3)
def bk_law_shared_4 : SF := (sSeq st_law_shared_6 sNil)
def st_law_shared_7 : SF := (sFor (iR rng1 (aCons (pV 5) aNil)) (gN 7) bk_law_shared_4)
def bk_law_shared_5 : SF := (sSeq st_law_shared_7 sNil)
def st_law_shared_8 : SF := (sAsgG (eOp fIx (pE (eC (.str [97, 98, 99, 100, 101, 102, 103, 104, 105, 106, 107, 108, 109, 110, 111, 112, 113, 114, 115, 116, 117, 118, 119, 120, 121, 122]))) (pE (eCall fLen (aCons (pV 10) aNil)))) (gSub 10 (pE (eOp fIx (pV 6) (pV 7)))))
def bk_law_shared_6 : SF := (sSeq st_law_shared_8 sNil)
def st_law_shared_9 : SF := (sIf (bE (eOp fNotIn (pE (eOp fIx (pV 6) (pV 7))) (pV 10))) bk_law_shared_6 sNil)
def st_law_shared_10 : SF := (sAsg 11 (eOp fAdd (pV 11) (pE (eOp fIx (pV 10) (pE (eOp fIx (pV 6) (pV 7)))))))
def bk_law_shared_7 : SF := (sSeq st_law_shared_9 (sSeq st_law_shared_10 sNil))
def st_law_shared_11 : SF := (sPar 2 3 (eV 0) (eV 1))
def st_law_shared_12 : SF := (sFor (iR rng1 (aCons (pE (eC (.int 100))) aNil)) (gN 4) bk_law_shared_1)
def st_law_shared_13 : SF := (sAsg 5 (eOp fSub (pE (eOp fSub (pE (eOp fAdd (pV 0) (pV 1))) (pV 2))) (pE (eC (.int 1)))))
def st_law_shared_14 : SF := (sAsg 6 (eRgL1 (eV 5)))
def st_law_shared_15 : SF := (sFor (iR rng1 (aCons (pV 5) aNil)) (gN 4) bk_law_shared_5)
def st_law_shared_16 : SF := (sParO 10 11 eDk (eC (.str [])))
def st_law_shared_17 : SF := (sFor (iR rng1 (aCons (pV 5) aNil)) (gN 7) bk_law_shared_7)
def st_law_shared_18 : SF := (sRetV 11)
def code_law_shared : SF := (sSeq st_law_shared_11 (sSeq st_law_shared_12 (sSeq st_law_shared_13 (sSeq st_law_shared_14 (sSeq st_law_shared_15 (sSeq st_law_shared_16 (sSeq st_law_shared_17 (sSeq st_law_shared_18 sNil))))))))
def fn_law_shared : Fn := runF code_law_shared 12
abbrev s_law_paper : Stmt := topS 38
theorem sc_law_paper : FnScope ["first", "second", "at"] ["first", "second"] (defScope s_law_paper) := ⟨rfl, rfl, rfl, by decide +kernel, rfl, by decide +kernel, by decide +kernel⟩
def st_law_paper_0 : SF := (sRet (eTup (aCons (pE (eC (.str [116, 117, 114, 110, 101, 100]))) (aCons (pE (eV 2)) aNil))))
def bk_law_paper_0 : SF := (sSeq st_law_paper_0 sNil)
def st_law_paper_1 : SF := (sIf (bE (eOp fEq (pE (eOp fAdd (pE (eSl (pV 0) (oI (pV 2)) oNo)) (pE (eSl (pV 0) oNo (oI (pV 2)))))) (pV 1))) bk_law_paper_0 sNil)
def bk_law_paper_1 : SF := (sSeq st_law_paper_1 sNil)
def st_law_paper_2 : SF := (sFor (iR rng1 (aCons (pE (eCall fMax2 (aCons (pE (eCall fLen (aCons (pV 0) aNil))) (aCons (pE (eC (.int 1))) aNil)))) aNil)) (gN 2) bk_law_paper_1)
def bk_law_paper_2 : SF := (sSeq st_law_paper_2 sNil)
def st_law_paper_3 : SF := (sIf (bE (eOp fEq (pE (eCall fLen (aCons (pV 0) aNil))) (pE (eCall fLen (aCons (pV 1) aNil))))) bk_law_paper_2 sNil)
def st_law_paper_4 : SF := (sRet (eTup (aCons (pE (eC (.str [117, 110, 108, 105, 107, 101]))) (aCons (pE (eCall fMinA (aCons (pE (eOp fAdd (pE (eFn fn_law_rotations (aCons (pE (eV 0)) aNil))) (pE (eLst (aCons (pE (eV 0)) aNil))))) aNil))) (aCons (pE (eCall fMinA (aCons (pE (eOp fAdd (pE (eFn fn_law_rotations (aCons (pE (eV 1)) aNil))) (pE (eLst (aCons (pE (eV 1)) aNil))))) aNil))) aNil)))))
def code_law_paper : SF := (sSeq st_law_paper_3 (sSeq st_law_paper_4 sNil))
def fn_law_paper : Fn := runF code_law_paper 3
abbrev s_law_turned : Stmt := topS 37
theorem sc_law_turned : FnScope ["first", "second", "value"] ["first", "second", "value"] (defScope s_law_turned) := ⟨rfl, rfl, rfl, by decide +kernel, rfl, by decide +kernel, by decide +kernel⟩
def st_law_turned_0 : SF := (sRet (eC (.bl false)))
def bk_law_turned_0 : SF := (sSeq st_law_turned_0 sNil)
def st_law_turned_1 : SF := (sRet (eC (.bl false)))
def bk_law_turned_1 : SF := (sSeq st_law_turned_1 sNil)
def st_law_turned_2 : SF := (sIf (bOr (bE (eOp fNe (pE (eCall fLen (aCons (pV 2) aNil))) (pE (eC (.int 2))))) (bOr (bNot (bP (pE (eCall fIsi (aCons (pE (eOp fIx (pV 2) (pE (eC (.int 1))))) (aCons (pE (eC (.ty "int"))) aNil)))))) (bP (pE (eCall fIsi (aCons (pE (eOp fIx (pV 2) (pE (eC (.int 1))))) (aCons (pE (eC (.ty "bool"))) aNil))))))) bk_law_turned_1 sNil)
def st_law_turned_3 : SF := (sRet (eAnd (eOp fGe (pE (eOp fIx (pV 2) (pE (eC (.int 1))))) (pE (eC (.int 0)))) (eOp fEq (pE (eFn fn_law_paper (aCons (pE (eV 0)) (aCons (pE (eV 1)) aNil)))) (pV 2))))
def bk_law_turned_2 : SF := (sSeq st_law_turned_2 (sSeq st_law_turned_3 sNil))
def st_law_turned_4 : SF := (sIf (bOr (bNot (bP (pE (eCall fIsi (aCons (pV 2) (aCons (pE (eC (.ty "tuple"))) aNil)))))) (bOr (bNot (bP (pV 2))) (bNot (bP (pE (eCall fIsi (aCons (pE (eOp fIx (pV 2) (pE (eC (.int 0))))) (aCons (pE (eC (.ty "str"))) aNil)))))))) bk_law_turned_0 sNil)
def st_law_turned_5 : SF := (sIf (bE (eOp fEq (pE (eOp fIx (pV 2) (pE (eC (.int 0))))) (pE (eC (.str [116, 117, 114, 110, 101, 100]))))) bk_law_turned_2 sNil)
def st_law_turned_6 : SF := (sRet (eAnd (eOp fEq (pE (eOp fIx (pV 2) (pE (eC (.int 0))))) (pE (eC (.str [117, 110, 108, 105, 107, 101])))) (eOp fEq (pE (eFn fn_law_paper (aCons (pE (eV 0)) (aCons (pE (eV 1)) aNil)))) (pV 2))))
def code_law_turned : SF := (sSeq st_law_turned_4 (sSeq st_law_turned_5 (sSeq st_law_turned_6 sNil)))
def fn_law_turned : Fn := runF code_law_turned 3
abbrev s_law_equal : Stmt := topS 39
theorem sc_law_equal : FnScope ["u", "v", "root", "k"] ["u", "v"] (defScope s_law_equal) := ⟨rfl, rfl, rfl, by decide +kernel, rfl, by decide +kernel, by decide +kernel⟩
def st_law_equal_0 : SF := (sAsg 2 (eOp fIx (pE (eFn fn_law_root (aCons (pE (eV 0)) aNil))) (pE (eC (.int 0)))))
def st_law_equal_1 : SF := (sRet (eTup (aCons (pE (eC (.str [112, 111, 119, 101, 114, 115]))) (aCons (pE (eV 2)) (aCons (pE (eOp fDiv (pE (eCall fLen (aCons (pV 0) aNil))) (pE (eCall fLen (aCons (pV 2) aNil))))) (aCons (pE (eOp fDiv (pE (eCall fLen (aCons (pV 1) aNil))) (pE (eCall fLen (aCons (pV 2) aNil))))) aNil))))))
def bk_law_equal_0 : SF := (sSeq st_law_equal_0 (sSeq st_law_equal_1 sNil))
def ce_law_equal_0 : EF := (eV 3)
def ct_law_equal_0 : BF := (bE (eOp fNe (pE (eOp fIx (pE (eOp fAdd (pV 0) (pV 1))) (pV 3))) (pE (eOp fIx (pE (eOp fAdd (pV 1) (pV 0))) (pV 3)))))
def st_law_equal_2 : SF := (sIf (bE (eOp fEq (pE (eOp fAdd (pV 0) (pV 1))) (pE (eOp fAdd (pV 1) (pV 0))))) bk_law_equal_0 sNil)
def st_law_equal_3 : SF := (sRet (eTup (aCons (pE (eC (.str [117, 110, 108, 105, 107, 101]))) (aCons (pE (eOp fIx (pE (eLc [3] (iR rng1 (aCons (pE (eCall fLen (aCons (pE (eOp fAdd (pV 0) (pV 1))) aNil))) aNil)) (gN 3) ct_law_equal_0 ce_law_equal_0)) (pE (eC (.int 0))))) aNil))))
def code_law_equal : SF := (sSeq st_law_equal_2 (sSeq st_law_equal_3 sNil))
def fn_law_equal : Fn := runF code_law_equal 4
abbrev s_law_flat : Stmt := topS 41
theorem sc_law_flat : FnScope ["rows", "found", "row"] ["rows"] (defScope s_law_flat) := ⟨rfl, rfl, rfl, by decide +kernel, rfl, by decide +kernel, by decide +kernel⟩
def st_law_flat_0 : SF := (sAsg 1 (eOp fAdd (pV 1) (pV 2)))
def bk_law_flat_0 : SF := (sSeq st_law_flat_0 sNil)
def st_law_flat_1 : SF := (sAsg 1 (eLst aNil))
def st_law_flat_2 : SF := (sFor (iE (eV 0)) (gN 2) bk_law_flat_0)
def st_law_flat_3 : SF := (sRetV 1)
def code_law_flat : SF := (sSeq st_law_flat_1 (sSeq st_law_flat_2 (sSeq st_law_flat_3 sNil)))
def fn_law_flat : Fn := runF code_law_flat 3
abbrev s_law_lyndon : Stmt := topS 42
theorem sc_law_lyndon : FnScope ["letters", "n", "word"] ["letters", "n"] (defScope s_law_lyndon) := ⟨rfl, rfl, rfl, by decide +kernel, rfl, by decide +kernel, by decide +kernel⟩
def ce_law_lyndon_0 : EF := (eV 2)
def ct_law_lyndon_0 : BF := (bP (pE (eFn fn_law_is_lyndon (aCons (pE (eV 2)) aNil))))
def st_law_lyndon_0 : SF := (sRet (eLc [2] (iE (eFn fn_law_words (aCons (pE (eV 0)) (aCons (pE (eV 1)) aNil)))) (gN 2) ct_law_lyndon_0 ce_law_lyndon_0))
def code_law_lyndon : SF := (sSeq st_law_lyndon_0 sNil)
def fn_law_lyndon : Fn := runF code_law_lyndon 3
abbrev s_law_all : Stmt := topS 40
theorem sc_law_all : FnScope ["c", "letters", "n", "whole", "size", "due", "k", "word", "around", "pieces", "at", "bad", "one"] ["c"] (defScope s_law_all) := ⟨rfl, rfl, rfl, by decide +kernel, rfl, by decide +kernel, by decide +kernel⟩
def ce_law_all_0 : EF := (eFn fn_law_lyndon (aCons (pE (eV 1)) (aCons (pE (eV 4)) aNil)))
def ct_law_all_0 : BF := (bE (eOp fEq (pE (eOp fMod (pV 2) (pV 4))) (pE (eC (.int 0)))))
def st_law_all_0 : SF := (sRet (eC (.bl false)))
def bk_law_all_0 : SF := (sSeq st_law_all_0 sNil)
def st_law_all_1 : SF := sCont
def bk_law_all_1 : SF := (sSeq st_law_all_1 sNil)
def ce_law_all_1 : EF := (eSl (pV 8) (oI (pV 10)) (oI (pE (eOp fAdd (pV 10) (pV 2)))))
def ce_law_all_2 : EF := (eV 12)
def ct_law_all_1 : BF := (bE (eOp fNe (pE (eAlt (eMeth D.isStr fCount (pV 9) (aCons (pV 12) aNil)) (eMeth D.isLst fCountL (pV 9) (aCons (pV 12) aNil)))) (pE (eC (.int 1)))))
def st_law_all_2 : SF := (sRet (eC (.bl false)))
def bk_law_all_2 : SF := (sSeq st_law_all_2 sNil)
def st_law_all_3 : SF := (sIf (bE (eOp fEq (pV 7) (pE (eC (.str []))))) bk_law_all_1 sNil)
def st_law_all_4 : SF := (sAsg 8 (eOp fMulA (pV 7) (pE (eOp fAdd (pE (eOp fDiv (pV 2) (pE (eCall fLen (aCons (pV 7) aNil))))) (pE (eC (.int 2)))))))
def st_law_all_5 : SF := (sAsg 9 (eLc [10] (iR rng1 (aCons (pE (eCall fLen (aCons (pV 7) aNil))) aNil)) (gN 10) bTrue ce_law_all_1))
def st_law_all_6 : SF := (sAsg 11 (eLc [12] (iE (eFn fn_law_words (aCons (pE (eV 1)) (aCons (pE (eV 2)) aNil)))) (gN 12) ct_law_all_1 ce_law_all_2))
def st_law_all_7 : SF := (sIf (bE (eOp fNe (pE (eCall fRepr (aCons (pE (eFn fn_all_paper (aCons (pE (eV 1)) (aCons (pE (eV 2)) (aCons (pE (eV 7)) aNil))))) aNil))) (pE (eCall fRepr (aCons (pE (eIf (bP (pV 11)) (eTup (aCons (pE (eC (.str [98, 97, 100]))) (aCons (pE (eOp fIx (pV 11) (pE (eC (.int 0))))) aNil))) (eTup (aCons (pE (eC (.str [97, 108, 108]))) aNil)))) aNil))))) bk_law_all_2 sNil)
def bk_law_all_3 : SF := (sSeq st_law_all_3 (sSeq st_law_all_4 (sSeq st_law_all_5 (sSeq st_law_all_6 (sSeq st_law_all_7 sNil)))))
def st_law_all_8 : SF := (sAsgG (eTup (aCons (pE (eSl (pE (eC (.str [97, 98, 99]))) oNo (oI (pE (eOp fAdd (pE (eC (.int 2))) (pE (eFn fn_law_take (aCons (pV 0) (aCons (pE (eC (.int 2))) aNil))))))))) (aCons (pE (eOp fAdd (pE (eC (.int 1))) (pE (eFn fn_law_take (aCons (pV 0) (aCons (pE (eC (.int 4))) aNil)))))) aNil))) (gT (gsCons (gN 1) (gsCons (gN 2) gsNil))))
def st_law_all_9 : SF := (sAsg 3 (eCall fSortA (aCons (pE (eFn fn_law_flat (aCons (pE (eLc [4] (iR rng2 (aCons (pE (eC (.int 1))) (aCons (pE (eOp fAdd (pV 2) (pE (eC (.int 1))))) aNil))) (gN 4) ct_law_all_0 ce_law_all_0)) aNil))) aNil)))
def st_law_all_10 : SF := (sAsg 5 (eMeth D.isStr fJoin (pE (eC (.str []))) (aCons (pV 3) aNil)))
def st_law_all_11 : SF := (sIf (bOr (bE (eOp fNe (pE (eCall fRepr (aCons (pE (eFn fn_all_row (aCons (pE (eV 1)) (aCons (pE (eV 2)) aNil)))) aNil))) (pE (eCall fRepr (aCons (pV 5) aNil))))) (bE (eOp fNe (pE (eCall fRepr (aCons (pE (eFn fn_lyndon_words (aCons (pE (eV 1)) (aCons (pE (eV 2)) aNil)))) aNil))) (pE (eCall fRepr (aCons (pE (eCall fTuple (aCons (pE (eFn fn_law_lyndon (aCons (pE (eV 1)) (aCons (pE (eV 2)) aNil)))) aNil))) aNil)))))) bk_law_all_0 sNil)
def st_law_all_12 : SF := (sAsg 6 (eFn fn_law_take (aCons (pV 0) (aCons (pE (eCall fLen (aCons (pV 5) aNil))) aNil))))
def st_law_all_13 : SF := (sFor (iE (eTup (aCons (pE (eV 5)) (aCons (pE (eOp fAdd (pE (eSl (pV 5) (oI (pV 6)) oNo)) (pE (eSl (pV 5) oNo (oI (pV 6)))))) (aCons (pE (eOp fAdd (pE (eSl (pV 5) oNo (oI (pV 6)))) (pE (eSl (pV 5) (oI (pE (eOp fAdd (pV 6) (pE (eC (.int 1)))))) oNo)))) (aCons (pE (eOp fAdd (pE (eOp fAdd (pE (eSl (pV 5) oNo (oI (pV 6)))) (pE (eOp fIx (pV 1) (pE (eC (.int 0))))))) (pE (eSl (pV 5) (oI (pE (eOp fAdd (pV 6) (pE (eC (.int 1)))))) oNo)))) (aCons (pE (eOp fAdd (pV 5) (pE (eSl (pV 5) oNo (oI (pE (eC (.int 1)))))))) aNil))))))) (gN 7) bk_law_all_3)
def st_law_all_14 : SF := (sRet (eC (.bl true)))
def code_law_all : SF := (sSeq st_law_all_8 (sSeq st_law_all_9 (sSeq st_law_all_10 (sSeq st_law_all_11 (sSeq st_law_all_12 (sSeq st_law_all_13 (sSeq st_law_all_14 sNil)))))))
def fn_law_all : Fn := runF code_law_all 13
abbrev s_law : Stmt := topS 43
theorem sc_law : FnScope ["script", "c", "letters", "word", "due", "own", "p", "turns", "k", "other", "told", "value", "u", "v", "q"] ["script"] (defScope s_law) := ⟨rfl, rfl, rfl, by decide +kernel, rfl, by decide +kernel, by decide +kernel⟩
def st_law_0 : SF := (sAsg 3 (eSl (pE (eOp fMulA (pE (eFn fn_law_word (aCons (pV 1) (aCons (pE (eV 2)) (aCons (pE (eC (.int 4))) aNil))))) (pE (eC (.int 4))))) oNo (oI (pE (eC (.int 14))))))
def bk_law_0 : SF := (sSeq st_law_0 sNil)
def st_law_1 : SF := (sRet (eC (.bl false)))
def bk_law_1 : SF := (sSeq st_law_1 sNil)
def ce_law_0 : EF := (eSl (pV 3) oNo (oI (pE (eOp fSub (pE (eCall fLen (aCons (pV 3) aNil))) (pV 6)))))
def st_law_2 : SF := (sRet (eC (.bl false)))
def bk_law_2 : SF := (sSeq st_law_2 sNil)
def st_law_3 : SF := (sRet (eC (.bl false)))
def bk_law_3 : SF := (sSeq st_law_3 sNil)
def st_law_4 : SF := (sRet (eC (.bl false)))
def bk_law_4 : SF := (sSeq st_law_4 sNil)
def st_law_5 : SF := (sAsg 7 (eFn fn_law_rotations (aCons (pE (eV 3)) aNil)))
def st_law_6 : SF := (sIf (bE (eOp fNe (pE (eCall fRepr (aCons (pE (eFn fn_root_of (aCons (pE (eV 3)) aNil))) aNil))) (pE (eCall fRepr (aCons (pE (eFn fn_law_root (aCons (pE (eV 3)) aNil))) aNil))))) bk_law_3 sNil)
def st_law_7 : SF := (sIf (bE (eOp fNe (pE (eCall fRepr (aCons (pE (eFn fn_least_rotation (aCons (pE (eV 3)) aNil))) aNil))) (pE (eCall fRepr (aCons (pE (eTup (aCons (pE (eCall fMinA (aCons (pV 7) aNil))) (aCons (pE (eAlt (eMeth D.isStr fIndexS (pV 7) (aCons (pE (eCall fMinA (aCons (pV 7) aNil))) aNil)) (eMeth D.isLst fIndexL (pV 7) (aCons (pE (eCall fMinA (aCons (pV 7) aNil))) aNil)))) aNil)))) aNil))))) bk_law_4 sNil)
def bk_law_5 : SF := (sSeq st_law_5 (sSeq st_law_6 (sSeq st_law_7 sNil)))
def st_law_8 : SF := (sRet (eC (.bl false)))
def bk_law_6 : SF := (sSeq st_law_8 sNil)
def st_law_9 : SF := (sRet (eC (.bl false)))
def bk_law_7 : SF := (sSeq st_law_9 sNil)
def st_law_10 : SF := (sRet (eC (.bl false)))
def bk_law_8 : SF := (sSeq st_law_10 sNil)
def st_law_11 : SF := (sIf (bE (eOp fNe (pE (eCall fRepr (aCons (pE (eFn fn_judge_turned (aCons (pE (eV 3)) (aCons (pE (eV 9)) (aCons (pE (eV 11)) aNil))))) aNil))) (pE (eCall fRepr (aCons (pE (eFn fn_law_turned (aCons (pE (eV 3)) (aCons (pE (eV 9)) (aCons (pE (eV 11)) aNil))))) aNil))))) bk_law_8 sNil)
def bk_law_9 : SF := (sSeq st_law_11 sNil)
def st_law_12 : SF := (sIf (bE (eOp fNe (pE (eCall fRepr (aCons (pE (eFn fn_turned_paper (aCons (pE (eV 3)) (aCons (pE (eV 9)) aNil)))) aNil))) (pE (eCall fRepr (aCons (pV 10) aNil))))) bk_law_7 sNil)
def st_law_13 : SF := (sFor (iE (eTup (aCons (pE (eV 10)) (aCons (pE (eSl (pV 10) oNo (oI (pE (eC (.int 1)))))) (aCons (pE (eTup (aCons (pE (eC (.str [116, 117, 114, 110, 101, 100]))) (aCons (pE (eC (.int 0))) aNil)))) (aCons (pE (eTup (aCons (pE (eC (.str [116, 117, 114, 110, 101, 100]))) (aCons (pE (eCall fLen (aCons (pV 3) aNil))) aNil)))) (aCons (pE (eTup (aCons (pE (eC (.str [117, 110, 108, 105, 107, 101]))) (aCons (pE (eV 3)) (aCons (pE (eV 9)) aNil))))) (aCons (pE (eTup aNil)) (aCons (pE (eOp fAdd (pV 10) (pE (eTup (aCons (pE (eC (.int 0))) aNil))))) aNil))))))))) (gN 11) bk_law_9)
def bk_law_10 : SF := (sSeq st_law_12 (sSeq st_law_13 sNil))
def st_law_14 : SF := (sPar 12 13 (eOp fMulA (pV 12) (pE (eOp fAdd (pE (eC (.int 1))) (pE (eFn fn_law_take (aCons (pV 1) (aCons (pE (eC (.int 3))) aNil))))))) (eOp fMulA (pV 12) (pE (eOp fAdd (pE (eC (.int 1))) (pE (eFn fn_law_take (aCons (pV 1) (aCons (pE (eC (.int 3))) aNil))))))))
def bk_law_11 : SF := (sSeq st_law_14 sNil)
def st_law_15 : SF := (sRet (eC (.bl false)))
def bk_law_12 : SF := (sSeq st_law_15 sNil)
def st_law_16 : SF := (sRet (eC (.bl false)))
def bk_law_13 : SF := (sSeq st_law_16 sNil)
def st_law_17 : SF := (sAsg 1 (eFn fn_law_start (aCons (pE (eV 0)) aNil)))
def st_law_18 : SF := (sAsg 2 (eSl (pE (eC (.str [97, 98, 99]))) oNo (oI (pE (eOp fAdd (pE (eC (.int 2))) (pE (eFn fn_law_take (aCons (pV 1) (aCons (pE (eC (.int 2))) aNil)))))))))
def st_law_19 : SF := (sAsg 3 (eFn fn_law_word (aCons (pV 1) (aCons (pE (eV 2)) (aCons (pE (eC (.int 14))) aNil)))))
def st_law_20 : SF := (sIf (bE (eOp fEq (pE (eFn fn_law_take (aCons (pV 1) (aCons (pE (eC (.int 3))) aNil)))) (pE (eC (.int 0))))) bk_law_0 sNil)
def st_law_21 : SF := (sAsg 4 (eFn fn_law_periods (aCons (pE (eV 3)) aNil)))
def st_law_22 : SF := (sIf (bE (eOp fNe (pE (eCall fRepr (aCons (pE (eFn fn_periods (aCons (pE (eV 3)) aNil))) aNil))) (pE (eCall fRepr (aCons (pE (eCall fTuple (aCons (pV 4) aNil))) aNil))))) bk_law_1 sNil)
def st_law_23 : SF := (sAsg 5 (eLc [6] (iE (eV 4)) (gN 6) bTrue ce_law_0))
def st_law_24 : SF := (sIf (bE (eOp fNe (pE (eCall fRepr (aCons (pE (eFn fn_borders (aCons (pE (eV 3)) aNil))) aNil))) (pE (eCall fRepr (aCons (pE (eCall fTuple (aCons (pE (eCall fSortLen (aCons (pV 5) aNil))) aNil))) aNil))))) bk_law_2 sNil)
def st_law_25 : SF := (sIf (bE (eOp fNe (pV 3) (pE (eC (.str []))))) bk_law_5 sNil)
def st_law_26 : SF := (sIf (bE (eOp fNe (pE (eCall fRepr (aCons (pE (eFn fn_lyndon_parts (aCons (pE (eV 3)) aNil))) aNil))) (pE (eCall fRepr (aCons (pE (eFn fn_law_parts (aCons (pE (eV 3)) aNil))) aNil))))) bk_law_6 sNil)
def st_law_27 : SF := (sAsg 8 (eFn fn_law_take (aCons (pV 1) (aCons (pE (eOp fAdd (pE (eCall fLen (aCons (pV 3) aNil))) (pE (eC (.int 1))))) aNil))))
def st_law_28 : SF := (sAsg 9 (eIf (bE (eOp fEq (pE (eFn fn_law_take (aCons (pV 1) (aCons (pE (eC (.int 2))) aNil)))) (pE (eC (.int 0))))) (eOp fAdd (pE (eSl (pV 3) (oI (pV 8)) oNo)) (pE (eSl (pV 3) oNo (oI (pV 8))))) (eFn fn_law_word (aCons (pV 1) (aCons (pE (eV 2)) (aCons (pE (eCall fLen (aCons (pV 3) aNil))) aNil))))))
def st_law_29 : SF := (sAsg 10 (eFn fn_law_paper (aCons (pE (eV 3)) (aCons (pE (eV 9)) aNil))))
def st_law_30 : SF := (sIf (bAnd (bE (eOp fNe (pV 3) (pE (eC (.str []))))) (bE (eOp fNe (pV 9) (pE (eC (.str [])))))) bk_law_10 sNil)
def st_law_31 : SF := (sPar 12 13 (eOp fAdd (pE (eOp fIx (pV 2) (pE (eC (.int 0))))) (pE (eFn fn_law_word (aCons (pV 1) (aCons (pE (eV 2)) (aCons (pE (eC (.int 3))) aNil)))))) (eOp fAdd (pE (eFn fn_law_word (aCons (pV 1) (aCons (pE (eV 2)) (aCons (pE (eC (.int 4))) aNil))))) (pE (eOp fIx (pV 2) (pE (eC (.int 1)))))))
def st_law_32 : SF := (sIf (bE (eOp fEq (pE (eFn fn_law_take (aCons (pV 1) (aCons (pE (eC (.int 2))) aNil)))) (pE (eC (.int 0))))) bk_law_11 sNil)
def st_law_33 : SF := (sIf (bE (eOp fNe (pE (eCall fRepr (aCons (pE (eFn fn_equal_powers (aCons (pE (eV 12)) (aCons (pE (eV 13)) aNil)))) aNil))) (pE (eCall fRepr (aCons (pE (eFn fn_law_equal (aCons (pE (eV 12)) (aCons (pE (eV 13)) aNil)))) aNil))))) bk_law_12 sNil)
def st_law_34 : SF := (sPar 6 14 (eOp fAdd (pE (eC (.int 2))) (pE (eFn fn_law_take (aCons (pV 1) (aCons (pE (eC (.int 9))) aNil))))) (eOp fAdd (pE (eC (.int 2))) (pE (eFn fn_law_take (aCons (pV 1) (aCons (pE (eC (.int 9))) aNil))))))
def st_law_35 : SF := (sIf (bAnd (bE (eOp fNe (pE (eOp fMod (pV 6) (pV 14))) (pE (eC (.int 0))))) (bAnd (bE (eOp fNe (pE (eOp fMod (pV 14) (pV 6))) (pE (eC (.int 0))))) (bE (eOp fNe (pE (eCall fRepr (aCons (pE (eFn fn_shared_period (aCons (pE (eV 6)) (aCons (pE (eV 14)) aNil)))) aNil))) (pE (eCall fRepr (aCons (pE (eFn fn_law_shared (aCons (pE (eV 6)) (aCons (pE (eV 14)) aNil)))) aNil))))))) bk_law_13 sNil)
def st_law_36 : SF := (sRet (eFn fn_law_all (aCons (pV 1) aNil)))
def code_law : SF := (sSeq st_law_17 (sSeq st_law_18 (sSeq st_law_19 (sSeq st_law_20 (sSeq st_law_21 (sSeq st_law_22 (sSeq st_law_23 (sSeq st_law_24 (sSeq st_law_25 (sSeq st_law_26 (sSeq st_law_27 (sSeq st_law_28 (sSeq st_law_29 (sSeq st_law_30 (sSeq st_law_31 (sSeq st_law_32 (sSeq st_law_33 (sSeq st_law_34 (sSeq st_law_35 (sSeq st_law_36 sNil))))))))))))))))))))
def fn_law : Fn := runF code_law 15
end signworth_k20_turning
namespace MP
/-! ### Lyndon words, by rows of letters -/
/-- the first place before n at which two rows differ, and there the first is less -/
def LtAt (f g : Nat → Nat) (n : Nat) : Prop := ∃ t, t < n ∧ (∀ i, i < t → f i = g i) ∧ f t < g t
def LynR (f : Nat → Nat) (p : Nat) : Prop := 0 < p ∧ ∀ k, 1 ≤ k → k < p → LtAt f (fun i => f ((i + k) % p)) p
def LynS (f : Nat → Nat) (p : Nat) : Prop := 0 < p ∧ ∀ k, 1 ≤ k → k < p → LtAt f (fun i => f (i + k)) (p - k)
def Per (f : Nat → Nat) (p m : Nat) : Prop := ∀ t, p ≤ t → t < m → f t = f (t - p)
section
variable {f g : Nat → Nat} {p m k n : Nat}
theorem LynS.r (h : LynS f p) : LynR f p := ⟨h.1, fun k h1 h2 => by
  obtain ⟨t, t1, t2, t3⟩ := h.2 k h1 h2
  have t3' : f t < f (t + k) := t3
  refine ⟨t, by omega, fun i hi => ?_, ?_⟩
  · show f i = f ((i + k) % p)
    rw [Nat.mod_eq_of_lt (by omega)]
    exact t2 i hi
  · show f t < f ((t + k) % p)
    rw [Nat.mod_eq_of_lt (by omega)]
    exact t3'⟩
theorem LynR.s (h : LynR f p) : LynS f p := ⟨h.1, fun k h1 h2 => by
  obtain ⟨t, t1, t2, t3⟩ := h.2 k h1 h2
  have t3 : f t < f ((t + k) % p) := t3
  have t2 : ∀ i, i < t → f i = f ((i + k) % p) := t2
  by_cases ht : t < p - k
  · refine ⟨t, ht, fun i hi => ?_, ?_⟩
    · have := t2 i hi
      rw [Nat.mod_eq_of_lt (by omega)] at this
      exact this
    · show f t < f (t + k)
      rw [Nat.mod_eq_of_lt (by omega)] at t3
      exact t3
  · exfalso
    obtain ⟨t', rfl⟩ : ∃ t', t = (p - k) + t' := ⟨t - (p - k), by omega⟩
    have ix : ∀ i, i < k → (p - k + i + k) % p = i := fun i hi => by
      rw [show p - k + i + k = p + i by omega, Nat.add_mod_left, Nat.mod_eq_of_lt (by omega)]
    have y1 : ∀ i, i < t' → f (p - k + i) = f i := fun i hi => by
      have := t2 (p - k + i) (by omega)
      rw [ix i (by omega)] at this
      exact this
    have y2 : f (p - k + t') < f t' := by
      rw [ix t' (by omega)] at t3
      exact t3
    obtain ⟨c, u1, u2, u3⟩ := h.2 (p - k) (by omega) (by omega)
    have u2 : ∀ i, i < c → f i = f ((i + (p - k)) % p) := u2
    have u3 : f c < f ((c + (p - k)) % p) := u3
    have jx : ∀ i, i < k → (i + (p - k)) % p = p - k + i := fun i hi => by
      rw [Nat.mod_eq_of_lt (by omega)]
      omega
    rcases Nat.lt_trichotomy c t' with q | q | q
    · rw [jx c (by omega), y1 c q] at u3
      omega
    · subst q
      rw [jx c (by omega)] at u3
      omega
    · have := u2 t' q
      rw [jx t' (by omega)] at this
      omega⟩
theorem Per.mod (h : Per f p m) (hp : 0 < p) : ∀ t, t < m → f t = f (t % p) := by
  intro t
  induction t using Nat.strongRecOn with
  | ind t ih =>
    intro ht
    by_cases c : t < p
    · rw [Nat.mod_eq_of_lt c]
    · rw [h t (by omega) ht, ih (t - p) (by omega) (by omega)]
      congr 1
      rw [Nat.mod_eq_sub_mod (by omega : p ≤ t)]
/-- a word with a period is no Lyndon word -/
theorem not_lyn_per (hp : 0 < p) (h : Per f p k) (hk : p < k) : ¬ LynR f k := fun q => by
  obtain ⟨t, t1, _, t3⟩ := q.s.2 p hp hk
  have t3 : f t < f (t + p) := t3
  rw [h (t + p) (by omega) (by omega), Nat.add_sub_cancel] at t3
  omega
theorem Per.le (h : Per f p m) (hk : k ≤ m) : Per f p k := fun t h1 h2 => h t h1 (by omega)
theorem not_lyn_less (hp : 0 < p) (hm : p ≤ m) (h : Per f p m) (hk : m < k) (hc : f m < f (m - p)) : ¬ LynR f k := fun q => by
  obtain ⟨t, t1, t2, t3⟩ := q.s.2 p hp (by omega)
  have t3 : f t < f (t + p) := t3
  have t2 : ∀ i, i < t → f i = f (i + p) := t2
  rcases Nat.lt_trichotomy t (m - p) with c | c | c
  · rw [h (t + p) (by omega) (by omega), Nat.add_sub_cancel] at t3
    omega
  · subst c
    rw [Nat.sub_add_cancel hm] at t3
    omega
  · have := t2 (m - p) c
    rw [Nat.sub_add_cancel hm] at this
    omega
theorem lyn_one : LynS f 1 := ⟨by omega, fun k h1 h2 => by omega⟩
/-- a Lyndon word's power and a part of it, and a greater letter: a Lyndon word -/
theorem lyn_ext (hl : LynS f p) (h : Per f p m) (hm : p ≤ m) (hc : f (m - p) < f m) : LynS f (m + 1) := by
  refine ⟨by omega, fun k h1 h2 => ?_⟩
  have hp := hl.1
  have md := h.mod hp
  have hd := Nat.div_add_mod k p
  generalize k / p = a at hd
  generalize hr : k % p = r at hd
  have hrp : r < p := by rw [← hr]; exact Nat.mod_lt _ hp
  have sh : ∀ j b, (j + p * b) % p = j % p := fun j b => Nat.add_mul_mod_self_left _ _ _
  by_cases r0 : r = 0
  · subst r0
    refine ⟨m - k, by omega, fun i hi => ?_, ?_⟩
    · show f i = f (i + k)
      rw [md i (by omega), md (i + k) (by omega), ← hd, Nat.add_zero, sh]
    · show f (m - k) < f (m - k + k)
      rw [Nat.sub_add_cancel (by omega)]
      have a1 : 1 ≤ a := by
        cases a with
        | zero => omega
        | succ a => omega
      obtain ⟨b, rfl⟩ : ∃ b, a = b + 1 := ⟨a - 1, by omega⟩
      have e : m - p = (m - k) + p * b := by
        rw [Nat.mul_succ] at hd
        omega
      have : f (m - k) = f (m - p) := by
        rw [md (m - k) (by omega), md (m - p) (by omega), e, sh]
      omega
  · obtain ⟨t, t1, t2, t3⟩ := hl.2 r (by omega) hrp
    have t3 : f t < f (t + r) := t3
    have t2 : ∀ i, i < t → f i = f (i + r) := t2
    have kk : ∀ j, j + k < m → j + r < p → f (j + k) = f (j + r) := fun j j1 j2 => by
      rw [md (j + k) j1, ← hd, show j + (p * a + r) = (j + r) + p * a by omega, sh, Nat.mod_eq_of_lt j2]
    by_cases c : k + t < m
    · refine ⟨t, by omega, fun i hi => ?_, ?_⟩
      · show f i = f (i + k)
        rw [kk i (by omega) (by omega)]
        exact t2 i hi
      · show f t < f (t + k)
        rw [kk t (by omega) (by omega)]
        exact t3
    · refine ⟨m - k, by omega, fun i hi => ?_, ?_⟩
      · show f i = f (i + k)
        rw [kk i (by omega) (by omega)]
        exact t2 i (by omega)
      · show f (m - k) < f (m - k + k)
        rw [Nat.sub_add_cancel (by omega)]
        have a1 : 1 ≤ a := by
          cases a with
          | zero => rw [Nat.mul_zero] at hd; omega
          | succ a => omega
        obtain ⟨b, rfl⟩ : ∃ b, a = b + 1 := ⟨a - 1, by omega⟩
        have e : m - p = (m - k + r) + p * b := by
          rw [Nat.mul_succ] at hd
          omega
        have e2 : f (m - p) = f (m - k + r) := by
          rw [md (m - p) (by omega), e, sh, Nat.mod_eq_of_lt (by omega)]
        by_cases w : m - k < t
        · have := t2 (m - k) w
          omega
        · have : m - k = t := by omega
          rw [this] at e2 ⊢
          omega
/-! the longest Lyndon word ahead -/
def Big (f : Nat → Nat) (n k : Nat) : Prop := k ≤ n ∧ LynR f k ∧ ∀ j, k < j → j ≤ n → ¬ LynR f j
theorem Big.uniq {j : Nat} (h : Big f n k) (h' : Big f n j) : k = j := by
  rcases Nat.lt_trichotomy k j with c | c | c
  · exact absurd h'.2.1 (h.2.2 j c h'.1)
  · exact c
  · exact absurd h.2.1 (h'.2.2 k c h.1)
theorem big_of (hl : LynS f p) (h : Per f p m) (hm : p ≤ m) (hn : m ≤ n) (he : m = n ∨ f m < f (m - p)) : Big f n p := by
  refine ⟨by omega, hl.r, fun j h1 h2 => ?_⟩
  by_cases c : j ≤ m
  · exact not_lyn_per hl.1 (h.le c) h1
  · rcases he with rfl | he
    · omega
    · exact not_lyn_less hl.1 hm h (by omega) he
theorem LtAt.congr {f' g' : Nat → Nat} (h : LtAt f g n) (h1 : ∀ i, i < n → f i = f' i) (h2 : ∀ i, i < n → g i = g' i) : LtAt f' g' n := by
  obtain ⟨t, t1, t2, t3⟩ := h
  exact ⟨t, t1, fun i hi => by rw [← h1 i (by omega), ← h2 i (by omega)]; exact t2 i hi, by rw [← h1 t t1, ← h2 t t1]; exact t3⟩
theorem LynR.congr (h : LynR f k) (he : ∀ i, i < k → f i = g i) : LynR g k := ⟨h.1, fun j h1 h2 => (h.2 j h1 h2).congr he fun i hi => he _ (Nat.mod_lt _ h.1)⟩
theorem LynS.congr (h : LynS f k) (he : ∀ i, i < k → f i = g i) : LynS g k := (h.r.congr he).s
/-- what is behind it: if a whole period is left, the same word again -/
theorem shift_lyn (hl : LynS f p) (h : Per f p m) (hm : 2 * p ≤ m) : LynS (fun i => f (i + p)) p :=
  hl.congr fun i hi => by
    have := h (i + p) (by omega) (by omega)
    rw [Nat.add_sub_cancel] at this
    exact this.symm
theorem shift_per (h : Per f p m) : Per (fun i => f (i + p)) p (m - p) := fun t h1 h2 => by
  have := h (t + p) (by omega) (by omega)
  show f (t + p) = f (t - p + p)
  rw [this]
  congr 1
  omega
end
/-! ### of words -/
def lt (w : List Nat) : Nat → Nat := fun i => w.getD i 0
theorem lt_iff : ∀ {x y : List Nat}, x.length = y.length → (x < y ↔ LtAt (lt x) (lt y) x.length)
  | [], [], _ => ⟨fun h => absurd h (by simp), fun ⟨t, h, _⟩ => by simp at h⟩
  | a :: x, b :: y, h => by
    have hl : x.length = y.length := by simpa using h
    rw [List.cons_lt_cons_iff, lt_iff hl]
    constructor
    · rintro (q | ⟨rfl, t, t1, t2, t3⟩)
      · exact ⟨0, by simp, fun i hi => by omega, q⟩
      · refine ⟨t + 1, by simpa using t1, fun i hi => ?_, by simpa [lt] using t3⟩
        cases i with
        | zero => rfl
        | succ i => simpa [lt] using t2 i (by omega)
    · rintro ⟨t, t1, t2, t3⟩
      cases t with
      | zero => exact .inl (by simpa [lt] using t3)
      | succ t =>
        refine .inr ⟨by simpa [lt] using t2 0 (by omega), t, by simpa using t1, fun i hi => by simpa [lt] using t2 (i + 1) (by omega), by simpa [lt] using t3⟩
theorem lt_rot (w : List Nat) (k : Nat) (h : k ≤ w.length) : ∀ i, i < w.length → lt (w.drop k ++ w.take k) i = lt w ((i + k) % w.length) := fun i hi => by
  unfold lt
  rw [List.getD_eq_getElem?_getD, List.getD_eq_getElem?_getD]
  by_cases c : i < w.length - k
  · rw [List.getElem?_append_left (by rw [List.length_drop]; exact c), List.getElem?_drop, Nat.mod_eq_of_lt (by omega), Nat.add_comm]
  · rw [List.getElem?_append_right (by rw [List.length_drop]; omega), List.length_drop, List.getElem?_take]
    rw [if_pos (by omega), Nat.mod_eq_sub_mod (by omega), Nat.mod_eq_of_lt (by omega)]
    congr 2
    omega
def isLynB (w : List Nat) : Bool := !w.isEmpty && (List.range' 1 (w.length - 1)).all fun k => decide (w < w.drop k ++ w.take k)
theorem isLynB_iff (w : List Nat) : isLynB w = true ↔ LynR (lt w) w.length := by
  unfold isLynB
  rw [Bool.and_eq_true, List.all_eq_true]
  constructor
  · rintro ⟨h1, h2⟩
    have hw : 0 < w.length := by cases w with
      | nil => simp at h1
      | cons _ _ => simp
    refine ⟨hw, fun k k1 k2 => ?_⟩
    have := h2 k (by rw [List.mem_range'_1]; omega)
    rw [decide_eq_true_eq, lt_iff (by simp; omega)] at this
    exact this.congr (fun _ _ => rfl) (lt_rot w k (by omega))
  · rintro ⟨h1, h2⟩
    refine ⟨by cases w with
      | nil => simp at h1
      | cons _ _ => rfl, fun k hk => ?_⟩
    rw [List.mem_range'_1] at hk
    rw [decide_eq_true_eq, lt_iff (by simp; omega)]
    exact (h2 k (by omega) (by omega)).congr (fun _ _ => rfl) fun i hi => (lt_rot w k (by omega) i hi).symm
theorem lt_take (w : List Nat) (k : Nat) : ∀ i, i < k → lt (w.take k) i = lt w i := fun i hi => by
  unfold lt
  rw [List.getD_eq_getElem?_getD, List.getD_eq_getElem?_getD, List.getElem?_take, if_pos hi]
theorem isLynB_take (w : List Nat) (k : Nat) (h : k ≤ w.length) : isLynB (w.take k) = true ↔ LynR (lt w) k := by
  rw [isLynB_iff, List.length_take, Nat.min_eq_left h]
  exact ⟨fun q => q.congr (lt_take w k), fun q => q.congr fun i hi => (lt_take w k i hi).symm⟩
theorem lt_drop (w : List Nat) (k : Nat) : lt (w.drop k) = fun i => lt w (i + k) := by
  funext i
  unfold lt
  rw [List.getD_eq_getElem?_getD, List.getD_eq_getElem?_getD, List.getElem?_drop, Nat.add_comm]
/-- the parts: the longest Lyndon word ahead, again and again -/
inductive LP : List Nat → List (List Nat) → Prop
  | nil : LP [] []
  | cons {w : List Nat} {k : Nat} {L : List (List Nat)} : w ≠ [] → Big (lt w) w.length k → LP (w.drop k) L → LP w (w.take k :: L)
theorem LP.uniq {w : List Nat} {L : List (List Nat)} (h : LP w L) : ∀ {M}, LP w M → L = M := by
  induction h with
  | nil =>
    intro M h
    cases h with
    | nil => rfl
    | cons h _ _ => exact absurd rfl h
  | cons hw hb _ ih =>
    intro M h
    cases h with
    | nil => exact absurd rfl hw
    | cons _ hb' h' =>
      obtain rfl := hb.uniq hb'
      rw [ih h']
end MP
namespace signworth_k20_turning
open PySem PySem.Spec PyProof.Rows L2 MP
theorem rng_one (n : Nat) : rng 1 n 1 = (List.range' 1 n).map nI := rng_range' 1 n
theorem getI {w : Tx} {k : Nat} (h : k < w.length) : atI w (k : Int) = some (w.getD k 0) := by
  rw [atI_of_nat, List.getD_eq_getElem?_getD, List.getElem?_eq_getElem h]
  rfl
/-! ### periods -/
def perB (w : Tx) (p : Nat) : Bool := (List.range (w.length - p)).all fun k => w.getD k 0 == w.getD (k + p) 0
theorem e_hp (w : Tx) (p : Nat) (hp : p ≤ w.length) (hl : w.length ≤ 1000) : fn_has_period [.im (.str w), .im (.int (p : Int))] = some (.im (.bl (perB w p)), [.im (.str w), .im (.int (p : Int))]) := by
  have hb : w.length ≤ SL := by unfold SL; omega
  have hs : small ((w.length : Int) - (p : Int)) = true := small_of (by omega) (by omega)
  have ht : ((w.length : Int) - (p : Int)).toNat = w.length - p := by omega
  have lc : eLc [2] (iR rng1 (aCons (pE (eOp fSub (pE (eCall fLen (aCons (pV 0) aNil))) (pV 1))) aNil)) (gN 2) bTrue ce_has_period_0 [.im (.str w), .im (.int (p : Int)), .un]
      = some (.fr (.lst ((List.range (w.length - p)).map fun k => D.bl (w.getD k 0 == w.getD (k + p) 0))), [.im (.str w), .im (.int (p : Int)), .un]) := by
    refine lc_nats (e := [.im (.str w), .im (.int (p : Int)), .un]) (List.range (w.length - p)) (fun k => D.bl (w.getD k 0 == w.getD (k + p) 0)) ?_ (by simp; unfold SL; omega) fun i hi => ?_
    · rw [← rng_range]
      simp [hb, hs, ht]
    · have hi := List.mem_range.mp hi
      have g1 := getI (w := w) (k := i) (by omega)
      have g2 := getI (w := w) (k := i + p) (by omega)
      rw [Int.natCast_add] at g2
      refine ⟨[.im (.str w), .im (.int (p : Int)), .im (.int (i : Int))], .im (.bl (w.getD i 0 == w.getD (i + p) 0)), [.im (.str w), .im (.int (p : Int)), .im (.int (i : Int))], by simp, ?_, rfl, by simp⟩
      simp only [ce_has_period_0]
      generalize w.getD i 0 = a at g1 ⊢
      generalize w.getD (i + p) 0 = b at g2 ⊢
      simp [hb, g1, g2]
  exact run_rt (seq_rt (e1 := [.im (.str w), .im (.int (p : Int)), .un]) (by
    simp [st_has_period_0, lc, fAll_map]
    rfl)) rfl
def pds (w : Tx) : List Nat := (List.range' 1 w.length).filter (perB w)
theorem e_periods (w : Tx) (hl : w.length ≤ 1000) : fn_periods [.im (.str w)] = some (.im (.tup ((pds w).map nI)), [.im (.str w)]) := by
  have hb : w.length ≤ SL := by unfold SL; omega
  have hs : small ((w.length : Int) + 1) = true := small_of (by omega) (by omega)
  have ht : ((w.length : Int) + 1 - 1).toNat = w.length := by omega
  have lc : eLc [1] (iR rng2 (aCons (pE (eC (.int 1))) (aCons (pE (eOp fAdd (pE (eCall fLen (aCons (pV 0) aNil))) (pE (eC (.int 1))))) aNil))) (gN 1) ct_periods_0 ce_periods_0 [.im (.str w), .un]
      = some (.fr (.lst ((pds w).map nI)), [.im (.str w), .un]) := by
    refine lc_natsF (e := [.im (.str w), .un]) (List.range' 1 w.length) (perB w) nI ?_ (by simp; exact hb) fun i hi => ?_
    · rw [← rng_one]
      simp [hb, hs, ht]
    · rw [List.mem_range'_1] at hi
      refine ⟨[.im (.str w), .im (.int (i : Int))], [.im (.str w), .im (.int (i : Int))], by simp, ?_, by simp, fun _ => ⟨.im (.int (i : Int)), [.im (.str w), .im (.int (i : Int))], by simp [ce_periods_0], rfl, by simp⟩⟩
      have := e_hp w i (by omega) hl
      simp [ct_periods_0, this]
  exact run_rt (seq_rt (e1 := [.im (.str w), .un]) (by simp [st_periods_0, lc])) rfl
theorem e_lperiods (w : Tx) (hl : w.length ≤ 1000) : fn_law_periods [.im (.str w)] = some (.fr (.lst ((pds w).map nI)), [.im (.str w)]) := by
  have hb : w.length ≤ SL := by unfold SL; omega
  have hs : small ((w.length : Int) + 1) = true := small_of (by omega) (by omega)
  have ht : ((w.length : Int) + 1 - 1).toNat = w.length := by omega
  have h0 : st_law_periods_0 (env0 4 [.im (.str w)]) = some (.nx, [.im (.str w), .im (.int (w.length : Int)), .un, .un]) := by
    simp [st_law_periods_0, hb]
  have lc : eLc [2] (iR rng2 (aCons (pE (eC (.int 1))) (aCons (pE (eOp fAdd (pV 1) (pE (eC (.int 1))))) aNil))) (gN 2) ct_law_periods_0 ce_law_periods_1 [.im (.str w), .im (.int (w.length : Int)), .un, .un]
      = some (.fr (.lst ((pds w).map nI)), [.im (.str w), .im (.int (w.length : Int)), .un, .un]) := by
    refine lc_natsF (e := [.im (.str w), .im (.int (w.length : Int)), .un, .un]) (List.range' 1 w.length) (perB w) nI ?_ (by simp; exact hb) fun p hp => ?_
    · rw [← rng_one]
      simp [hb, hs, ht]
    · rw [List.mem_range'_1] at hp
      have hs : small ((w.length : Int) - (p : Int)) = true := small_of (by omega) (by omega)
      have ht : ((w.length : Int) - (p : Int)).toNat = w.length - p := by omega
      have lc2 : eLc [3] (iR rng1 (aCons (pE (eOp fSub (pV 1) (pV 2))) aNil)) (gN 3) bTrue ce_law_periods_0 [.im (.str w), .im (.int (w.length : Int)), .im (.int (p : Int)), .un]
          = some (.fr (.lst ((List.range (w.length - p)).map fun k => D.bl (w.getD k 0 == w.getD (k + p) 0))), [.im (.str w), .im (.int (w.length : Int)), .im (.int (p : Int)), .un]) := by
        refine lc_nats (e := [.im (.str w), .im (.int (w.length : Int)), .im (.int (p : Int)), .un]) (List.range (w.length - p)) (fun k => D.bl (w.getD k 0 == w.getD (k + p) 0)) ?_ (by simp; unfold SL; omega) fun i hi => ?_
        · rw [← rng_range]
          simp [hb, hs, ht]
        · have hi := List.mem_range.mp hi
          have g1 := getI (w := w) (k := i) (by omega)
          have g2 := getI (w := w) (k := i + p) (by omega)
          rw [Int.natCast_add] at g2
          refine ⟨[.im (.str w), .im (.int (w.length : Int)), .im (.int (p : Int)), .im (.int (i : Int))], .im (.bl (w.getD i 0 == w.getD (i + p) 0)), [.im (.str w), .im (.int (w.length : Int)), .im (.int (p : Int)), .im (.int (i : Int))], by simp, ?_, rfl, by simp⟩
          simp only [ce_law_periods_0]
          generalize w.getD i 0 = a at g1 ⊢
          generalize w.getD (i + p) 0 = b at g2 ⊢
          simp [hb, g1, g2]
      refine ⟨[.im (.str w), .im (.int (w.length : Int)), .im (.int (p : Int)), .un], [.im (.str w), .im (.int (w.length : Int)), .im (.int (p : Int)), .un], by simp, ?_, by simp, fun _ => ⟨.im (.int (p : Int)), [.im (.str w), .im (.int (w.length : Int)), .im (.int (p : Int)), .un], by simp [ce_law_periods_1], rfl, by simp⟩⟩
      simp [ct_law_periods_0, lc2, fAll_map]
      rfl
  exact run_rt (seq_nx h0 (seq_rt (e1 := [.im (.str w), .im (.int (w.length : Int)), .un, .un]) (by simp [st_law_periods_1, lc]))) rfl
/-! ### borders -/
def brdB (w : Tx) (k : Nat) : Bool := w.take k == w.drop (w.length - k)
def bds (w : Tx) : List Nat := (List.range w.length).filter (brdB w)
theorem e_borders (w : Tx) (hl : w.length ≤ 1000) : fn_borders [.im (.str w)] = some (.im (.tup ((bds w).map fun k => .str (w.take k))), [.im (.str w)]) := by
  have hb : w.length ≤ SL := by unfold SL; omega
  have hs : small (w.length : Int) = true := small_of (by omega) (by omega)
  have lc : eLc [1] (iR rng1 (aCons (pE (eCall fLen (aCons (pV 0) aNil))) aNil)) (gN 1) ct_borders_0 ce_borders_0 [.im (.str w), .un]
      = some (.fr (.lst ((bds w).map fun k => .str (w.take k))), [.im (.str w), .un]) := by
    refine lc_natsF (e := [.im (.str w), .un]) (List.range w.length) (brdB w) (fun k => .str (w.take k)) ?_ (by simp; exact hb) fun i hi => ?_
    · rw [← rng_range]
      simp [hb, hs]
    · have hi := List.mem_range.mp hi
      have c1 := cut_to' w i
      have c2 := cut_from w (w.length - i)
      rw [Int.natCast_sub (by omega)] at c2
      refine ⟨[.im (.str w), .im (.int (i : Int))], [.im (.str w), .im (.int (i : Int))], by simp, ?_, by simp, fun _ => ⟨.im (.str (w.take i)), [.im (.str w), .im (.int (i : Int))], by simp [ce_borders_0, hb, c1], rfl, by simp⟩⟩
      simp only [ct_borders_0, brdB]
      generalize w.take i = a at c1 ⊢
      generalize w.drop (w.length - i) = b at c2 ⊢
      simp [hb, c1, c2]
  exact run_rt (seq_rt (e1 := [.im (.str w), .un]) (by simp [st_borders_0, lc])) rfl
theorem brd_per (w : Tx) {p : Nat} (h : p ≤ w.length) : perB w p = brdB w (w.length - p) := by
  rw [Bool.eq_iff_iff]
  unfold perB brdB
  rw [List.all_eq_true, beq_iff_eq, show w.length - (w.length - p) = p by omega]
  constructor
  · intro q
    apply List.ext_getElem?
    intro k
    rw [List.getElem?_drop, List.getElem?_take]
    by_cases hk : k < w.length - p
    · have := q k (List.mem_range.mpr hk)
      rw [beq_iff_eq, List.getD_eq_getElem?_getD, List.getD_eq_getElem?_getD, List.getElem?_eq_getElem (by omega), List.getElem?_eq_getElem (by omega : k + p < w.length)] at this
      simp only [Option.getD_some] at this
      rw [if_pos hk, List.getElem?_eq_getElem (by omega), List.getElem?_eq_getElem (by omega : p + k < w.length), this]
      simp only [Nat.add_comm]
    · rw [if_neg hk, List.getElem?_eq_none (by omega)]
  · intro q k hk
    have hk := List.mem_range.mp hk
    rw [beq_iff_eq, List.getD_eq_getElem?_getD, List.getD_eq_getElem?_getD]
    have := congrArg (fun l => l[k]?) q
    simp only [List.getElem?_drop, List.getElem?_take, if_pos hk] at this
    rw [this, Nat.add_comm]
theorem bds_pds (w : Tx) : (pds w).map (fun p => w.length - p) = (bds w).reverse := by
  unfold pds bds
  have e : (List.range w.length).reverse = (List.range' 1 w.length).map fun p => w.length - p := by
    apply List.ext_getElem?
    intro k
    by_cases hk : k < w.length
    · rw [List.getElem?_reverse (by simpa using hk), List.getElem?_map, List.getElem?_range', List.getElem?_range (by simp; omega)]
      · simp [hk]
        omega
      · exact hk
    · rw [List.getElem?_eq_none (by simp; omega), List.getElem?_eq_none (by simp; omega)]
  rw [← List.filter_reverse, e, List.filter_map]
  congr 1
  refine List.filter_congr fun p hp => ?_
  rw [List.mem_range'_1] at hp
  exact brd_per w (by omega)
theorem nat_sorted_uniq : ∀ {xs ys : List Nat}, xs.Perm ys → xs.Pairwise (· ≤ ·) → ys.Pairwise (· ≤ ·) → xs = ys
  | [], ys, h, _, _ => by rw [List.nil_perm.mp h]
  | x :: xs, [], h, _, _ => by simpa using h.length_eq
  | x :: xs, y :: ys, h, h1, h2 => by
    rw [List.pairwise_cons] at h1 h2
    have e : x = y := by
      have a := h.mem_iff.mp List.mem_cons_self
      have b := h.mem_iff.mpr List.mem_cons_self
      rcases List.mem_cons.mp a with a | a
      · exact a
      · rcases List.mem_cons.mp b with b | b
        · exact b.symm
        · have := h1.1 y b
          have := h2.1 x a
          omega
    subst e
    rw [nat_sorted_uniq (List.Perm.cons_inv h) h1.2 h2.2]
theorem bds_sorted (w : Tx) : (bds w).Pairwise (· ≤ ·) := by
  unfold bds
  exact (List.pairwise_le_range (n := w.length)).filter _
theorem sort_rev {l : List Nat} (h : l.Pairwise (· ≤ ·)) : l.reverse.mergeSort (fun a b => decide (a ≤ b)) = l := by
  refine nat_sorted_uniq ((List.mergeSort_perm _ _).trans (List.reverse_perm l)) ?_ h
  have := List.pairwise_mergeSort (le := fun a b : Nat => decide (a ≤ b)) (fun a b c => by simp; omega) (fun a b => by simp; omega) l.reverse
  exact this.imp fun h => by simpa using h
/-- the borders by length -/
theorem own_sorted (w : Tx) : ((pds w).map fun p => w.take (w.length - p)).mergeSort lenLe = (bds w).map fun k => w.take k := by
  have e : ((pds w).map fun p => w.take (w.length - p)) = (bds w).reverse.map fun k => w.take k := by
    rw [← bds_pds, List.map_map]
    rfl
  rw [e, ← List.map_mergeSort (r := fun a b => decide (a ≤ b)) (s := lenLe) (f := fun k => w.take k) (l := (bds w).reverse), sort_rev (bds_sorted w)]
  intro a ha b hb
  have ha := List.mem_range.mp (List.mem_filter.mp (List.mem_reverse.mp ha)).1
  have hb := List.mem_range.mp (List.mem_filter.mp (List.mem_reverse.mp hb)).1
  unfold lenLe
  rw [List.length_take, List.length_take, Nat.min_eq_left (by omega), Nat.min_eq_left (by omega)]
  simp
end signworth_k20_turning
namespace signworth_k20_turning
open PySem PySem.Spec PyProof.Rows L2 MP
/-! ### roots -/
def rootP (w : Tx) (s : Nat) : Bool := (w.length % s == 0) && (repT (w.take s) (w.length / s) == w)
def rootO (w : Tx) : Option Nat := (List.range' 1 w.length).find? (rootP w)
def rootR (w : Tx) (s : Nat) : R := .im (.tup [.str (w.take s), .int ((w.length : Int) / (s : Int))])
theorem repT_one (w : Tx) : repT w 1 = w := by simp [repT]
theorem rootO_some {w : Tx} (h : w ≠ []) : ∃ s, rootO w = some s ∧ 1 ≤ s ∧ s ≤ w.length ∧ rootP w s = true := by
  cases e : rootO w with
  | some s =>
    have h1 := List.mem_of_find?_eq_some e
    have h2 := List.find?_some e
    rw [List.mem_range'_1] at h1
    exact ⟨s, rfl, h1.1, by omega, h2⟩
  | none =>
    have hw : 0 < w.length := List.length_pos_iff.mpr h
    have := List.find?_eq_none.mp e w.length (by rw [List.mem_range'_1]; omega)
    exfalso
    apply this
    unfold rootP
    rw [Nat.mod_self, Nat.div_self hw, List.take_of_length_le (Nat.le_refl _), repT_one]
    simp
theorem root_loop (w : Tx) (hl : w.length ≤ 1000) : ∃ e, (∃ c : C, e = [.im (.str w), c] ∧ c.free = true) ∧ st_root_of_2 [.im (.str w), .un] = some (fndR (rootR w) (rootO w), e) := by
  have hb : w.length ≤ SL := by unfold SL; omega
  have h2 : 2 ≤ SL := by decide
  have hs : small ((w.length : Int) + 1) = true := small_of (by omega) (by omega)
  have ht : ((w.length : Int) + 1 - 1).toNat = w.length := by omega
  obtain ⟨e, q1, q2⟩ := forF_find (g := gN 1) (f := bk_root_of_1) (fun e => ∃ c : C, e = [.im (.str w), c] ∧ c.free = true) (rootP w) (rootR w) (List.range' 1 w.length) [.im (.str w), .un] ⟨.un, rfl, rfl⟩ fun s hs1 env he => by
    obtain ⟨c, rfl, hc⟩ := he
    rw [List.mem_range'_1] at hs1
    have s1 : (0 : Int) < (s : Int) := by omega
    have s1' : 0 < s := by omega
    have s2 : (s : Int) < 1073741824 := by omega
    have s2' : s < 1073741824 := by omega
    have c1 := cut_to' w s
    have hd : w.length / s ≤ w.length := Nat.div_le_self _ _
    have d1 : (w.length : Int) / (s : Int) = ((w.length / s : Nat) : Int) := by rw [Int.natCast_ediv]
    have d2 : ((w.length : Int) / (s : Int)).toNat = w.length / s := by rw [d1]; rfl
    have d3 : -1000000 ≤ (w.length : Int) / (s : Int) := by rw [d1]; omega
    have d4 : (w.length : Int) / (s : Int) ≤ 1000000 := by rw [d1]; omega
    have d5 : (w.take s).length * (w.length / s) ≤ SL := by
      rw [List.length_take, Nat.min_eq_left (by omega)]
      exact Nat.le_trans (Nat.mul_div_le w.length s) hb
    have d6 : (w.take s).length ≤ SL := by rw [List.length_take]; omega
    have m1 : ((w.length : Int) % (s : Int) == 0) = (w.length % s == 0) := by
      rw [Bool.eq_iff_iff, beq_iff_eq, beq_iff_eq]
      omega
    have tst : (bAnd (bE (eOp fEq (pE (eOp fMod (pE (eCall fLen (aCons (pV 0) aNil))) (pV 1))) (pE (eC (.int 0))))) (bE (eOp fEq (pE (eOp fMulA (pE (eSl (pV 0) oNo (oI (pV 1)))) (pE (eOp fDiv (pE (eCall fLen (aCons (pV 0) aNil))) (pV 1))))) (pV 0)))) [.im (.str w), .im (.int (s : Int))]
        = some (rootP w s, [.im (.str w), .im (.int (s : Int))]) := by
      unfold rootP
      cases h1 : (w.length % s == 0) with
      | false =>
        rw [h1] at m1
        simp [hb, s1, s1', m1]
      | true =>
        rw [h1] at m1
        generalize w.take s = a at c1 d5 d6 ⊢
        simp [hb, s1, s2, s1', s2', m1, c1, d2, d3, d4, d5, d6]
    have ret : bk_root_of_0 [.im (.str w), .im (.int (s : Int))] = some (.rt (rootR w s), [.im (.str w), .im (.int (s : Int))]) := by
      simp [bk_root_of_0, st_root_of_0, hb, s1, s2, s1', s2', c1, h2, rootR]
    refine ⟨[.im (.str w), .im (.int (s : Int))], [.im (.str w), .im (.int (s : Int))], by simp [hc], ?_, _, rfl, rfl⟩
    cases hp : rootP w s with
    | true =>
      rw [hp] at tst
      exact seq_rt (if_tt tst ret)
    | false =>
      rw [hp] at tst
      exact seq_nx (if_ff tst rfl) rfl
  refine ⟨e, q1, ?_⟩
  unfold rootO
  rw [← q2, ← rng_one]
  simp [st_root_of_2, hb, hs, ht]
def rootS (w : Tx) : Nat := (rootO w).getD 0
theorem rootS_ok {w : Tx} (h : w ≠ []) : 1 ≤ rootS w ∧ rootS w ≤ w.length ∧ rootO w = some (rootS w) := by
  obtain ⟨s, e, h1, h2, _⟩ := rootO_some h
  unfold rootS
  rw [e]
  exact ⟨h1, h2, rfl⟩
theorem e_root (w : Tx) (h : w ≠ []) (hl : w.length ≤ 1000) : fn_root_of [.im (.str w)] = some (rootR w (rootS w), [.im (.str w)]) := by
  obtain ⟨e, ⟨c, rfl, hc⟩, q⟩ := root_loop w hl
  rw [(rootS_ok h).2.2] at q
  exact run_rt (seq_rt q) rfl
theorem e_lroot (w : Tx) (h : w ≠ []) (hl : w.length ≤ 1000) : fn_law_root [.im (.str w)] = some (rootR w (rootS w), [.im (.str w)]) := by
  obtain ⟨e, ⟨c, rfl, hc⟩, q⟩ := root_loop w hl
  rw [(rootS_ok h).2.2] at q
  exact run_rt (seq_rt (show st_law_root_2 _ = _ from q)) rfl
/-! ### powers of one word -/
def dfB (u v : Tx) (k : Nat) : Bool := !((u ++ v).getD k 0 == (v ++ u).getD k 0)
def dfO (u v : Tx) : Option Nat := (List.range (u ++ v).length).find? (dfB u v)
def tUnlike : Tx := [117, 110, 108, 105, 107, 101]
def tPowers : Tx := [112, 111, 119, 101, 114, 115]
def powD (u v : Tx) : Option Nat → D
  | some k => .tup [.str tUnlike, nI k]
  | none => .tup [.str tPowers, .str (u.take (rootS u)), .int ((u.length : Int) / (rootS u : Int)), .int ((v.length : Int) / (rootS u : Int))]
theorem dfO_none {u v : Tx} : dfO u v = none ↔ u ++ v = v ++ u := by
  unfold dfO
  rw [List.find?_eq_none]
  constructor
  · intro h
    apply List.ext_getElem?
    intro k
    by_cases hk : k < (u ++ v).length
    · have := h k (List.mem_range.mpr hk)
      have hk' : k < (v ++ u).length := by rw [List.length_append] at hk ⊢; omega
      unfold dfB at this
      rw [List.getD_eq_getElem?_getD, List.getD_eq_getElem?_getD, List.getElem?_eq_getElem hk, List.getElem?_eq_getElem hk'] at this
      simp only [Option.getD_some, Bool.not_eq_true', Bool.not_eq_false, beq_iff_eq] at this
      rw [List.getElem?_eq_getElem hk, List.getElem?_eq_getElem hk', this]
    · rw [List.getElem?_eq_none (by omega), List.getElem?_eq_none (by rw [List.length_append] at hk ⊢; omega)]
  · intro h k _
    unfold dfB
    rw [h]
    simp
theorem e_equal (u v : Tx) (hu : u ≠ []) (hv : v ≠ []) (h1 : u.length ≤ 400) (h2 : v.length ≤ 400) : fn_equal_powers [.im (.str u), .im (.str v)] = some (.im (powD u v (dfO u v)), [.im (.str u), .im (.str v)]) := by
  have hb1 : u.length + v.length ≤ SL := by unfold SL; omega
  have hb2 : v.length + u.length ≤ SL := by unfold SL; omega
  have hbu : u.length ≤ SL := by unfold SL; omega
  have hbv : v.length ≤ SL := by unfold SL; omega
  have k2 : 2 ≤ SL := by decide
  have k4 : 4 ≤ SL := by decide
  have hs : small (((u ++ v).length : Nat) : Int) = true := small_of (by omega) (by rw [List.length_append]; omega)
  have s2 : st_equal_powers_2 (env0 6 [.im (.str u), .im (.str v)]) = some (.nx, [.im (.str u), .im (.str v), .im (.str (u ++ v)), .im (.str (v ++ u)), .un, .un]) := by
    simp [st_equal_powers_2, hb1, hb2]
  have hx : (u ++ v).length = u.length + v.length := by rw [List.length_append]
  have hy : (v ++ u).length = u.length + v.length := by rw [List.length_append]; omega
  obtain ⟨e, ⟨c, rfl, hc⟩, q2⟩ := forF_find (g := gN 4) (f := bk_equal_powers_1) (fun e => ∃ c : C, e = [.im (.str u), .im (.str v), .im (.str (u ++ v)), .im (.str (v ++ u)), c, .un] ∧ c.free = true) (dfB u v) (fun k => .im (powD u v (some k))) (List.range (u ++ v).length) [.im (.str u), .im (.str v), .im (.str (u ++ v)), .im (.str (v ++ u)), .un, .un] ⟨.un, rfl, rfl⟩ fun k hk env he => by
    obtain ⟨c, rfl, hc⟩ := he
    have hk := List.mem_range.mp hk
    have g1 := getI (w := u ++ v) (k := k) hk
    have g2 := getI (w := v ++ u) (k := k) (by omega)
    have l1 : (u ++ v).length ≤ SL := by omega
    have l2 : (v ++ u).length ≤ SL := by omega
    refine ⟨[.im (.str u), .im (.str v), .im (.str (u ++ v)), .im (.str (v ++ u)), .im (.int (k : Int)), .un], [.im (.str u), .im (.str v), .im (.str (u ++ v)), .im (.str (v ++ u)), .im (.int (k : Int)), .un], by simp [hc], ?_, _, rfl, rfl⟩
    have tst : (bE (eOp fNe (pE (eOp fIx (pV 2) (pV 4))) (pE (eOp fIx (pV 3) (pV 4))))) [.im (.str u), .im (.str v), .im (.str (u ++ v)), .im (.str (v ++ u)), .im (.int (k : Int)), .un]
        = some (dfB u v k, [.im (.str u), .im (.str v), .im (.str (u ++ v)), .im (.str (v ++ u)), .im (.int (k : Int)), .un]) := by
      unfold dfB
      generalize (u ++ v).getD k 0 = a at g1 ⊢
      generalize (v ++ u).getD k 0 = b at g2 ⊢
      generalize u ++ v = x at g1 l1 ⊢
      generalize v ++ u = y at g2 l2 ⊢
      simp [l1, l2, g1, g2]
    cases hp : dfB u v k with
    | true =>
      rw [hp] at tst
      refine seq_rt (if_tt tst ?_)
      simp [bk_equal_powers_0, st_equal_powers_0, k2, powD, tUnlike, nI]
    | false =>
      rw [hp] at tst
      exact seq_nx (if_ff tst rfl) rfl
  have s3 : st_equal_powers_3 [.im (.str u), .im (.str v), .im (.str (u ++ v)), .im (.str (v ++ u)), .un, .un] = some (fndR (fun k => .im (powD u v (some k))) (dfO u v), [.im (.str u), .im (.str v), .im (.str (u ++ v)), .im (.str (v ++ u)), c, .un]) := by
    unfold dfO
    rw [← q2, ← rng_range]
    have l1 : (u ++ v).length ≤ SL := by omega
    generalize u ++ v = x at l1 hs ⊢
    simp [st_equal_powers_3, l1, hs]
  cases ho : dfO u v with
  | some k =>
    rw [ho] at s3
    exact run_rt (seq_nx s2 (seq_rt s3)) rfl
  | none =>
    rw [ho] at s3
    obtain ⟨r1, r2, _⟩ := rootS_ok hu
    have hr := e_root u hu (by omega)
    have hlen : (u.take (rootS u)).length = rootS u := by rw [List.length_take]; omega
    have q1 : (0 : Int) < (rootS u : Int) := by omega
    have q2 : (rootS u : Int) < 1073741824 := by omega
    have q1' : 0 < rootS u := by omega
    have q2' : rootS u < 1073741824 := by omega
    have q3 : (u.take (rootS u)).length ≤ SL := by omega
    have q3' : rootS u ≤ SL := by omega
    have s4 : st_equal_powers_4 [.im (.str u), .im (.str v), .im (.str (u ++ v)), .im (.str (v ++ u)), c, .un] = some (.nx, [.im (.str u), .im (.str v), .im (.str (u ++ v)), .im (.str (v ++ u)), c, .im (.str (u.take (rootS u)))]) := by
      simp [st_equal_powers_4, hr, rootR]
    refine run_rt (seq_nx s2 (seq_nx s3 (seq_nx s4 (seq_rt (e1 := [.im (.str u), .im (.str v), .im (.str (u ++ v)), .im (.str (v ++ u)), c, .im (.str (u.take (rootS u)))]) ?_)))) rfl
    unfold powD
    generalize u.take (rootS u) = z at hlen q3 ⊢
    simp [st_equal_powers_5, hbu, hbv, q3', hlen, q1, q2, q1', q2', k4, tPowers]
theorem e_lequal (u v : Tx) (hu : u ≠ []) (hv : v ≠ []) (h1 : u.length ≤ 400) (h2 : v.length ≤ 400) : fn_law_equal [.im (.str u), .im (.str v)] = some (.im (powD u v (dfO u v)), [.im (.str u), .im (.str v)]) := by
  have hb1 : u.length + v.length ≤ SL := by unfold SL; omega
  have hb2 : v.length + u.length ≤ SL := by unfold SL; omega
  have hbu : u.length ≤ SL := by unfold SL; omega
  have hbv : v.length ≤ SL := by unfold SL; omega
  have k2 : 2 ≤ SL := by decide
  have k4 : 4 ≤ SL := by decide
  have hs : small (((u ++ v).length : Nat) : Int) = true := small_of (by omega) (by rw [List.length_append]; omega)
  have hx : (u ++ v).length = u.length + v.length := by rw [List.length_append]
  have hy : (v ++ u).length = u.length + v.length := by rw [List.length_append]; omega
  by_cases he : u ++ v = v ++ u
  · rw [dfO_none.mpr he]
    obtain ⟨r1, r2, _⟩ := rootS_ok hu
    have hr := e_lroot u hu (by omega)
    have hlen : (u.take (rootS u)).length = rootS u := by rw [List.length_take]; omega
    have q1 : (0 : Int) < (rootS u : Int) := by omega
    have q2 : (rootS u : Int) < 1073741824 := by omega
    have q1' : 0 < rootS u := by omega
    have q2' : rootS u < 1073741824 := by omega
    have q3 : (u.take (rootS u)).length ≤ SL := by omega
    have q3' : rootS u ≤ SL := by omega
    refine run_rt (seq_rt (e1 := [.im (.str u), .im (.str v), .im (.str (u.take (rootS u))), .un]) (if_tt (e1 := [.im (.str u), .im (.str v), .un, .un]) ?_ (seq_nx (e1 := [.im (.str u), .im (.str v), .im (.str (u.take (rootS u))), .un]) ?_ (seq_rt ?_)))) rfl
    · simp [hb1, hb2, he]
    · simp [st_law_equal_0, hr, rootR]
    · unfold powD
      generalize u.take (rootS u) = z at hlen q3 ⊢
      simp [st_law_equal_1, hbu, hbv, q3', hlen, q1, q2, q1', q2', k4, tPowers]
  · have hf : (u ++ v == v ++ u) = false := by simpa using he
    cases ho : dfO u v with
    | none => exact absurd (dfO_none.mp ho) he
    | some k0 =>
      have lc : eLc [3] (iR rng1 (aCons (pE (eCall fLen (aCons (pE (eOp fAdd (pV 0) (pV 1))) aNil))) aNil)) (gN 3) ct_law_equal_0 ce_law_equal_0 [.im (.str u), .im (.str v), .un, .un]
          = some (.fr (.lst (((List.range (u ++ v).length).filter (dfB u v)).map nI)), [.im (.str u), .im (.str v), .un, .un]) := by
        refine lc_natsF (e := [.im (.str u), .im (.str v), .un, .un]) (List.range (u ++ v).length) (dfB u v) nI ?_ (by simp; omega) fun k hk => ?_
        · rw [← rng_range]
          have l1 : (u ++ v).length ≤ SL := by omega
          rw [hx] at hs ⊢
          rw [hx] at l1
          simp at hs
          simp [hb1, hs]
          rfl
        · have hk := List.mem_range.mp hk
          have g1 := getI (w := u ++ v) (k := k) hk
          have g2 := getI (w := v ++ u) (k := k) (by omega)
          refine ⟨[.im (.str u), .im (.str v), .un, .im (.int (k : Int))], [.im (.str u), .im (.str v), .un, .im (.int (k : Int))], by simp, ?_, by simp, fun _ => ⟨.im (.int (k : Int)), [.im (.str u), .im (.str v), .un, .im (.int (k : Int))], by simp [ce_law_equal_0], rfl, by simp⟩⟩
          unfold dfB
          simp only [ct_law_equal_0]
          generalize (u ++ v).getD k 0 = a at g1 ⊢
          generalize (v ++ u).getD k 0 = b at g2 ⊢
          simp [hb1, hb2, g1, g2]
      have hh : ((List.range (u ++ v).length).filter (dfB u v)).head? = some k0 := by
        rw [List.head?_filter]
        exact ho
      obtain ⟨r, hr⟩ : ∃ r, (List.range (u ++ v).length).filter (dfB u v) = k0 :: r := by
        cases hq : (List.range (u ++ v).length).filter (dfB u v) with
        | nil => rw [hq] at hh; cases hh
        | cons x r => rw [hq] at hh; cases hh; exact ⟨r, rfl⟩
      rw [hr] at lc
      refine run_rt (seq_nx (e1 := [.im (.str u), .im (.str v), .un, .un]) (if_ff (e1 := [.im (.str u), .im (.str v), .un, .un]) ?_ rfl) (seq_rt (e1 := [.im (.str u), .im (.str v), .un, .un]) ?_)) rfl
      · simp [hb1, hb2, hf]
      · simp [st_law_equal_3, lc, nI, powD, tUnlike, k2]
end signworth_k20_turning
namespace signworth_k20_turning
open PySem PySem.Spec PyProof.Rows L2 MP
/-! ### rotations -/
def rot (w : Tx) (k : Nat) : Tx := w.drop k ++ w.take k
def rots (w : Tx) : List Tx := (List.range w.length).map (rot w)
theorem rot_length (w : Tx) (k : Nat) (h : k ≤ w.length) : (rot w k).length = w.length := by
  unfold rot
  rw [List.length_append, List.length_drop, List.length_take]
  omega
theorem rot_uni {w : Tx} (h : uniT w) (k : Nat) : uniT (rot w k) := fun c hc => by
  rcases List.mem_append.mp hc with hc | hc
  · exact h c (List.mem_of_mem_drop hc)
  · exact h c (List.mem_of_mem_take hc)
theorem e_turned_by (w : Tx) (k : Nat) (hk : k ≤ w.length) (hl : w.length ≤ 1000) : fn_turned_by [.im (.str w), .im (.int (k : Int))] = some (.im (.str (rot w k)), [.im (.str w), .im (.int (k : Int))]) := by
  have hb : w.length ≤ SL := by unfold SL; omega
  have c1 := cut_to' w k
  have c2 := cut_from w k
  have hh : (w.drop k).length + (w.take k).length ≤ SL := by rw [List.length_drop, List.length_take]; omega
  refine run_rt (seq_rt (e1 := [.im (.str w), .im (.int (k : Int))]) ?_) rfl
  unfold rot
  generalize w.drop k = a at c2 hh ⊢
  generalize w.take k = b at c1 hh ⊢
  simp [st_turned_by_0, hb, c1, c2, hh]
theorem e_rotations (w : Tx) (hl : w.length ≤ 1000) : fn_law_rotations [.im (.str w)] = some (.fr (.lst ((rots w).map D.str)), [.im (.str w)]) := by
  have hb : w.length ≤ SL := by unfold SL; omega
  have hs : small (w.length : Int) = true := small_of (by omega) (by omega)
  have lc : eLc [1] (iR rng1 (aCons (pE (eCall fLen (aCons (pV 0) aNil))) aNil)) (gN 1) bTrue ce_law_rotations_0 [.im (.str w), .un]
      = some (.fr (.lst ((List.range w.length).map fun k => .str (rot w k))), [.im (.str w), .un]) := by
    refine lc_nats (e := [.im (.str w), .un]) (List.range w.length) (fun k => .str (rot w k)) ?_ (by simp; exact hb) fun k hk => ?_
    · rw [← rng_range]
      simp [hb, hs]
    · have hk := List.mem_range.mp hk
      have c1 := cut_to' w k
      have c2 := cut_from w k
      have hh : (w.drop k).length + (w.take k).length ≤ SL := by rw [List.length_drop, List.length_take]; omega
      refine ⟨[.im (.str w), .im (.int (k : Int))], .im (.str (rot w k)), [.im (.str w), .im (.int (k : Int))], by simp, ?_, rfl, by simp⟩
      unfold rot
      simp only [ce_law_rotations_0]
      generalize w.drop k = a at c2 hh ⊢
      generalize w.take k = b at c1 hh ⊢
      simp [hb, c1, c2, hh]
  have e : (rots w).map D.str = (List.range w.length).map fun k => .str (rot w k) := by
    unfold rots
    rw [List.map_map]
    rfl
  rw [e]
  exact run_rt (seq_rt (e1 := [.im (.str w), .un]) (by simp [st_law_rotations_0, lc])) rfl
theorem rots_cons {w : Tx} (h : w ≠ []) : ∃ xs, rots w = w :: xs := by
  unfold rots
  cases w with
  | nil => exact absurd rfl h
  | cons a w =>
    rw [List.length_cons, List.range_succ_eq_map, List.map_cons]
    refine ⟨((List.range w.length).map Nat.succ).map (rot (a :: w)), ?_⟩
    rw [show rot (a :: w) 0 = a :: w by simp [rot]]
/-- the least rotation -/
def lr (w : Tx) : Tx := minX w (rots w)
theorem lr_uni {w : Tx} (h : uniT w) : uniT (lr w) := by
  have := minX_mem (rots w) w
  rcases List.mem_cons.mp this with q | q
  · show uniT (minX w (rots w))
    rw [q]; exact h
  · obtain ⟨k, _, e⟩ := List.mem_map.mp q
    show uniT (minX w (rots w))
    rw [← e]
    exact rot_uni h k
theorem lr_len {w : Tx} : (lr w).length = w.length := by
  have := minX_mem (rots w) w
  unfold lr
  rcases List.mem_cons.mp this with q | q
  · rw [q]
  · obtain ⟨k, hk, e⟩ := List.mem_map.mp q
    rw [← e]
    exact rot_length w k (by have := List.mem_range.mp hk; omega)
/-! min of pairs -/
def prD (ts : Nat → Tx) (i : Nat) : D := .tup [.str (ts i), .int (i : Int)]
theorem ltD_pr {a b : Tx} (ha : uniT a) (hb : uniT b) (i j : Int) : ltD (.tup [.str a, .int i]) (.tup [.str b, .int j]) = if a = b then decide (i < j) else ltT a b := by
  unfold ltD
  show PySem.W.dataLt (.tuple [.str (MP.S a), .int i]) (.tuple [.str (MP.S b), .int j]) = _
  rw [PySem.W.dataLt_pair (by simp [PySem.W.alike]) (by simp [PySem.W.alike])]
  have e : PyData.eqv (.str (MP.S a)) (.str (MP.S b)) = (a == b) := py_eq (.str a) (.str b) (plain_str ha) (plain_str hb)
  have e2 : PyData.eqv (.int i) (.int j) = (i == j) := by simp [PyData.eqv]
  rw [e, e2, PySem.W.dataLt_int]
  have e3 : PySem.W.dataLt (.str (MP.S a)) (.str (MP.S b)) = ltT a b := ltD_str a b
  rw [e3]
  by_cases h : a = b
  · subst h
    rw [beq_self_eq_true, if_pos rfl, if_pos rfl]
    by_cases hi : i = j
    · subst hi; simp
    · rw [if_neg (by simpa using hi)]
  · rw [if_neg (by simpa using h), if_neg h]
theorem minG_pr (ts : Nat → Tx) (hu : ∀ i, uniT (ts i)) : ∀ (m k a : Nat), a < k → (∀ i, i < k → ¬ ts i < ts a) → (∀ i, i < a → ts a < ts i) →
    ∃ j, j < k + m ∧ minG (prD ts a) ((List.range' k m).map (prD ts)) = prD ts j ∧ (∀ i, i < k + m → ¬ ts i < ts j) ∧ (∀ i, i < j → ts j < ts i)
  | 0, k, a, h1, h2, h3 => ⟨a, h1, rfl, h2, h3⟩
  | m + 1, k, a, h1, h2, h3 => by
    rw [List.range'_succ, List.map_cons]
    show ∃ j, _ ∧ minG (if ltD (prD ts k) (prD ts a) then prD ts k else prD ts a) _ = _ ∧ _
    have e : ltD (prD ts k) (prD ts a) = ltT (ts k) (ts a) := by
      unfold prD
      rw [ltD_pr (hu k) (hu a)]
      by_cases h : ts k = ts a
      · rw [if_pos h, h, ltT_irrefl, decide_eq_false_iff_not]
        omega
      · rw [if_neg h]
    rw [e, show k + (m + 1) = k + 1 + m by omega]
    cases c : ltT (ts k) (ts a) with
    | true =>
      rw [ltT_iff] at c
      refine minG_pr ts hu m (k + 1) k (by omega) (fun i hi q => ?_) fun i hi => ?_
      · by_cases hk : i < k
        · exact h2 i hk (tx_trans q c)
        · obtain rfl : i = k := by omega
          exact List.lt_irrefl _ q
      · by_cases w : ts i = ts a
        · rw [w]; exact c
        · have : ts a < ts i := Classical.byContradiction fun z => w (tx_total (h2 i hi) z)
          exact tx_trans c this
    | false =>
      rw [ltT_false] at c
      refine minG_pr ts hu m (k + 1) a (by omega) (fun i hi => ?_) h3
      by_cases hk : i < k
      · exact h2 i hk
      · obtain rfl : i = k := by omega
        exact c
theorem alike_pr (a b : Tx) (i j : Int) : PySem.W.alike (D.tup [.str a, .int i]).py (D.tup [.str b, .int j]).py = true := by
  show PySem.W.alike (.tuple [.str (MP.S a), .int i]) (.tuple [.str (MP.S b), .int j]) = true
  simp [PySem.W.alike, PySem.W.alikeAll]
theorem plain_pr {a : Tx} (h : uniT a) (i : Int) : (D.tup [.str a, .int i]).plain = true := by
  rw [D.plain, D.plains, D.plains, plain_str h]
  rfl
theorem plains_pr (ts : Nat → Tx) (hu : ∀ i, uniT (ts i)) : ∀ l : List Nat, D.plains (l.map (prD ts)) = true
  | [] => rfl
  | i :: l => by
    rw [List.map_cons, D.plains, plains_pr ts hu l]
    unfold prD
    rw [plain_pr (hu i)]
    rfl
theorem dep_pr (ts : Nat → Tx) (i : Nat) : (prD ts i).dep ≤ 2 := by
  show max 0 (max 0 0) + 1 ≤ 2
  omega
theorem deps_pr (ts : Nat → Tx) : ∀ l : List Nat, D.deps (l.map (prD ts)) ≤ 2
  | [] => by show 0 ≤ 2; omega
  | i :: l => by
    rw [List.map_cons]
    show max _ _ ≤ 2
    have := deps_pr ts l
    have := dep_pr ts i
    omega
theorem fMin_pr (ts : Nat → Tx) (hu : ∀ i, uniT (ts i)) (n : Nat) (hn : 0 < n) : ∃ j, j < n ∧ fMinA [.lst ((List.range n).map (prD ts))] = some (.im (prD ts j)) ∧ (∀ i, i < n → ¬ ts i < ts j) ∧ (∀ i, i < j → ts j < ts i) := by
  obtain ⟨m, rfl⟩ : ∃ m, n = m + 1 := ⟨n - 1, by omega⟩
  obtain ⟨j, j1, j2, j3, j4⟩ := minG_pr ts hu m 1 0 (by omega) (fun i hi => by
    obtain rfl : i = 0 := by omega
    exact List.lt_irrefl _) fun i hi => by omega
  refine ⟨j, by omega, ?_, fun i hi => j3 i (by omega), j4⟩
  have e : (List.range (m + 1)).map (prD ts) = prD ts 0 :: (List.range' 1 m).map (prD ts) := by
    rw [List.range_eq_range', List.range'_succ, List.map_cons]
  have hok : bestOk ((List.range (m + 1)).map (prD ts)) = true := by
    unfold bestOk
    rw [Bool.and_eq_true, Bool.and_eq_true]
    refine ⟨⟨?_, ?_⟩, ?_⟩
    · unfold D.okE
      rw [D.plain, plains_pr ts hu, Bool.true_and, decide_eq_true_eq, D.dep]
      have := deps_pr ts (List.range (m + 1))
      omega
    · rw [List.all_eq_true]
      intro a ha
      rw [List.all_eq_true]
      intro b hb
      obtain ⟨a, _, rfl⟩ := List.mem_map.mp ha
      obtain ⟨b, _, rfl⟩ := List.mem_map.mp hb
      exact alike_pr _ _ _ _
    · rw [List.all_eq_true]
      intro a ha
      obtain ⟨a, _, rfl⟩ := List.mem_map.mp ha
      rfl
  rw [e] at hok ⊢
  show (match fMin1 [.lst (prD ts 0 :: (List.range' 1 m).map (prD ts))] with | some r => some r | none => (match fMinD [.lst (prD ts 0 :: (List.range' 1 m).map (prD ts))] with | some r => some r | none => fMinG [.lst (prD ts 0 :: (List.range' 1 m).map (prD ts))])) = _
  rw [show fMin1 [.lst (prD ts 0 :: (List.range' 1 m).map (prD ts))] = none from rfl, show fMinD [.lst (prD ts 0 :: (List.range' 1 m).map (prD ts))] = none from rfl]
  suffices hh : fMinG [.lst (prD ts 0 :: (List.range' 1 m).map (prD ts))] = some (.im (prD ts j)) by rw [hh]
  show (if bestOk (prD ts 0 :: (List.range' 1 m).map (prD ts)) = true then some (R.im (minG (prD ts 0) ((List.range' 1 m).map (prD ts)))) else none) = _
  rw [if_pos hok, j2]
/-- the first place of the least rotation -/
def lrI (w : Tx) : Nat := (rots w).idxOf (lr w)
theorem lr_mem {w : Tx} (h : w ≠ []) : lr w ∈ rots w := by
  obtain ⟨xs, hx⟩ := rots_cons h
  have := minX_mem (rots w) w
  rcases List.mem_cons.mp this with q | q
  · show minX w (rots w) ∈ _
    rw [q, hx]
    exact List.mem_cons_self
  · exact q
theorem lr_le {w : Tx} (k : Nat) (hk : k < w.length) : ¬ rot w k < lr w := minX_le (rots w) w _ (List.mem_cons_of_mem _ (List.mem_map.mpr ⟨k, List.mem_range.mpr hk, rfl⟩))
theorem idx_first (f : Nat → Tx) {n j : Nat} (hj : j < n) (h : ∀ i, i < j → f i ≠ f j) : ((List.range n).map f).idxOf (f j) = j := by
  have : ∀ (m k : Nat), k ≤ j → j < k + m → ((List.range' k m).map f).idxOf (f j) = j - k := by
    intro m
    induction m with
    | zero => intro k h1 h2; omega
    | succ m ih =>
      intro k h1 h2
      rw [List.range'_succ, List.map_cons, List.idxOf_cons]
      by_cases e : k = j
      · subst e; simp
      · have : (f k == f j) = false := by simpa using h k (by omega)
        rw [this, ih (k + 1) (by omega) (by omega)]
        simp
        omega
  rw [List.range_eq_range', this n 0 (by omega) (by omega)]
  omega
theorem e_least (w : Tx) (h : w ≠ []) (hu : uniT w) (hl : w.length ≤ 1000) : fn_least_rotation [.im (.str w)] = some (.im (.tup [.str (lr w), .int (lrI w : Nat)]), [.im (.str w)]) := by
  have hw : 0 < w.length := List.length_pos_iff.mpr h
  have hb : w.length ≤ SL := by unfold SL; omega
  have h2 : 2 ≤ SL := by decide
  have hs : small (w.length : Int) = true := small_of (by omega) (by omega)
  have hm : (if (w.length : Int) > 1 then (w.length : Int) else 1) = (w.length : Int) := by
    split <;> omega
  have lc : eLc [1] (iR rng1 (aCons (pE (eCall fMax2 (aCons (pE (eC (.int 1))) (aCons (pE (eCall fLen (aCons (pV 0) aNil))) aNil)))) aNil)) (gN 1) bTrue ce_least_rotation_0 [.im (.str w), .un]
      = some (.fr (.lst ((List.range w.length).map (prD (rot w)))), [.im (.str w), .un]) := by
    refine lc_nats (e := [.im (.str w), .un]) (List.range w.length) (prD (rot w)) ?_ (by simp; exact hb) fun k hk => ?_
    · rw [← rng_range]
      have : fMax2 [.int 1, .int (w.length : Int)] = some (.im (.int (w.length : Int))) := by
        show some (R.im (.int (if (w.length : Int) > 1 then (w.length : Int) else 1))) = _
        rw [hm]
      simp [-y_114, hb, hs, this]
    · have hk := List.mem_range.mp hk
      have := e_turned_by w k (by omega) hl
      exact ⟨[.im (.str w), .im (.int (k : Int))], .im (prD (rot w) k), [.im (.str w), .im (.int (k : Int))], by simp, by simp [ce_least_rotation_0, this, h2, prD], rfl, by simp⟩
  obtain ⟨j, j1, j2, j3, j4⟩ := fMin_pr (rot w) (rot_uni hu) w.length hw
  have e1 : rot w j = lr w := by
    refine tx_total (lr_le j j1) ?_
    obtain ⟨k, hk, e⟩ := List.mem_map.mp (lr_mem h)
    rw [← e]
    exact j3 k (List.mem_range.mp hk)
  have e2 : lrI w = j := by
    unfold lrI
    rw [← e1]
    exact idx_first (rot w) j1 fun i hi q => by
      have := j4 i hi
      rw [q] at this
      exact List.lt_irrefl _ this
  rw [e2, ← e1]
  exact run_rt (seq_rt (e1 := [.im (.str w), .un]) (by simp [st_least_rotation_0, lc, j2, prD])) rfl
/-- the law's turns -/
theorem rots_uni {w : Tx} (h : uniT w) : ∀ x ∈ rots w, uniT x := fun x hx => by
  obtain ⟨k, _, rfl⟩ := List.mem_map.mp hx
  exact rot_uni h k
theorem e_min_rots (w : Tx) (h : w ≠ []) (hu : uniT w) : fMinA [.lst ((rots w).map D.str)] = some (.im (.str (lr w))) := by
  obtain ⟨xs, hx⟩ := rots_cons h
  have hr := rots_uni hu
  rw [hx] at hr
  have := fMin_txt w xs hr
  unfold lr
  rw [hx, this]
  congr 3
  exact minX_uniq fun z => by simp
theorem e_min_rots1 (w : Tx) (hu : uniT w) : fMinA [.lst ((rots w).map D.str ++ [.str w])] = some (.im (.str (lr w))) := by
  by_cases h : w = []
  · subst h
    rfl
  · obtain ⟨xs, hx⟩ := rots_cons h
    have hr := rots_uni hu
    have e : (rots w).map D.str ++ [.str w] = ((w :: (xs ++ [w]))).map D.str := by rw [hx]; simp
    rw [e, fMin_txt w (xs ++ [w]) fun y hy => by
      rw [hx] at hr
      rcases List.mem_cons.mp hy with rfl | hy
      · exact hu
      · rcases List.mem_append.mp hy with hy | hy
        · exact hr y (List.mem_cons_of_mem _ hy)
        · rw [List.mem_singleton.mp hy]; exact hu]
    congr 3
    unfold lr
    rw [hx]
    exact minX_uniq fun z => by
      simp
      exact ⟨fun q => q.elim .inl fun q => q.elim .inr .inl, fun q => q.elim .inl fun q => .inr (.inl q)⟩
end signworth_k20_turning
namespace signworth_k20_turning
open PySem PySem.Spec PyProof.Rows L2 MP
/-! ### the papers -/
def tTurned : Tx := [116, 117, 114, 110, 101, 100]
def trnO (w o : Tx) : Option Nat := (List.range (max 1 w.length)).find? fun k => rot w k == o
def unlD (w o : Tx) : D := .tup [.str tUnlike, .str (lr w), .str (lr o)]
def papD (w o : Tx) : D := if w.length = o.length then (match trnO w o with
  | some k => .tup [.str tTurned, nI k]
  | none => unlD w o) else unlD w o
def papO (w o : Tx) : Option Nat := if w.length = o.length then trnO w o else none
def papF (w o : Tx) : Option Nat → D
  | some k => .tup [.str tTurned, nI k]
  | none => unlD w o
theorem papD_eq (w o : Tx) : papD w o = papF w o (papO w o) := by
  unfold papD papO papF
  by_cases h : w.length = o.length
  · rw [if_pos h, if_pos h]
  · rw [if_neg h, if_neg h]
theorem max1 (w : Tx) (hl : w.length ≤ 1000) : (if (w.length : Int) > 1 then (w.length : Int) else 1) = ((max 1 w.length : Nat) : Int) := by
  split <;> omega
theorem max2 (w : Tx) (hl : w.length ≤ 1000) : (if (1 : Int) > (w.length : Int) then (1 : Int) else (w.length : Int)) = ((max 1 w.length : Nat) : Int) := by
  split <;> omega
theorem rot_big (w : Tx) (k : Nat) (h : k < max 1 w.length) : k ≤ w.length := by omega
theorem e_paper (w o : Tx) (hw : w ≠ []) (ho : o ≠ []) (uw : uniT w) (uo : uniT o) (hl : w.length ≤ 1000) (hl2 : o.length ≤ 1000) : fn_turned_paper [.im (.str w), .im (.str o)] = some (.im (papD w o), [.im (.str w), .im (.str o)]) := by
  have hb : w.length ≤ SL := by unfold SL; omega
  have hb2 : o.length ≤ SL := by unfold SL; omega
  have h2 : 2 ≤ SL := by decide
  have h3 : 3 ≤ SL := by decide
  have hs : small ((max 1 w.length : Nat) : Int) = true := small_of (by omega) (by omega)
  have fm : fMax2 [.int 1, .int (w.length : Int)] = some (.im (.int ((max 1 w.length : Nat) : Int))) := by
    show some (R.im (.int (if (w.length : Int) > 1 then (w.length : Int) else 1))) = _
    rw [max1 w hl]
  have l1 := e_least w hw uw hl
  have l2 := e_least o ho uo hl2
  have last : ∀ c : C, st_turned_paper_4 [.im (.str w), .im (.str o), c] = some (.rt (.im (unlD w o)), [.im (.str w), .im (.str o), c]) := fun c => by
    simp [st_turned_paper_4, l1, l2, unlD, tUnlike, h3]
  rw [papD_eq]
  by_cases he : w.length = o.length
  · obtain ⟨e, ⟨c, rfl, hc⟩, q2⟩ := forF_find (g := gN 2) (f := bk_turned_paper_1) (fun e => ∃ c : C, e = [.im (.str w), .im (.str o), c] ∧ c.free = true) (fun k => rot w k == o) (fun k => .im (papF w o (some k))) (List.range (max 1 w.length)) [.im (.str w), .im (.str o), .un] ⟨.un, rfl, rfl⟩ fun k hk env hen => by
      obtain ⟨c, rfl, hc⟩ := hen
      have hk := List.mem_range.mp hk
      have tb := e_turned_by w k (rot_big w k hk) hl
      refine ⟨[.im (.str w), .im (.str o), .im (.int (k : Int))], [.im (.str w), .im (.str o), .im (.int (k : Int))], by simp [hc], ?_, _, rfl, rfl⟩
      have tst : (bE (eOp fEq (pE (eFn fn_turned_by (aCons (pE (eV 0)) (aCons (pE (eV 2)) aNil)))) (pV 1))) [.im (.str w), .im (.str o), .im (.int (k : Int))] = some (rot w k == o, [.im (.str w), .im (.str o), .im (.int (k : Int))]) := by
        simp [tb]
      cases hp : (rot w k == o) with
      | true =>
        rw [hp] at tst
        refine seq_rt (if_tt tst ?_)
        simp [bk_turned_paper_0, st_turned_paper_0, h2, papF, tTurned, nI]
      | false =>
        rw [hp] at tst
        exact seq_nx (if_ff tst rfl) rfl
    have lp : bk_turned_paper_2 [.im (.str w), .im (.str o), .un] = some (fndR (fun k => .im (papF w o (some k))) (trnO w o), [.im (.str w), .im (.str o), c]) := by
      unfold trnO
      rw [← q2, ← rng_range]
      have : st_turned_paper_2 [.im (.str w), .im (.str o), .un] = forF (gN 2) bk_turned_paper_1 (rng 0 (max 1 w.length) 1) [.im (.str w), .im (.str o), .un] := by
        generalize max 1 w.length = m at fm hs ⊢
        simp [-y_114, st_turned_paper_2, hb, fm, hs]
      show sSeq st_turned_paper_2 sNil _ = _
      rw [x_sSeq, this, rng_range, q2]
      cases List.find? (fun k => rot w k == o) (List.range (max 1 w.length)) <;> rfl
    have hi : (if (w.length : Int) = (o.length : Int) then true else false) = true := by simp [he]
    have s3 : st_turned_paper_3 (env0 3 [.im (.str w), .im (.str o)]) = some (fndR (fun k => .im (papF w o (some k))) (trnO w o), [.im (.str w), .im (.str o), c]) := by
      refine if_tt (e1 := [.im (.str w), .im (.str o), .un]) ?_ lp
      simp [hb, hb2, he]
    unfold papO
    rw [if_pos he]
    cases ht : trnO w o with
    | some k =>
      rw [ht] at s3
      exact run_rt (seq_rt s3) rfl
    | none =>
      rw [ht] at s3
      exact run_rt (seq_nx s3 (seq_rt (last c))) rfl
  · have hf : ((w.length : Int) == (o.length : Int)) = false := by simpa using (by omega : ¬ (w.length : Int) = o.length)
    unfold papO
    rw [if_neg he]
    refine run_rt (seq_nx (e1 := [.im (.str w), .im (.str o), .un]) (if_ff (e1 := [.im (.str w), .im (.str o), .un]) ?_ rfl) (seq_rt (last .un))) rfl
    simp [hb, hb2, hf]
theorem e_lpaper (w o : Tx) (uw : uniT w) (uo : uniT o) (hl : w.length ≤ 1000) (hl2 : o.length ≤ 1000) : fn_law_paper [.im (.str w), .im (.str o)] = some (.im (papD w o), [.im (.str w), .im (.str o)]) := by
  have hb : w.length ≤ SL := by unfold SL; omega
  have hb2 : o.length ≤ SL := by unfold SL; omega
  have h1 : 1 ≤ SL := by decide
  have h2 : 2 ≤ SL := by decide
  have h3 : 3 ≤ SL := by decide
  have hs : small ((max 1 w.length : Nat) : Int) = true := small_of (by omega) (by omega)
  have fm : fMax2 [.int (w.length : Int), .int 1] = some (.im (.int ((max 1 w.length : Nat) : Int))) := by
    show some (R.im (.int (if (1 : Int) > (w.length : Int) then (1 : Int) else (w.length : Int)))) = _
    rw [max2 w hl]
  have r1 := e_rotations w hl
  have r2 := e_rotations o hl2
  have m1 := e_min_rots1 w uw
  have m2 := e_min_rots1 o uo
  have n1 : (rots w).length + 1 ≤ SL := by unfold rots; simp; unfold SL; omega
  have n2 : (rots o).length + 1 ≤ SL := by unfold rots; simp; unfold SL; omega
  have last : ∀ c : C, st_law_paper_4 [.im (.str w), .im (.str o), c] = some (.rt (.im (unlD w o)), [.im (.str w), .im (.str o), c]) := fun c => by
    simp [st_law_paper_4, r1, r2, m1, m2, n1, n2, h1, unlD, tUnlike, h3]
  rw [papD_eq]
  by_cases he : w.length = o.length
  · obtain ⟨e, ⟨c, rfl, hc⟩, q2⟩ := forF_find (g := gN 2) (f := bk_law_paper_1) (fun e => ∃ c : C, e = [.im (.str w), .im (.str o), c] ∧ c.free = true) (fun k => rot w k == o) (fun k => .im (papF w o (some k))) (List.range (max 1 w.length)) [.im (.str w), .im (.str o), .un] ⟨.un, rfl, rfl⟩ fun k hk env hen => by
      obtain ⟨c, rfl, hc⟩ := hen
      have hk := List.mem_range.mp hk
      have hk' := rot_big w k hk
      have c1 := cut_to' w k
      have c2 := cut_from w k
      have hh : (w.drop k).length + (w.take k).length ≤ SL := by rw [List.length_drop, List.length_take]; omega
      refine ⟨[.im (.str w), .im (.str o), .im (.int (k : Int))], [.im (.str w), .im (.str o), .im (.int (k : Int))], by simp [hc], ?_, _, rfl, rfl⟩
      have tst : (bE (eOp fEq (pE (eOp fAdd (pE (eSl (pV 0) (oI (pV 2)) oNo)) (pE (eSl (pV 0) oNo (oI (pV 2)))))) (pV 1))) [.im (.str w), .im (.str o), .im (.int (k : Int))] = some (rot w k == o, [.im (.str w), .im (.str o), .im (.int (k : Int))]) := by
        unfold rot
        generalize w.drop k = a at c2 hh ⊢
        generalize w.take k = b at c1 hh ⊢
        simp [hb, c1, c2, hh]
      cases hp : (rot w k == o) with
      | true =>
        rw [hp] at tst
        refine seq_rt (if_tt tst ?_)
        simp [bk_law_paper_0, st_law_paper_0, h2, papF, tTurned, nI]
      | false =>
        rw [hp] at tst
        exact seq_nx (if_ff tst rfl) rfl
    have lp : bk_law_paper_2 [.im (.str w), .im (.str o), .un] = some (fndR (fun k => .im (papF w o (some k))) (trnO w o), [.im (.str w), .im (.str o), c]) := by
      unfold trnO
      rw [← q2, ← rng_range]
      have : st_law_paper_2 [.im (.str w), .im (.str o), .un] = forF (gN 2) bk_law_paper_1 (rng 0 (max 1 w.length) 1) [.im (.str w), .im (.str o), .un] := by
        generalize max 1 w.length = m at fm hs ⊢
        simp [-y_114, st_law_paper_2, hb, fm, hs]
      show sSeq st_law_paper_2 sNil _ = _
      rw [x_sSeq, this, rng_range, q2]
      cases List.find? (fun k => rot w k == o) (List.range (max 1 w.length)) <;> rfl
    have s3 : st_law_paper_3 (env0 3 [.im (.str w), .im (.str o)]) = some (fndR (fun k => .im (papF w o (some k))) (trnO w o), [.im (.str w), .im (.str o), c]) := by
      refine if_tt (e1 := [.im (.str w), .im (.str o), .un]) ?_ lp
      simp [hb, hb2, he]
    unfold papO
    rw [if_pos he]
    cases ht : trnO w o with
    | some k =>
      rw [ht] at s3
      exact run_rt (seq_rt s3) rfl
    | none =>
      rw [ht] at s3
      exact run_rt (seq_nx s3 (seq_rt (last c))) rfl
  · have hf : ((w.length : Int) == (o.length : Int)) = false := by simpa using (by omega : ¬ (w.length : Int) = o.length)
    unfold papO
    rw [if_neg he]
    refine run_rt (seq_nx (e1 := [.im (.str w), .im (.str o), .un]) (if_ff (e1 := [.im (.str w), .im (.str o), .un]) ?_ rfl) (seq_rt (last .un))) rfl
    simp [hb, hb2, hf]
end signworth_k20_turning
namespace signworth_k20_turning
open PySem PySem.Spec PyProof.Rows L2 MP
/-! ### the judges -/
theorem isi_tup (x : List D) : fIsi [.tup x, .ty "tuple"] = some (.im (.bl true)) := by simp [fIsi, D.tyName, isiB]
theorem isi_str (x : Tx) : fIsi [.str x, .ty "str"] = some (.im (.bl true)) := by simp [fIsi, D.tyName, isiB]
theorem isi_int (x : Int) : fIsi [.int x, .ty "int"] = some (.im (.bl true)) := by simp [fIsi, D.tyName, isiB]
theorem isi_intb (x : Int) : fIsi [.int x, .ty "bool"] = some (.im (.bl false)) := by simp [fIsi, D.tyName, isiB]
theorem isi_strb (x : Tx) : fIsi [.str x, .ty "int"] = some (.im (.bl false)) := by simp [fIsi, D.tyName, isiB]
theorem e_isint (i : Int) : fn_is_integer [.im (.int i)] = some (.im (.bl true), [.im (.int i)]) := by
  refine run_rt (seq_rt (e1 := [.im (.int i)]) ?_) rfl
  simp [st_is_integer_0, isi_int, isi_intb]
def JJ (w o : Tx) (v : D) : Prop := ∃ k, fn_judge_turned [.im (.str w), .im (.str o), .im v] = some (.im (.bl k), [.im (.str w), .im (.str o), .im v]) ∧ fn_law_turned [.im (.str w), .im (.str o), .im v] = some (.im (.bl k), [.im (.str w), .im (.str o), .im v])
theorem eqPs_len : ∀ {a b : List D}, a.length ≠ b.length → eqPs a b = false
  | [], [], h => absurd rfl h
  | [], _ :: _, _ => rfl
  | _ :: _, [], _ => rfl
  | x :: a, y :: b, h => by
    rw [eqPs, eqPs_len (a := a) (b := b) (by simpa using h), Bool.and_false]
theorem okE_int (i : Int) : (D.int i).okE = true := rfl
theorem eqD_tup {a b : List D} (ha : (D.tup a).okE = true) (hb : (D.tup b).okE = true) : eqD (.tup a) (.tup b) = some (eqPs a b) := eqD_plain rfl ha hb
theorem okE_tup2 {a b : D} (ha : a.plain = true) (hb : b.plain = true) (da : a.dep = 0) (db : b.dep = 0) : (D.tup [a, b]).okE = true := by
  unfold D.okE
  rw [D.plain, D.plains, D.plains, D.plains, ha, hb, D.dep, D.deps, D.deps, D.deps, da, db]
  rfl
theorem okE_tup1 {a : D} (ha : a.plain = true) (da : a.dep = 0) : (D.tup [a]).okE = true := by
  unfold D.okE
  rw [D.plain, D.plains, D.plains, ha, D.dep, D.deps, D.deps, da]
  rfl
theorem okE_tup3 {a b c : D} (ha : a.plain = true) (hb : b.plain = true) (hc : c.plain = true) (da : a.dep = 0) (db : b.dep = 0) (dc : c.dep = 0) : (D.tup [a, b, c]).okE = true := by
  unfold D.okE
  rw [D.plain, D.plains, D.plains, D.plains, D.plains, ha, hb, hc, D.dep, D.deps, D.deps, D.deps, D.deps, da, db, dc]
  rfl
theorem okE_tup4 {a b c d : D} (ha : a.plain = true) (hb : b.plain = true) (hc : c.plain = true) (hd : d.plain = true) (da : a.dep = 0) (db : b.dep = 0) (dc : c.dep = 0) (dd : d.dep = 0) : (D.tup [a, b, c, d]).okE = true := by
  unfold D.okE
  rw [D.plain, D.plains, D.plains, D.plains, D.plains, D.plains, ha, hb, hc, hd, D.dep, D.deps, D.deps, D.deps, D.deps, D.deps, da, db, dc, dd]
  rfl
theorem uT : uniT tTurned := by intro c hc; simp [tTurned] at hc; omega
theorem uU : uniT tUnlike := by intro c hc; simp [tUnlike] at hc; omega
theorem pap_form (w o : Tx) (uw : uniT w) (uo : uniT o) : ∃ ps : List D, papD w o = .tup ps ∧ (D.tup ps).okE = true ∧ (ps.length = 2 ∨ ps.length = 3) := by
  rw [papD_eq]
  unfold papF
  cases papO w o with
  | some k => exact ⟨_, rfl, okE_tup2 (plain_str uT) rfl rfl rfl, .inl rfl⟩
  | none => exact ⟨_, rfl, okE_tup3 (plain_str uU) (plain_str (lr_uni uw)) (plain_str (lr_uni uo)) rfl rfl rfl, .inr rfl⟩
section
variable {w o : Tx} (hw : w ≠ []) (ho : o ≠ []) (uw : uniT w) (uo : uniT o) (hl : w.length ≤ 1000) (hl2 : o.length ≤ 1000)
theorem jj_nil : JJ w o (.tup []) := by
  refine ⟨false, run_rt (seq_rt (e1 := [.im (.str w), .im (.str o), .im (.tup [])]) (if_tt (e1 := [.im (.str w), .im (.str o), .im (.tup [])]) ?_ (by simp [bk_judge_turned_0, st_judge_turned_0]))) rfl,
    run_rt (seq_rt (e1 := [.im (.str w), .im (.str o), .im (.tup [])]) (if_tt (e1 := [.im (.str w), .im (.str o), .im (.tup [])]) ?_ (by simp [bk_law_turned_0, st_law_turned_0]))) rfl⟩
  · have h1 : fInB (.int 0) (.tup [.int 2, .int 3]) = some false := rfl
    simp [isi_tup, h1, SL]
  · simp [isi_tup]
include hw ho uw uo hl hl2
theorem jj_one (s : Tx) (us : uniT s) : JJ w o (.tup [.str s]) := by
  obtain ⟨ps, hps, ok, hlen⟩ := pap_form w o uw uo
  have q := e_lpaper w o uw uo hl hl2
  rw [hps] at q
  have e : eqD (.tup ps) (.tup [.str s]) = some false := by
    rw [eqD_tup ok (okE_tup1 (plain_str us) rfl), eqPs_len (by simp; omega)]
  refine ⟨false, run_rt (seq_rt (e1 := [.im (.str w), .im (.str o), .im (.tup [.str s])]) (if_tt (e1 := [.im (.str w), .im (.str o), .im (.tup [.str s])]) ?_ (by simp [bk_judge_turned_0, st_judge_turned_0]))) rfl, ?_⟩
  · have h1 : fInB (.int 1) (.tup [.int 2, .int 3]) = some false := rfl
    simp [isi_tup, h1, SL]
  · have t4 : st_law_turned_4 (env0 3 [.im (.str w), .im (.str o), .im (.tup [.str s])]) = some (.nx, [.im (.str w), .im (.str o), .im (.tup [.str s])]) := by
      refine if_ff (e1 := [.im (.str w), .im (.str o), .im (.tup [.str s])]) ?_ rfl
      simp [isi_tup, isi_str]
    by_cases h : s = tTurned
    · subst h
      refine run_rt (seq_nx t4 (seq_rt (e1 := [.im (.str w), .im (.str o), .im (.tup [.str tTurned])]) (if_tt (e1 := [.im (.str w), .im (.str o), .im (.tup [.str tTurned])]) ?_ (seq_rt (if_tt (e1 := [.im (.str w), .im (.str o), .im (.tup [.str tTurned])]) ?_ ?_))))) rfl
      · simp [tTurned]
      · simp
      · simp [bk_law_turned_1, st_law_turned_1]
    · have h' : (s == tTurned) = false := by simpa using h
      refine run_rt (seq_nx t4 (seq_nx (e1 := [.im (.str w), .im (.str o), .im (.tup [.str s])]) (if_ff (e1 := [.im (.str w), .im (.str o), .im (.tup [.str s])]) ?_ rfl) (seq_rt (e1 := [.im (.str w), .im (.str o), .im (.tup [.str s])]) ?_))) rfl
      · simp only [tTurned] at h'
        simp [h']
      · cases h2 : (s == tUnlike) with
        | true =>
          simp only [tUnlike] at h2
          simp [st_law_turned_6, h2, q, e]
        | false =>
          simp only [tUnlike] at h2
          simp [st_law_turned_6, h2, q, e]
theorem jj_two (i : Int) (hi : 0 ≤ i) : JJ w o (.tup [.str tTurned, .int i]) := by
  obtain ⟨ps, hps, ok, hlen⟩ := pap_form w o uw uo
  have q := e_lpaper w o uw uo hl hl2
  have q0 := e_paper w o hw ho uw uo hl hl2
  rw [hps] at q q0
  have e : eqD (.tup ps) (.tup [.str tTurned, .int i]) = some (eqPs ps [.str tTurned, .int i]) := eqD_tup ok (okE_tup2 (plain_str uT) rfl rfl rfl)
  refine ⟨eqPs ps [.str tTurned, .int i], ?_, ?_⟩
  · refine run_rt (seq_nx (e1 := [.im (.str w), .im (.str o), .im (.tup [.str tTurned, .int i])]) (if_ff (e1 := [.im (.str w), .im (.str o), .im (.tup [.str tTurned, .int i])]) ?_ rfl) (seq_rt (e1 := [.im (.str w), .im (.str o), .im (.tup [.str tTurned, .int i])]) (if_tt (e1 := [.im (.str w), .im (.str o), .im (.tup [.str tTurned, .int i])]) ?_ (seq_rt ?_)))) rfl
    · have h1 : fInB (.int 2) (.tup [.int 2, .int 3]) = some true := rfl
      simp [isi_tup, isi_str, h1, SL]
    · simp [tTurned]
    · simp [st_judge_turned_1, e_isint, q0, e]
  · refine run_rt (seq_nx (e1 := [.im (.str w), .im (.str o), .im (.tup [.str tTurned, .int i])]) (if_ff (e1 := [.im (.str w), .im (.str o), .im (.tup [.str tTurned, .int i])]) ?_ rfl) (seq_rt (e1 := [.im (.str w), .im (.str o), .im (.tup [.str tTurned, .int i])]) (if_tt (e1 := [.im (.str w), .im (.str o), .im (.tup [.str tTurned, .int i])]) ?_ (seq_nx (if_ff (e1 := [.im (.str w), .im (.str o), .im (.tup [.str tTurned, .int i])]) ?_ rfl) (seq_rt ?_))))) rfl
    · simp [isi_tup, isi_str]
    · simp [tTurned]
    · simp [isi_int, isi_intb]
    · simp [st_law_turned_3, hi, q, e]
theorem jj_tthree (i : Int) : JJ w o (.tup [.str tTurned, .int i, .int 0]) := by
  refine ⟨false, ?_, ?_⟩
  · refine run_rt (seq_nx (e1 := [.im (.str w), .im (.str o), .im (.tup [.str tTurned, .int i, .int 0])]) (if_ff (e1 := [.im (.str w), .im (.str o), .im (.tup [.str tTurned, .int i, .int 0])]) ?_ rfl) (seq_rt (e1 := [.im (.str w), .im (.str o), .im (.tup [.str tTurned, .int i, .int 0])]) (if_tt (e1 := [.im (.str w), .im (.str o), .im (.tup [.str tTurned, .int i, .int 0])]) ?_ (seq_rt ?_)))) rfl
    · have h1 : fInB (.int 3) (.tup [.int 2, .int 3]) = some true := rfl
      simp [isi_tup, isi_str, h1, SL]
    · simp [tTurned]
    · simp [st_judge_turned_1]
  · refine run_rt (seq_nx (e1 := [.im (.str w), .im (.str o), .im (.tup [.str tTurned, .int i, .int 0])]) (if_ff (e1 := [.im (.str w), .im (.str o), .im (.tup [.str tTurned, .int i, .int 0])]) ?_ rfl) (seq_rt (e1 := [.im (.str w), .im (.str o), .im (.tup [.str tTurned, .int i, .int 0])]) (if_tt (e1 := [.im (.str w), .im (.str o), .im (.tup [.str tTurned, .int i, .int 0])]) ?_ (seq_rt (if_tt (e1 := [.im (.str w), .im (.str o), .im (.tup [.str tTurned, .int i, .int 0])]) ?_ ?_))))) rfl
    · simp [isi_tup, isi_str]
    · simp [tTurned]
    · simp
    · simp [bk_law_turned_1, st_law_turned_1]
theorem jj_three (a b : Tx) (ua : uniT a) (ub : uniT b) : JJ w o (.tup [.str tUnlike, .str a, .str b]) := by
  obtain ⟨ps, hps, ok, hlen⟩ := pap_form w o uw uo
  have q := e_lpaper w o uw uo hl hl2
  have q0 := e_paper w o hw ho uw uo hl hl2
  rw [hps] at q q0
  have e : eqD (.tup ps) (.tup [.str tUnlike, .str a, .str b]) = some (eqPs ps [.str tUnlike, .str a, .str b]) := eqD_tup ok (okE_tup3 (plain_str uU) (plain_str ua) (plain_str ub) rfl rfl rfl)
  refine ⟨eqPs ps [.str tUnlike, .str a, .str b], ?_, ?_⟩
  · refine run_rt (seq_nx (e1 := [.im (.str w), .im (.str o), .im (.tup [.str tUnlike, .str a, .str b])]) (if_ff (e1 := [.im (.str w), .im (.str o), .im (.tup [.str tUnlike, .str a, .str b])]) ?_ rfl) (seq_nx (e1 := [.im (.str w), .im (.str o), .im (.tup [.str tUnlike, .str a, .str b])]) (if_ff (e1 := [.im (.str w), .im (.str o), .im (.tup [.str tUnlike, .str a, .str b])]) ?_ rfl) (seq_rt (e1 := [.im (.str w), .im (.str o), .im (.tup [.str tUnlike, .str a, .str b])]) ?_))) rfl
    · have h1 : fInB (.int 3) (.tup [.int 2, .int 3]) = some true := rfl
      simp [isi_tup, isi_str, h1, SL]
    · simp [tUnlike]
    · simp [st_judge_turned_4, q0, e]
  · refine run_rt (seq_nx (e1 := [.im (.str w), .im (.str o), .im (.tup [.str tUnlike, .str a, .str b])]) (if_ff (e1 := [.im (.str w), .im (.str o), .im (.tup [.str tUnlike, .str a, .str b])]) ?_ rfl) (seq_nx (e1 := [.im (.str w), .im (.str o), .im (.tup [.str tUnlike, .str a, .str b])]) (if_ff (e1 := [.im (.str w), .im (.str o), .im (.tup [.str tUnlike, .str a, .str b])]) ?_ rfl) (seq_rt (e1 := [.im (.str w), .im (.str o), .im (.tup [.str tUnlike, .str a, .str b])]) ?_))) rfl
    · simp [isi_tup, isi_str]
    · simp [tUnlike]
    · have : (tUnlike == [117, 110, 108, 105, 107, 101]) = true := rfl
      simp [st_law_turned_6, this, q, e]
theorem jj_four (a b : Tx) (ua : uniT a) (ub : uniT b) : JJ w o (.tup [.str tUnlike, .str a, .str b, .int 0]) := by
  obtain ⟨ps, hps, ok, hlen⟩ := pap_form w o uw uo
  have q := e_lpaper w o uw uo hl hl2
  rw [hps] at q
  have e : eqD (.tup ps) (.tup [.str tUnlike, .str a, .str b, .int 0]) = some false := by
    rw [eqD_tup ok (okE_tup4 (plain_str uU) (plain_str ua) (plain_str ub) rfl rfl rfl rfl rfl), eqPs_len (by simp; omega)]
  refine ⟨false, ?_, ?_⟩
  · refine run_rt (seq_rt (e1 := [.im (.str w), .im (.str o), .im (.tup [.str tUnlike, .str a, .str b, .int 0])]) (if_tt (e1 := [.im (.str w), .im (.str o), .im (.tup [.str tUnlike, .str a, .str b, .int 0])]) ?_ (by simp [bk_judge_turned_0, st_judge_turned_0]))) rfl
    have h1 : fInB (.int 4) (.tup [.int 2, .int 3]) = some false := rfl
    simp [isi_tup, h1, SL]
  · refine run_rt (seq_nx (e1 := [.im (.str w), .im (.str o), .im (.tup [.str tUnlike, .str a, .str b, .int 0])]) (if_ff (e1 := [.im (.str w), .im (.str o), .im (.tup [.str tUnlike, .str a, .str b, .int 0])]) ?_ rfl) (seq_nx (e1 := [.im (.str w), .im (.str o), .im (.tup [.str tUnlike, .str a, .str b, .int 0])]) (if_ff (e1 := [.im (.str w), .im (.str o), .im (.tup [.str tUnlike, .str a, .str b, .int 0])]) ?_ rfl) (seq_rt (e1 := [.im (.str w), .im (.str o), .im (.tup [.str tUnlike, .str a, .str b, .int 0])]) ?_))) rfl
    · simp [isi_tup, isi_str]
    · simp [tUnlike]
    · have : (tUnlike == [117, 110, 108, 105, 107, 101]) = true := rfl
      simp [st_law_turned_6, this, q, e]
end
end signworth_k20_turning
namespace signworth_k20_turning
open PySem PySem.Spec PyProof.Rows L2 MP
/-! ### Lyndon parts: what Duval's loops keep -/
theorem ltd (w : Tx) (b t : Nat) : lt (w.drop b) t = w.getD (t + b) 0 := by rw [lt_drop]; rfl
structure Dv (w : Tx) (b i j : Nat) : Prop where
  bi : b ≤ i
  ij : i < j
  jn : j ≤ w.length
  ly : LynS (lt (w.drop b)) (j - i)
  pe : Per (lt (w.drop b)) (j - i) (j - b)
section
variable {w : Tx} {b i j : Nat}
theorem dv_start (h : b < w.length) : Dv w b b (b + 1) := ⟨Nat.le_refl _, by omega, by omega, by rw [Nat.add_sub_cancel_left]; exact lyn_one, fun t h1 h2 => by omega⟩
theorem dv_eq (d : Dv w b i j) (hj : j < w.length) (h : w.getD i 0 = w.getD j 0) : Dv w b (i + 1) (j + 1) := by
  have h1 := d.bi
  have h2 := d.ij
  have e : j + 1 - (i + 1) = j - i := by omega
  refine ⟨by omega, by omega, by omega, by rw [e]; exact d.ly, fun t t1 t2 => ?_⟩
  rw [e] at t1 ⊢
  by_cases c : t < j - b
  · exact d.pe t t1 c
  · obtain rfl : t = j - b := by omega
    rw [ltd, ltd, show j - b + b = j by omega, show j - b - (j - i) + b = i by omega, h]
theorem dv_lt (d : Dv w b i j) (hj : j < w.length) (h : w.getD i 0 < w.getD j 0) : Dv w b b (j + 1) := by
  have h1 := d.bi
  have h2 := d.ij
  refine ⟨by omega, by omega, by omega, ?_, fun t t1 t2 => by omega⟩
  rw [show j + 1 - b = (j - b) + 1 by omega]
  refine lyn_ext d.ly d.pe (by omega) ?_
  rw [ltd, ltd, show j - b - (j - i) + b = i by omega, show j - b + b = j by omega]
  exact h
theorem dv_big (d : Dv w b i j) (h : j = w.length ∨ w.getD j 0 < w.getD i 0) : Big (lt (w.drop b)) (w.drop b).length (j - i) := by
  have h1 := d.bi
  have h2 := d.ij
  have h3 := d.jn
  refine big_of d.ly d.pe (by omega) (by rw [List.length_drop]; omega) ?_
  rcases h with h | h
  · left; rw [List.length_drop]; omega
  · right
    rw [ltd, ltd, show j - b - (j - i) + b = i by omega, show j - b + b = j by omega]
    exact h
theorem dv_next (d : Dv w b i j) (h : b + (j - i) ≤ i) : Dv w (b + (j - i)) i j := by
  have h1 := d.bi
  have h2 := d.ij
  have h3 := d.jn
  have e : lt (w.drop (b + (j - i))) = fun t => lt (w.drop b) (t + (j - i)) := by
    funext t
    rw [ltd, ltd]
    congr 1
    omega
  refine ⟨h, h2, h3, ?_, ?_⟩
  · rw [e]
    exact shift_lyn d.ly d.pe (by omega)
  · rw [e, show j - (b + (j - i)) = j - b - (j - i) by omega]
    exact shift_per d.pe
end
theorem ltT_one (a b : Nat) : ltT [a] [b] = decide (a < b) := by
  unfold ltT
  rw [decide_eq_decide, List.cons_lt_cons_iff]
  simp
def Sofar (w : Tx) (b : Nat) (fd : List Tx) : Prop := ∀ L, LP (w.drop b) L → LP w (fd ++ L)
theorem sofar_step {w : Tx} {b k : Nat} {fd : List Tx} (h : Sofar w b fd) (hb : b < w.length) (hk : Big (lt (w.drop b)) (w.drop b).length k) : Sofar w (b + k) (fd ++ [(w.drop b).take k]) := fun L hL => by
  have := h ((w.drop b).take k :: L) (.cons (fun q => by
    have := congrArg List.length q
    rw [List.length_drop, List.length_nil] at this
    omega) hk (by rw [List.drop_drop]; exact hL))
  rw [List.append_assoc]
  exact this
theorem e_parts (w : Tx) (hl : w.length ≤ 1000) : ∃ L : List Tx, fn_lyndon_parts [.im (.str w)] = some (.im (.tup (L.map D.str)), [.im (.str w)]) ∧ LP w L := by
  have hb : w.length ≤ SL := by unfold SL; omega
  have hSL : 1000 ≤ SL := by unfold SL; omega
  -- the first inner loop
  have in1 : ∀ (b : Nat) (fd : D) (i j : Nat), Dv w b i j → ∃ i' j' : Nat, Dv w b i' j' ∧ (j' = w.length ∨ w.getD j' 0 < w.getD i' 0) ∧
      st_lyndon_parts_5 [.im (.str w), .ow fd, .im (.int (b : Int)), .im (.int (i : Int)), .im (.int (j : Int))] = some (.nx, [.im (.str w), .ow fd, .im (.int (b : Int)), .im (.int (i' : Int)), .im (.int (j' : Int))]) := fun b fd i j d => by
    have := whileF_ind (t := bAnd (bE (eOp fLt (pV 4) (pE (eCall fLen (aCons (pV 0) aNil))))) (bE (eOp fLe (pE (eOp fIx (pV 0) (pV 3))) (pE (eOp fIx (pV 0) (pV 4)))))) (f := bk_lyndon_parts_0)
      (fun k env => ∃ i j : Nat, Dv w b i j ∧ k = w.length - j ∧ env = [.im (.str w), .ow fd, .im (.int (b : Int)), .im (.int (i : Int)), .im (.int (j : Int))])
      (fun env => ∃ i j : Nat, Dv w b i j ∧ (j = w.length ∨ w.getD j 0 < w.getD i 0) ∧ env = [.im (.str w), .ow fd, .im (.int (b : Int)), .im (.int (i : Int)), .im (.int (j : Int))])
      (fun _ _ => False) (fun k env hp => by
        obtain ⟨i, j, d, rfl, rfl⟩ := hp
        have d1 := d.bi
        have d2 := d.ij
        have d3 := d.jn
        by_cases hj : j < w.length
        · have g1 := getI (w := w) (k := i) (by omega)
          have g2 := getI (w := w) (k := j) hj
          have hlt : decide ((j : Int) < (w.length : Int)) = true := by simpa using hj
          by_cases hc : w.getD j 0 < w.getD i 0
          · left
            refine ⟨_, ?_, i, j, d, .inr hc, rfl⟩
            generalize w.getD i 0 = x at g1 hc
            generalize w.getD j 0 = y at g2 hc
            have hc' := ltT_one y x
            rw [decide_eq_true hc] at hc'
            simp [hb, hj, g1, g2, hc']
          · right
            have tst : (bAnd (bE (eOp fLt (pV 4) (pE (eCall fLen (aCons (pV 0) aNil))))) (bE (eOp fLe (pE (eOp fIx (pV 0) (pV 3))) (pE (eOp fIx (pV 0) (pV 4)))))) [.im (.str w), .ow fd, .im (.int (b : Int)), .im (.int (i : Int)), .im (.int (j : Int))] = some (true, [.im (.str w), .ow fd, .im (.int (b : Int)), .im (.int (i : Int)), .im (.int (j : Int))]) := by
              generalize w.getD i 0 = x at g1 hc
              generalize w.getD j 0 = y at g2 hc
              have hc' := ltT_one y x
              rw [decide_eq_false hc] at hc'
              simp [hb, hj, g1, g2, hc']
            by_cases he : w.getD i 0 < w.getD j 0
            · refine ⟨_, .nx, [.im (.str w), .ow fd, .im (.int (b : Int)), .im (.int (b : Int)), .im (.int ((j + 1 : Nat) : Int))], tst, ?_, _, ?_, b, j + 1, dv_lt d hj he, rfl, rfl⟩
              · generalize w.getD i 0 = x at g1 he
                generalize w.getD j 0 = y at g2 he
                have hc' := ltT_one x y
                rw [decide_eq_true he] at hc'
                simp [bk_lyndon_parts_0, st_lyndon_parts_0, st_lyndon_parts_1, hb, g1, g2, hc']
              · omega
            · refine ⟨_, .nx, [.im (.str w), .ow fd, .im (.int (b : Int)), .im (.int ((i + 1 : Nat) : Int)), .im (.int ((j + 1 : Nat) : Int))], tst, ?_, _, ?_, i + 1, j + 1, dv_eq d hj (by omega), rfl, rfl⟩
              · generalize w.getD i 0 = x at g1 he
                generalize w.getD j 0 = y at g2 he
                have hc' := ltT_one x y
                rw [decide_eq_false he] at hc'
                simp [bk_lyndon_parts_0, st_lyndon_parts_0, st_lyndon_parts_1, hb, g1, g2, hc']
              · omega
        · left
          refine ⟨_, ?_, i, j, d, .inl (by omega), rfl⟩
          simp [hb, hj]) fuel (w.length - j) _ (by unfold fuel; omega) ⟨i, j, d, rfl, rfl⟩
    rcases this with ⟨e, h1, i', j', d', q, rfl⟩ | ⟨_, _, _, h⟩
    · exact ⟨i', j', d', q, h1⟩
    · exact h.elim
  -- the second inner loop
  have in2 : ∀ (b : Nat) (fd : List Tx) (i j : Nat), Dv w b i j → (j = w.length ∨ w.getD j 0 < w.getD i 0) → Sofar w b fd → fd.length ≤ b → ∃ (b' : Nat) (fd' : List Tx), b < b' ∧ b' ≤ w.length ∧ Sofar w b' fd' ∧ fd'.length ≤ b' ∧
      st_lyndon_parts_6 [.im (.str w), .ow (.lst (fd.map D.str)), .im (.int (b : Int)), .im (.int (i : Int)), .im (.int (j : Int))] = some (.nx, [.im (.str w), .ow (.lst (fd'.map D.str)), .im (.int (b' : Int)), .im (.int (i : Int)), .im (.int (j : Int))]) := fun b fd i j d hz hs hf => by
    have := whileF_ind (t := bE (eOp fLe (pV 2) (pV 3))) (f := bk_lyndon_parts_1)
      (fun k env => ∃ (b' : Nat) (fd' : List Tx), b ≤ b' ∧ b' ≤ j ∧ (b' ≤ i → Dv w b' i j) ∧ (i < b' → b < b') ∧ Sofar w b' fd' ∧ fd'.length ≤ b' ∧ k = j - b' ∧ env = [.im (.str w), .ow (.lst (fd'.map D.str)), .im (.int (b' : Int)), .im (.int (i : Int)), .im (.int (j : Int))])
      (fun env => ∃ (b' : Nat) (fd' : List Tx), b < b' ∧ b' ≤ w.length ∧ Sofar w b' fd' ∧ fd'.length ≤ b' ∧ env = [.im (.str w), .ow (.lst (fd'.map D.str)), .im (.int (b' : Int)), .im (.int (i : Int)), .im (.int (j : Int))])
      (fun _ _ => False) (fun k env hp => by
        obtain ⟨b', fd', p1, p2, p3, p4, p5, p6, rfl, rfl⟩ := hp
        have jn := d.jn
        have ij := d.ij
        by_cases hc : b' ≤ i
        · right
          have d' := p3 hc
          have big := dv_big d' hz
          have cm := cut_mid w b' (b' + j - i)
          rw [show ((b' + j - i : Nat) : Int) = (b' : Int) + (j : Int) - (i : Int) by omega, show b' + j - i - b' = j - i by omega] at cm
          refine ⟨[.im (.str w), .ow (.lst (fd'.map D.str)), .im (.int (b' : Int)), .im (.int (i : Int)), .im (.int (j : Int))], .nx, [.im (.str w), .ow (.lst ((fd' ++ [(w.drop b').take (j - i)]).map D.str)), .im (.int ((b' + (j - i) : Nat) : Int)), .im (.int (i : Int)), .im (.int (j : Int))], by simp [hc], ?_, _, ?_, b' + (j - i), fd' ++ [(w.drop b').take (j - i)], by omega, ?_, fun h => dv_next d' h, fun _ => by omega, sofar_step p5 (by omega) big, by simp; omega, rfl, rfl⟩
          · have e : (b' : Int) + ((j : Int) - (i : Int)) = ((b' + (j - i) : Nat) : Int) := by omega
            have hfl : fd'.length < SL := by omega
            simp [bk_lyndon_parts_1, st_lyndon_parts_2, st_lyndon_parts_3, hb, cm, hfl]
            try omega
          · omega
          · have := d'.bi; omega
        · left
          exact ⟨[.im (.str w), .ow (.lst (fd'.map D.str)), .im (.int (b' : Int)), .im (.int (i : Int)), .im (.int (j : Int))], by simp [hc], b', fd', p4 (by omega), by omega, p5, p6, rfl⟩) fuel (j - b) _ (by have := d.jn; unfold fuel; omega) ⟨b, fd, Nat.le_refl _, by have := d.bi; have := d.ij; omega, fun _ => d, fun h => by have := d.bi; omega, hs, hf, rfl, rfl⟩
    rcases this with ⟨e, h1, b', fd', q1, q2, q3, q4, rfl⟩ | ⟨_, _, _, h⟩
    · exact ⟨b', fd', q1, q2, q3, q4, h1⟩
    · exact h.elim
  -- the outer loop
  have out := whileF_ind (t := bE (eOp fLt (pV 2) (pE (eCall fLen (aCons (pV 0) aNil))))) (f := bk_lyndon_parts_2)
    (fun k env => ∃ (b : Nat) (fd : List Tx) (c3 c4 : C), b ≤ w.length ∧ Sofar w b fd ∧ fd.length ≤ b ∧ k = w.length - b ∧ c3.free = true ∧ c4.free = true ∧ env = [.im (.str w), .ow (.lst (fd.map D.str)), .im (.int (b : Int)), c3, c4])
    (fun env => ∃ (fd : List Tx) (c2 c3 c4 : C), LP w fd ∧ env = [.im (.str w), .ow (.lst (fd.map D.str)), c2, c3, c4])
    (fun _ _ => False) (fun k env hp => by
      obtain ⟨b, fd, c3, c4, p1, p2, p3, rfl, p4, p5, rfl⟩ := hp
      by_cases hc : b < w.length
      · right
        obtain ⟨i, j, d, hz, w1⟩ := in1 b (.lst (fd.map D.str)) b (b + 1) (dv_start hc)
        obtain ⟨b', fd', q1, q2, q3, q4, w2⟩ := in2 b fd i j d hz p2 p3
        refine ⟨[.im (.str w), .ow (.lst (fd.map D.str)), .im (.int (b : Int)), c3, c4], .nx, [.im (.str w), .ow (.lst (fd'.map D.str)), .im (.int (b' : Int)), .im (.int (i : Int)), .im (.int (j : Int))], by simp [hb, hc], ?_, _, ?_, b', fd', _, _, q2, q3, q4, rfl, rfl, rfl, rfl⟩
        · refine seq_nx (e1 := [.im (.str w), .ow (.lst (fd.map D.str)), .im (.int (b : Int)), .im (.int (b : Int)), .im (.int ((b + 1 : Nat) : Int))]) ?_ (seq_nx w1 (seq_nx w2 rfl))
          simp [st_lyndon_parts_4, p4, p5]
        · omega
      · left
        obtain rfl : b = w.length := by omega
        refine ⟨[.im (.str w), .ow (.lst (fd.map D.str)), .im (.int (w.length : Int)), c3, c4], by simp [hb], fd, _, _, _, ?_, rfl⟩
        have := p2 [] (by rw [List.drop_of_length_le (Nat.le_refl _)]; exact .nil)
        rw [List.append_nil] at this
        exact this) fuel w.length [.im (.str w), .ow (.lst []), .im (.int 0), .un, .un] (by unfold fuel; omega) ⟨0, [], _, _, by omega, fun L h => h, by simp, rfl, rfl, rfl, rfl⟩
  rcases out with ⟨e, h1, fd, c2, c3, c4, h2, rfl⟩ | ⟨_, _, _, h⟩
  · refine ⟨fd, ?_, h2⟩
    refine run_rt (seq_nx (e1 := [.im (.str w), .ow (.lst []), .un, .un, .un]) ?_ (seq_nx (e1 := [.im (.str w), .ow (.lst []), .im (.int 0), .un, .un]) ?_ (seq_nx (e1 := [.im (.str w), .ow (.lst (fd.map D.str)), c2, c3, c4]) ?_ (seq_rt (e1 := [.im (.str w), .ow (.lst (fd.map D.str)), c2, c3, c4]) ?_)))) rfl
    · simp [st_lyndon_parts_7]
    · simp [st_lyndon_parts_8]
    · exact h1
    · simp [st_lyndon_parts_10]
  · exact h.elim
end signworth_k20_turning
namespace signworth_k20_turning
open PySem PySem.Spec PyProof.Rows L2 MP
/-! ### the law's parts -/
theorem e_islyn (w : Tx) (hl : w.length ≤ 1000) : fn_law_is_lyndon [.im (.str w)] = some (.im (.bl (isLynB w)), [.im (.str w)]) := by
  have hb : w.length ≤ SL := by unfold SL; omega
  have hs : small (w.length : Int) = true := small_of (by omega) (by omega)
  have ht : ((w.length : Int) - 1).toNat = w.length - 1 := by omega
  cases h0 : w.isEmpty with
  | true =>
    obtain rfl : w = [] := List.isEmpty_iff.mp h0
    refine run_rt (seq_rt (e1 := [.im (.str []), .un]) ?_) rfl
    simp [st_law_is_lyndon_0, isLynB]
  | false =>
    have hne : (w == []) = false := by
      cases w with
      | nil => cases h0
      | cons _ _ => rfl
    have lc : eLc [1] (iR rng2 (aCons (pE (eC (.int 1))) (aCons (pE (eCall fLen (aCons (pV 0) aNil))) aNil))) (gN 1) bTrue ce_law_is_lyndon_0 [.im (.str w), .un]
        = some (.fr (.lst ((List.range' 1 (w.length - 1)).map fun k => D.bl (decide (w < w.drop k ++ w.take k)))), [.im (.str w), .un]) := by
      refine lc_nats (e := [.im (.str w), .un]) (List.range' 1 (w.length - 1)) (fun k => D.bl (decide (w < w.drop k ++ w.take k))) ?_ (by simp; omega) fun k hk => ?_
      · rw [← rng_one]
        simp [hb, hs, ht]
      · rw [List.mem_range'_1] at hk
        have c1 := cut_to' w k
        have c2 := cut_from w k
        have hh : (w.drop k).length + (w.take k).length ≤ SL := by rw [List.length_drop, List.length_take]; omega
        refine ⟨[.im (.str w), .im (.int (k : Int))], .im (.bl (decide (w < w.drop k ++ w.take k))), [.im (.str w), .im (.int (k : Int))], by simp, ?_, rfl, by simp⟩
        simp only [ce_law_is_lyndon_0]
        generalize w.drop k = a at c2 hh ⊢
        generalize w.take k = b at c1 hh ⊢
        simp [hb, c1, c2, hh, ltT]
    refine run_rt (seq_rt (e1 := [.im (.str w), .un]) ?_) rfl
    unfold isLynB
    simp [st_law_is_lyndon_0, hne, lc, fAll_map, h0]
theorem fMax_nat {l : List Nat} (h : l ≠ []) : ∃ m ∈ l, (∀ y ∈ l, y ≤ m) ∧ fMaxA [.lst (l.map nI)] = some (.im (nI m)) := by
  cases l with
  | nil => exact absurd rfl h
  | cons x r =>
    have e : (x :: r).map nI = ((x :: r).map fun i : Nat => (i : Int)).map D.int := by rw [List.map_map]; rfl
    obtain ⟨h1, h2⟩ := foldl_max (r.map fun i : Nat => (i : Int)) (x : Int)
    obtain ⟨m, hm, hm2⟩ := List.mem_map.mp (show _ ∈ (x :: r).map fun i : Nat => (i : Int) from h1)
    refine ⟨m, hm, fun y hy => ?_, ?_⟩
    · have := h2 (y : Int) (List.mem_map.mpr ⟨y, hy, rfl⟩)
      rw [← hm2] at this
      omega
    · have q : fMax1 [.lst ((x :: r).map nI)] = some (.im (nI m)) := by
        rw [e]
        unfold fMax1 fIntsL
        simp only [intsL_map]
        show (match (maxI ((x : Int) :: r.map fun i : Nat => (i : Int))).map D.int with | some d => some (R.im d) | none => none) = _
        show (match (some ((r.map fun i : Nat => (i : Int)).foldl max (x : Int))).map D.int with | some d => some (R.im d) | none => none) = _
        rw [← hm2]
        rfl
      show (match fMax1 [.lst ((x :: r).map nI)] with | some r => some r | none => fMaxG [.lst ((x :: r).map nI)]) = _
      rw [q]
theorem e_lparts (w : Tx) (hl : w.length ≤ 1000) : ∃ L : List Tx, fn_law_parts [.im (.str w)] = some (.im (.tup (L.map D.str)), [.im (.str w)]) ∧ LP w L := by
  have hb : w.length ≤ SL := by unfold SL; omega
  have hs : small (w.length : Int) = true := small_of (by omega) (by omega)
  have hSL : 1000 ≤ SL := by unfold SL; omega
  have lp := forF_ind (g := gN 2) (f := bk_law_parts_1)
    (fun t env => ∃ (b : Nat) (fd : List Tx) (c2 c3 : C), t ≤ b ∧ b ≤ w.length ∧ Sofar w b fd ∧ fd.length ≤ b ∧ c2.free = true ∧ c3.free = true ∧ env = [.im (.str (w.drop b)), .ow (.lst (fd.map D.str)), c2, c3, .un])
    (fun env => ∃ (fd : List Tx) (c2 c3 : C), LP w fd ∧ env = [.im (.str []), .ow (.lst (fd.map D.str)), c2, c3, .un])
    (fun _ _ => False) ((List.range w.length).map nI) 0 [.im (.str w), .ow (.lst []), .un, .un, .un] ⟨0, [], .un, .un, by omega, by omega, fun L h => h, by simp, rfl, rfl, rfl⟩ fun t d env ht hp => by
      obtain ⟨b, fd, c2, c3, p1, p2, p3, p4, p5, p6, rfl⟩ := hp
      rw [List.getElem?_map] at ht
      obtain ⟨t', ht1, ht2⟩ : ∃ t', (List.range w.length)[t]? = some t' ∧ d = nI t' := by
        cases hq : (List.range w.length)[t]? with
        | none => rw [hq] at ht; cases ht
        | some t' => rw [hq] at ht; cases ht; exact ⟨t', rfl, rfl⟩
      subst ht2
      by_cases hc : b < w.length
      · -- a part
        generalize hsd : w.drop b = s at *
        have hsl : s.length = w.length - b := by rw [← hsd, List.length_drop]
        have hsb : s.length ≤ SL := by omega
        have hsne : (s == []) = false := by
          cases s with
          | nil => simp at hsl; omega
          | cons _ _ => rfl
        have hs2 : small ((s.length : Int) + 1) = true := small_of (by omega) (by omega)
        have ht2 : ((s.length : Int) + 1 - 1).toNat = s.length := by omega
        have lc : ∀ c2 c3 : C, eLc [4] (iR rng2 (aCons (pE (eC (.int 1))) (aCons (pE (eOp fAdd (pE (eCall fLen (aCons (pV 0) aNil))) (pE (eC (.int 1))))) aNil))) (gN 4) ct_law_parts_0 ce_law_parts_0 [.im (.str s), .ow (.lst (fd.map D.str)), c2, c3, .un]
            = some (.fr (.lst (((List.range' 1 s.length).filter fun k => isLynB (s.take k)).map nI)), [.im (.str s), .ow (.lst (fd.map D.str)), c2, c3, .un]) := fun c2 c3 => by
          refine lc_natsF (e := [.im (.str s), .ow (.lst (fd.map D.str)), c2, c3, .un]) (List.range' 1 s.length) (fun k => isLynB (s.take k)) nI ?_ (by simp; exact hsb) fun k hk => ?_
          · rw [← rng_one]
            simp [hsb, hs2, ht2]
          · rw [List.mem_range'_1] at hk
            have c1 := cut_to' s k
            have il := e_islyn (s.take k) (by rw [List.length_take]; omega)
            refine ⟨[.im (.str s), .ow (.lst (fd.map D.str)), c2, c3, .im (.int (k : Int))], [.im (.str s), .ow (.lst (fd.map D.str)), c2, c3, .im (.int (k : Int))], by simp, ?_, by simp, fun _ => ⟨.im (.int (k : Int)), [.im (.str s), .ow (.lst (fd.map D.str)), c2, c3, .im (.int (k : Int))], by simp [ce_law_parts_0], rfl, by simp⟩⟩
            simp only [ct_law_parts_0]
            generalize s.take k = a at c1 il ⊢
            simp [hsb, c1, il]
        have hne : ((List.range' 1 s.length).filter fun k => isLynB (s.take k)) ≠ [] := by
          have : 1 ∈ (List.range' 1 s.length).filter fun k => isLynB (s.take k) := by
            rw [List.mem_filter, List.mem_range'_1]
            refine ⟨by omega, ?_⟩
            show isLynB (s.take 1) = true
            rw [isLynB_take s 1 (by omega)]
            exact lyn_one.r
          exact List.ne_nil_of_mem this
        obtain ⟨m, m1, m2, m3⟩ := fMax_nat hne
        rw [List.mem_filter, List.mem_range'_1] at m1
        have big : Big (lt (w.drop b)) (w.drop b).length m := by
          rw [hsd]
          refine ⟨by omega, (isLynB_take s m (by omega)).mp m1.2, fun j j1 j2 hj => ?_⟩
          have := m2 j (by
            rw [List.mem_filter, List.mem_range'_1]
            exact ⟨by omega, (isLynB_take s j j2).mpr hj⟩)
          omega
        have c1 := cut_to' s m
        have c2' := cut_from s m
        have hfl : fd.length < SL := by omega
        refine ⟨[.im (.str s), .ow (.lst (fd.map D.str)), .im (.int (t' : Int)), c3, .un], .nx, [.im (.str (w.drop (b + m))), .ow (.lst ((fd ++ [s.take m]).map D.str)), .im (.int (t' : Int)), .im (.int (m : Int)), .un], by simp [p5, nI], ?_, b + m, fd ++ [s.take m], _, _, by omega, by omega, by have := sofar_step p3 hc big; rw [hsd] at this; exact this, by simp; omega, rfl, rfl, rfl⟩
        refine seq_nx (e1 := [.im (.str s), .ow (.lst (fd.map D.str)), .im (.int (t' : Int)), c3, .un]) (if_ff (e1 := [.im (.str s), .ow (.lst (fd.map D.str)), .im (.int (t' : Int)), c3, .un]) ?_ rfl) (seq_nx (e1 := [.im (.str s), .ow (.lst (fd.map D.str)), .im (.int (t' : Int)), .im (.int (m : Int)), .un]) ?_ (seq_nx (e1 := [.im (.str s), .ow (.lst ((fd ++ [s.take m]).map D.str)), .im (.int (t' : Int)), .im (.int (m : Int)), .un]) ?_ (seq_nx (e1 := [.im (.str (s.drop m)), .ow (.lst ((fd ++ [s.take m]).map D.str)), .im (.int (t' : Int)), .im (.int (m : Int)), .un]) ?_ ?_)))
        · simp [hsne]
        · simp [st_law_parts_2, lc, m3, nI, p6]
        · generalize s.take m = a at c1 ⊢
          simp [st_law_parts_3, hsb, c1, hfl]
        · simp [st_law_parts_4, hsb, c2']
        · rw [← hsd, List.drop_drop]
          rfl
      · obtain rfl : b = w.length := by omega
        have hd : w.drop w.length = [] := List.drop_of_length_le (Nat.le_refl _)
        rw [hd]
        refine ⟨[.im (.str []), .ow (.lst (fd.map D.str)), .im (.int (t' : Int)), c3, .un], .bk, [.im (.str []), .ow (.lst (fd.map D.str)), .im (.int (t' : Int)), c3, .un], by simp [p5, nI], ?_, fd, _, _, ?_, rfl⟩
        · show sSeq st_law_parts_1 _ _ = _
          rw [x_sSeq, show st_law_parts_1 [.im (.str []), .ow (.lst (fd.map D.str)), .im (.int (t' : Int)), c3, .un] = some (.bk, [.im (.str []), .ow (.lst (fd.map D.str)), .im (.int (t' : Int)), c3, .un]) from by
            refine if_tt (e1 := [.im (.str []), .ow (.lst (fd.map D.str)), .im (.int (t' : Int)), c3, .un]) (by simp) ?_
            simp [bk_law_parts_0, st_law_parts_0]]
        · have := p3 [] (by rw [hd]; exact .nil)
          rw [List.append_nil] at this
          exact this
  have fin : ∃ (fd : List Tx) (c0 c2 c3 : C), LP w fd ∧ st_law_parts_6 [.im (.str w), .ow (.lst []), .un, .un, .un] = some (.nx, [c0, .ow (.lst (fd.map D.str)), c2, c3, .un]) := by
    have hst : st_law_parts_6 [.im (.str w), .ow (.lst []), .un, .un, .un] = forF (gN 2) bk_law_parts_1 ((List.range w.length).map nI) [.im (.str w), .ow (.lst []), .un, .un, .un] := by
      rw [← rng_range]
      simp [st_law_parts_6, hb, hs]
    rw [hst]
    rcases lp with ⟨e, h1, h2⟩ | ⟨_, _, _, h⟩
    · rcases h2 with ⟨b, fd, c2, c3, p1, p2, p3, p4, p5, p6, rfl⟩ | ⟨fd, c2, c3, q, rfl⟩
      · simp at p1
        obtain rfl : b = w.length := by omega
        refine ⟨fd, _, c2, c3, ?_, h1⟩
        have := p3 [] (by rw [List.drop_of_length_le (Nat.le_refl _)]; exact .nil)
        rw [List.append_nil] at this
        exact this
      · exact ⟨fd, _, c2, c3, q, h1⟩
    · exact h.elim
  obtain ⟨fd, c0, c2, c3, hLP, h6⟩ := fin
  refine ⟨fd, ?_, hLP⟩
  refine run_rt (seq_nx (e1 := [.im (.str w), .ow (.lst []), .un, .un, .un]) ?_ (seq_nx h6 (seq_rt (e1 := [c0, .ow (.lst (fd.map D.str)), c2, c3, .un]) ?_))) rfl
  · simp [st_law_parts_5]
  · simp [st_law_parts_7]
theorem lp_len {w : Tx} {L : List Tx} (h : LP w L) : L.length ≤ w.length ∧ ∀ x ∈ L, x.length ≤ w.length ∧ ∀ c ∈ x, c ∈ w := by
  induction h with
  | nil => exact ⟨Nat.le_refl _, fun _ h => (nomatch h)⟩
  | cons hw hb _ ih =>
    rename_i w k L _
    have h1 := hb.1
    have h2 := hb.2.1.1
    refine ⟨?_, fun x hx => ?_⟩
    · have := ih.1
      rw [List.length_drop] at this
      rw [List.length_cons]
      omega
    · rcases List.mem_cons.mp hx with rfl | hx
      · exact ⟨by rw [List.length_take]; omega, fun c hc => List.mem_of_mem_take hc⟩
      · obtain ⟨q1, q2⟩ := ih.2 x hx
        rw [List.length_drop] at q1
        exact ⟨by omega, fun c hc => List.mem_of_mem_drop (q2 c hc)⟩
end signworth_k20_turning
namespace signworth_k20_turning
open PySem PySem.Spec PyProof.Rows L2 MP
/-! ### shared periods: the plain rows -/
def mn (h : List Nat) (k s : Nat) : Nat := if h.getD (k + s) 0 < h.getD k 0 then h.getD (k + s) 0 else h.getD k 0
def up (h : List Nat) (k s : Nat) : List Nat := (h.set k (mn h k s)).set (k + s) (mn h k s)
def stepL (n s : Nat) (h : List Nat) (k : Nat) : List Nat := if k + s < n then up h k s else h
def passL (p q n : Nat) (h : List Nat) : List Nat := (List.range n).foldl (fun h k => stepL n q (stepL n p h k) k) h
def passP (p q n : Nat) (h : List Nat) : List Nat := (List.range (n - q)).foldl (fun h k => up h k q) ((List.range (n - p)).foldl (fun h k => up h k p) h)
def itr (f : List Nat → List Nat) : Nat → List Nat → List Nat
  | 0, h => h
  | t + 1, h => itr f t (f h)
def fixL (f : List Nat → List Nat) : Nat → List Nat → Option (List Nat)
  | 0, _ => none
  | m + 1, h => txN (f h) fun h' => if h' == h then some h else fixL f m h'
theorem fixL_ok {f : List Nat → List Nat} : ∀ {m : Nat} {h H : List Nat}, fixL f m h = some H → f H = H ∧ ∃ t, t < m ∧ itr f t h = H
  | 0, _, _, e => by cases e
  | m + 1, h, H, e => by
    rw [fixL, txN_eq] at e
    split at e
    · rename_i c
      cases e
      exact ⟨by simpa using c, 0, by omega, rfl⟩
    · obtain ⟨h1, t, h2, h3⟩ := fixL_ok e
      exact ⟨h1, t + 1, by omega, h3⟩
theorem itr_fix {f : List Nat → List Nat} {H : List Nat} (h : f H = H) : ∀ t, itr f t H = H
  | 0 => rfl
  | t + 1 => by rw [itr, h, itr_fix h t]
theorem itr_add (f : List Nat → List Nat) : ∀ (a b : Nat) (h : List Nat), itr f (a + b) h = itr f b (itr f a h)
  | 0, b, h => by rw [Nat.zero_add]; rfl
  | a + 1, b, h => by rw [show a + 1 + b = (a + b) + 1 by omega, itr, itr_add f a b]; rfl
theorem fix_uniq {f : List Nat → List Nat} {h0 h H : List Nat} {s t : Nat} (h1 : itr f s h0 = h) (h2 : f h = h) (h3 : itr f t h0 = H) (h4 : f H = H) : h = H := by
  rcases Nat.le_total s t with c | c
  · obtain ⟨d, rfl⟩ := Nat.exists_eq_add_of_le c
    rw [itr_add, h1, itr_fix h2] at h3
    exact h3
  · obtain ⟨d, rfl⟩ := Nat.exists_eq_add_of_le c
    rw [itr_add, h3, itr_fix h4] at h1
    exact h1.symm
def nn (p q : Nat) : Nat := p + q - Nat.gcd p q - 1
def stab (s n : Nat) (h : List Nat) : Bool := (List.range (n - s)).all fun k => h.getD k 0 == h.getD (k + s) 0
def chk (p q : Nat) : Bool := match fixL (passL p q (nn p q)) (nn p q + 1) (List.range (nn p q)), fixL (passP p q (nn p q)) 100 (List.range (nn p q)) with
  | some a, some b => a == b && stab p (nn p q) b && stab q (nn p q) b
  | _, _ => false
theorem chk_all : ((List.range' 2 9).all fun p => (List.range' 2 9).all fun q => p % q == 0 || (q % p == 0 || chk p q)) = true := by decide +kernel
end signworth_k20_turning
namespace signworth_k20_turning
open PySem PySem.Spec PyProof.Rows L2 MP
/-! ### the greatest common divisor -/
theorem e_gcd (p q : Nat) (hq : q ≤ 100000) : fn_common_divisor [.im (.int (p : Int)), .im (.int (q : Int))] = some (.im (.int (Nat.gcd p q : Nat)), [.im (.int (p : Int)), .im (.int (q : Int))]) := by
  have lp := whileF_ind (t := bE (eOp fNe (pV 1) (pE (eC (.int 0))))) (f := bk_common_divisor_0)
    (fun k env => ∃ a b : Nat, k = b ∧ Nat.gcd a b = Nat.gcd p q ∧ env = [.im (.int (a : Int)), .im (.int (b : Int))])
    (fun env => env = [.im (.int (Nat.gcd p q : Nat)), .im (.int 0)]) (fun _ _ => False) (fun k env hp => by
      obtain ⟨a, b, rfl, hg, rfl⟩ := hp
      by_cases hb : k = 0
      · subst hb
        left
        rw [Nat.gcd_zero_right] at hg
        exact ⟨_, by simp; rfl, by rw [hg]⟩
      · right
        have hb' : ((k : Int) == 0) = false := by simpa using hb
        have h0 : 0 < k := by omega
        refine ⟨[.im (.int (a : Int)), .im (.int (k : Int))], .nx, [.im (.int (k : Int)), .im (.int ((a % k : Nat) : Int))], by simp [hb'], by simp [bk_common_divisor_0, st_common_divisor_0, h0], a % k, Nat.mod_lt _ h0, k, a % k, rfl, ?_, rfl⟩
        rw [← hg, Nat.gcd_comm k, ← Nat.gcd_rec, Nat.gcd_comm]) fuel q [.im (.int (p : Int)), .im (.int (q : Int))] (by unfold fuel; omega) ⟨p, q, rfl, rfl, rfl⟩
  rcases lp with ⟨e, h1, rfl⟩ | ⟨_, _, _, h⟩
  · refine run_rt (seq_nx (e1 := [.im (.int (p : Int)), .im (.int (q : Int))]) ?_ (seq_nx (e1 := [.im (.int (Nat.gcd p q : Nat)), .im (.int 0)]) h1 (seq_rt (e1 := [.im (.int (Nat.gcd p q : Nat)), .im (.int 0)]) ?_))) rfl
    · have a1 : ¬ (p : Int) < 0 := by omega
      have a2 : ¬ (q : Int) < 0 := by omega
      simp [st_common_divisor_1, a1, a2]
    · simp [st_common_divisor_3]
  · exact h.elim
theorem e_lgcd (p q : Nat) (hq : q ≤ 99) : ∃ t : Int, st_law_shared_12 [.im (.int (p : Int)), .im (.int (q : Int)), .im (.int (p : Int)), .im (.int (q : Int)), .un, .un, .un, .un, .un, .un, .un, .un] = some (.nx, [.im (.int (p : Int)), .im (.int (q : Int)), .im (.int (Nat.gcd p q : Nat)), .im (.int 0), .im (.int t), .un, .un, .un, .un, .un, .un, .un]) := by
  have lp := forF_ind (g := gN 4) (f := bk_law_shared_1)
    (fun j env => ∃ (a b : Nat) (c : C), b + j ≤ q ∧ Nat.gcd a b = Nat.gcd p q ∧ c.free = true ∧ env = [.im (.int (p : Int)), .im (.int (q : Int)), .im (.int (a : Int)), .im (.int (b : Int)), c, .un, .un, .un, .un, .un, .un, .un])
    (fun env => ∃ t : Int, env = [.im (.int (p : Int)), .im (.int (q : Int)), .im (.int (Nat.gcd p q : Nat)), .im (.int 0), .im (.int t), .un, .un, .un, .un, .un, .un, .un]) (fun _ _ => False)
    (rng 0 100 1) 0 [.im (.int (p : Int)), .im (.int (q : Int)), .im (.int (p : Int)), .im (.int (q : Int)), .un, .un, .un, .un, .un, .un, .un, .un] ⟨p, q, .un, by omega, rfl, rfl, rfl⟩ fun j d env hj hp => by
      obtain ⟨a, b, c, h1, hg, hc, rfl⟩ := hp
      obtain ⟨hj, rfl⟩ := rngG hj
      by_cases hb : b = 0
      · subst hb
        rw [Nat.gcd_zero_right] at hg
        refine ⟨[.im (.int (p : Int)), .im (.int (q : Int)), .im (.int (a : Int)), .im (.int 0), .im (.int (0 + (j : Int) * 1)), .un, .un, .un, .un, .un, .un, .un], .bk, [.im (.int (p : Int)), .im (.int (q : Int)), .im (.int (a : Int)), .im (.int 0), .im (.int (0 + (j : Int) * 1)), .un, .un, .un, .un, .un, .un, .un], by simp [hc], ?_, _, by rw [hg]⟩
        simp [bk_law_shared_1, st_law_shared_1, bk_law_shared_0, st_law_shared_0]
      · have hb' : ((b : Int) == 0) = false := by simpa using hb
        have h0 : 0 < b := by omega
        refine ⟨[.im (.int (p : Int)), .im (.int (q : Int)), .im (.int (a : Int)), .im (.int (b : Int)), .im (.int (0 + (j : Int) * 1)), .un, .un, .un, .un, .un, .un, .un], .nx, [.im (.int (p : Int)), .im (.int (q : Int)), .im (.int (b : Int)), .im (.int ((a % b : Nat) : Int)), .im (.int (0 + (j : Int) * 1)), .un, .un, .un, .un, .un, .un, .un], by simp [hc], by simp [bk_law_shared_1, st_law_shared_1, st_law_shared_2, hb', h0], b, a % b, _, ?_, ?_, rfl, rfl⟩
        · have := Nat.mod_lt a h0; omega
        · rw [← hg, Nat.gcd_comm b, ← Nat.gcd_rec, Nat.gcd_comm]
  rcases lp with ⟨e, h1, h2⟩ | ⟨_, _, _, h⟩
  · rcases h2 with ⟨a, b, c, h2, _⟩ | ⟨t, rfl⟩
    · rw [rngL] at h2; omega
    · refine ⟨t, ?_⟩
      have hs : small 100 = true := small_of (by omega) (by omega)
      rw [← h1]
      simp [st_law_shared_12, hs]
  · exact h.elim
end signworth_k20_turning
namespace signworth_k20_turning
open PySem PySem.Spec PyProof.Rows L2 MP
/-! ### the law's heads -/
theorem getN {h : List Nat} {k : Nat} (hk : k < h.length) : atI (h.map nI) (k : Int) = some (.int (h.getD k 0 : Nat)) := by
  rw [atI_of_nat, List.getElem?_map, List.getD_eq_getElem?_getD, List.getElem?_eq_getElem hk]
  rfl
theorem up_map (h : List Nat) (k s : Nat) : (up h k s).map nI = ((h.map nI).set k (.int (mn h k s : Nat))).set (k + s) (.int (mn h k s : Nat)) := by
  unfold up
  rw [List.map_set, List.map_set]
  rfl
theorem up_len (h : List Nat) (k s : Nat) : (up h k s).length = h.length := by simp [up]
theorem stepL_len (n s : Nat) (h : List Nat) (k : Nat) : (stepL n s h k).length = h.length := by
  unfold stepL
  split
  · exact up_len _ _ _
  · rfl
theorem itr_succ (f : List Nat → List Nat) (t : Nat) (h : List Nat) : itr f (t + 1) h = f (itr f t h) := by rw [itr_add]; rfl
section
variable (p q g n : Nat) (c4 : C)
theorem ls5 (h : List Nat) (hn : h.length = n) (k s : Nat) (hk : k < n) (c9 : C) (h9 : c9.free = true) : ∃ c9' : C, c9'.free = true ∧ st_law_shared_5 [.im (.int (p : Int)), .im (.int (q : Int)), .im (.int (g : Int)), .im (.int 0), c4, .im (.int (n : Int)), .ow (.lst (h.map nI)), .im (.int (k : Int)), .im (.int (s : Int)), c9, .un, .un] = some (.nx, [.im (.int (p : Int)), .im (.int (q : Int)), .im (.int (g : Int)), .im (.int 0), c4, .im (.int (n : Int)), .ow (.lst ((stepL n s h k).map nI)), .im (.int (k : Int)), .im (.int (s : Int)), c9', .un, .un]) := by
  by_cases hc : k + s < n
  · have g1 := getN (h := h) (k := k) (by omega)
    have g2 := getN (h := h) (k := k + s) (by omega)
    rw [Int.natCast_add] at g2
    have i1 : ixN h.length (k : Int) = some k := by rw [ixN_nat, if_pos (by omega)]
    have i2 : ixN h.length ((k : Int) + (s : Int)) = some (k + s) := by rw [← Int.natCast_add, ixN_nat, if_pos (by omega)]
    have h2 : 2 ≤ SL := by decide
    have fm : fMin2 [.int ((h.getD k 0 : Nat) : Int), .int ((h.getD (k + s) 0 : Nat) : Int)] = some (.im (.int ((mn h k s : Nat) : Int))) := by
      show some (R.im (.int (if ((h.getD (k + s) 0 : Nat) : Int) < ((h.getD k 0 : Nat) : Int) then ((h.getD (k + s) 0 : Nat) : Int) else ((h.getD k 0 : Nat) : Int)))) = _
      unfold mn
      by_cases w : h.getD (k + s) 0 < h.getD k 0
      · rw [if_pos (by omega), if_pos w]
      · rw [if_neg (by omega), if_neg w]
    refine ⟨.im (.int (mn h k s : Nat)), rfl, if_tt (e1 := [.im (.int (p : Int)), .im (.int (q : Int)), .im (.int (g : Int)), .im (.int 0), c4, .im (.int (n : Int)), .ow (.lst (h.map nI)), .im (.int (k : Int)), .im (.int (s : Int)), c9, .un, .un]) ?_ (seq_nx (e1 := [.im (.int (p : Int)), .im (.int (q : Int)), .im (.int (g : Int)), .im (.int 0), c4, .im (.int (n : Int)), .ow (.lst (h.map nI)), .im (.int (k : Int)), .im (.int (s : Int)), .im (.int (mn h k s : Nat)), .un, .un]) ?_ (seq_nx (e1 := [.im (.int (p : Int)), .im (.int (q : Int)), .im (.int (g : Int)), .im (.int 0), c4, .im (.int (n : Int)), .ow (.lst ((stepL n s h k).map nI)), .im (.int (k : Int)), .im (.int (s : Int)), .im (.int (mn h k s : Nat)), .un, .un]) ?_ rfl))⟩
    · have hc' : (k : Int) + (s : Int) < (n : Int) := by omega
      simp [hc']
    · generalize h.getD k 0 = a at g1 fm
      generalize h.getD (k + s) 0 = b at g2 fm
      generalize mn h k s = m at fm ⊢
      simp [-y_115, st_law_shared_3, g1, g2, fm, h9]
    · unfold stepL
      rw [if_pos hc, up_map]
      generalize mn h k s = m
      simp [st_law_shared_4, h2, i1, i2]
  · refine ⟨c9, h9, if_ff (e1 := [.im (.int (p : Int)), .im (.int (q : Int)), .im (.int (g : Int)), .im (.int 0), c4, .im (.int (n : Int)), .ow (.lst (h.map nI)), .im (.int (k : Int)), .im (.int (s : Int)), c9, .un, .un]) ?_ ?_⟩
    · have hc' : ¬ (k : Int) + (s : Int) < (n : Int) := by omega
      simp [hc']
    · unfold stepL
      rw [if_neg hc]
      rfl
theorem ls4 (h : List Nat) (hn : h.length = n) (k : Nat) (hk : k < n) (c8 c9 : C) (h8 : c8.free = true) (h9 : c9.free = true) : ∃ c8' c9' : C, c8'.free = true ∧ c9'.free = true ∧ bk_law_shared_4 [.im (.int (p : Int)), .im (.int (q : Int)), .im (.int (g : Int)), .im (.int 0), c4, .im (.int (n : Int)), .ow (.lst (h.map nI)), .im (.int (k : Int)), c8, c9, .un, .un] = some (.nx, [.im (.int (p : Int)), .im (.int (q : Int)), .im (.int (g : Int)), .im (.int 0), c4, .im (.int (n : Int)), .ow (.lst ((stepL n q (stepL n p h k) k).map nI)), .im (.int (k : Int)), c8', c9', .un, .un]) := by
  obtain ⟨x1, x2, x3⟩ := ls5 p q g n c4 h hn k p hk c9 h9
  obtain ⟨z1, z2, z3⟩ := ls5 p q g n c4 (stepL n p h k) (by rw [stepL_len]; exact hn) k q hk x1 x2
  have h2 : 2 ≤ SL := by decide
  have b1 : bk_law_shared_3 [.im (.int (p : Int)), .im (.int (q : Int)), .im (.int (g : Int)), .im (.int 0), c4, .im (.int (n : Int)), .ow (.lst (h.map nI)), .im (.int (k : Int)), .im (.int (p : Int)), c9, .un, .un] = some (.nx, [.im (.int (p : Int)), .im (.int (q : Int)), .im (.int (g : Int)), .im (.int 0), c4, .im (.int (n : Int)), .ow (.lst ((stepL n p h k).map nI)), .im (.int (k : Int)), .im (.int (p : Int)), x1, .un, .un]) := seq_nx x3 rfl
  have b2 : bk_law_shared_3 [.im (.int (p : Int)), .im (.int (q : Int)), .im (.int (g : Int)), .im (.int 0), c4, .im (.int (n : Int)), .ow (.lst ((stepL n p h k).map nI)), .im (.int (k : Int)), .im (.int (q : Int)), x1, .un, .un] = some (.nx, [.im (.int (p : Int)), .im (.int (q : Int)), .im (.int (g : Int)), .im (.int 0), c4, .im (.int (n : Int)), .ow (.lst ((stepL n q (stepL n p h k) k).map nI)), .im (.int (k : Int)), .im (.int (q : Int)), z1, .un, .un]) := seq_nx z3 rfl
  refine ⟨_, _, rfl, z2, seq_nx (e1 := [.im (.int (p : Int)), .im (.int (q : Int)), .im (.int (g : Int)), .im (.int 0), c4, .im (.int (n : Int)), .ow (.lst ((stepL n q (stepL n p h k) k).map nI)), .im (.int (k : Int)), .im (.int (q : Int)), z1, .un, .un]) ?_ rfl⟩
  have : st_law_shared_6 [.im (.int (p : Int)), .im (.int (q : Int)), .im (.int (g : Int)), .im (.int 0), c4, .im (.int (n : Int)), .ow (.lst (h.map nI)), .im (.int (k : Int)), c8, c9, .un, .un] = forF (gN 8) bk_law_shared_3 [.int (p : Int), .int (q : Int)] [.im (.int (p : Int)), .im (.int (q : Int)), .im (.int (g : Int)), .im (.int 0), c4, .im (.int (n : Int)), .ow (.lst (h.map nI)), .im (.int (k : Int)), c8, c9, .un, .un] := by
    simp [st_law_shared_6, h2]
  rw [this, forF, show gN 8 (.int (p : Int)) [.im (.int (p : Int)), .im (.int (q : Int)), .im (.int (g : Int)), .im (.int 0), c4, .im (.int (n : Int)), .ow (.lst (h.map nI)), .im (.int (k : Int)), c8, c9, .un, .un] = some [.im (.int (p : Int)), .im (.int (q : Int)), .im (.int (g : Int)), .im (.int 0), c4, .im (.int (n : Int)), .ow (.lst (h.map nI)), .im (.int (k : Int)), .im (.int (p : Int)), c9, .un, .un] by simp [h8]]
  simp only [b1]
  rw [forF, show gN 8 (.int (q : Int)) [.im (.int (p : Int)), .im (.int (q : Int)), .im (.int (g : Int)), .im (.int 0), c4, .im (.int (n : Int)), .ow (.lst ((stepL n p h k).map nI)), .im (.int (k : Int)), .im (.int (p : Int)), x1, .un, .un] = some [.im (.int (p : Int)), .im (.int (q : Int)), .im (.int (g : Int)), .im (.int 0), c4, .im (.int (n : Int)), .ow (.lst ((stepL n p h k).map nI)), .im (.int (k : Int)), .im (.int (q : Int)), x1, .un, .un] by simp]
  simp only [b2]
  rfl
theorem ls7 (h : List Nat) (hn : h.length = n) (hl : n ≤ 1000) (c7 c8 c9 : C) (h7 : c7.free = true) (h8 : c8.free = true) (h9 : c9.free = true) : ∃ c7' c8' c9' : C, c7'.free = true ∧ c8'.free = true ∧ c9'.free = true ∧ bk_law_shared_5 [.im (.int (p : Int)), .im (.int (q : Int)), .im (.int (g : Int)), .im (.int 0), c4, .im (.int (n : Int)), .ow (.lst (h.map nI)), c7, c8, c9, .un, .un] = some (.nx, [.im (.int (p : Int)), .im (.int (q : Int)), .im (.int (g : Int)), .im (.int 0), c4, .im (.int (n : Int)), .ow (.lst ((passL p q n h).map nI)), c7', c8', c9', .un, .un]) := by
  have hs : small (n : Int) = true := small_of (by omega) (by omega)
  have := forF_nats (g := gN 7) (f := bk_law_shared_4) (fun i env => ∃ c7 c8 c9 : C, ((List.range i).foldl (fun h k => stepL n q (stepL n p h k) k) h).length = n ∧ c7.free = true ∧ c8.free = true ∧ c9.free = true ∧ env = [.im (.int (p : Int)), .im (.int (q : Int)), .im (.int (g : Int)), .im (.int 0), c4, .im (.int (n : Int)), .ow (.lst (((List.range i).foldl (fun h k => stepL n q (stepL n p h k) k) h).map nI)), c7, c8, c9, .un, .un]) n 0 [.im (.int (p : Int)), .im (.int (q : Int)), .im (.int (g : Int)), .im (.int 0), c4, .im (.int (n : Int)), .ow (.lst (h.map nI)), c7, c8, c9, .un, .un] ⟨c7, c8, c9, hn, h7, h8, h9, rfl⟩ fun k env _ hk hp => by
    obtain ⟨c7, c8, c9, hn', h7, h8, h9, rfl⟩ := hp
    generalize hh : (List.range k).foldl (fun h k => stepL n q (stepL n p h k) k) h = h' at *
    obtain ⟨x8, x9, y8, y9, w⟩ := ls4 p q g n c4 h' hn' k (by omega) c8 c9 h8 h9
    refine ⟨[.im (.int (p : Int)), .im (.int (q : Int)), .im (.int (g : Int)), .im (.int 0), c4, .im (.int (n : Int)), .ow (.lst (h'.map nI)), .im (.int (k : Int)), c8, c9, .un, .un], [.im (.int (p : Int)), .im (.int (q : Int)), .im (.int (g : Int)), .im (.int 0), c4, .im (.int (n : Int)), .ow (.lst ((stepL n q (stepL n p h' k) k).map nI)), .im (.int (k : Int)), x8, x9, .un, .un], by simp [h7], w, .im (.int (k : Int)), x8, x9, ?_, rfl, y8, y9, ?_⟩
    · rw [List.range_succ, List.foldl_append, hh]
      show (stepL n q (stepL n p h' k) k).length = n
      rw [stepL_len, stepL_len, hn']
    · rw [List.range_succ, List.foldl_append, hh]
      rfl
  obtain ⟨e, h1, d7, d8, d9, hn', e7, e8, e9, rfl⟩ := this
  refine ⟨d7, d8, d9, e7, e8, e9, seq_nx (e1 := [.im (.int (p : Int)), .im (.int (q : Int)), .im (.int (g : Int)), .im (.int 0), c4, .im (.int (n : Int)), .ow (.lst ((passL p q n h).map nI)), d7, d8, d9, .un, .un]) ?_ rfl⟩
  have hst : st_law_shared_7 [.im (.int (p : Int)), .im (.int (q : Int)), .im (.int (g : Int)), .im (.int 0), c4, .im (.int (n : Int)), .ow (.lst (h.map nI)), c7, c8, c9, .un, .un] = forF (gN 7) bk_law_shared_4 ((List.range' 0 n).map nI) [.im (.int (p : Int)), .im (.int (q : Int)), .im (.int (g : Int)), .im (.int 0), c4, .im (.int (n : Int)), .ow (.lst (h.map nI)), c7, c8, c9, .un, .un] := by
    rw [← List.range_eq_range', ← rng_range]
    simp [st_law_shared_7, hs]
  rw [hst, h1]
  show some (Fl.nx, _) = _
  unfold passL
  rw [Nat.zero_add]
end
theorem passL_len (p q n : Nat) (h : List Nat) : (passL p q n h).length = h.length := by
  unfold passL
  generalize List.range n = l
  induction l generalizing h with
  | nil => rfl
  | cons k l ih => rw [List.foldl_cons, ih, stepL_len, stepL_len]
theorem itr_len (p q n : Nat) : ∀ (t : Nat) (h : List Nat), (itr (passL p q n) t h).length = h.length
  | 0, h => rfl
  | t + 1, h => by rw [itr, itr_len p q n t, passL_len]
theorem ls15 (p q g n : Nat) (hl : n ≤ 1000) (d4 : C) (h4 : d4.free = true) : ∃ c4 c7 c8 c9 : C, c4.free = true ∧ c7.free = true ∧ c8.free = true ∧ c9.free = true ∧ st_law_shared_15 [.im (.int (p : Int)), .im (.int (q : Int)), .im (.int (g : Int)), .im (.int 0), d4, .im (.int (n : Int)), .ow (.lst ((List.range n).map nI)), .un, .un, .un, .un, .un] = some (.nx, [.im (.int (p : Int)), .im (.int (q : Int)), .im (.int (g : Int)), .im (.int 0), c4, .im (.int (n : Int)), .ow (.lst ((itr (passL p q n) n (List.range n)).map nI)), c7, c8, c9, .un, .un]) := by
  have hs : small (n : Int) = true := small_of (by omega) (by omega)
  have := forF_nats (g := gN 4) (f := bk_law_shared_5) (fun i env => ∃ c4 c7 c8 c9 : C, c4.free = true ∧ c7.free = true ∧ c8.free = true ∧ c9.free = true ∧ env = [.im (.int (p : Int)), .im (.int (q : Int)), .im (.int (g : Int)), .im (.int 0), c4, .im (.int (n : Int)), .ow (.lst ((itr (passL p q n) i (List.range n)).map nI)), c7, c8, c9, .un, .un]) n 0 [.im (.int (p : Int)), .im (.int (q : Int)), .im (.int (g : Int)), .im (.int 0), d4, .im (.int (n : Int)), .ow (.lst ((List.range n).map nI)), .un, .un, .un, .un, .un] ⟨d4, .un, .un, .un, h4, rfl, rfl, rfl, rfl⟩ fun t env _ ht hp => by
    obtain ⟨c4, c7, c8, c9, h4, h7, h8, h9, rfl⟩ := hp
    obtain ⟨d7, d8, d9, e7, e8, e9, w⟩ := ls7 p q g n (.im (.int (t : Int))) (itr (passL p q n) t (List.range n)) (by rw [itr_len]; simp) hl c7 c8 c9 h7 h8 h9
    refine ⟨[.im (.int (p : Int)), .im (.int (q : Int)), .im (.int (g : Int)), .im (.int 0), .im (.int (t : Int)), .im (.int (n : Int)), .ow (.lst ((itr (passL p q n) t (List.range n)).map nI)), c7, c8, c9, .un, .un], [.im (.int (p : Int)), .im (.int (q : Int)), .im (.int (g : Int)), .im (.int 0), .im (.int (t : Int)), .im (.int (n : Int)), .ow (.lst ((passL p q n (itr (passL p q n) t (List.range n))).map nI)), d7, d8, d9, .un, .un], by simp [h4], w, .im (.int (t : Int)), d7, d8, d9, rfl, e7, e8, e9, ?_⟩
    rw [itr_succ]
  obtain ⟨e, h1, c4, c7, c8, c9, h4, h7, h8, h9, rfl⟩ := this
  refine ⟨c4, c7, c8, c9, h4, h7, h8, h9, ?_⟩
  have hst : st_law_shared_15 [.im (.int (p : Int)), .im (.int (q : Int)), .im (.int (g : Int)), .im (.int 0), d4, .im (.int (n : Int)), .ow (.lst ((List.range n).map nI)), .un, .un, .un, .un, .un] = forF (gN 4) bk_law_shared_5 ((List.range' 0 n).map nI) [.im (.int (p : Int)), .im (.int (q : Int)), .im (.int (g : Int)), .im (.int 0), d4, .im (.int (n : Int)), .ow (.lst ((List.range n).map nI)), .un, .un, .un, .un, .un] := by
    rw [← List.range_eq_range', ← rng_range]
    simp [st_law_shared_15, hs]
  rw [hst, h1]
  show some (Fl.nx, _) = _
  rw [Nat.zero_add]
end signworth_k20_turning
namespace signworth_k20_turning
open PySem PySem.Spec PyProof.Rows L2 MP
/-! ### the program's names -/
theorem up_same {h : List Nat} {k s : Nat} (hk : k + s < h.length) (h1 : h.getD k 0 = mn h k s) (h2 : h.getD (k + s) 0 = mn h k s) : up h k s = h := by
  have w1 : h[k]? = some (mn h k s) := by
    rw [List.getD_eq_getElem?_getD, List.getElem?_eq_getElem (by omega)] at h1
    rw [List.getElem?_eq_getElem (by omega)]
    exact congrArg some h1
  have w2 : h[k + s]? = some (mn h k s) := by
    rw [List.getD_eq_getElem?_getD, List.getElem?_eq_getElem (by omega)] at h2
    rw [List.getElem?_eq_getElem (by omega)]
    exact congrArg some h2
  unfold up
  generalize mn h k s = m at w1 w2
  apply List.ext_getElem?
  intro j
  rw [List.getElem?_set, List.getElem?_set, List.length_set]
  by_cases c : k + s = j
  · subst c
    rw [if_pos rfl, if_pos hk, w2]
  · rw [if_neg c]
    by_cases c2 : k = j
    · subst c2
      rw [if_pos rfl, if_pos (by omega), w1]
    · rw [if_neg c2]
theorem stab_mn {h : List Nat} {k s : Nat} (e : h.getD k 0 = h.getD (k + s) 0) : h.getD k 0 = mn h k s ∧ h.getD (k + s) 0 = mn h k s := by
  unfold mn
  rw [← e, if_neg (by omega)]
  exact ⟨rfl, rfl⟩
section
variable (p q n : Nat)
theorem ps1 (s : Nat) (h : List Nat) (hn : h.length = n) (k : Nat) (hk : k + s < n) (m : Bool) (c7 : C) (h7 : c7.free = true) : ∃ (m' : Bool) (c7' : C), c7'.free = true ∧ bk_shared_period_1 [.im (.int (p : Int)), .im (.int (q : Int)), .im (.int (n : Int)), .ow (.lst (h.map nI)), .im (.bl m), .im (.int (s : Int)), .im (.int (k : Int)), c7, .un, .un] = some (.nx, [.im (.int (p : Int)), .im (.int (q : Int)), .im (.int (n : Int)), .ow (.lst ((up h k s).map nI)), .im (.bl m'), .im (.int (s : Int)), .im (.int (k : Int)), c7', .un, .un]) ∧
    (m' = false → m = false ∧ up h k s = h) ∧ (h.getD k 0 = h.getD (k + s) 0 → m' = m ∧ up h k s = h) := by
  have g1 := getN (h := h) (k := k) (by omega)
  have g2 := getN (h := h) (k := k + s) (by omega)
  rw [Int.natCast_add] at g2
  have i1 : ixN h.length (k : Int) = some k := by rw [ixN_nat, if_pos (by omega)]
  have i2 : ixN h.length ((k : Int) + (s : Int)) = some (k + s) := by rw [← Int.natCast_add, ixN_nat, if_pos (by omega)]
  have h2 : 2 ≤ SL := by decide
  have fm : fMin2 [.int ((h.getD k 0 : Nat) : Int), .int ((h.getD (k + s) 0 : Nat) : Int)] = some (.im (.int ((mn h k s : Nat) : Int))) := by
    show some (R.im (.int (if ((h.getD (k + s) 0 : Nat) : Int) < ((h.getD k 0 : Nat) : Int) then ((h.getD (k + s) 0 : Nat) : Int) else ((h.getD k 0 : Nat) : Int)))) = _
    unfold mn
    by_cases w : h.getD (k + s) 0 < h.getD k 0
    · rw [if_pos (by omega), if_pos w]
    · rw [if_neg (by omega), if_neg w]
  have s2 : st_shared_period_2 [.im (.int (p : Int)), .im (.int (q : Int)), .im (.int (n : Int)), .ow (.lst (h.map nI)), .im (.bl m), .im (.int (s : Int)), .im (.int (k : Int)), c7, .un, .un] = some (.nx, [.im (.int (p : Int)), .im (.int (q : Int)), .im (.int (n : Int)), .ow (.lst (h.map nI)), .im (.bl m), .im (.int (s : Int)), .im (.int (k : Int)), .im (.int (mn h k s : Nat)), .un, .un]) := by
    generalize h.getD k 0 = a at g1 fm
    generalize h.getD (k + s) 0 = b at g2 fm
    generalize mn h k s = m at fm ⊢
    simp [-y_115, st_shared_period_2, g1, g2, fm, h7]
  by_cases hc : h.getD k 0 = mn h k s ∧ h.getD (k + s) 0 = mn h k s
  · have us := up_same (h := h) (k := k) (s := s) (by omega) hc.1 hc.2
    refine ⟨m, .im (.int (mn h k s : Nat)), rfl, seq_nx s2 (seq_nx (e1 := [.im (.int (p : Int)), .im (.int (q : Int)), .im (.int (n : Int)), .ow (.lst (h.map nI)), .im (.bl m), .im (.int (s : Int)), .im (.int (k : Int)), .im (.int (mn h k s : Nat)), .un, .un]) ?_ ?_), fun e => ⟨e, us⟩, fun _ => ⟨rfl, us⟩⟩
    · refine if_ff (e1 := [.im (.int (p : Int)), .im (.int (q : Int)), .im (.int (n : Int)), .ow (.lst (h.map nI)), .im (.bl m), .im (.int (s : Int)), .im (.int (k : Int)), .im (.int (mn h k s : Nat)), .un, .un]) ?_ rfl
      have e1 : (((h.getD k 0 : Nat) : Int) == ((mn h k s : Nat) : Int)) = true := by rw [hc.1]; simp
      have e2 : (((h.getD (k + s) 0 : Nat) : Int) == ((mn h k s : Nat) : Int)) = true := by rw [hc.2]; simp
      generalize h.getD k 0 = a at g1 e1
      generalize h.getD (k + s) 0 = b at g2 e2
      generalize mn h k s = m at e1 e2 ⊢
      simp [g1, g2, e1, e2]
    · rw [us]
      rfl
  · refine ⟨true, .im (.int (mn h k s : Nat)), rfl, seq_nx s2 (seq_nx (e1 := [.im (.int (p : Int)), .im (.int (q : Int)), .im (.int (n : Int)), .ow (.lst ((up h k s).map nI)), .im (.bl true), .im (.int (s : Int)), .im (.int (k : Int)), .im (.int (mn h k s : Nat)), .un, .un]) ?_ rfl), fun e => (nomatch e), fun e => absurd (stab_mn e) hc⟩
    refine if_tt (e1 := [.im (.int (p : Int)), .im (.int (q : Int)), .im (.int (n : Int)), .ow (.lst (h.map nI)), .im (.bl m), .im (.int (s : Int)), .im (.int (k : Int)), .im (.int (mn h k s : Nat)), .un, .un]) ?_ (seq_nx (e1 := [.im (.int (p : Int)), .im (.int (q : Int)), .im (.int (n : Int)), .ow (.lst ((up h k s).map nI)), .im (.bl m), .im (.int (s : Int)), .im (.int (k : Int)), .im (.int (mn h k s : Nat)), .un, .un]) ?_ (seq_nx (e1 := [.im (.int (p : Int)), .im (.int (q : Int)), .im (.int (n : Int)), .ow (.lst ((up h k s).map nI)), .im (.bl true), .im (.int (s : Int)), .im (.int (k : Int)), .im (.int (mn h k s : Nat)), .un, .un]) ?_ rfl))
    · by_cases d1 : h.getD k 0 = mn h k s
      · have d2 : ¬ h.getD (k + s) 0 = mn h k s := fun q => hc ⟨d1, q⟩
        have e1 : (((h.getD k 0 : Nat) : Int) == ((mn h k s : Nat) : Int)) = true := by rw [d1]; simp
        have e2 : (((h.getD (k + s) 0 : Nat) : Int) == ((mn h k s : Nat) : Int)) = false := by rw [beq_eq_false_iff_ne]; omega
        generalize h.getD k 0 = a at g1 e1
        generalize h.getD (k + s) 0 = b at g2 e2
        generalize mn h k s = m at e1 e2 ⊢
        simp [g1, g2, e1, e2]
      · have e1 : (((h.getD k 0 : Nat) : Int) == ((mn h k s : Nat) : Int)) = false := by rw [beq_eq_false_iff_ne]; omega
        generalize h.getD k 0 = a at g1 e1
        generalize mn h k s = m at e1 ⊢
        simp [g1, e1]
    · rw [up_map]
      generalize mn h k s = m'
      simp [st_shared_period_0, h2, i1, i2]
    · simp [st_shared_period_1]
theorem foldUp_len (s : Nat) : ∀ (l : List Nat) (h : List Nat), (l.foldl (fun h k => up h k s) h).length = h.length
  | [], h => rfl
  | k :: l, h => by rw [List.foldl_cons, foldUp_len s l, up_len]
theorem ps2 (s : Nat) (h : List Nat) (hn : h.length = n) (hs : s ≤ n) (hl : n ≤ 1000) (m : Bool) (c6 c7 : C) (h6 : c6.free = true) (h7 : c7.free = true) : ∃ (m' : Bool) (c6' c7' : C), c6'.free = true ∧ c7'.free = true ∧ bk_shared_period_2 [.im (.int (p : Int)), .im (.int (q : Int)), .im (.int (n : Int)), .ow (.lst (h.map nI)), .im (.bl m), .im (.int (s : Int)), c6, c7, .un, .un] = some (.nx, [.im (.int (p : Int)), .im (.int (q : Int)), .im (.int (n : Int)), .ow (.lst (((List.range (n - s)).foldl (fun h k => up h k s) h).map nI)), .im (.bl m'), .im (.int (s : Int)), c6', c7', .un, .un]) ∧
    (m' = false → m = false ∧ ((List.range (n - s)).foldl (fun h k => up h k s) h) = h) ∧ (stab s n h = true → m' = m ∧ ((List.range (n - s)).foldl (fun h k => up h k s) h) = h) := by
  have hsm : small ((n : Int) - (s : Int)) = true := small_of (by omega) (by omega)
  have hto : ((n : Int) - (s : Int)).toNat = n - s := by omega
  have := forF_nats (g := gN 6) (f := bk_shared_period_1) (fun i env => ∃ (m' : Bool) (c6 c7 : C), c6.free = true ∧ c7.free = true ∧ (m' = false → m = false ∧ ((List.range i).foldl (fun h k => up h k s) h) = h) ∧ (stab s n h = true → m' = m ∧ ((List.range i).foldl (fun h k => up h k s) h) = h) ∧ env = [.im (.int (p : Int)), .im (.int (q : Int)), .im (.int (n : Int)), .ow (.lst (((List.range i).foldl (fun h k => up h k s) h).map nI)), .im (.bl m'), .im (.int (s : Int)), c6, c7, .un, .un]) (n - s) 0 [.im (.int (p : Int)), .im (.int (q : Int)), .im (.int (n : Int)), .ow (.lst (h.map nI)), .im (.bl m), .im (.int (s : Int)), c6, c7, .un, .un] ⟨m, c6, c7, h6, h7, fun e => ⟨e, rfl⟩, fun _ => ⟨rfl, rfl⟩, rfl⟩ fun k env _ hk hp => by
    obtain ⟨m1, c6, c7, h6, h7, a1, a2, rfl⟩ := hp
    have hlen : ((List.range k).foldl (fun h k => up h k s) h).length = n := by rw [foldUp_len, hn]
    generalize hh : (List.range k).foldl (fun h k => up h k s) h = h' at *
    obtain ⟨m2, d7, e7, w, b1, b2⟩ := ps1 p q n s h' hlen k (by omega) m1 c7 h7
    have hh2 : (List.range (k + 1)).foldl (fun h k => up h k s) h = up h' k s := by
      rw [List.range_succ, List.foldl_append, hh]
      rfl
    refine ⟨[.im (.int (p : Int)), .im (.int (q : Int)), .im (.int (n : Int)), .ow (.lst (h'.map nI)), .im (.bl m1), .im (.int (s : Int)), .im (.int (k : Int)), c7, .un, .un], [.im (.int (p : Int)), .im (.int (q : Int)), .im (.int (n : Int)), .ow (.lst ((up h' k s).map nI)), .im (.bl m2), .im (.int (s : Int)), .im (.int (k : Int)), d7, .un, .un], by simp [h6], w, m2, .im (.int (k : Int)), d7, rfl, e7, fun e => ?_, fun e => ?_, ?_⟩
    · rw [hh2]
      obtain ⟨b3, b4⟩ := b1 e
      obtain ⟨a3, a4⟩ := a1 b3
      exact ⟨a3, b4.trans a4⟩
    · rw [hh2]
      obtain ⟨a3, a4⟩ := a2 e
      have : h'.getD k 0 = h'.getD (k + s) 0 := by
        rw [a4]
        have := List.all_eq_true.mp e k (List.mem_range.mpr (by omega))
        simpa using this
      obtain ⟨b3, b4⟩ := b2 this
      exact ⟨b3.trans a3, b4.trans a4⟩
    · rw [hh2]
  obtain ⟨e, h1, m', d6, d7, e6, e7, a1, a2, rfl⟩ := this
  rw [Nat.zero_add] at a1 a2
  refine ⟨m', d6, d7, e6, e7, seq_nx (e1 := [.im (.int (p : Int)), .im (.int (q : Int)), .im (.int (n : Int)), .ow (.lst (((List.range (n - s)).foldl (fun h k => up h k s) h).map nI)), .im (.bl m'), .im (.int (s : Int)), d6, d7, .un, .un]) ?_ rfl, a1, a2⟩
  have hst : st_shared_period_4 [.im (.int (p : Int)), .im (.int (q : Int)), .im (.int (n : Int)), .ow (.lst (h.map nI)), .im (.bl m), .im (.int (s : Int)), c6, c7, .un, .un] = forF (gN 6) bk_shared_period_1 ((List.range' 0 (n - s)).map nI) [.im (.int (p : Int)), .im (.int (q : Int)), .im (.int (n : Int)), .ow (.lst (h.map nI)), .im (.bl m), .im (.int (s : Int)), c6, c7, .un, .un] := by
    rw [← List.range_eq_range', ← rng_range]
    simp [st_shared_period_4, hsm, hto]
  rw [hst, h1, Nat.zero_add]
theorem ps3 (h : List Nat) (hn : h.length = n) (hp : p ≤ n) (hq : q ≤ n) (hl : n ≤ 1000) (m : Bool) (c5 c6 c7 : C) (h5 : c5.free = true) (h6 : c6.free = true) (h7 : c7.free = true) : ∃ (m' : Bool) (c5' c6' c7' : C), c5'.free = true ∧ c6'.free = true ∧ c7'.free = true ∧ bk_shared_period_3 [.im (.int (p : Int)), .im (.int (q : Int)), .im (.int (n : Int)), .ow (.lst (h.map nI)), .im (.bl m), c5, c6, c7, .un, .un] = some (.nx, [.im (.int (p : Int)), .im (.int (q : Int)), .im (.int (n : Int)), .ow (.lst ((passP p q n h).map nI)), .im (.bl m'), c5', c6', c7', .un, .un]) ∧
    (m' = false → passP p q n h = h) ∧ (stab p n h = true → stab q n h = true → m' = false) := by
  have h2 : 2 ≤ SL := by decide
  obtain ⟨m1, x6, x7, x8, x9, w1, a1, a2⟩ := ps2 p q n p h hn hp hl false c6 c7 h6 h7
  generalize hh : (List.range (n - p)).foldl (fun h k => up h k p) h = h1 at *
  have hn1 : h1.length = n := by rw [← hh, foldUp_len, hn]
  obtain ⟨m2, z6, z7, z8, z9, w2, b1, b2⟩ := ps2 p q n q h1 hn1 hq hl m1 x6 x7 x8 x9
  have hpp : passP p q n h = (List.range (n - q)).foldl (fun h k => up h k q) h1 := by
    unfold passP
    rw [hh]
  rw [← hpp] at w2 b1 b2
  refine ⟨m2, _, z6, z7, rfl, z8, z9, seq_nx (e1 := [.im (.int (p : Int)), .im (.int (q : Int)), .im (.int (n : Int)), .ow (.lst (h.map nI)), .im (.bl false), c5, c6, c7, .un, .un]) ?_ (seq_nx (e1 := [.im (.int (p : Int)), .im (.int (q : Int)), .im (.int (n : Int)), .ow (.lst ((passP p q n h).map nI)), .im (.bl m2), .im (.int (q : Int)), z6, z7, .un, .un]) ?_ rfl), fun e => ?_, fun e1 e2 => ?_⟩
  · simp [st_shared_period_5]
  · have : st_shared_period_6 [.im (.int (p : Int)), .im (.int (q : Int)), .im (.int (n : Int)), .ow (.lst (h.map nI)), .im (.bl false), c5, c6, c7, .un, .un] = forF (gN 5) bk_shared_period_2 [.int (p : Int), .int (q : Int)] [.im (.int (p : Int)), .im (.int (q : Int)), .im (.int (n : Int)), .ow (.lst (h.map nI)), .im (.bl false), c5, c6, c7, .un, .un] := by
      simp [st_shared_period_6, h2]
    rw [this, forF, show gN 5 (.int (p : Int)) [.im (.int (p : Int)), .im (.int (q : Int)), .im (.int (n : Int)), .ow (.lst (h.map nI)), .im (.bl false), c5, c6, c7, .un, .un] = some [.im (.int (p : Int)), .im (.int (q : Int)), .im (.int (n : Int)), .ow (.lst (h.map nI)), .im (.bl false), .im (.int (p : Int)), c6, c7, .un, .un] by simp [h5]]
    simp only [w1]
    rw [forF, show gN 5 (.int (q : Int)) [.im (.int (p : Int)), .im (.int (q : Int)), .im (.int (n : Int)), .ow (.lst (h1.map nI)), .im (.bl m1), .im (.int (p : Int)), x6, x7, .un, .un] = some [.im (.int (p : Int)), .im (.int (q : Int)), .im (.int (n : Int)), .ow (.lst (h1.map nI)), .im (.bl m1), .im (.int (q : Int)), x6, x7, .un, .un] by simp]
    simp only [w2]
    rfl
  · obtain ⟨b3, b4⟩ := b1 e
    obtain ⟨a3, a4⟩ := a1 b3
    rw [b4, a4]
  · obtain ⟨a3, a4⟩ := a2 e1
    subst a4
    exact (b2 e2).1.trans a3
theorem passP_len (h : List Nat) : (passP p q n h).length = h.length := by
  unfold passP
  rw [foldUp_len, foldUp_len]
theorem itrP_len : ∀ (t : Nat) (h : List Nat), (itr (passP p q n) t h).length = h.length
  | 0, h => rfl
  | t + 1, h => by rw [itr, itrP_len t, passP_len]
theorem ps13 (hp : p ≤ n) (hq : q ≤ n) (hl : n ≤ 1000) (H : List Nat) (t : Nat) (ht : t ≤ 1000) (hH : itr (passP p q n) t (List.range n) = H) (hf : passP p q n H = H) (s1 : stab p n H = true) (s2 : stab q n H = true) :
    ∃ c5 c6 c7 : C, c5.free = true ∧ c6.free = true ∧ c7.free = true ∧ st_shared_period_13 [.im (.int (p : Int)), .im (.int (q : Int)), .im (.int (n : Int)), .ow (.lst ((List.range n).map nI)), .im (.bl true), .un, .un, .un, .un, .un] = some (.nx, [.im (.int (p : Int)), .im (.int (q : Int)), .im (.int (n : Int)), .ow (.lst (H.map nI)), .im (.bl false), c5, c6, c7, .un, .un]) := by
  have lp := whileF_ind (t := bP (pV 4)) (f := bk_shared_period_3)
    (fun k env => ∃ (i : Nat) (m : Bool) (c5 c6 c7 : C), c5.free = true ∧ c6.free = true ∧ c7.free = true ∧ env = [.im (.int (p : Int)), .im (.int (q : Int)), .im (.int (n : Int)), .ow (.lst ((itr (passP p q n) i (List.range n)).map nI)), .im (.bl m), c5, c6, c7, .un, .un] ∧ (m = true → i ≤ t ∧ k = t + 1 - i) ∧ (m = false → k = 0 ∧ itr (passP p q n) i (List.range n) = H))
    (fun env => ∃ c5 c6 c7 : C, c5.free = true ∧ c6.free = true ∧ c7.free = true ∧ env = [.im (.int (p : Int)), .im (.int (q : Int)), .im (.int (n : Int)), .ow (.lst (H.map nI)), .im (.bl false), c5, c6, c7, .un, .un]) (fun _ _ => False) (fun k env hpp => by
      obtain ⟨i, m, c5, c6, c7, h5, h6, h7, rfl, a1, a2⟩ := hpp
      cases m with
      | false =>
        left
        obtain ⟨_, a3⟩ := a2 rfl
        rw [a3]
        exact ⟨[.im (.int (p : Int)), .im (.int (q : Int)), .im (.int (n : Int)), .ow (.lst (H.map nI)), .im (.bl false), c5, c6, c7, .un, .un], by simp, c5, c6, c7, h5, h6, h7, rfl⟩
      | true =>
        right
        obtain ⟨a3, a4⟩ := a1 rfl
        have hlen : (itr (passP p q n) i (List.range n)).length = n := by rw [itrP_len]; simp
        generalize hh : itr (passP p q n) i (List.range n) = h at *
        obtain ⟨m', x5, x6, x7, y5, y6, y7, w, b1, b2⟩ := ps3 p q n h hlen hp hq hl true c5 c6 c7 h5 h6 h7
        have hs : itr (passP p q n) (i + 1) (List.range n) = passP p q n h := by rw [itr_succ, hh]
        have hfix : m' = false → h = H := fun e => fix_uniq (f := passP p q n) hh (b1 e) hH hf
        refine ⟨[.im (.int (p : Int)), .im (.int (q : Int)), .im (.int (n : Int)), .ow (.lst (h.map nI)), .im (.bl true), c5, c6, c7, .un, .un], .nx, [.im (.int (p : Int)), .im (.int (q : Int)), .im (.int (n : Int)), .ow (.lst ((passP p q n h).map nI)), .im (.bl m'), x5, x6, x7, .un, .un], by simp, w, if m' then t - i else 0, ?_, i + 1, m', x5, x6, x7, y5, y6, y7, ?_, ?_, ?_⟩
        · split <;> omega
        · rw [hs]
        · intro e
          subst e
          have : ¬ i = t := fun q => by
            subst q
            rw [hh] at hH
            subst hH
            have := b2 s1 s2
            cases this
          simp
          omega
        · intro e
          subst e
          refine ⟨rfl, ?_⟩
          rw [hs, b1 rfl, hfix rfl]) fuel (t + 1) [.im (.int (p : Int)), .im (.int (q : Int)), .im (.int (n : Int)), .ow (.lst ((List.range n).map nI)), .im (.bl true), .un, .un, .un, .un, .un] (by unfold fuel; omega) ⟨0, true, .un, .un, .un, rfl, rfl, rfl, rfl, fun _ => ⟨by omega, by omega⟩, fun e => (nomatch e)⟩
  rcases lp with ⟨e, h1, c5, c6, c7, h5, h6, h7, rfl⟩ | ⟨_, _, _, h⟩
  · exact ⟨c5, c6, c7, h5, h6, h7, h1⟩
  · exact h.elim
end
end signworth_k20_turning
namespace signworth_k20_turning
open PySem PySem.Spec PyProof.Rows L2 MP
/-! ### letters by first standing -/
theorem idx_app {l : List Nat} {x : Nat} (y : Nat) (h : x ∈ l) : (l ++ [y]).idxOf x = l.idxOf x := by
  induction l with
  | nil => cases h
  | cons a l ih =>
    rw [List.cons_append, List.idxOf_cons, List.idxOf_cons]
    cases e : (a == x) with
    | true => rfl
    | false =>
      have : x ∈ l := (List.mem_cons.mp h).resolve_left fun q => by subst q; simp at e
      rw [ih this]
theorem idx_new {l : List Nat} {x : Nat} (h : x ∉ l) : (l ++ [x]).idxOf x = l.length := by
  induction l with
  | nil => simp
  | cons a l ih =>
    rw [List.mem_cons, not_or] at h
    have e : (a == x) = false := by simpa using fun q : a = x => h.1 q.symm
    rw [List.cons_append, List.idxOf_cons, e, ih h.2]
    rfl
def ordN (h : List Nat) : List Nat := h.foldl (fun o x => if x ∈ o then o else o ++ [x]) []
def ordK (h : List Nat) (k : Nat) : List Nat := ordN (h.take k)
theorem ordK_succ {h : List Nat} {k : Nat} (hk : k < h.length) : ordK h (k + 1) = if h.getD k 0 ∈ ordK h k then ordK h k else ordK h k ++ [h.getD k 0] := by
  unfold ordK ordN
  rw [List.take_succ, List.getElem?_eq_getElem hk, List.foldl_append, List.getD_eq_getElem?_getD, List.getElem?_eq_getElem hk]
  rfl
theorem ordK_all (h : List Nat) : ordK h h.length = ordN h := by unfold ordK; rw [List.take_of_length_le (Nat.le_refl _)]
theorem ordK_len (h : List Nat) : ∀ k, k ≤ h.length → (ordK h k).length ≤ k
  | 0, _ => Nat.le_refl _
  | k + 1, hk => by
    have := ordK_len h k (by omega)
    rw [ordK_succ (by omega)]
    split
    · omega
    · rw [List.length_append, List.length_singleton]; omega
theorem ordK_mem (h : List Nat) {k : Nat} (hk : k < h.length) : h.getD k 0 ∈ ordK h (k + 1) := by
  rw [ordK_succ hk]
  split
  · rename_i c; exact c
  · simp
theorem ordK_idx (h : List Nat) (x : Nat) (j : Nat) (hx : x ∈ ordK h j) : ∀ d, j + d ≤ h.length → x ∈ ordK h (j + d) ∧ (ordK h (j + d)).idxOf x = (ordK h j).idxOf x
  | 0, _ => ⟨hx, rfl⟩
  | d + 1, hd => by
    obtain ⟨h1, h2⟩ := ordK_idx h x j hx d (by omega)
    rw [show j + (d + 1) = j + d + 1 by omega, ordK_succ (by omega)]
    split
    · exact ⟨h1, h2⟩
    · exact ⟨List.mem_append_left _ h1, by rw [idx_app _ h1, h2]⟩
def ltr (o : List Nat) (x : Nat) : D := .str [97 + o.idxOf x]
def dN (v : Nat → D) (o : List Nat) : List (Ky × D) := o.map fun x : Nat => (Sum.inl (x : Int), v x)
theorem lk_dN (v : Nat → D) (o : List Nat) (y : Nat) : lkD (dN v o) (.inl (y : Int)) = if y ∈ o then some (v y) else none := by
  unfold lkD dN
  induction o with
  | nil => rfl
  | cons x o ih =>
    rw [List.map_cons, List.find?_cons]
    by_cases e : x = y
    · subst e
      simp
    · have e1 : decide ((Sum.inl (x : Int) : Ky) = Sum.inl (y : Int)) = false := by
        rw [decide_eq_false_iff_not]
        intro q
        have := Sum.inl.inj q
        omega
      have e2 : ¬ y = x := fun q => e q.symm
      simp only [e1, ih, List.mem_cons, e2, false_or]
theorem put_dN (v : Nat → D) (o : List Nat) (y : Nat) (d : D) (hy : y ∉ o) : putD (dN v o) (.inl (y : Int)) d = dN v o ++ [(.inl (y : Int), d)] := by
  unfold putD
  rw [if_neg]
  rw [List.any_eq_true]
  rintro ⟨kv, h1, h2⟩
  unfold dN at h1
  obtain ⟨x, hx, rfl⟩ := List.mem_map.mp h1
  have := Sum.inl.inj (of_decide_eq_true h2)
  have : x = y := by omega
  subst this
  exact hy hx
theorem dN_snoc {o : List Nat} {y : Nat} (hy : y ∉ o) : dN (ltr (o ++ [y])) (o ++ [y]) = dN (ltr o) o ++ [(.inl (y : Int), .str [97 + o.length])] := by
  unfold dN
  rw [List.map_append]
  congr 1
  · refine List.map_congr_left fun x hx => ?_
    unfold ltr
    rw [idx_app _ hx]
  · unfold ltr
    rw [List.map_singleton, idx_new hy]
theorem fIn_nat (o : List Nat) (x : Nat) : fInB (.int (x : Int)) (.lst (o.map nI)) = some (decide (x ∈ o)) := by
  have h1 : ((D.int (x : Int)).isFlat && (o.map nI).all D.isFlat) = true := by
    rw [show (D.int (x : Int)).isFlat = true from rfl, Bool.true_and, List.all_eq_true]
    intro d hd
    obtain ⟨y, _, rfl⟩ := List.mem_map.mp hd
    rfl
  have h2 : fInS (.int (x : Int)) (o.map nI) = some (decide (x ∈ o)) := by
    unfold fInS
    rw [if_pos h1]
    congr 1
    rw [Bool.eq_iff_iff, List.any_eq_true, decide_eq_true_eq]
    constructor
    · rintro ⟨d, hd, e⟩
      obtain ⟨y, hy, rfl⟩ := List.mem_map.mp hd
      have e : ((y : Int) == (x : Int)) = true := e
      rw [beq_iff_eq] at e
      have : y = x := by omega
      exact this ▸ hy
    · intro hx
      refine ⟨nI x, List.mem_map.mpr ⟨x, hx, rfl⟩, ?_⟩
      show ((x : Int) == (x : Int)) = true
      simp
  show (match fInS (.int (x : Int)) (o.map nI) with | some k => some k | none => _) = _
  rw [h2]
theorem okE_nats (o : List Nat) : (D.lst (o.map nI)).okE = true := by
  unfold D.okE
  have h1 : D.plains (o.map nI) = true := by
    induction o with
    | nil => rfl
    | cons x o ih => rw [List.map_cons, D.plains, ih]; rfl
  rw [D.plain, h1, D.dep, deps_flat nI fun _ => rfl]
  rfl
theorem fIndex_nat {o : List Nat} {x : Nat} (hx : x ∈ o) : fIndexL (.lst (o.map nI)) [.int (x : Int)] = some (.im (.int (o.idxOf x : Nat))) := by
  unfold fIndexL
  simp only [okE_nats, show (D.int (x : Int)).okE = true from rfl, Bool.and_self, if_true]
  have : ∀ ys : List Nat, x ∈ ys → (ys.map nI).findIdx? (fun e => eqP e (.int (x : Int))) = some (ys.idxOf x) := fun ys hy => by
    induction ys with
    | nil => cases hy
    | cons y r ih =>
      rw [List.map_cons, List.findIdx?_cons]
      show (if ((y : Int) == (x : Int)) = true then _ else _) = _
      rw [List.idxOf_cons]
      by_cases e : y = x
      · subst e; simp
      · have e1 : ((y : Int) == (x : Int)) = false := by rw [beq_eq_false_iff_ne]; omega
        have e2 : (y == x) = false := by simpa using e
        have hr : x ∈ r := (List.mem_cons.mp hy).resolve_left fun q => e q.symm
        simp [e1, e2, ih hr]
  rw [this o hx]
def abc : Tx := [97, 98, 99, 100, 101, 102, 103, 104, 105, 106, 107, 108, 109, 110, 111, 112, 113, 114, 115, 116, 117, 118, 119, 120, 121, 122]
theorem abc_at : ∀ i : Nat, i < 26 → abc[i]? = some (97 + i) := by decide
theorem abc_atI {i : Nat} (h : i < 26) : atI abc (i : Int) = some (97 + i) := by rw [atI_of_nat]; exact abc_at i h
/-- the text -/
def shT (h : List Nat) : Tx := h.map fun x => 97 + (ordN h).idxOf x
theorem post_p (p q n : Nat) (h : List Nat) (hh : h.length ≤ 26) (c5 c6 c7 : C) : ∃ e : Ev, (sSeq st_shared_period_14 (sSeq st_shared_period_15 (sSeq st_shared_period_16 (sSeq st_shared_period_17 sNil)))) [.im (.int (p : Int)), .im (.int (q : Int)), .im (.int (n : Int)), .ow (.lst (h.map nI)), .im (.bl false), c5, c6, c7, .un, .un] = some (.rt (.im (.str (shT h))), .im (.int (p : Int)) :: .im (.int (q : Int)) :: e) := by
  have hb : h.length ≤ SL := by unfold SL; omega
  have lp := forF_all (g := gN 9) (f := bk_shared_period_5) (fun k env => ∃ (c9 : C), c9.free = true ∧ c9.fz = c9 ∧ env = [.im (.int (p : Int)), .im (.int (q : Int)), .im (.int (n : Int)), .im (.lst (h.map nI)), .im (.bl false), c5, c6, c7, .ow (.lst ((ordK h k).map nI)), c9]) (h.map nI) [.im (.int (p : Int)), .im (.int (q : Int)), .im (.int (n : Int)), .im (.lst (h.map nI)), .im (.bl false), c5, c6, c7, .ow (.lst (([] : List Nat).map nI)), .un] ⟨.un, rfl, rfl, rfl⟩ fun k d env hd hp => by
    obtain ⟨c9, h9, _, rfl⟩ := hp
    rw [List.getElem?_map] at hd
    have hk : k < h.length := by
      by_cases c : k < h.length
      · exact c
      · rw [List.getElem?_eq_none (by omega)] at hd; cases hd
    have hx : d = .int (h.getD k 0 : Nat) := by
      rw [List.getElem?_eq_getElem hk] at hd
      rw [List.getD_eq_getElem?_getD, List.getElem?_eq_getElem hk]
      cases hd
      rfl
    subst hx
    have hlen := ordK_len h k (by omega)
    have hs := ordK_succ hk
    have hin := fIn_nat (ordK h k) (h.getD k 0)
    generalize h.getD k 0 = x at hs hin ⊢
    generalize ordK h k = o at hs hin hlen ⊢
    refine ⟨[.im (.int (p : Int)), .im (.int (q : Int)), .im (.int (n : Int)), .im (.lst (h.map nI)), .im (.bl false), c5, c6, c7, .ow (.lst (o.map nI)), .im (.int (x : Int))], [.im (.int (p : Int)), .im (.int (q : Int)), .im (.int (n : Int)), .im (.lst (h.map nI)), .im (.bl false), c5, c6, c7, .ow (.lst ((ordK h (k + 1)).map nI)), .im (.int (x : Int))], by simp [h9], ?_, _, rfl, rfl, rfl⟩
    by_cases c : x ∈ o
    · rw [decide_eq_true c] at hin
      rw [hs, if_pos c]
      refine seq_nx (e1 := [.im (.int (p : Int)), .im (.int (q : Int)), .im (.int (n : Int)), .im (.lst (h.map nI)), .im (.bl false), c5, c6, c7, .ow (.lst (o.map nI)), .im (.int (x : Int))]) (if_ff (e1 := [.im (.int (p : Int)), .im (.int (q : Int)), .im (.int (n : Int)), .im (.lst (h.map nI)), .im (.bl false), c5, c6, c7, .ow (.lst (o.map nI)), .im (.int (x : Int))]) ?_ rfl) rfl
      simp [hin]
    · rw [decide_eq_false c] at hin
      have hl : o.length < SL := by unfold SL; omega
      rw [hs, if_neg c]
      refine seq_nx (e1 := [.im (.int (p : Int)), .im (.int (q : Int)), .im (.int (n : Int)), .im (.lst (h.map nI)), .im (.bl false), c5, c6, c7, .ow (.lst ((o ++ [x]).map nI)), .im (.int (x : Int))]) (if_tt (e1 := [.im (.int (p : Int)), .im (.int (q : Int)), .im (.int (n : Int)), .im (.lst (h.map nI)), .im (.bl false), c5, c6, c7, .ow (.lst (o.map nI)), .im (.int (x : Int))]) ?_ (seq_nx (e1 := [.im (.int (p : Int)), .im (.int (q : Int)), .im (.int (n : Int)), .im (.lst (h.map nI)), .im (.bl false), c5, c6, c7, .ow (.lst ((o ++ [x]).map nI)), .im (.int (x : Int))]) ?_ rfl)) rfl
      · simp [hin]
      · simp [st_shared_period_7, hl, nI]
  obtain ⟨e, h1, c9, h9, h9z, rfl⟩ := lp
  rw [List.length_map, ordK_all] at h1
  have ol : (ordN h).length ≤ 26 := by
    have := ordK_len h h.length (Nat.le_refl _)
    rw [ordK_all] at this
    omega
  have lc : eLc [9] (iE (eV 3)) (gN 9) bTrue ce_shared_period_0 [.im (.int (p : Int)), .im (.int (q : Int)), .im (.int (n : Int)), .im (.lst (h.map nI)), .im (.bl false), c5, c6, c7, .ow (.lst ((ordN h).map nI)), c9] = some (.fr (.lst ((h.map fun x => [97 + (ordN h).idxOf x]).map D.str)), [.im (.int (p : Int)), .im (.int (q : Int)), .im (.int (n : Int)), .im (.lst (h.map nI)), .im (.bl false), c5, c6, c7, .ow (.lst ((ordN h).map nI)), c9]) := by
    have := lc_nats (is := [9]) (it := iE (eV 3)) (g := gN 9) (f := ce_shared_period_0) (env := [.im (.int (p : Int)), .im (.int (q : Int)), .im (.int (n : Int)), .im (.lst (h.map nI)), .im (.bl false), c5, c6, c7, .ow (.lst ((ordN h).map nI)), c9]) (e := [.im (.int (p : Int)), .im (.int (q : Int)), .im (.int (n : Int)), .im (.lst (h.map nI)), .im (.bl false), c5, c6, c7, .ow (.lst ((ordN h).map nI)), c9]) h (fun x => .str [97 + (ordN h).idxOf x]) (by simp) hb fun x hx => by
      obtain ⟨i, hi, e⟩ := List.getElem_of_mem hx
      have hm : x ∈ ordN h := by
        have := ordK_mem h hi
        rw [List.getD_eq_getElem?_getD, List.getElem?_eq_getElem hi] at this
        have := (ordK_idx h _ (i + 1) this (h.length - (i + 1)) (by omega)).1
        rw [show i + 1 + (h.length - (i + 1)) = h.length by omega, ordK_all] at this
        rw [← e]
        exact this
      have ix := fIndex_nat hm
      have il : (ordN h).idxOf x < (ordN h).length := List.idxOf_lt_length_of_mem hm
      have hat := abc_atI (i := (ordN h).idxOf x) (by omega)
      unfold abc at hat
      refine ⟨[.im (.int (p : Int)), .im (.int (q : Int)), .im (.int (n : Int)), .im (.lst (h.map nI)), .im (.bl false), c5, c6, c7, .ow (.lst ((ordN h).map nI)), .im (.int (x : Int))], .im (.str [97 + (ordN h).idxOf x]), [.im (.int (p : Int)), .im (.int (q : Int)), .im (.int (n : Int)), .im (.lst (h.map nI)), .im (.bl false), c5, c6, c7, .ow (.lst ((ordN h).map nI)), .im (.int (x : Int))], by simp, ?_, rfl, by simp⟩
      generalize (ordN h).idxOf x = j at ix hat ⊢
      generalize ordN h = o at ix ⊢
      simp [ce_shared_period_0, ix, hat, SL]
    rw [this, List.map_map, show fzs [.im (.int (p : Int)), .im (.int (q : Int)), .im (.int (n : Int)), .im (.lst (h.map nI)), .im (.bl false), c5, c6, c7, .ow (.lst ((ordN h).map nI)), c9] [9] = [.im (.int (p : Int)), .im (.int (q : Int)), .im (.int (n : Int)), .im (.lst (h.map nI)), .im (.bl false), c5, c6, c7, .ow (.lst ((ordN h).map nI)), c9] by simp [h9z]]
    rfl
  refine ⟨_, seq_nx (e1 := [.im (.int (p : Int)), .im (.int (q : Int)), .im (.int (n : Int)), .ow (.lst (h.map nI)), .im (.bl false), c5, c6, c7, .ow (.lst []), .un]) ?_ (seq_nx (e1 := [.im (.int (p : Int)), .im (.int (q : Int)), .im (.int (n : Int)), .im (.lst (h.map nI)), .im (.bl false), c5, c6, c7, .ow (.lst ((ordN h).map nI)), c9]) ?_ (seq_nx (e1 := [.im (.int (p : Int)), .im (.int (q : Int)), .im (.int (n : Int)), .im (.lst (h.map nI)), .im (.bl false), c5, c6, c7, .ow (.lst ((ordN h).map nI)), c9]) (if_ff (e1 := [.im (.int (p : Int)), .im (.int (q : Int)), .im (.int (n : Int)), .im (.lst (h.map nI)), .im (.bl false), c5, c6, c7, .ow (.lst ((ordN h).map nI)), c9]) ?_ rfl) (seq_rt (e1 := [.im (.int (p : Int)), .im (.int (q : Int)), .im (.int (n : Int)), .im (.lst (h.map nI)), .im (.bl false), c5, c6, c7, .ow (.lst ((ordN h).map nI)), c9]) ?_)))⟩
  · simp [st_shared_period_14]
  · rw [← h1]
    simp [st_shared_period_15, ordK, ordN]
  · have : ((ordN h).length : Int) ≤ 26 := by omega
    simp [this, ol, SL]
  · have hs : ((h.map fun x => [97 + (ordN h).idxOf x]).map List.length).sum ≤ SL := by
      rw [List.map_map]
      show (h.map fun x => 1).sum ≤ SL
      have : ∀ l : List Nat, (l.map fun x => 1).sum = l.length := fun l => by
        induction l with
        | nil => rfl
        | cons x l ih => rw [List.map_cons, List.sum_cons, ih, List.length_cons]; omega
      rw [this]
      exact hb
    have hf : (h.map fun x => [97 + (ordN h).idxOf x]).flatten = shT h := by
      unfold shT
      have : ∀ (φ : Nat → Nat) (l : List Nat), (l.map fun x => [φ x]).flatten = l.map φ := fun φ l => by
        induction l with
        | nil => rfl
        | cons x l ih => rw [List.map_cons, List.flatten_cons, ih]; rfl
      exact this (fun x => 97 + (ordN h).idxOf x) h
    generalize (h.map fun x => [97 + (ordN h).idxOf x]) = xs at lc hs hf
    simp [st_shared_period_17, lc, texts_map, joinT_nil, hs, hf]
theorem post_l (p q g n : Nat) (h : List Nat) (hh : h.length ≤ 26) (hn : h.length = n) (c4 c7 c8 c9 : C) (h7 : c7.free = true) : ∃ e : Ev, (sSeq st_law_shared_16 (sSeq st_law_shared_17 (sSeq st_law_shared_18 sNil))) [.im (.int (p : Int)), .im (.int (q : Int)), .im (.int (g : Int)), .im (.int 0), c4, .im (.int (n : Int)), .ow (.lst (h.map nI)), c7, c8, c9, .un, .un] = some (.rt (.im (.str (shT h))), .im (.int (p : Int)) :: .im (.int (q : Int)) :: e) := by
  have hsm : small (n : Int) = true := small_of (by omega) (by omega)
  have lp := forF_nats (g := gN 7) (f := bk_law_shared_7) (fun k env => ∃ (c7 : C), c7.free = true ∧ env = [.im (.int (p : Int)), .im (.int (q : Int)), .im (.int (g : Int)), .im (.int 0), c4, .im (.int (n : Int)), .ow (.lst (h.map nI)), c7, c8, c9, .ow (.dk (dN (ltr (ordK h k)) (ordK h k))), .im (.str ((h.take k).map fun x => 97 + (ordK h k).idxOf x))]) n 0 [.im (.int (p : Int)), .im (.int (q : Int)), .im (.int (g : Int)), .im (.int 0), c4, .im (.int (n : Int)), .ow (.lst (h.map nI)), c7, c8, c9, .ow (.dk []), .im (.str [])] ⟨c7, h7, rfl⟩ fun k env _ hk hp => by
    obtain ⟨c7, h7, rfl⟩ := hp
    have hk' : k < h.length := by omega
    have g1 := getN (h := h) hk'
    have hlen := ordK_len h k (by omega)
    have hs := ordK_succ hk'
    have hmem := ordK_mem h hk'
    have hf : ((h.take (k + 1)).map fun x => 97 + (ordK h (k + 1)).idxOf x) = ((h.take k).map fun x => 97 + (ordK h k).idxOf x) ++ [97 + (ordK h (k + 1)).idxOf (h.getD k 0)] := by
      rw [List.take_succ, List.getElem?_eq_getElem hk', List.map_append, List.getD_eq_getElem?_getD, List.getElem?_eq_getElem hk']
      congr 1
      refine List.map_congr_left fun x hx => ?_
      obtain ⟨i, hi, e⟩ := List.getElem_of_mem hx
      rw [List.length_take] at hi
      rw [List.getElem_take] at e
      have hi' : i < h.length := by omega
      have := ordK_mem h hi'
      rw [List.getD_eq_getElem?_getD, List.getElem?_eq_getElem hi', Option.getD_some, e] at this
      obtain ⟨m1, m2⟩ := ordK_idx h x (i + 1) this (k - (i + 1)) (by omega)
      rw [show i + 1 + (k - (i + 1)) = k by omega] at m1 m2
      obtain ⟨m3, m4⟩ := ordK_idx h x k m1 1 (by omega)
      rw [m4]
    have fl : ((h.take k).map fun x => 97 + (ordK h k).idxOf x).length ≤ 26 := by rw [List.length_map, List.length_take]; omega
    have il : (ordK h (k + 1)).idxOf (h.getD k 0) < 26 := by
      have := List.idxOf_lt_length_of_mem hmem
      have := ordK_len h (k + 1) (by omega)
      omega
    rw [hf]
    generalize ((h.take k).map fun x => 97 + (ordK h k).idxOf x) = f at fl ⊢
    have gg : atI (h.map nI) (k : Int) = some (.int (h.getD k 0 : Nat)) := g1
    generalize h.getD k 0 = x at gg hs hmem il ⊢
    generalize ordK h (k + 1) = o2 at hs hmem il ⊢
    generalize ordK h k = o at hs hlen ⊢
    have lk2 : lkD (dN (ltr o2) o2) (.inl (x : Int)) = some (.str [97 + o2.idxOf x]) := by rw [lk_dN, if_pos hmem]; rfl
    have fl2 : f.length + 1 ≤ SL := by unfold SL; omega
    refine ⟨[.im (.int (p : Int)), .im (.int (q : Int)), .im (.int (g : Int)), .im (.int 0), c4, .im (.int (n : Int)), .ow (.lst (h.map nI)), .im (.int (k : Int)), c8, c9, .ow (.dk (dN (ltr o) o)), .im (.str f)], [.im (.int (p : Int)), .im (.int (q : Int)), .im (.int (g : Int)), .im (.int 0), c4, .im (.int (n : Int)), .ow (.lst (h.map nI)), .im (.int (k : Int)), c8, c9, .ow (.dk (dN (ltr o2) o2)), .im (.str (f ++ [97 + o2.idxOf x]))], by simp [h7], ?_, _, rfl, rfl⟩
    refine seq_nx (e1 := [.im (.int (p : Int)), .im (.int (q : Int)), .im (.int (g : Int)), .im (.int 0), c4, .im (.int (n : Int)), .ow (.lst (h.map nI)), .im (.int (k : Int)), c8, c9, .ow (.dk (dN (ltr o2) o2)), .im (.str f)]) ?_ (seq_nx (e1 := [.im (.int (p : Int)), .im (.int (q : Int)), .im (.int (g : Int)), .im (.int 0), c4, .im (.int (n : Int)), .ow (.lst (h.map nI)), .im (.int (k : Int)), c8, c9, .ow (.dk (dN (ltr o2) o2)), .im (.str (f ++ [97 + o2.idxOf x]))]) ?_ rfl)
    · by_cases c : x ∈ o
      · rw [if_pos c] at hs
        have lk : lkD (dN (ltr o) o) (.inl (x : Int)) = some (.str [97 + o.idxOf x]) := by rw [← hs]; exact lk2
        refine if_ff (e1 := [.im (.int (p : Int)), .im (.int (q : Int)), .im (.int (g : Int)), .im (.int 0), c4, .im (.int (n : Int)), .ow (.lst (h.map nI)), .im (.int (k : Int)), c8, c9, .ow (.dk (dN (ltr o) o)), .im (.str f)]) ?_ (by rw [hs]; rfl)
        simp [gg, lk]
      · rw [if_neg c] at hs
        have lk : lkD (dN (ltr o) o) (.inl (x : Int)) = none := by rw [lk_dN, if_neg c]
        have dl : (dN (ltr o) o).length = o.length := by unfold dN; simp
        have hat := abc_atI (i := o.length) (by omega)
        unfold abc at hat
        have pd : putD (dN (ltr o) o) (.inl (x : Int)) (.str [97 + o.length]) = dN (ltr o2) o2 := by
          rw [put_dN _ _ _ _ c, hs, dN_snoc c]
        have ol : o.length < 16777216 := by omega
        refine if_tt (e1 := [.im (.int (p : Int)), .im (.int (q : Int)), .im (.int (g : Int)), .im (.int 0), c4, .im (.int (n : Int)), .ow (.lst (h.map nI)), .im (.int (k : Int)), c8, c9, .ow (.dk (dN (ltr o) o)), .im (.str f)]) ?_ (seq_nx (e1 := [.im (.int (p : Int)), .im (.int (q : Int)), .im (.int (g : Int)), .im (.int 0), c4, .im (.int (n : Int)), .ow (.lst (h.map nI)), .im (.int (k : Int)), c8, c9, .ow (.dk (dN (ltr o2) o2)), .im (.str f)]) ?_ rfl)
        · simp [gg, lk]
        · simp [st_law_shared_8, gg, dl, hat, SL, D.ky, pd, putIx, ol]
    · simp [st_law_shared_10, gg, lk2, fl2, D.ky]
  obtain ⟨e, h1, c7', h7', rfl⟩ := lp
  rw [Nat.zero_add] at h1
  have ef : ((h.take n).map fun x => 97 + (ordK h n).idxOf x) = shT h := by
    unfold shT
    rw [← hn, ordK_all, List.take_of_length_le (Nat.le_refl _)]
  rw [ef] at h1
  refine ⟨_, seq_nx (e1 := [.im (.int (p : Int)), .im (.int (q : Int)), .im (.int (g : Int)), .im (.int 0), c4, .im (.int (n : Int)), .ow (.lst (h.map nI)), c7, c8, c9, .ow (.dk []), .im (.str [])]) ?_ (seq_nx (e1 := [.im (.int (p : Int)), .im (.int (q : Int)), .im (.int (g : Int)), .im (.int 0), c4, .im (.int (n : Int)), .ow (.lst (h.map nI)), c7', c8, c9, .ow (.dk (dN (ltr (ordK h n)) (ordK h n))), .im (.str (shT h))]) ?_ (seq_rt (e1 := [.im (.int (p : Int)), .im (.int (q : Int)), .im (.int (g : Int)), .im (.int 0), c4, .im (.int (n : Int)), .ow (.lst (h.map nI)), c7', c8, c9, .ow (.dk (dN (ltr (ordK h n)) (ordK h n))), .im (.str (shT h))]) ?_))⟩
  · simp [st_law_shared_16]
  · rw [← h1, ← List.range_eq_range', ← rng_range]
    simp [st_law_shared_17, hsm]
  · simp [st_law_shared_18]
end signworth_k20_turning
namespace signworth_k20_turning
open PySem PySem.Spec PyProof.Rows L2 MP
theorem nn_all : ((List.range 11).all fun p => (List.range 11).all fun q => Nat.ble p 1 || (Nat.ble q 1 || (p % q == 0 || (q % p == 0 || (Nat.ble p (nn p q) && Nat.ble q (nn p q) && Nat.ble (nn p q) 26 && Nat.ble (Nat.gcd p q + 1) (p + q)))))) = true := by decide +kernel
theorem nn_ok (p : Nat) (hp : p < 11) (q : Nat) (hq : q < 11) (h1 : 2 ≤ p) (h2 : 2 ≤ q) (h3 : p % q ≠ 0) (h4 : q % p ≠ 0) : p ≤ nn p q ∧ q ≤ nn p q ∧ nn p q ≤ 26 ∧ Nat.gcd p q + 1 ≤ p + q := by
  have := List.all_eq_true.mp (List.all_eq_true.mp nn_all p (List.mem_range.mpr hp)) q (List.mem_range.mpr hq)
  simp only [Bool.or_eq_true, Bool.and_eq_true, Nat.ble_eq, beq_iff_eq] at this
  omega
theorem shT_ok (h : List Nat) (hh : h.length ≤ 26) : uniT (shT h) ∧ (shT h).length ≤ 26 := by
  refine ⟨fun c hc => ?_, by unfold shT; rw [List.length_map]; exact hh⟩
  unfold shT at hc
  obtain ⟨x, _, rfl⟩ := List.mem_map.mp hc
  have := ordK_len h h.length (Nat.le_refl _)
  rw [ordK_all] at this
  have := List.idxOf_le_length (a := x) (l := ordN h)
  show 97 + (ordN h).idxOf x < 1114112
  omega
theorem e_shared (p q : Nat) (hp1 : 2 ≤ p) (hp2 : p < 11) (hq1 : 2 ≤ q) (hq2 : q < 11) (h1 : p % q ≠ 0) (h2 : q % p ≠ 0) : ∃ t : Tx, uniT t ∧ t.length ≤ 26 ∧
    fn_shared_period [.im (.int (p : Int)), .im (.int (q : Int))] = some (.im (.str t), [.im (.int (p : Int)), .im (.int (q : Int))]) ∧ fn_law_shared [.im (.int (p : Int)), .im (.int (q : Int))] = some (.im (.str t), [.im (.int (p : Int)), .im (.int (q : Int))]) := by
  obtain ⟨n1, n2, n3, n4⟩ := nn_ok p hp2 q hq2 hp1 hq1 h1 h2
  have hc : chk p q = true := by
    have := List.all_eq_true.mp chk_all p (by rw [List.mem_range'_1]; omega)
    have := List.all_eq_true.mp this q (by rw [List.mem_range'_1]; omega)
    rw [Bool.or_eq_true, Bool.or_eq_true] at this
    rcases this with w | w | w
    · exact absurd (by simpa using w) h1
    · exact absurd (by simpa using w) h2
    · exact w
  unfold chk at hc
  have hnI : (p : Int) + (q : Int) - ((Nat.gcd p q : Nat) : Int) - 1 = ((nn p q : Nat) : Int) := by unfold nn; omega
  generalize nn p q = n at hc n1 n2 n3 hnI
  split at hc
  rotate_left
  · cases hc
  rename_i a b f1 f2
  rw [Bool.and_eq_true, Bool.and_eq_true, beq_iff_eq] at hc
  obtain ⟨⟨rfl, s1⟩, s2⟩ := hc
  obtain ⟨x1, t1, x2, x3⟩ := fixL_ok f1
  obtain ⟨z1, t2, z2, z3⟩ := fixL_ok f2
  have hlen : a.length = n := by rw [← z3, itrP_len]; simp
  have hL : itr (passL p q n) n (List.range n) = a := by
    obtain ⟨d, rfl⟩ : ∃ d, n = t1 + d := Nat.exists_eq_add_of_le (by omega)
    rw [itr_add, x3, itr_fix x1]
  have hs : small (n : Int) = true := small_of (by omega) (by omega)
  have hnS : n ≤ SL := by unfold SL; omega
  refine ⟨shT a, (shT_ok a (by omega)).1, by have := (shT_ok a (by omega)).2; omega, ?_, ?_⟩
  · have g := e_gcd p q (by omega)
    obtain ⟨c5, c6, c7, h5, h6, h7, w⟩ := ps13 p q n n1 n2 (by omega) a t2 (by omega) z3 z1 s1 s2
    obtain ⟨e, pe⟩ := post_p p q n a (by omega) c5 c6 c7
    refine run_rt (seq_nx (e1 := [.im (.int (p : Int)), .im (.int (q : Int)), .im (.int (n : Int)), .un, .un, .un, .un, .un, .un, .un]) ?_ (seq_nx (e1 := [.im (.int (p : Int)), .im (.int (q : Int)), .im (.int (n : Int)), .ow (.lst ((List.range n).map nI)), .un, .un, .un, .un, .un, .un]) ?_ (seq_nx (e1 := [.im (.int (p : Int)), .im (.int (q : Int)), .im (.int (n : Int)), .ow (.lst ((List.range n).map nI)), .im (.bl true), .un, .un, .un, .un, .un]) ?_ (seq_nx w pe)))) rfl
    · simp [st_shared_period_10, g, hnI]
    · rw [← rng_range]
      simp [st_shared_period_11, hs, hnS]
    · simp [st_shared_period_12]
  · obtain ⟨t, w1⟩ := e_lgcd p q (by omega)
    obtain ⟨c4, c7, c8, c9, h4, h7, h8, h9, w2⟩ := ls15 p q (Nat.gcd p q) n (by omega) (.im (.int t)) rfl
    rw [hL] at w2
    obtain ⟨e, pe⟩ := post_l p q (Nat.gcd p q) n a (by omega) hlen c4 c7 c8 c9 h7
    refine run_rt (seq_nx (e1 := [.im (.int (p : Int)), .im (.int (q : Int)), .im (.int (p : Int)), .im (.int (q : Int)), .un, .un, .un, .un, .un, .un, .un, .un]) ?_ (seq_nx w1 (seq_nx (e1 := [.im (.int (p : Int)), .im (.int (q : Int)), .im (.int (Nat.gcd p q : Nat)), .im (.int 0), .im (.int t), .im (.int (n : Int)), .un, .un, .un, .un, .un, .un]) ?_ (seq_nx (e1 := [.im (.int (p : Int)), .im (.int (q : Int)), .im (.int (Nat.gcd p q : Nat)), .im (.int 0), .im (.int t), .im (.int (n : Int)), .ow (.lst ((List.range n).map nI)), .un, .un, .un, .un, .un]) ?_ (seq_nx w2 pe))))) rfl
    · simp [st_law_shared_11]
    · simp [st_law_shared_13, hnI]
    · rw [← rng_range]
      simp [st_law_shared_14, hs, hnS]
end signworth_k20_turning
namespace MP
open PySem PySem.Spec PyProof.Rows L2
theorem lcF2_map {is js : List Nat} {g : GF} {it1 : IF} {g1 : GF} {t1 : BF} {f : EF} {B : Ev} (ψ : D → List D) : ∀ (ds : List D) (env : Ev) (acc : List D), blank env is = B → acc.length + (ds.map ψ).flatten.length ≤ SL →
    (∀ d ∈ ds, ∀ acc : List D, acc.length + (ψ d).length ≤ SL → ∃ e1 ds1 e3 e4, g d B = some e1 ∧ it1 e1 = some (ds1, e3) ∧ lcF js g1 t1 f ds1 e3 acc = some (acc ++ ψ d, e4) ∧ blank e4 is = B) →
    ∃ env', lcF2 is js g bTrue it1 g1 t1 f ds env acc = some (acc ++ (ds.map ψ).flatten, env') ∧ blank env' is = B
  | [], env, acc, h, _, _ => ⟨env, by simp [lcF2], h⟩
  | d :: ds, env, acc, h, hl, st => by
    rw [List.map_cons, List.flatten_cons, List.length_append] at hl
    obtain ⟨e1, ds1, e3, e4, h1, h2, h3, h4⟩ := st d List.mem_cons_self acc (by omega)
    obtain ⟨env', q1, q2⟩ := lcF2_map ψ ds e4 (acc ++ ψ d) h4 (by rw [List.length_append]; omega) fun d' hd => st d' (List.mem_cons_of_mem _ hd)
    refine ⟨env', ?_, q2⟩
    rw [lcF2, h, h1]
    simp only [bTrue, h2, h3, q1]
    simp
theorem x_eLc2 (is js : List Nat) (it : IF) (g : GF) (t : BF) (it1 : IF) (g1 : GF) (t1 : BF) (f : EF) (env : Ev) : eLc2 is js it g t it1 g1 t1 f env = (match it env with
  | none => none
  | some (ds, e) => match lcF2 is js g t it1 g1 t1 f ds (fzs e is) [] with
    | none => none
    | some (acc, e2) => some (.fr (.lst acc), back (fzs e is) e2 is)) := id rfl
theorem lc2_map {is js : List Nat} {it : IF} {g : GF} {it1 : IF} {g1 : GF} {t1 : BF} {f : EF} {env e : Ev} {ds : List D} (ψ : D → List D) (hi : it env = some (ds, e)) (hl : (ds.map ψ).flatten.length ≤ SL)
    (st : ∀ d ∈ ds, ∀ acc : List D, acc.length + (ψ d).length ≤ SL → ∃ e1 ds1 e3 e4, g d (blank (fzs e is) is) = some e1 ∧ it1 e1 = some (ds1, e3) ∧ lcF js g1 t1 f ds1 e3 acc = some (acc ++ ψ d, e4) ∧ blank e4 is = blank (fzs e is) is) :
    eLc2 is js it g bTrue it1 g1 t1 f env = some (.fr (.lst (ds.map ψ).flatten), fzs e is) := by
  obtain ⟨env', q1, q2⟩ := lcF2_map ψ ds (fzs e is) [] rfl (by simpa using hl) st
  rw [x_eLc2, hi]
  simp only [q1]
  rw [back_blank q2]
  rfl
end MP
namespace signworth_k20_turning
open PySem PySem.Spec PyProof.Rows L2 MP
/-! ### all words -/
def wordsN (L : Tx) : Nat → List Tx
  | 0 => [[]]
  | n + 1 => ((wordsN L n).map fun w => L.map fun c => w ++ [c]).flatten
theorem words_len (L : Tx) (hL : L.length ≤ 3) : ∀ n, (wordsN L n).length ≤ 3 ^ n
  | 0 => Nat.le_refl _
  | n + 1 => by
    rw [wordsN, List.length_flatten, List.map_map]
    have ih := words_len L hL n
    have : ∀ l : List Tx, (l.map (List.length ∘ fun w => L.map fun c => w ++ [c])).sum ≤ l.length * 3 := fun l => by
      induction l with
      | nil => simp
      | cons x l ih =>
        rw [List.map_cons, List.sum_cons, List.length_cons]
        have : (List.length ∘ fun w => L.map fun c => w ++ [c]) x = L.length := by simp
        omega
    have := this (wordsN L n)
    rw [Nat.pow_succ]
    omega
theorem words_mem (L : Tx) : ∀ (n : Nat) (w : Tx), w ∈ wordsN L n → w.length = n ∧ ∀ c ∈ w, c ∈ L
  | 0, w, h => by
    rw [wordsN, List.mem_singleton] at h
    subst h
    exact ⟨rfl, fun c h => (nomatch h)⟩
  | n + 1, w, h => by
    rw [wordsN, List.mem_flatten] at h
    obtain ⟨l, hl, hw⟩ := h
    obtain ⟨v, hv, rfl⟩ := List.mem_map.mp hl
    obtain ⟨c, hc, rfl⟩ := List.mem_map.mp hw
    obtain ⟨h1, h2⟩ := words_mem L n v hv
    refine ⟨by rw [List.length_append, List.length_singleton, h1], fun x hx => ?_⟩
    rcases List.mem_append.mp hx with hx | hx
    · exact h2 x hx
    · rw [List.mem_singleton.mp hx]; exact hc
def chs (L : Tx) : List D := L.map fun c => D.str [c]
def exW (L : Tx) : D → List D
  | .str w => L.map fun c => D.str (w ++ [c])
  | _ => []
theorem ex_words (L : Tx) (n : Nat) : (((wordsN L n).map D.str).map (exW L)).flatten = (wordsN L (n + 1)).map D.str := by
  rw [wordsN, List.map_map]
  generalize wordsN L n = l
  induction l with
  | nil => rfl
  | cons w l ih =>
    rw [List.map_cons, List.map_cons, List.flatten_cons, List.flatten_cons, List.map_append, ih]
    congr 1
    show exW L (.str w) = _
    rw [List.map_map]
    rfl
theorem pow_le (n : Nat) (h : n ≤ 10) : 3 ^ n ≤ 59049 := by
  have := Nat.pow_le_pow_right (n := 3) (by omega) h
  exact Nat.le_trans this (by decide)
/-- one letter more, at one word -/
theorem one_more {L : Tx} {f : EF} {B : Ev} {js : List Nat} {g : GF} (w : Tx) (st : ∀ c ∈ L, ∃ e1 r e3, g (.str [c]) B = some e1 ∧ f e1 = some (r, e3) ∧ r.d = .str (w ++ [c]) ∧ blank e3 js = B) (env : Ev) (acc : List D) (hB : blank env js = B) (hl : acc.length + L.length ≤ SL) :
    ∃ env', lcF js g bTrue f (chs L) env acc = some (acc ++ exW L (.str w), env') ∧ blank env' js = B := by
  obtain ⟨env', q1, q2⟩ := lcF_filter (is := js) (g := g) (t := bTrue) (f := f) (B := B) (fun _ => true) (fun d => match d with | .str c => .str (w ++ c) | _ => .non) (chs L) env acc hB (by unfold chs; rw [List.length_map]; exact hl) fun d hd => by
    obtain ⟨c, hc, rfl⟩ := List.mem_map.mp hd
    obtain ⟨e1, r, e3, h1, h2, h3, h4⟩ := st c hc
    exact ⟨e1, e1, h1, rfl, fun q => (nomatch q), fun _ => ⟨r, e3, h2, h3, h4⟩⟩
  refine ⟨env', ?_, q2⟩
  rw [q1, List.filter_eq_self.mpr fun _ _ => rfl]
  unfold chs
  rw [List.map_map]
  rfl
theorem e_words (L : Tx) (hL : L.length ≤ 3) (n : Nat) (hn : n ≤ 8) : fn_words_of [.im (.str L), .im (.int (n : Int))] = some (.fr (.lst ((wordsN L n).map D.str)), [.im (.str L), .im (.int (n : Int))]) := by
  have hs : small (n : Int) = true := small_of (by omega) (by omega)
  have hLS : L.length ≤ SL := by unfold SL; omega
  have lp := forF_nats (g := gN 3) (f := bk_words_of_0) (fun i env => ∃ c3 : C, c3.free = true ∧ env = [.im (.str L), .im (.int (n : Int)), .ow (.lst ((wordsN L i).map D.str)), c3, .un, .un]) n 0 [.im (.str L), .im (.int (n : Int)), .ow (.lst [.str []]), .un, .un, .un] ⟨.un, rfl, rfl⟩ fun i env _ hi hp => by
    obtain ⟨c3, h3, rfl⟩ := hp
    have hwl := words_len L hL i
    have hp3 := pow_le (i + 1) (by omega)
    have hwl2 := words_len L hL (i + 1)
    have lc : eLc2 [4, 5] [5] (iE (eV 2)) (gN 4) bTrue (iE (eV 0)) (gN 5) bTrue (eOp fAdd (pV 4) (pV 5)) [.im (.str L), .im (.int (n : Int)), .ow (.lst ((wordsN L i).map D.str)), .im (.int (i : Int)), .un, .un]
        = some (.fr (.lst (((wordsN L i).map D.str).map (exW L)).flatten), [.im (.str L), .im (.int (n : Int)), .im (.lst ((wordsN L i).map D.str)), .im (.int (i : Int)), .un, .un]) := by
      refine lc2_map (e := [.im (.str L), .im (.int (n : Int)), .im (.lst ((wordsN L i).map D.str)), .im (.int (i : Int)), .un, .un]) (exW L) (by simp) (by rw [ex_words, List.length_map]; unfold SL; omega) fun d hd acc hacc => ?_
      obtain ⟨w, hw, rfl⟩ := List.mem_map.mp hd
      obtain ⟨hwlen, _⟩ := words_mem L i w hw
      have hacc' : acc.length + L.length ≤ SL := by
        have : (exW L (.str w)).length = L.length := by simp [exW]
        omega
      obtain ⟨e4, q1, q2⟩ := one_more (L := L) (f := eOp fAdd (pV 4) (pV 5)) (B := [.im (.str L), .im (.int (n : Int)), .im (.lst ((wordsN L i).map D.str)), .im (.int (i : Int)), .im (.str w), .un]) (js := [5]) (g := gN 5) w (fun c hc => by
        refine ⟨[.im (.str L), .im (.int (n : Int)), .im (.lst ((wordsN L i).map D.str)), .im (.int (i : Int)), .im (.str w), .im (.str [c])], .im (.str (w ++ [c])), [.im (.str L), .im (.int (n : Int)), .im (.lst ((wordsN L i).map D.str)), .im (.int (i : Int)), .im (.str w), .im (.str [c])], by simp, ?_, rfl, by simp⟩
        have : w.length + 1 ≤ SL := by unfold SL; omega
        simp [this]) [.im (.str L), .im (.int (n : Int)), .im (.lst ((wordsN L i).map D.str)), .im (.int (i : Int)), .im (.str w), .un] acc (by simp) hacc'
      refine ⟨[.im (.str L), .im (.int (n : Int)), .im (.lst ((wordsN L i).map D.str)), .im (.int (i : Int)), .im (.str w), .un], chs L, [.im (.str L), .im (.int (n : Int)), .im (.lst ((wordsN L i).map D.str)), .im (.int (i : Int)), .im (.str w), .un], e4, by simp, by simp [chs], q1, ?_⟩
      have := congrArg (fun e => blank e [4]) q2
      simp at this
      simp [this]
    rw [ex_words] at lc
    refine ⟨[.im (.str L), .im (.int (n : Int)), .ow (.lst ((wordsN L i).map D.str)), .im (.int (i : Int)), .un, .un], [.im (.str L), .im (.int (n : Int)), .ow (.lst ((wordsN L (i + 1)).map D.str)), .im (.int (i : Int)), .un, .un], by simp [h3], ?_, _, rfl, rfl⟩
    refine seq_nx (e1 := [.im (.str L), .im (.int (n : Int)), .ow (.lst ((wordsN L (i + 1)).map D.str)), .im (.int (i : Int)), .un, .un]) ?_ rfl
    simp [st_words_of_0, lc]
  obtain ⟨e, h1, c3, h3, rfl⟩ := lp
  rw [Nat.zero_add] at h1
  refine run_rt (seq_nx (e1 := [.im (.str L), .im (.int (n : Int)), .ow (.lst [.str []]), .un, .un, .un]) ?_ (seq_nx (e1 := [.im (.str L), .im (.int (n : Int)), .ow (.lst ((wordsN L n).map D.str)), c3, .un, .un]) ?_ (seq_rt (e1 := [.im (.str L), .im (.int (n : Int)), .un, c3, .un, .un]) ?_))) rfl
  · simp [st_words_of_1, SL]
  · rw [← h1, ← List.range_eq_range', ← rng_range]
    simp [st_words_of_2, hs]
  · simp [st_words_of_3]
theorem e_lwords (L : Tx) (hL : L.length ≤ 3) (n : Nat) (hn : n ≤ 8) (h0 : 1 ≤ n) : fn_law_words [.im (.str L), .im (.int (n : Int))] = some (.im (.lst ((wordsN L n).map D.str)), [.im (.str L), .im (.int (n : Int))]) := by
  have hs : small (n : Int) = true := small_of (by omega) (by omega)
  have hLS : L.length ≤ SL := by unfold SL; omega
  have lp := forF_nats (g := gN 3) (f := bk_law_words_1) (fun i env => ∃ c3 c4 c5 : C, c3.free = true ∧ c4.free = true ∧ c5.free = true ∧ (c4 = .un ∨ ∃ d, c4 = .im d) ∧ ∃ c2 : C, ((c2 = .ow (.lst ((wordsN L i).map D.str)) ∧ i = 0) ∨ c2 = .im (.lst ((wordsN L i).map D.str))) ∧ env = [.im (.str L), .im (.int (n : Int)), c2, c3, c4, c5, .un]) n 0 [.im (.str L), .im (.int (n : Int)), .ow (.lst [.str []]), .un, .un, .un, .un] ⟨.un, .un, .un, rfl, rfl, rfl, .inl rfl, _, .inl ⟨rfl, rfl⟩, rfl⟩ fun i env _ hi hp => by
    obtain ⟨c3, c4, c5, h3, h4, h5, _, c2, hc2, rfl⟩ := hp
    have hwl := words_len L hL i
    have hp3 := pow_le (i + 1) (by omega)
    have hwl2 := words_len L hL (i + 1)
    have inner := forF_all (g := gN 5) (f := bk_law_words_0) (fun j env => ∃ c5 : C, c5.free = true ∧ env = [.im (.str L), .im (.int (n : Int)), .im (.lst ((wordsN L i).map D.str)), .im (.int (i : Int)), .ow (.lst ((((wordsN L i).take j).map D.str).map (exW L)).flatten), c5, .un]) ((wordsN L i).map D.str) [.im (.str L), .im (.int (n : Int)), .im (.lst ((wordsN L i).map D.str)), .im (.int (i : Int)), .ow (.lst []), c5, .un] ⟨c5, h5, rfl⟩ fun j d env hd hp => by
      obtain ⟨c5, h5, rfl⟩ := hp
      rw [List.getElem?_map] at hd
      obtain ⟨w, hw, rfl⟩ : ∃ w, (wordsN L i)[j]? = some w ∧ d = .str w := by
        cases hq : (wordsN L i)[j]? with
        | none => rw [hq] at hd; cases hd
        | some w => rw [hq] at hd; cases hd; exact ⟨w, rfl, rfl⟩
      have hj : j < (wordsN L i).length := by
        by_cases c : j < (wordsN L i).length
        · exact c
        · rw [List.getElem?_eq_none (by omega)] at hw; cases hw
      obtain ⟨hwlen, _⟩ := words_mem L i w (List.mem_of_getElem? hw)
      have ts : (wordsN L i).take (j + 1) = (wordsN L i).take j ++ [w] := by rw [List.take_succ, hw]; rfl
      have fl : (((((wordsN L i).take j).map D.str).map (exW L)).flatten).length + L.length ≤ SL := by
        have : ∀ l : List Tx, (((l.map D.str).map (exW L)).flatten).length = l.length * L.length := fun l => by
          induction l with
          | nil => simp
          | cons x l ih =>
            rw [List.map_cons, List.map_cons, List.flatten_cons, List.length_append, ih, List.length_cons, Nat.succ_mul]
            have : (exW L (.str x)).length = L.length := by simp [exW]
            omega
        rw [this, List.length_take]
        have h1 : min j (wordsN L i).length * L.length ≤ (wordsN L i).length * 3 := Nat.mul_le_mul (by omega) hL
        have h2 : (3 : Nat) ^ i * 3 ≤ 59049 := by rw [← Nat.pow_succ]; exact hp3
        unfold SL
        omega
      have lc : ∀ acc : List D, eLc [6] (iE (eV 0)) (gN 6) bTrue ce_law_words_0 [.im (.str L), .im (.int (n : Int)), .im (.lst ((wordsN L i).map D.str)), .im (.int (i : Int)), .ow (.lst acc), .im (.str w), .un]
          = some (.fr (.lst (exW L (.str w))), [.im (.str L), .im (.int (n : Int)), .im (.lst ((wordsN L i).map D.str)), .im (.int (i : Int)), .ow (.lst acc), .im (.str w), .un]) := fun acc => by
        obtain ⟨e4, q1, q2⟩ := one_more (L := L) (f := ce_law_words_0) (B := [.im (.str L), .im (.int (n : Int)), .im (.lst ((wordsN L i).map D.str)), .im (.int (i : Int)), .ow (.lst acc), .im (.str w), .un]) (js := [6]) (g := gN 6) w (fun c hc => by
          refine ⟨[.im (.str L), .im (.int (n : Int)), .im (.lst ((wordsN L i).map D.str)), .im (.int (i : Int)), .ow (.lst acc), .im (.str w), .im (.str [c])], .im (.str (w ++ [c])), [.im (.str L), .im (.int (n : Int)), .im (.lst ((wordsN L i).map D.str)), .im (.int (i : Int)), .ow (.lst acc), .im (.str w), .im (.str [c])], by simp, ?_, rfl, by simp⟩
          have : w.length + 1 ≤ SL := by unfold SL; omega
          simp [ce_law_words_0, this]) [.im (.str L), .im (.int (n : Int)), .im (.lst ((wordsN L i).map D.str)), .im (.int (i : Int)), .ow (.lst acc), .im (.str w), .un] [] (by simp) (by simp; exact hLS)
        refine lc_of (e := [.im (.str L), .im (.int (n : Int)), .im (.lst ((wordsN L i).map D.str)), .im (.int (i : Int)), .ow (.lst acc), .im (.str w), .un]) (ds := chs L) (by simp [chs]) rfl (by simpa using q1) ?_
        exact back_blank q2
      have ex : (exW L (.str w)).length = L.length := by simp [exW]
      rw [ts, List.map_append, List.map_append, List.flatten_append]
      generalize (((((wordsN L i).take j).map D.str).map (exW L)).flatten) = acc at fl ⊢
      refine ⟨[.im (.str L), .im (.int (n : Int)), .im (.lst ((wordsN L i).map D.str)), .im (.int (i : Int)), .ow (.lst acc), .im (.str w), .un], [.im (.str L), .im (.int (n : Int)), .im (.lst ((wordsN L i).map D.str)), .im (.int (i : Int)), .ow (.lst (acc ++ exW L (.str w))), .im (.str w), .un], by simp [h5], seq_nx (e1 := [.im (.str L), .im (.int (n : Int)), .im (.lst ((wordsN L i).map D.str)), .im (.int (i : Int)), .ow (.lst (acc ++ exW L (.str w))), .im (.str w), .un]) ?_ rfl, .im (.str w), rfl, ?_⟩
      · have fl' : acc.length + (exW L (.str w)).length ≤ SL := by omega
        simp [st_law_words_0, lc, fl']
      · simp
    obtain ⟨e, h1, c5', h5', rfl⟩ := inner
    rw [List.length_map, List.take_of_length_le (Nat.le_refl _), ex_words] at h1
    refine ⟨[.im (.str L), .im (.int (n : Int)), c2, .im (.int (i : Int)), c4, c5, .un], [.im (.str L), .im (.int (n : Int)), .im (.lst ((wordsN L (i + 1)).map D.str)), .im (.int (i : Int)), .im (.lst ((wordsN L (i + 1)).map D.str)), c5', .un], by simp [h3], ?_, _, .im (.lst ((wordsN L (i + 1)).map D.str)), c5', rfl, rfl, h5', .inr ⟨_, rfl⟩, _, .inr rfl, rfl⟩
    refine seq_nx (e1 := [.im (.str L), .im (.int (n : Int)), c2, .im (.int (i : Int)), .ow (.lst []), c5, .un]) ?_ (seq_nx (e1 := [.im (.str L), .im (.int (n : Int)), .im (.lst ((wordsN L i).map D.str)), .im (.int (i : Int)), .ow (.lst ((wordsN L (i + 1)).map D.str)), c5', .un]) ?_ (seq_nx (e1 := [.im (.str L), .im (.int (n : Int)), .im (.lst ((wordsN L (i + 1)).map D.str)), .im (.int (i : Int)), .im (.lst ((wordsN L (i + 1)).map D.str)), c5', .un]) ?_ rfl))
    · simp [st_law_words_1, h4]
    · rw [← h1]
      rcases hc2 with ⟨rfl, _⟩ | rfl <;> simp [st_law_words_2]
    · simp [st_law_words_3]
  obtain ⟨e, h1, c3, c4, c5, h3, h4, h5, h6, c2, hc2, rfl⟩ := lp
  rw [Nat.zero_add] at hc2
  rcases hc2 with ⟨_, w⟩ | rfl
  · omega
  refine run_rt (seq_nx (e1 := [.im (.str L), .im (.int (n : Int)), .ow (.lst [.str []]), .un, .un, .un, .un]) ?_ (seq_nx (e1 := [.im (.str L), .im (.int (n : Int)), .im (.lst ((wordsN L n).map D.str)), c3, c4, c5, .un]) ?_ (seq_rt (e1 := [.im (.str L), .im (.int (n : Int)), .im (.lst ((wordsN L n).map D.str)), c3, c4, c5, .un]) ?_))) rfl
  · simp [st_law_words_4, SL]
  · rw [← h1, ← List.range_eq_range', ← rng_range]
    simp [st_law_words_5, hs]
  · simp [st_law_words_6]
end signworth_k20_turning
namespace MP
open PySem PySem.Spec PyProof.Rows L2
/-! ### dicts: what is put is found -/
theorem lk_put (kvs : List (Ky × D)) (k j : Ky) (d : D) : lkD (putD kvs k d) j = if j = k then some d else lkD kvs j := by
  unfold lkD putD
  by_cases h : (kvs.any fun kv => decide (kv.1 = k)) = true
  · rw [if_pos h]
    induction kvs with
    | nil => cases h
    | cons kv kvs ih =>
      rw [List.map_cons, List.find?_cons, List.find?_cons]
      by_cases e : kv.1 = k
      · rw [if_pos e]
        by_cases ej : j = k
        · subst ej
          rw [e]
          simp
        · have : decide (kv.1 = j) = false := by rw [decide_eq_false_iff_not]; exact fun q => ej (q.symm.trans e)
          simp only [this]
          rw [if_neg ej]
          have hm : ∀ l : List (Ky × D), (List.find? (fun kv => decide (kv.1 = j)) (l.map fun kv => if kv.1 = k then (kv.1, d) else kv)).map (·.2) = (List.find? (fun kv => decide (kv.1 = j)) l).map (·.2) := fun l => by
            induction l with
            | nil => rfl
            | cons a l ih =>
              rw [List.map_cons, List.find?_cons, List.find?_cons]
              by_cases ea : a.1 = k
              · rw [if_pos ea]
                have : decide (a.1 = j) = false := by rw [decide_eq_false_iff_not]; exact fun q => ej (q.symm.trans ea)
                simp only [this]
                exact ih
              · rw [if_neg ea]
                cases decide (a.1 = j) with
                | true => rfl
                | false => exact ih
          exact hm kvs
      · rw [if_neg e]
        cases hd : decide (kv.1 = j) with
        | true =>
          simp only
          rw [if_neg]
          · intro q
            exact e ((of_decide_eq_true hd).trans q)
        | false =>
          simp only
          refine ih ?_
          rw [List.any_cons, decide_eq_false e, Bool.false_or] at h
          exact h
  · rw [if_neg h, List.find?_append]
    by_cases ej : j = k
    · subst ej
      have : List.find? (fun kv => decide (kv.1 = j)) kvs = none := by
        rw [List.find?_eq_none]
        intro kv hkv q
        exact h (List.any_eq_true.mpr ⟨kv, hkv, q⟩)
      rw [this]
      simp
    · rw [if_neg ej]
      have : decide (k = j) = false := by rw [decide_eq_false_iff_not]; exact fun q => ej q.symm
      cases List.find? (fun kv => decide (kv.1 = j)) kvs <;> simp [this]
theorem put_len (kvs : List (Ky × D)) (k : Ky) (d : D) : (putD kvs k d).length ≤ kvs.length + 1 := by
  unfold putD
  split
  · rw [List.length_map]; omega
  · rw [List.length_append, List.length_singleton]; omega
/-- a dict that counts -/
def cntO (l : List Tx) (x : Tx) : Option D := if l.count x = 0 then none else some (.int (l.count x : Nat))
def Cnt (kvs : List (Ky × D)) (l : List Tx) : Prop := ∀ x, lkD kvs (.inr x) = cntO l x
theorem Cnt.put {kvs : List (Ky × D)} {l : List Tx} (h : Cnt kvs l) (x : Tx) : Cnt (putD kvs (.inr x) (.int ((l.count x : Nat) + 1 : Int))) (l ++ [x]) := fun y => by
  rw [lk_put]
  unfold cntO
  rw [List.count_append]
  by_cases e : y = x
  · subst e
    rw [if_pos rfl, if_neg (by simp)]
    simp
  · have : ¬ (Sum.inr y : Ky) = Sum.inr x := fun q => e (Sum.inr.inj q)
    rw [if_neg this, h y]
    unfold cntO
    have : List.count y [x] = 0 := by
      rw [List.count_eq_zero, List.mem_singleton]
      exact e
    rw [this, Nat.add_zero]
end MP
namespace signworth_k20_turning
open PySem PySem.Spec PyProof.Rows L2 MP
/-! ### pieces of a word that goes round -/
def cyc (w : Tx) (n a : Nat) : Tx := (List.range n).map fun i => w.getD ((a + i) % w.length) 0
theorem rep_get {w : Tx} (hw : 0 < w.length) : ∀ (m i : Nat), i < m * w.length → (repT w m)[i]? = some (w.getD (i % w.length) 0)
  | 0, i, h => by omega
  | m + 1, i, h => by
    rw [Nat.succ_mul] at h
    unfold repT
    rw [List.replicate_succ, List.flatten_cons]
    by_cases c : i < w.length
    · rw [List.getElem?_append_left c, Nat.mod_eq_of_lt c, List.getD_eq_getElem?_getD, List.getElem?_eq_getElem c]
      rfl
    · rw [List.getElem?_append_right (by omega)]
      have := rep_get hw m (i - w.length) (by omega)
      unfold repT at this
      rw [this, Nat.mod_eq_sub_mod (by omega : w.length ≤ i)]
theorem rep_cut {w : Tx} (hw : 0 < w.length) (m n a : Nat) (h : a + n ≤ m * w.length) : ((repT w m).drop a).take n = cyc w n a := by
  apply List.ext_getElem?
  intro j
  unfold cyc
  rw [List.getElem?_take, List.getElem?_map]
  by_cases c : j < n
  · rw [if_pos c, List.getElem?_drop, rep_get hw m (a + j) (by omega), List.getElem?_range c]
    rfl
  · rw [if_neg c, List.getElem?_eq_none (by simp; omega)]
    rfl
def pieces (w : Tx) (n : Nat) : List Tx := (List.range w.length).map (cyc w n)
theorem cyc_uni {w : Tx} (hw : 0 < w.length) (hu : uniT w) (n a : Nat) : uniT (cyc w n a) := fun c hc => by
  obtain ⟨i, _, rfl⟩ := List.mem_map.mp hc
  have hm : (a + i) % w.length < w.length := Nat.mod_lt _ hw
  rw [List.getD_eq_getElem?_getD, List.getElem?_eq_getElem hm]
  exact hu _ (List.getElem_mem hm)
def tBad : Tx := [98, 97, 100]
def tAll : Tx := [97, 108, 108]
def badB (w : Tx) (n : Nat) (x : Tx) : Bool := !((pieces w n).count x == 1)
def allD : Option Tx → D
  | some x => .tup [.str tBad, .str x]
  | none => .tup [.str tAll]
def badO (L w : Tx) (n : Nat) : Option Tx := (wordsN L n).find? (badB w n)
theorem mulS_ok {w : Tx} {m : Int} {k : Nat} (h : m.toNat = k) (t2 : -1000000 ≤ m) (t3 : m ≤ 1000000) (t4 : w.length * k ≤ SL) (hb : w.length ≤ SL) : fMulA (.str w) (.int m) = some (.im (.str (repT w k))) := by
  subst h
  rw [z_mulS, if_pos ⟨t2, t3, t4, hb⟩]
theorem ap4g (L w u : Tx) (i m : Int) (hm : i + 1 = m) (hb : w.length ≤ SL) (hne : w.isEmpty = false) (h : fMulA (.str w) (.int m) = some (.im (.str u))) : st_all_paper_4 (env0 7 [.im (.str L), .im (.int i), .im (.str w)]) = some (.nx, [.im (.str L), .im (.int i), .im (.str w), .im (.str u), .un, .un, .un]) := by
  simp [-z_mulS, st_all_paper_4, hb, hne, hm, h]
theorem ap4 (L w : Tx) (n : Nat) (hn : n ≤ 8) (hw : 0 < w.length) (hl : w.length ≤ 1000) : st_all_paper_4 (env0 7 [.im (.str L), .im (.int (n : Int)), .im (.str w)]) = some (.nx, [.im (.str L), .im (.int (n : Int)), .im (.str w), .im (.str (repT w (n + 1))), .un, .un, .un]) := by
  have hb : w.length ≤ SL := by unfold SL; omega
  have hne : w.isEmpty = false := by cases w with
    | nil => cases hw
    | cons _ _ => rfl
  have mb : w.length * (n + 1) ≤ 9000 := by
    have := Nat.mul_le_mul hl (by omega : n + 1 ≤ 9)
    omega
  obtain ⟨m, hm⟩ : ∃ m : Int, (n : Int) + 1 = m := ⟨_, rfl⟩
  refine ap4g L w _ (n : Int) m hm hb hne (mulS_ok ?_ ?_ ?_ (Nat.le_trans mb (by decide)) hb) <;> omega
theorem e_all_paper (L w : Tx) (hL : L.length ≤ 3) (n : Nat) (h1 : 1 ≤ n) (hn : n ≤ 8) (hw : 0 < w.length) (hl : w.length ≤ 1000) : fn_all_paper [.im (.str L), .im (.int (n : Int)), .im (.str w)] = some (.im (allD (badO L w n)), [.im (.str L), .im (.int (n : Int)), .im (.str w)]) := by
  have hb : w.length ≤ SL := by unfold SL; omega
  have hne : w.isEmpty = false := by cases w with
    | nil => cases hw
    | cons _ _ => rfl
  have hs : small (w.length : Int) = true := small_of (by omega) (by omega)
  have k1 : 1 ≤ SL := by decide
  have k2 : 2 ≤ SL := by decide
  have mb : w.length * (n + 1) ≤ 9000 := by
    have := Nat.mul_le_mul hl (by omega : n + 1 ≤ 9)
    omega
  have st4 := ap4 L w n hn hw hl
  have rl : (repT w (n + 1)).length ≤ SL := by rw [repT_length, Nat.mul_comm]; unfold SL; omega
  have lp := forF_nats (g := gN 5) (f := bk_all_paper_0) (fun i env => ∃ (kvs : List (Ky × D)) (c5 c6 : C), c5.free = true ∧ c6.free = true ∧ Cnt kvs ((List.range i).map (cyc w n)) ∧ kvs.length ≤ i ∧ env = [.im (.str L), .im (.int (n : Int)), .im (.str w), .im (.str (repT w (n + 1))), .ow (.dk kvs), c5, c6]) w.length 0 [.im (.str L), .im (.int (n : Int)), .im (.str w), .im (.str (repT w (n + 1))), .ow (.dk []), .un, .un] ⟨[], .un, .un, rfl, rfl, fun x => rfl, Nat.le_refl _, rfl⟩ fun a env _ ha hp => by
    obtain ⟨kvs, c5, c6, h5, h6, hc, hk, rfl⟩ := hp
    have e1 : (w.length : Nat) * (n + 1) = w.length * n + w.length := Nat.mul_succ _ _
    have e2 : n ≤ w.length * n := Nat.le_mul_of_pos_left n hw
    have cut := cut_mid (repT w (n + 1)) a (a + n)
    rw [Nat.add_sub_cancel_left, rep_cut hw (n + 1) n a (by rw [Nat.mul_comm]; omega), Int.natCast_add] at cut
    have hput := hc.put (cyc w n a)
    have hlk := hc (cyc w n a)
    have hpl := put_len kvs (.inr (cyc w n a)) (.int ((((List.range a).map (cyc w n)).count (cyc w n a) : Nat) + 1 : Int))
    have hkS : kvs.length < SL := by unfold SL; omega
    have er : (List.range (a + 1)).map (cyc w n) = (List.range a).map (cyc w n) ++ [cyc w n a] := by rw [List.range_succ, List.map_append]; rfl
    rw [← er] at hput
    refine ⟨[.im (.str L), .im (.int (n : Int)), .im (.str w), .im (.str (repT w (n + 1))), .ow (.dk kvs), .im (.int (a : Int)), c6], [.im (.str L), .im (.int (n : Int)), .im (.str w), .im (.str (repT w (n + 1))), .ow (.dk (putD kvs (.inr (cyc w n a)) (.int ((((List.range a).map (cyc w n)).count (cyc w n a) : Nat) + 1 : Int)))), .im (.int (a : Int)), .im (.str (cyc w n a))], by simp [h5], ?_, _, _, _, rfl, rfl, hput, by omega, rfl⟩
    unfold cntO at hlk
    generalize hct : ((List.range a).map (cyc w n)).count (cyc w n a) = ct at hlk ⊢
    generalize cyc w n a = x at cut hlk ⊢
    generalize repT w (n + 1) = u at cut rl ⊢
    refine seq_nx (e1 := [.im (.str L), .im (.int (n : Int)), .im (.str w), .im (.str u), .ow (.dk kvs), .im (.int (a : Int)), .im (.str x)]) ?_ (seq_nx (e1 := [.im (.str L), .im (.int (n : Int)), .im (.str w), .im (.str u), .ow (.dk (putD kvs (.inr x) (.int ((ct : Nat) + 1 : Int)))), .im (.int (a : Int)), .im (.str x)]) ?_ rfl)
    · simp [st_all_paper_0, rl, cut, h6]
    · by_cases c0 : ct = 0
      · subst c0
        rw [if_pos rfl] at hlk
        simp [st_all_paper_1, hlk, putIx, hkS]
      · rw [if_neg c0] at hlk
        simp [st_all_paper_1, hlk, putIx, hkS]
  obtain ⟨e, q1, kvs, c5, c6, h5, h6, hc, hk, rfl⟩ := lp
  rw [Nat.zero_add] at hc
  have ew := e_words L hL n hn
  obtain ⟨e2, ⟨c6', h6', rfl⟩, q2⟩ := forF_findT (g := gN 6) (f := bk_all_paper_2) (fun e => ∃ c6 : C, c6.free = true ∧ e = [.im (.str L), .im (.int (n : Int)), .im (.str w), .im (.str (repT w (n + 1))), .ow (.dk kvs), c5, c6]) (badB w n) (fun x => .im (allD (some x))) (wordsN L n) [.im (.str L), .im (.int (n : Int)), .im (.str w), .im (.str (repT w (n + 1))), .ow (.dk kvs), c5, c6] ⟨c6, h6, rfl⟩ fun x hx env he => by
    obtain ⟨c6, h6, rfl⟩ := he
    refine ⟨[.im (.str L), .im (.int (n : Int)), .im (.str w), .im (.str (repT w (n + 1))), .ow (.dk kvs), c5, .im (.str x)], [.im (.str L), .im (.int (n : Int)), .im (.str w), .im (.str (repT w (n + 1))), .ow (.dk kvs), c5, .im (.str x)], by simp [h6], ?_, _, rfl, rfl⟩
    have hlk := hc x
    unfold cntO at hlk
    have tst : (bE (eOp fNe (pE (eGet2 (pV 4) (pV 6) (eC (.int 0)))) (pE (eC (.int 1))))) [.im (.str L), .im (.int (n : Int)), .im (.str w), .im (.str (repT w (n + 1))), .ow (.dk kvs), c5, .im (.str x)] = some (badB w n x, [.im (.str L), .im (.int (n : Int)), .im (.str w), .im (.str (repT w (n + 1))), .ow (.dk kvs), c5, .im (.str x)]) := by
      unfold badB pieces
      generalize ((List.range w.length).map (cyc w n)).count x = ct at hlk ⊢
      by_cases c0 : ct = 0
      · subst c0
        rw [if_pos rfl] at hlk
        simp [hlk]
      · rw [if_neg c0] at hlk
        have : ((ct : Int) == 1) = (ct == 1) := by
          rw [Bool.eq_iff_iff, beq_iff_eq, beq_iff_eq]
          omega
        simp [hlk, this]
    cases hp : badB w n x with
    | true =>
      rw [hp] at tst
      refine seq_rt (if_tt tst ?_)
      simp [bk_all_paper_1, st_all_paper_2, k2, allD, tBad]
    | false =>
      rw [hp] at tst
      exact seq_nx (if_ff tst rfl) rfl
  have st6 : st_all_paper_6 [.im (.str L), .im (.int (n : Int)), .im (.str w), .im (.str (repT w (n + 1))), .ow (.dk []), .un, .un] = some (.nx, [.im (.str L), .im (.int (n : Int)), .im (.str w), .im (.str (repT w (n + 1))), .ow (.dk kvs), c5, c6]) := by
    rw [← q1, ← List.range_eq_range', ← rng_range]
    simp [st_all_paper_6, hb, hs]
  have st7 : st_all_paper_7 [.im (.str L), .im (.int (n : Int)), .im (.str w), .im (.str (repT w (n + 1))), .ow (.dk kvs), c5, c6] = some (fndT (fun x => .im (allD (some x))) (badO L w n), [.im (.str L), .im (.int (n : Int)), .im (.str w), .im (.str (repT w (n + 1))), .ow (.dk kvs), c5, c6']) := by
    unfold badO
    rw [← q2]
    simp [st_all_paper_7, ew]
  have st5 : st_all_paper_5 [.im (.str L), .im (.int (n : Int)), .im (.str w), .im (.str (repT w (n + 1))), .un, .un, .un] = some (.nx, [.im (.str L), .im (.int (n : Int)), .im (.str w), .im (.str (repT w (n + 1))), .ow (.dk []), .un, .un]) := by
    simp [st_all_paper_5]
  cases ho : badO L w n with
  | some x =>
    rw [ho] at st7
    exact run_rt (seq_nx st4 (seq_nx st5 (seq_nx st6 (seq_rt st7)))) rfl
  | none =>
    rw [ho] at st7
    refine run_rt (seq_nx st4 (seq_nx st5 (seq_nx st6 (seq_nx st7 (seq_rt (e1 := [.im (.str L), .im (.int (n : Int)), .im (.str w), .im (.str (repT w (n + 1))), .ow (.dk kvs), c5, c6']) ?_))))) rfl
    simp [st_all_paper_8, k1, allD, tAll]
end signworth_k20_turning
namespace signworth_k20_turning
open PySem PySem.Spec PyProof.Rows L2 MP
/-! ### all rows, Lyndon words: eight cases -/
def lynN (L : Tx) (n : Nat) : List Tx := (wordsN L n).filter isLynB
def flatN (L : Tx) (n : Nat) : List Tx := (((List.range' 1 n).filter fun s => n % s == 0).map (lynN L)).flatten
def wholeN (L : Tx) (n : Nat) : List Tx := sortT (flatN L n)
def dueN (L : Tx) (n : Nat) : Tx := (wholeN L n).flatten
def strsEq : List D → List Tx → Bool
  | [], [] => true
  | .str x :: ds, y :: ys => x == y && strsEq ds ys
  | _, _ => false
theorem strsEq_ok : ∀ {ds : List D} {ys : List Tx}, strsEq ds ys = true → ds = ys.map D.str
  | [], [], _ => rfl
  | .str x :: ds, y :: ys, h => by
    rw [strsEq, Bool.and_eq_true, beq_iff_eq] at h
    rw [h.1, strsEq_ok h.2]
    rfl
def chkA (L : Tx) (n : Nat) : Option (R × List MP.Arg) → Option (R × List MP.Arg) → Bool
  | some (.im (.str t), [.im (.str a), .im (.int b)]), some (.im (.tup ds), [.im (.str c), .im (.int d)]) => t == dueN L n && strsEq ds (lynN L n) && a == L && c == L && b == (n : Int) && d == (n : Int) && Nat.ble 1 t.length && Nat.ble t.length 100 && (t.all fun c => Nat.ble c 200) && Nat.ble (flatN L n).length 100
  | _, _ => false
theorem chkA_all : ([[97, 98], [97, 98, 99]].all fun L => [1, 2, 3, 4].all fun n => chkA L n (fn_all_row [.im (.str L), .im (.int (n : Int))]) (fn_lyndon_words [.im (.str L), .im (.int (n : Int))])) = true := by
  simp only [st_lyndon_up_to_0, bk_lyndon_up_to_0, st_lyndon_up_to_1, bk_lyndon_up_to_1, st_lyndon_up_to_2, st_lyndon_up_to_3, st_lyndon_up_to_4, st_lyndon_up_to_5, bk_lyndon_up_to_2, st_lyndon_up_to_6, st_lyndon_up_to_7, st_lyndon_up_to_8, st_lyndon_up_to_9, code_lyndon_up_to, fn_lyndon_up_to, ce_lyndon_words_0, ct_lyndon_words_0, st_lyndon_words_0, code_lyndon_words, fn_lyndon_words, ce_all_row_0, ct_all_row_0, st_all_row_0, code_all_row, fn_all_row, sForS_eq, sWhileS_eq, eLcS_eq]
  decide +kernel
end signworth_k20_turning
namespace signworth_k20_turning
open PySem PySem.Spec PyProof.Rows L2 MP
/-! ### the law's rows of all words -/
theorem e_llyn (L : Tx) (hL : L.length ≤ 3) (n : Nat) (h1 : 1 ≤ n) (hn : n ≤ 8) : fn_law_lyndon [.im (.str L), .im (.int (n : Int))] = some (.fr (.lst ((lynN L n).map D.str)), [.im (.str L), .im (.int (n : Int))]) := by
  have ew := e_lwords L hL n hn h1
  have wl := words_len L hL n
  have pl := pow_le n (by omega)
  have lc : eLc [2] (iE (eFn fn_law_words (aCons (pE (eV 0)) (aCons (pE (eV 1)) aNil)))) (gN 2) ct_law_lyndon_0 ce_law_lyndon_0 [.im (.str L), .im (.int (n : Int)), .un]
      = some (.fr (.lst ((lynN L n).map D.str)), [.im (.str L), .im (.int (n : Int)), .un]) := by
    refine lc_txtsF (e := [.im (.str L), .im (.int (n : Int)), .un]) (wordsN L n) isLynB D.str (by simp [ew]) (by unfold SL; omega) fun x hx => ?_
    have il := e_islyn x (by rw [(words_mem L n x hx).1]; omega)
    exact ⟨[.im (.str L), .im (.int (n : Int)), .im (.str x)], [.im (.str L), .im (.int (n : Int)), .im (.str x)], by simp, by simp [ct_law_lyndon_0, il], by simp, fun _ => ⟨.im (.str x), [.im (.str L), .im (.int (n : Int)), .im (.str x)], by simp [ce_law_lyndon_0], rfl, by simp⟩⟩
  exact run_rt (seq_rt (e1 := [.im (.str L), .im (.int (n : Int)), .un]) (by simp [st_law_lyndon_0, lc])) rfl
def rowD (r : List Tx) : D := .lst (r.map D.str)
theorem e_lflat (rows : List (List Tx)) (hl : rows.length ≤ 1000) (hr : rows.flatten.length ≤ 100000) : fn_law_flat [.im (.lst (rows.map rowD))] = some (.fr (.lst (rows.flatten.map D.str)), [.im (.lst (rows.map rowD))]) := by
  have lp := forF_all (g := gN 2) (f := bk_law_flat_0) (fun j env => ∃ c2 : C, c2.free = true ∧ env = [.im (.lst (rows.map rowD)), .ow (.lst ((rows.take j).flatten.map D.str)), c2]) (rows.map rowD) [.im (.lst (rows.map rowD)), .ow (.lst []), .un] ⟨.un, rfl, rfl⟩ fun j d env hd hp => by
    obtain ⟨c2, h2, rfl⟩ := hp
    rw [List.getElem?_map] at hd
    obtain ⟨r, hr1, rfl⟩ : ∃ r, rows[j]? = some r ∧ d = rowD r := by
      cases hq : rows[j]? with
      | none => rw [hq] at hd; cases hd
      | some r => rw [hq] at hd; cases hd; exact ⟨r, rfl, rfl⟩
    have ts : rows.take (j + 1) = rows.take j ++ [r] := by rw [List.take_succ, hr1]; rfl
    have fl : (rows.take j).flatten.length + r.length ≤ SL := by
      have e : rows.flatten = (rows.take (j + 1)).flatten ++ (rows.drop (j + 1)).flatten := by rw [← List.flatten_append, List.take_append_drop]
      rw [e, ts, List.flatten_append, List.length_append, List.length_append] at hr
      simp at hr
      unfold SL
      simp
      omega
    rw [ts, List.flatten_append, List.map_append]
    refine ⟨[.im (.lst (rows.map rowD)), .ow (.lst ((rows.take j).flatten.map D.str)), .im (.lst (r.map D.str))], [.im (.lst (rows.map rowD)), .ow (.lst ((rows.take j).flatten.map D.str ++ r.map D.str)), .im (.lst (r.map D.str))], by simp [h2, rowD], ?_, .im (.lst (r.map D.str)), rfl, by simp⟩
    generalize (rows.take j).flatten = acc at fl ⊢
    simp [bk_law_flat_0, st_law_flat_0, fl]
  obtain ⟨e, h1, c2, h2, rfl⟩ := lp
  rw [List.length_map, List.take_of_length_le (Nat.le_refl _)] at h1
  refine run_rt (seq_nx (e1 := [.im (.lst (rows.map rowD)), .ow (.lst []), .un]) ?_ (seq_nx (e1 := [.im (.lst (rows.map rowD)), .ow (.lst (rows.flatten.map D.str)), c2]) ?_ (seq_rt (e1 := [.im (.lst (rows.map rowD)), .un, c2]) ?_))) rfl
  · simp [st_law_flat_1]
  · rw [← h1]
    simp [st_law_flat_2]
  · simp [st_law_flat_3]
theorem fSort_txt (xs : List Tx) : fSortA [.lst (xs.map D.str)] = some (.fr (.lst ((sortT xs).map D.str))) := by
  have h : fSorted [.lst (xs.map D.str)] = some (.fr (.lst ((sortT xs).map D.str))) := by
    cases xs with
    | nil => rfl
    | cons x r =>
      unfold fSorted
      have : intsL ((x :: r).map D.str) = none := rfl
      simp only [this, texts_map]
  show (match fSorted [.lst (xs.map D.str)] with | some r => some r | none => fSortG [.lst (xs.map D.str)]) = _
  rw [h]
theorem rp_tx {u : Tx} (h : uniT u) (hl : u.length ≤ 1000) : fRepr [.str u] = some (.im (.str (rp (.str u)))) := repr_ok (by
    rw [D.tame, List.all_eq_true]
    intro c hc
    simpa using h c hc) (by show 0 ≤ 100; omega) (by show 10 * u.length + 2 ≤ MP.SL; unfold MP.SL; omega)
theorem rp_txs {xs : List Tx} (h : ∀ x ∈ xs, uniT x) (hl : ∀ x ∈ xs, x.length ≤ 1000) (hn : xs.length ≤ 1000) : fRepr [.tup (xs.map D.str)] = some (.im (.str (rp (.tup (xs.map D.str))))) := repr_ok (tames_texts xs h) (by
    rw [D.dep, deps_flat D.str (fun _ => rfl)]
    omega) (by
    have := wts_texts xs 1000 hl
    have h2 : xs.length * (10 * 1000 + 4) ≤ 1000 * (10 * 1000 + 4) := Nat.mul_le_mul hn (Nat.le_refl _)
    show D.wts (xs.map D.str) + 3 ≤ MP.SL
    unfold MP.SL
    omega)
theorem allD_tx (o : Option Tx) : ∃ xs : List Tx, allD o = .tup (xs.map D.str) ∧ xs.length ≤ 2 ∧ ∀ x ∈ xs, x = tBad ∨ x = tAll ∨ o = some x := by
  cases o with
  | some x => exact ⟨[tBad, x], rfl, by simp, fun y hy => by simp at hy; rcases hy with rfl | rfl <;> simp⟩
  | none => exact ⟨[tAll], rfl, by simp, fun y hy => by simp at hy; subst hy; simp⟩
theorem rp_allD (o : Option Tx) (h : ∀ x, o = some x → uniT x ∧ x.length ≤ 1000) : fRepr [allD o] = some (.im (.str (rp (allD o)))) := by
  obtain ⟨xs, e, h1, h2⟩ := allD_tx o
  rw [e]
  have hb : uniT tBad ∧ uniT tAll := ⟨by intro c hc; simp [tBad] at hc; omega, by intro c hc; simp [tAll] at hc; omega⟩
  refine rp_txs (fun x hx => ?_) (fun x hx => ?_) (by omega)
  · rcases h2 x hx with rfl | rfl | q
    · exact hb.1
    · exact hb.2
    · exact (h x q).1
  · rcases h2 x hx with rfl | rfl | q
    · simp [tBad]
    · simp [tAll]
    · exact (h x q).2
section
variable (c : D) (L due : Tx) (n k : Nat) (c3 c8 c9 c11 : C)
theorem al4g (w u : Tx) (i l m : Int) (hl : (w.length : Int) = l) (h0 : 0 < l) (h1 : l < 1073741824) (hm : i / l + 2 = m) (hb : w.length ≤ SL) (f8 : c8.free = true) (h : fMulA (.str w) (.int m) = some (.im (.str u))) : st_law_all_4 [.bo c, .im (.str L), .im (.int i), c3, .un, .im (.str due), .im (.int (k : Int)), .im (.str w), c8, c9, .un, c11, .un] = some (.nx, [.bo c, .im (.str L), .im (.int i), c3, .un, .im (.str due), .im (.int (k : Int)), .im (.str w), .im (.str u), c9, .un, c11, .un]) := by
  simp [-z_mulS, st_law_all_4, hb, hl, h0, h1, hm, h, f8]
theorem al3 (hL : L.length ≤ 3) (uL : uniT L) (h1 : 1 ≤ n) (hn : n ≤ 4) (w : Tx) (uw : uniT w) (hwl : w.length ≤ 200) (f8 : c8.free = true) (f9 : c9.free = true) (f11 : c11.free = true) :
    ∃ (fl : Fl) (c8' c9' c11' : C), (fl = .nx ∨ fl = .ct) ∧ c8'.free = true ∧ c9'.free = true ∧ c11'.free = true ∧ bk_law_all_3 [.bo c, .im (.str L), .im (.int (n : Int)), c3, .un, .im (.str due), .im (.int (k : Int)), .im (.str w), c8, c9, .un, c11, .un] = some (fl, [.bo c, .im (.str L), .im (.int (n : Int)), c3, .un, .im (.str due), .im (.int (k : Int)), .im (.str w), c8', c9', .un, c11', .un]) := by
  cases hw : w with
  | nil =>
    refine ⟨.ct, c8, c9, c11, .inr rfl, f8, f9, f11, ?_⟩
    show sSeq st_law_all_3 _ _ = _
    rw [x_sSeq, show st_law_all_3 [.bo c, .im (.str L), .im (.int (n : Int)), c3, .un, .im (.str due), .im (.int (k : Int)), .im (.str []), c8, c9, .un, c11, .un] = some (.ct, [.bo c, .im (.str L), .im (.int (n : Int)), c3, .un, .im (.str due), .im (.int (k : Int)), .im (.str []), c8, c9, .un, c11, .un]) from if_tt (e1 := [.bo c, .im (.str L), .im (.int (n : Int)), c3, .un, .im (.str due), .im (.int (k : Int)), .im (.str []), c8, c9, .un, c11, .un]) (by simp) (by simp [bk_law_all_1, st_law_all_1])]
  | cons a w' =>
    rw [← hw]
    have h0 : 0 < w.length := by rw [hw]; simp
    have hne : (w == []) = false := by rw [hw]; rfl
    clear hw
    have hb : w.length ≤ SL := by unfold SL; omega
    have hs : small (w.length : Int) = true := small_of (by omega) (by omega)
    have hd : n / w.length ≤ 4 := Nat.le_trans (Nat.div_le_self _ _) hn
    have mb : w.length * (n / w.length + 2) ≤ 1200 := by
      have := Nat.mul_le_mul hwl (by omega : n / w.length + 2 ≤ 6)
      omega
    obtain ⟨l, hl⟩ : ∃ l : Int, (w.length : Int) = l := ⟨_, rfl⟩
    obtain ⟨m, hm⟩ : ∃ m : Int, (n : Int) / l + 2 = m := ⟨_, rfl⟩
    have hm2 : m.toNat = n / w.length + 2 ∧ -1000000 ≤ m ∧ m ≤ 1000000 := by
      rw [← hl, ← Int.natCast_ediv] at hm
      generalize n / w.length = d at hm hd ⊢
      omega
    have s4 := al4g c L due k c3 c8 c9 c11 w (repT w (n / w.length + 2)) (n : Int) l m hl (by omega) (by omega) hm hb f8 (mulS_ok hm2.1 hm2.2.1 hm2.2.2 (Nat.le_trans mb (by decide)) hb)
    have rl : (repT w (n / w.length + 2)).length ≤ SL := by rw [repT_length, Nat.mul_comm]; unfold SL; omega
    have cv : n < (n / w.length + 1) * w.length := by
      have := Nat.div_add_mod n w.length
      have h2 := Nat.mod_lt n h0
      rw [Nat.add_mul, Nat.one_mul, Nat.mul_comm]
      omega
    have lc9 : eLc [10] (iR rng1 (aCons (pE (eCall fLen (aCons (pV 7) aNil))) aNil)) (gN 10) bTrue ce_law_all_1 [.bo c, .im (.str L), .im (.int (n : Int)), c3, .un, .im (.str due), .im (.int (k : Int)), .im (.str w), .im (.str (repT w (n / w.length + 2))), c9, .un, c11, .un] = some (.fr (.lst ((pieces w n).map D.str)), [.bo c, .im (.str L), .im (.int (n : Int)), c3, .un, .im (.str due), .im (.int (k : Int)), .im (.str w), .im (.str (repT w (n / w.length + 2))), c9, .un, c11, .un]) := by
      have := lc_nats (is := [10]) (it := iR rng1 (aCons (pE (eCall fLen (aCons (pV 7) aNil))) aNil)) (g := gN 10) (f := ce_law_all_1) (env := [.bo c, .im (.str L), .im (.int (n : Int)), c3, .un, .im (.str due), .im (.int (k : Int)), .im (.str w), .im (.str (repT w (n / w.length + 2))), c9, .un, c11, .un]) (e := [.bo c, .im (.str L), .im (.int (n : Int)), c3, .un, .im (.str due), .im (.int (k : Int)), .im (.str w), .im (.str (repT w (n / w.length + 2))), c9, .un, c11, .un]) (List.range w.length) (fun a => .str (cyc w n a)) (by
        rw [← rng_range]
        simp [hb, hs]) (by simp; exact hb) fun a ha => by
        have ha := List.mem_range.mp ha
        have cut := cut_mid (repT w (n / w.length + 2)) a (a + n)
        rw [Nat.add_sub_cancel_left, rep_cut h0 (n / w.length + 2) n a (by rw [show n / w.length + 2 = (n / w.length + 1) + 1 by omega, Nat.succ_mul]; omega), Int.natCast_add] at cut
        refine ⟨[.bo c, .im (.str L), .im (.int (n : Int)), c3, .un, .im (.str due), .im (.int (k : Int)), .im (.str w), .im (.str (repT w (n / w.length + 2))), c9, .im (.int (a : Int)), c11, .un], .im (.str (cyc w n a)), [.bo c, .im (.str L), .im (.int (n : Int)), c3, .un, .im (.str due), .im (.int (k : Int)), .im (.str w), .im (.str (repT w (n / w.length + 2))), c9, .im (.int (a : Int)), c11, .un], by simp, ?_, rfl, by simp⟩
        generalize repT w (n / w.length + 2) = u at cut rl ⊢
        generalize cyc w n a = x at cut ⊢
        simp [ce_law_all_1, rl, cut]
      rw [this]
      unfold pieces
      rw [List.map_map]
      rfl
    have ew := e_lwords L hL n (by omega) h1
    have wl := words_len L hL n
    have pl := pow_le n (by omega)
    have upc : ∀ y ∈ pieces w n, uniT y := fun y hy => by
      obtain ⟨a, _, rfl⟩ := List.mem_map.mp hy
      exact cyc_uni h0 uw n a
    have uwd : ∀ x ∈ wordsN L n, uniT x ∧ x.length ≤ 1000 := fun x hx => by
      obtain ⟨q1, q2⟩ := words_mem L n x hx
      exact ⟨fun c hc => uL c (q2 c hc), by omega⟩
    have lc11 : eLc [12] (iE (eFn fn_law_words (aCons (pE (eV 1)) (aCons (pE (eV 2)) aNil)))) (gN 12) ct_law_all_1 ce_law_all_2 [.bo c, .im (.str L), .im (.int (n : Int)), c3, .un, .im (.str due), .im (.int (k : Int)), .im (.str w), .im (.str (repT w (n / w.length + 2))), .ow (.lst ((pieces w n).map D.str)), .un, c11, .un] = some (.fr (.lst (((wordsN L n).filter (badB w n)).map D.str)), [.bo c, .im (.str L), .im (.int (n : Int)), c3, .un, .im (.str due), .im (.int (k : Int)), .im (.str w), .im (.str (repT w (n / w.length + 2))), .ow (.lst ((pieces w n).map D.str)), .un, c11, .un]) := by
      refine lc_txtsF (e := [.bo c, .im (.str L), .im (.int (n : Int)), c3, .un, .im (.str due), .im (.int (k : Int)), .im (.str w), .im (.str (repT w (n / w.length + 2))), .ow (.lst ((pieces w n).map D.str)), .un, c11, .un]) (wordsN L n) (badB w n) D.str (by simp [ew]) (by unfold SL; omega) fun x hx => ?_
      have fc := fCount_txt upc (uwd x hx).1
      refine ⟨[.bo c, .im (.str L), .im (.int (n : Int)), c3, .un, .im (.str due), .im (.int (k : Int)), .im (.str w), .im (.str (repT w (n / w.length + 2))), .ow (.lst ((pieces w n).map D.str)), .un, c11, .im (.str x)], [.bo c, .im (.str L), .im (.int (n : Int)), c3, .un, .im (.str due), .im (.int (k : Int)), .im (.str w), .im (.str (repT w (n / w.length + 2))), .ow (.lst ((pieces w n).map D.str)), .un, c11, .im (.str x)], by simp, ?_, by simp, fun _ => ⟨.im (.str x), [.bo c, .im (.str L), .im (.int (n : Int)), c3, .un, .im (.str due), .im (.int (k : Int)), .im (.str w), .im (.str (repT w (n / w.length + 2))), .ow (.lst ((pieces w n).map D.str)), .un, c11, .im (.str x)], by simp [ce_law_all_2], rfl, by simp⟩⟩
      unfold badB
      generalize (pieces w n).count x = ct at fc ⊢
      have hc1 : ((ct : Int) == 1) = (ct == 1) := by
        rw [Bool.eq_iff_iff, beq_iff_eq, beq_iff_eq]
        omega
      generalize (pieces w n).map D.str = ps at fc ⊢
      simp [ct_law_all_1, fc, hc1]
    have ap := e_all_paper L w hL n h1 (by omega) h0 (by omega)
    have hO : badO L w n = ((wordsN L n).filter (badB w n)).head? := by
      unfold badO
      rw [List.head?_filter]
    have k1 : 1 ≤ SL := by decide
    have k2 : 2 ≤ SL := by decide
    have hrp := rp_allD (badO L w n) fun x hx => by
      unfold badO at hx
      exact uwd x (List.mem_of_find?_eq_some hx)
    refine ⟨.nx, .im (.str (repT w (n / w.length + 2))), .ow (.lst ((pieces w n).map D.str)), .ow (.lst (((wordsN L n).filter (badB w n)).map D.str)), .inl rfl, rfl, rfl, rfl, ?_⟩
    refine seq_nx (e1 := [.bo c, .im (.str L), .im (.int (n : Int)), c3, .un, .im (.str due), .im (.int (k : Int)), .im (.str w), c8, c9, .un, c11, .un]) (if_ff (e1 := [.bo c, .im (.str L), .im (.int (n : Int)), c3, .un, .im (.str due), .im (.int (k : Int)), .im (.str w), c8, c9, .un, c11, .un]) ?_ rfl) (seq_nx s4 (seq_nx (e1 := [.bo c, .im (.str L), .im (.int (n : Int)), c3, .un, .im (.str due), .im (.int (k : Int)), .im (.str w), .im (.str (repT w (n / w.length + 2))), .ow (.lst ((pieces w n).map D.str)), .un, c11, .un]) ?_ (seq_nx (e1 := [.bo c, .im (.str L), .im (.int (n : Int)), c3, .un, .im (.str due), .im (.int (k : Int)), .im (.str w), .im (.str (repT w (n / w.length + 2))), .ow (.lst ((pieces w n).map D.str)), .un, .ow (.lst (((wordsN L n).filter (badB w n)).map D.str)), .un]) ?_ (seq_nx (e1 := [.bo c, .im (.str L), .im (.int (n : Int)), c3, .un, .im (.str due), .im (.int (k : Int)), .im (.str w), .im (.str (repT w (n / w.length + 2))), .ow (.lst ((pieces w n).map D.str)), .un, .ow (.lst (((wordsN L n).filter (badB w n)).map D.str)), .un]) (if_ff (e1 := [.bo c, .im (.str L), .im (.int (n : Int)), c3, .un, .im (.str due), .im (.int (k : Int)), .im (.str w), .im (.str (repT w (n / w.length + 2))), .ow (.lst ((pieces w n).map D.str)), .un, .ow (.lst (((wordsN L n).filter (badB w n)).map D.str)), .un]) ?_ rfl) rfl))))
    · simp [hne]
    · simp [st_law_all_5, lc9, f9]
    · simp [st_law_all_6, lc11, f11]
    · generalize (wordsN L n).filter (badB w n) = bs at hO ⊢
      cases bs with
      | nil =>
        rw [show badO L w n = none from hO] at ap hrp
        have e2 : D.tup [.str [97, 108, 108]] = allD none := rfl
        simp [ap, hrp, k1, e2]
      | cons x r =>
        rw [show badO L w n = some x from hO] at ap hrp
        have e2 : D.tup [.str [98, 97, 100], .str x] = allD (some x) := rfl
        simp [ap, hrp, k2, e2]
end
/-- the five words -/
def five (L due : Tx) (k : Nat) : List Tx := [due, due.drop k ++ due.take k, due.take k ++ due.drop (k + 1), due.take k ++ L.take 1 ++ due.drop (k + 1), due ++ due.take 1]
theorem five_ok {L due : Tx} (uL : uniT L) (ud : uniT due) (hd : due.length ≤ 100) (hL : L.length ≤ 3) (k : Nat) : ∀ w ∈ five L due k, uniT w ∧ w.length ≤ 200 := by
  have u1 : ∀ j, uniT (due.take j) := fun j c hc => ud c (List.mem_of_mem_take hc)
  have u2 : ∀ j, uniT (due.drop j) := fun j c hc => ud c (List.mem_of_mem_drop hc)
  have u3 : uniT (L.take 1) := fun c hc => uL c (List.mem_of_mem_take hc)
  have ap : ∀ a b : Tx, uniT a → uniT b → uniT (a ++ b) := fun a b ha hb c hc => by
    rcases List.mem_append.mp hc with h | h
    · exact ha c h
    · exact hb c h
  intro w hw
  simp only [five, List.mem_cons, List.not_mem_nil, or_false] at hw
  rcases hw with rfl | rfl | rfl | rfl | rfl
  · exact ⟨ud, by omega⟩
  · exact ⟨ap _ _ (u2 _) (u1 _), by simp; omega⟩
  · exact ⟨ap _ _ (u1 _) (u2 _), by simp; omega⟩
  · exact ⟨ap _ _ (ap _ _ (u1 _) u3) (u2 _), by simp; omega⟩
  · exact ⟨ap _ _ ud (u1 _), by simp; omega⟩
theorem al13 (c : D) (L due : Tx) (n k : Nat) (c3 : C) (hL : L.length ≤ 3) (hL0 : 1 ≤ L.length) (uL : uniT L) (h1 : 1 ≤ n) (hn : n ≤ 4) (ud : uniT due) (hd : due.length ≤ 100) (hk : k ≤ 1000) : ∃ c7 c8 c9 c11 : C, st_law_all_13 [.bo c, .im (.str L), .im (.int (n : Int)), c3, .un, .im (.str due), .im (.int (k : Int)), .un, .un, .un, .un, .un, .un] = some (.nx, [.bo c, .im (.str L), .im (.int (n : Int)), c3, .un, .im (.str due), .im (.int (k : Int)), c7, c8, c9, .un, c11, .un]) := by
  have hdS : due.length ≤ SL := by unfold SL; omega
  have k5 : 5 ≤ SL := by decide
  have hLS : L.length ≤ SL := by unfold SL; omega
  have lp := forF_ind (g := gN 7) (f := bk_law_all_3) (fun _ env => ∃ c7 c8 c9 c11 : C, c7.free = true ∧ c8.free = true ∧ c9.free = true ∧ c11.free = true ∧ env = [.bo c, .im (.str L), .im (.int (n : Int)), c3, .un, .im (.str due), .im (.int (k : Int)), c7, c8, c9, .un, c11, .un]) (fun _ => False) (fun _ _ => False) ((five L due k).map D.str) 0 [.bo c, .im (.str L), .im (.int (n : Int)), c3, .un, .im (.str due), .im (.int (k : Int)), .un, .un, .un, .un, .un, .un] ⟨.un, .un, .un, .un, rfl, rfl, rfl, rfl, rfl⟩ fun j d env hj hp => by
    obtain ⟨c7, c8, c9, c11, f7, f8, f9, f11, rfl⟩ := hp
    obtain ⟨w, hw, rfl⟩ := List.mem_map.mp (List.mem_of_getElem? hj)
    obtain ⟨uw, wl⟩ := five_ok uL ud hd hL k w hw
    obtain ⟨fl, d8, d9, d11, hfl, g8, g9, g11, q⟩ := al3 c L due n k c3 c8 c9 c11 hL uL h1 hn w uw wl f8 f9 f11
    refine ⟨[.bo c, .im (.str L), .im (.int (n : Int)), c3, .un, .im (.str due), .im (.int (k : Int)), .im (.str w), c8, c9, .un, c11, .un], fl, [.bo c, .im (.str L), .im (.int (n : Int)), c3, .un, .im (.str due), .im (.int (k : Int)), .im (.str w), d8, d9, .un, d11, .un], by simp [f7], q, ?_⟩
    rcases hfl with rfl | rfl
    · exact ⟨_, d8, d9, d11, rfl, g8, g9, g11, rfl⟩
    · exact ⟨_, d8, d9, d11, rfl, g8, g9, g11, rfl⟩
  have c1 := cut_to' due k
  have c2 := cut_from due k
  have c3' := cut_from due (k + 1)
  rw [Int.natCast_add] at c3'
  have c4 := cut_to' due 1
  have hl1 : (L.take 1) = [L.getD 0 0] := by
    cases L with
    | nil => simp at hL0
    | cons a L => rfl
  have hat : L[0]? = some (L.getD 0 0) := by
    cases L with
    | nil => simp at hL0
    | cons a L => rfl
  have q1 : (due.drop k).length + (due.take k).length ≤ SL := by rw [List.length_drop, List.length_take]; unfold SL; omega
  have q2 : (due.take k).length + (due.drop (k + 1)).length ≤ SL := by rw [List.length_drop, List.length_take]; unfold SL; omega
  have q3 : (due.take k).length + 1 ≤ SL := by rw [List.length_take]; unfold SL; omega
  have q4 : (due.take k).length + 1 + (due.drop (k + 1)).length ≤ SL := by rw [List.length_drop, List.length_take]; unfold SL; omega
  have q5 : due.length + (due.take 1).length ≤ SL := by rw [List.length_take]; unfold SL; omega
  have hst : st_law_all_13 [.bo c, .im (.str L), .im (.int (n : Int)), c3, .un, .im (.str due), .im (.int (k : Int)), .un, .un, .un, .un, .un, .un] = forF (gN 7) bk_law_all_3 ((five L due k).map D.str) [.bo c, .im (.str L), .im (.int (n : Int)), c3, .un, .im (.str due), .im (.int (k : Int)), .un, .un, .un, .un, .un, .un] := by
    unfold five
    rw [hl1]
    generalize L.getD 0 0 = a at hat ⊢
    generalize due.take k = x at c1 q1 q2 q3 q4 ⊢
    generalize due.drop k = y at c2 q1 ⊢
    generalize due.drop (k + 1) = z at c3' q2 q4 ⊢
    generalize due.take 1 = v at c4 q5 ⊢
    have c4' : cutT due none (some 1) = v := c4
    have c3'' : cutT due (some ((k : Int) + 1)) none = z := c3'
    simp [st_law_all_13, hdS, hLS, c1, c2, c3'', c4', q1, q2, q3, q4, q5, hat, k5]
  rw [hst]
  rcases lp with ⟨e, w1, w2⟩ | ⟨_, _, _, h⟩
  · rcases w2 with ⟨c7, c8, c9, c11, _, _, _, _, rfl⟩ | h
    · exact ⟨c7, c8, c9, c11, w1⟩
    · exact h.elim
  · exact h.elim
end signworth_k20_turning
namespace signworth_k20_turning
open PySem PySem.Spec PyProof.Rows L2 MP
theorem take20 {c : D} (hc : CSt c) (m : Int) (h1 : 1 ≤ m) (h2 : m < 1073741824) : ∃ (d : Nat) (c' : D), fn_law_take [.bo c, .im (.int m)] = some (.im (.int (d : Int)), [.bo c', .im (.int m)]) ∧ CSt c' ∧ (d : Int) < m := by
  obtain ⟨d, c', h3, h4, h5, h6⟩ := MP.take_ok hc m h1 h2
  obtain ⟨k, rfl⟩ := Int.eq_ofNat_of_zero_le h5
  exact ⟨k, c', h3, h4, h6⟩
theorem word20 {c : D} (hc : CSt c) (ls : Tx) (h0 : ls ≠ []) (h1 : ls.length ≤ 1000) (m : Nat) (h2 : m ≤ 1000) : ∃ (w : Tx) (c' : D), fn_law_word [.bo c, .im (.str ls), .im (.int (m : Int))] = some (.im (.str w), [.bo c', .im (.str ls), .im (.int (m : Int))]) ∧ CSt c' ∧ w.length ≤ m ∧ ∀ x ∈ w, x ∈ ls :=
  MP.word_ok hc ls h0 h1 m h2
/-- the letters -/
def ltrs (d : Nat) : Tx := ([97, 98, 99] : Tx).take (2 + d)
theorem ltrs_ok (d : Nat) (h : d < 2) : (ltrs d = [97, 98] ∨ ltrs d = [97, 98, 99]) ∧ cutT ([97, 98, 99] : Tx) none (some (2 + (d : Int))) = ltrs d := by
  have : d = 0 ∨ d = 1 := by omega
  rcases this with rfl | rfl
  · exact ⟨.inl rfl, cut_to' ([97, 98, 99] : Tx) 2⟩
  · exact ⟨.inr rfl, cut_to' ([97, 98, 99] : Tx) 3⟩
theorem uni_ltrs {L : Tx} (h : L = [97, 98] ∨ L = [97, 98, 99]) : uniT L ∧ L.length ≤ 3 ∧ 1 ≤ L.length := by
  rcases h with rfl | rfl
  · exact ⟨by intro c hc; simp at hc; omega, by simp, by simp⟩
  · exact ⟨by intro c hc; simp at hc; omega, by simp, by simp⟩
theorem all_case {L : Tx} (h : L = [97, 98] ∨ L = [97, 98, 99]) {n : Nat} (h1 : 1 ≤ n) (hn : n ≤ 4) :
    fn_all_row [.im (.str L), .im (.int (n : Int))] = some (.im (.str (dueN L n)), [.im (.str L), .im (.int (n : Int))]) ∧
    fn_lyndon_words [.im (.str L), .im (.int (n : Int))] = some (.im (.tup ((lynN L n).map D.str)), [.im (.str L), .im (.int (n : Int))]) ∧
    1 ≤ (dueN L n).length ∧ (dueN L n).length ≤ 100 ∧ uniT (dueN L n) ∧ (flatN L n).length ≤ 100 := by
  have q := chkA_all
  rw [List.all_eq_true] at q
  have q := q L (by rcases h with rfl | rfl <;> simp)
  rw [List.all_eq_true] at q
  have q := q n (by simp; omega)
  generalize fn_all_row [.im (.str L), .im (.int (n : Int))] = A at q ⊢
  generalize fn_lyndon_words [.im (.str L), .im (.int (n : Int))] = B at q ⊢
  unfold chkA at q
  split at q
  · simp only [Bool.and_eq_true, beq_iff_eq, Nat.ble_eq, List.all_eq_true] at q
    obtain ⟨⟨⟨⟨⟨⟨⟨⟨⟨q1, q2⟩, q3⟩, q4⟩, q5⟩, q6⟩, q7⟩, q8⟩, q9⟩, q10⟩ := q
    subst q1 q3 q4 q5 q6
    rw [strsEq_ok q2]
    exact ⟨rfl, rfl, q7, q8, fun c hc => by have := q9 c hc; omega, q10⟩
  · cases q
theorem e_lall {c : D} (hc : CSt c) : ∃ c' : D, fn_law_all [.bo c] = some (.im (.bl true), [.bo c']) := by
  obtain ⟨d1, c1, t1, hc1, l1⟩ := take20 hc 2 (by omega) (by omega)
  obtain ⟨d2, c2, t2, hc2, l2⟩ := take20 hc1 4 (by omega) (by omega)
  obtain ⟨hL, cutL⟩ := ltrs_ok d1 (by omega)
  have k2 : 2 ≤ SL := by decide
  have k3 : 3 ≤ SL := by decide
  have s8 : st_law_all_8 (env0 13 [.bo c]) = some (.nx, [.bo c2, .im (.str (ltrs d1)), .im (.int ((1 + d2 : Nat) : Int)), .un, .un, .un, .un, .un, .un, .un, .un, .un, .un]) := by
    simp [st_law_all_8, t1, t2, k2, k3, cutL]
  generalize ltrs d1 = L at hL s8
  generalize hn : 1 + d2 = n at s8
  have n1 : 1 ≤ n := by omega
  have n4 : n ≤ 4 := by omega
  obtain ⟨uL, lL, lL0⟩ := uni_ltrs hL
  obtain ⟨ar, lw, d1', d100, ud, fl⟩ := all_case hL n1 n4
  have hs : small ((n : Int) + 1) = true := small_of (by omega) (by omega)
  have ht : ((n : Int) + 1 - 1).toNat = n := by omega
  have lc : eLc [4] (iR rng2 (aCons (pE (eC (.int 1))) (aCons (pE (eOp fAdd (pV 2) (pE (eC (.int 1))))) aNil))) (gN 4) ct_law_all_0 ce_law_all_0 [.bo c2, .im (.str L), .im (.int (n : Int)), .un, .un, .un, .un, .un, .un, .un, .un, .un, .un]
      = some (.fr (.lst ((((List.range' 1 n).filter fun s => n % s == 0).map (lynN L)).map rowD)), [.bo c2, .im (.str L), .im (.int (n : Int)), .un, .un, .un, .un, .un, .un, .un, .un, .un, .un]) := by
    have := lc_natsF (is := [4]) (it := iR rng2 (aCons (pE (eC (.int 1))) (aCons (pE (eOp fAdd (pV 2) (pE (eC (.int 1))))) aNil))) (g := gN 4) (t := ct_law_all_0) (f := ce_law_all_0) (env := [.bo c2, .im (.str L), .im (.int (n : Int)), .un, .un, .un, .un, .un, .un, .un, .un, .un, .un]) (e := [.bo c2, .im (.str L), .im (.int (n : Int)), .un, .un, .un, .un, .un, .un, .un, .un, .un, .un]) (List.range' 1 n) (fun s => n % s == 0) (fun s => rowD (lynN L s)) (by
      rw [← rng_one]
      simp [hs, ht]) (by simp; unfold SL; omega) fun s hs => by
      rw [List.mem_range'_1] at hs
      have s0 : 0 < s := by omega
      have ll := e_llyn L lL s hs.1 (by omega)
      have m1 : ((n : Int) % (s : Int) == 0) = (n % s == 0) := by
        rw [Bool.eq_iff_iff, beq_iff_eq, beq_iff_eq]
        omega
      refine ⟨[.bo c2, .im (.str L), .im (.int (n : Int)), .un, .im (.int (s : Int)), .un, .un, .un, .un, .un, .un, .un, .un], [.bo c2, .im (.str L), .im (.int (n : Int)), .un, .im (.int (s : Int)), .un, .un, .un, .un, .un, .un, .un, .un], by simp, ?_, by simp, fun _ => ⟨.fr (rowD (lynN L s)), [.bo c2, .im (.str L), .im (.int (n : Int)), .un, .im (.int (s : Int)), .un, .un, .un, .un, .un, .un, .un, .un], ?_, rfl, by simp⟩⟩
      · simp [ct_law_all_0, s0, m1]
      · simp [ce_law_all_0, ll, rowD]
    rw [this, List.map_map]
    rfl
  have lf := e_lflat (((List.range' 1 n).filter fun s => n % s == 0).map (lynN L)) (by
    rw [List.length_map]
    have := List.length_filter_le (fun s => n % s == 0) (List.range' 1 n)
    rw [List.length_range'] at this
    omega) (by show (flatN L n).length ≤ 100000; omega)
  have s9 : st_law_all_9 [.bo c2, .im (.str L), .im (.int (n : Int)), .un, .un, .un, .un, .un, .un, .un, .un, .un, .un] = some (.nx, [.bo c2, .im (.str L), .im (.int (n : Int)), .ow (.lst ((wholeN L n).map D.str)), .un, .un, .un, .un, .un, .un, .un, .un, .un]) := by
    have fs := fSort_txt (flatN L n)
    unfold wholeN
    unfold flatN at fs ⊢
    generalize ((List.range' 1 n).filter fun s => n % s == 0).map (lynN L) = rows at lc lf fs ⊢
    generalize rows.map rowD = rd at lc lf
    simp [st_law_all_9, lc, lf, -List.map_flatten, fs]
  have hsum : ((wholeN L n).map List.length).sum ≤ SL := by
    rw [← List.length_flatten]
    show (dueN L n).length ≤ SL
    unfold SL
    omega
  have s10 : st_law_all_10 [.bo c2, .im (.str L), .im (.int (n : Int)), .ow (.lst ((wholeN L n).map D.str)), .un, .un, .un, .un, .un, .un, .un, .un, .un] = some (.nx, [.bo c2, .im (.str L), .im (.int (n : Int)), .ow (.lst ((wholeN L n).map D.str)), .un, .im (.str (dueN L n)), .un, .un, .un, .un, .un, .un, .un]) := by
    unfold dueN
    generalize wholeN L n = ws at hsum ⊢
    simp [st_law_all_10, texts_map, joinT_nil, hsum]
  have ll := e_llyn L lL n n1 (by omega)
  have rp1 := rp_tx ud (by omega)
  have rp2 := rp_txs (xs := lynN L n) (fun x hx => by
    obtain ⟨_, q⟩ := words_mem L n x (List.mem_filter.mp hx).1
    exact fun c hc => uL c (q c hc)) (fun x hx => by
    obtain ⟨q, _⟩ := words_mem L n x (List.mem_filter.mp hx).1
    omega) (by
    have h1 := List.length_filter_le isLynB (wordsN L n)
    have h2 := words_len L lL n
    have h3 : 3 ^ n ≤ 3 ^ 4 := Nat.pow_le_pow_right (by omega) n4
    unfold lynN
    have : (3 : Nat) ^ 4 = 81 := by decide
    omega)
  have s11 : st_law_all_11 [.bo c2, .im (.str L), .im (.int (n : Int)), .ow (.lst ((wholeN L n).map D.str)), .un, .im (.str (dueN L n)), .un, .un, .un, .un, .un, .un, .un] = some (.nx, [.bo c2, .im (.str L), .im (.int (n : Int)), .ow (.lst ((wholeN L n).map D.str)), .un, .im (.str (dueN L n)), .un, .un, .un, .un, .un, .un, .un]) := by
    refine if_ff (e1 := [.bo c2, .im (.str L), .im (.int (n : Int)), .ow (.lst ((wholeN L n).map D.str)), .un, .im (.str (dueN L n)), .un, .un, .un, .un, .un, .un, .un]) ?_ rfl
    generalize (lynN L n).map D.str = ly at lw ll rp2
    simp [ar, lw, ll, rp1, rp2]
  have hdS : (dueN L n).length ≤ SL := by unfold SL; omega
  obtain ⟨k, c3, t3, hc3, l3⟩ := take20 hc2 ((dueN L n).length : Int) (by omega) (by omega)
  have s12 : st_law_all_12 [.bo c2, .im (.str L), .im (.int (n : Int)), .ow (.lst ((wholeN L n).map D.str)), .un, .im (.str (dueN L n)), .un, .un, .un, .un, .un, .un, .un] = some (.nx, [.bo c3, .im (.str L), .im (.int (n : Int)), .ow (.lst ((wholeN L n).map D.str)), .un, .im (.str (dueN L n)), .im (.int (k : Int)), .un, .un, .un, .un, .un, .un]) := by
    simp [st_law_all_12, hdS, t3]
  obtain ⟨c7, c8, c9, c11, s13⟩ := al13 c3 L (dueN L n) n k (.ow (.lst ((wholeN L n).map D.str))) lL lL0 uL n1 n4 ud d100 (by omega)
  refine ⟨c3, run_rt (seq_nx s8 (seq_nx s9 (seq_nx s10 (seq_nx s11 (seq_nx s12 (seq_nx s13 (seq_rt (e1 := [.bo c3, .im (.str L), .im (.int (n : Int)), .ow (.lst ((wholeN L n).map D.str)), .un, .im (.str (dueN L n)), .im (.int (k : Int)), c7, c8, c9, .un, c11, .un]) ?_))))))) rfl⟩
  simp [st_law_all_14]
end signworth_k20_turning
namespace signworth_k20_turning
open PySem PySem.Spec PyProof.Rows L2 MP

theorem mem_repT {w : Tx} {n : Nat} {c : Nat} (h : c ∈ repT w n) : c ∈ w := by
  unfold repT at h
  obtain ⟨l, hl, hc⟩ := List.mem_flatten.mp h
  rw [(List.mem_replicate.mp hl).2] at hc
  exact hc
theorem rp_nats (l : List Nat) (hn : l.length ≤ 1000) (h : ∀ x ∈ l, x ≤ 100000) : fRepr [.tup (l.map nI)] = some (.im (.str (rp (.tup (l.map nI))))) := by
  have e : l.map nI = (l.map fun i : Nat => (i : Int)).map D.int := by rw [List.map_map]; rfl
  rw [e]
  exact repr_ok (tames_ints _ fun x hx => by
    obtain ⟨i, hi, rfl⟩ := List.mem_map.mp hx
    have := h i hi
    omega) (by
    rw [D.dep, deps_flat D.int (fun _ => rfl)]
    omega) (by
    rw [D.wt, wts_ints, List.length_map]
    unfold MP.SL
    omega)
theorem tame_tx {x : Tx} (h : uniT x) : D.tame (.str x) = true := by
  rw [D.tame, List.all_eq_true]
  intro c hc
  simpa using h c hc
theorem tame_nat {i : Int} (h : 0 ≤ i ∧ i ≤ 100000) : D.tame (.int i) = true := by
  rw [D.tame, decide_eq_true_eq]
  omega
theorem rp_pair {x : Tx} {i : Int} (hx : uniT x) (hl : x.length ≤ 1000) (hi : 0 ≤ i ∧ i ≤ 100000) : fRepr [.tup [.str x, .int i]] = some (.im (.str (rp (.tup [.str x, .int i])))) := repr_ok (by
    show (D.tame (.str x) && (D.tame (.int i) && true)) = true
    rw [tame_tx hx, tame_nat hi]; rfl) (by
    show max 0 (max 0 0) + 1 ≤ 100
    omega) (by
    show (10 * x.length + 2) + 2 + (21 + 2 + 0) + 3 ≤ MP.SL
    unfold MP.SL
    omega)
theorem rp_three {x y z : Tx} (hx : uniT x) (hy : uniT y) (hz : uniT z) (l1 : x.length ≤ 1000) (l2 : y.length ≤ 1000) (l3 : z.length ≤ 1000) : fRepr [.tup [.str x, .str y, .str z]] = some (.im (.str (rp (.tup [.str x, .str y, .str z])))) :=
  rp_txs (xs := [x, y, z]) (fun u hu => by simp at hu; rcases hu with rfl | rfl | rfl <;> assumption) (fun u hu => by simp at hu; rcases hu with rfl | rfl | rfl <;> assumption) (by simp)
theorem rp_four {x y : Tx} {i j : Int} (hx : uniT x) (hy : uniT y) (l1 : x.length ≤ 1000) (l2 : y.length ≤ 1000) (hi : 0 ≤ i ∧ i ≤ 100000) (hj : 0 ≤ j ∧ j ≤ 100000) : fRepr [.tup [.str x, .str y, .int i, .int j]] = some (.im (.str (rp (.tup [.str x, .str y, .int i, .int j])))) := repr_ok (by
    show (D.tame (.str x) && (D.tame (.str y) && (D.tame (.int i) && (D.tame (.int j) && true)))) = true
    rw [tame_tx hx, tame_tx hy, tame_nat hi, tame_nat hj]; rfl) (by
    show max 0 (max 0 (max 0 (max 0 0))) + 1 ≤ 100
    omega) (by
    show (10 * x.length + 2) + 2 + ((10 * y.length + 2) + 2 + (21 + 2 + (21 + 2 + 0))) + 3 ≤ MP.SL
    unfold MP.SL
    omega)
theorem rp_bl (k : Bool) : fRepr [.bl k] = some (.im (.str (rp (.bl k)))) := repr_ok rfl (by show 0 ≤ 100; omega) (by show 21 ≤ MP.SL; decide)
theorem rp_pap (w o : Tx) (uw : uniT w) (uo : uniT o) (h1 : w.length ≤ 100) (h2 : o.length ≤ 100) : fRepr [papD w o] = some (.im (.str (rp (papD w o)))) := by
  rw [papD_eq]
  have hk : ∀ k, papO w o = some k → k ≤ 100 := fun k hk => by
    unfold papO trnO at hk
    split at hk
    · have := List.mem_of_find?_eq_some hk
      rw [List.mem_range] at this
      omega
    · cases hk
  unfold papF
  cases ho : papO w o with
  | some k => exact rp_pair uT (by simp [tTurned]) (by have := hk k ho; omega)
  | none => exact rp_three uU (lr_uni uw) (lr_uni uo) (by simp [tUnlike]) (by rw [lr_len]; omega) (by rw [lr_len]; omega)
theorem rp_pow (u v : Tx) (hu : u ≠ []) (uu : uniT u) (h1 : u.length ≤ 400) (h2 : v.length ≤ 400) : fRepr [powD u v (dfO u v)] = some (.im (.str (rp (powD u v (dfO u v))))) := by
  have uP : uniT tPowers := by intro c hc; simp [tPowers] at hc; omega
  cases ho : dfO u v with
  | some k =>
    have : k ≤ 1000 := by
      unfold dfO at ho
      have := List.mem_of_find?_eq_some ho
      rw [List.mem_range, List.length_append] at this
      omega
    exact rp_pair uU (by simp [tUnlike]) (by omega)
  | none =>
    obtain ⟨q1, q2, _⟩ := rootS_ok hu
    have e1 : (u.length : Int) / (rootS u : Int) = ((u.length / rootS u : Nat) : Int) := by rw [Int.natCast_ediv]
    have e2 : (v.length : Int) / (rootS u : Int) = ((v.length / rootS u : Nat) : Int) := by rw [Int.natCast_ediv]
    have d1 := Nat.div_le_self u.length (rootS u)
    have d2 := Nat.div_le_self v.length (rootS u)
    unfold powD
    rw [e1, e2]
    generalize u.length / rootS u = a at d1 ⊢
    generalize v.length / rootS u = b at d2 ⊢
    exact rp_four uP (fun c hc => uu c (List.mem_of_mem_take hc)) (by simp [tPowers]) (by rw [List.length_take]; omega) (by omega) (by omega)
theorem start20 (ns : List Int) (hl : ns.length ≤ 63) : ∃ c args', fn_law_start [.im (.fz (ns.map D.int))] = some (.fr c, args') ∧ CSt c ∧ args' = [.im (.fz (ns.map D.int))] := by
  obtain ⟨c, args', h1, h2⟩ := MP.start_ok ns hl
  refine ⟨c, args', h1, h2, ?_⟩
  have h1 : MP.fn_law_start [.im (.fz (ns.map D.int))] = some (.fr c, args') := h1
  unfold MP.fn_law_start runF at h1
  split at h1
  · rename_i e h; split at h1 <;> cases h1
  · rename_i v e h
    split at h1
    · rename_i r hr
      cases h1
      cases e with
      | nil => cases hr
      | cons x e =>
        unfold outs at hr
        unfold outs at hr
        cases hr
        rfl
    · cases h1
  · cases h1
section
variable (S : C)
theorem r20 {c : D} (hc : CSt c) (L w : Tx) (hL : L = [97, 98] ∨ L = [97, 98, 99]) (hw : w.length ≤ 14) (hm : ∀ x ∈ w, x ∈ L) : ∃ (w' : Tx) (c' : D), CSt c' ∧ w'.length ≤ 14 ∧ (∀ x ∈ w', x ∈ L) ∧ st_law_20 [S, .ow c, .im (.str L), .im (.str w), .un, .un, .un, .un, .un, .un, .un, .un, .un, .un, .un] = some (.nx, [S, .ow c', .im (.str L), .im (.str w'), .un, .un, .un, .un, .un, .un, .un, .un, .un, .un, .un]) := by
  obtain ⟨uL, lL, lL0⟩ := uni_ltrs hL
  obtain ⟨d, c1, t1, hc1, l1⟩ := take20 hc 3 (by omega) (by omega)
  by_cases h0 : d = 0
  · subst h0
    obtain ⟨w1, c2, t2, hc2, l2, m2⟩ := word20 hc1 L (by rcases hL with rfl | rfl <;> simp) (by omega) 4 (by omega)
    have mu := mulS_ok (w := w1) (m := 4) (k := 4) rfl (by omega) (by omega) (by unfold SL; omega) (by unfold SL; omega)
    have rl : (repT w1 4).length ≤ SL := by rw [repT_length]; unfold SL; omega
    have cu : cutT (repT w1 4) none (some 14) = (repT w1 4).take 14 := cut_to' (repT w1 4) 14
    refine ⟨(repT w1 4).take 14, c2, hc2, by rw [List.length_take]; omega, fun x hx => m2 x (mem_repT (List.mem_of_mem_take hx)), if_tt (e1 := [S, .ow c1, .im (.str L), .im (.str w), .un, .un, .un, .un, .un, .un, .un, .un, .un, .un, .un]) ?_ (seq_nx (e1 := [S, .ow c2, .im (.str L), .im (.str ((repT w1 4).take 14)), .un, .un, .un, .un, .un, .un, .un, .un, .un, .un, .un]) ?_ rfl)⟩
    · simp [t1]
    · simp at t2
      generalize repT w1 4 = r at mu rl cu ⊢
      simp [-z_mulS, st_law_0, t2, mu, rl, cu]
  · have hf : ((d : Int) == 0) = false := by simpa using h0
    refine ⟨w, c1, hc1, hw, hm, if_ff (e1 := [S, .ow c1, .im (.str L), .im (.str w), .un, .un, .un, .un, .un, .un, .un, .un, .un, .un, .un]) ?_ rfl⟩
    simp [t1, hf]
variable (c : D) (L w : Tx) (c4 c5 c6 c7 c8 c9 c10 c11 c12 c13 c14 : C)
theorem r22 (hw : w.length ≤ 14) : st_law_22 [S, .ow c, .im (.str L), .im (.str w), .ow (.lst ((pds w).map nI)), c5, c6, c7, c8, c9, c10, c11, c12, c13, c14] = some (.nx, [S, .ow c, .im (.str L), .im (.str w), .ow (.lst ((pds w).map nI)), c5, c6, c7, c8, c9, c10, c11, c12, c13, c14]) := by
  have hp := e_periods w (by omega)
  have hr := rp_nats (pds w) (by
    unfold pds
    have := List.length_filter_le (perB w) (List.range' 1 w.length)
    rw [List.length_range'] at this
    omega) fun x hx => by
    have := (List.mem_filter.mp hx).1
    rw [List.mem_range'_1] at this
    omega
  refine if_ff (e1 := [S, .ow c, .im (.str L), .im (.str w), .ow (.lst ((pds w).map nI)), c5, c6, c7, c8, c9, c10, c11, c12, c13, c14]) ?_ rfl
  generalize (pds w).map nI = l at hp hr ⊢
  simp [hp, hr]
theorem r23 (hw : w.length ≤ 14) (h5 : c5.free = true) (h6 : c6.free = true) (h6z : c6.fz = c6) : st_law_23 [S, .ow c, .im (.str L), .im (.str w), .ow (.lst ((pds w).map nI)), c5, c6, c7, c8, c9, c10, c11, c12, c13, c14] = some (.nx, [S, .ow c, .im (.str L), .im (.str w), .im (.lst ((pds w).map nI)), .ow (.lst ((pds w).map fun p => D.str (w.take (w.length - p)))), c6, c7, c8, c9, c10, c11, c12, c13, c14]) := by
  have hb : w.length ≤ SL := by unfold SL; omega
  have pl : (pds w).length ≤ w.length := by
    unfold pds
    have := List.length_filter_le (perB w) (List.range' 1 w.length)
    rw [List.length_range'] at this
    omega
  have lc : eLc [6] (iE (eV 4)) (gN 6) bTrue ce_law_0 [S, .ow c, .im (.str L), .im (.str w), .ow (.lst ((pds w).map nI)), c5, c6, c7, c8, c9, c10, c11, c12, c13, c14] = some (.fr (.lst ((pds w).map fun p => D.str (w.take (w.length - p)))), [S, .ow c, .im (.str L), .im (.str w), .im (.lst ((pds w).map nI)), c5, c6, c7, c8, c9, c10, c11, c12, c13, c14]) := by
    have := lc_nats (is := [6]) (it := iE (eV 4)) (g := gN 6) (f := ce_law_0) (env := [S, .ow c, .im (.str L), .im (.str w), .ow (.lst ((pds w).map nI)), c5, c6, c7, c8, c9, c10, c11, c12, c13, c14]) (e := [S, .ow c, .im (.str L), .im (.str w), .im (.lst ((pds w).map nI)), c5, c6, c7, c8, c9, c10, c11, c12, c13, c14]) (pds w) (fun p => .str (w.take (w.length - p))) (by simp) (by omega) fun p hp => by
      have hp := (List.mem_filter.mp hp).1
      rw [List.mem_range'_1] at hp
      have cu := cut_to' w (w.length - p)
      rw [Int.natCast_sub (by omega)] at cu
      refine ⟨[S, .ow c, .im (.str L), .im (.str w), .im (.lst ((pds w).map nI)), c5, .im (.int (p : Int)), c7, c8, c9, c10, c11, c12, c13, c14], .im (.str (w.take (w.length - p))), [S, .ow c, .im (.str L), .im (.str w), .im (.lst ((pds w).map nI)), c5, .im (.int (p : Int)), c7, c8, c9, c10, c11, c12, c13, c14], by simp, ?_, rfl, by simp⟩
      generalize w.take (w.length - p) = u at cu ⊢
      simp [ce_law_0, hb, cu]
    rw [this]
    simp [h6z]
  simp [st_law_23, lc, h5]
theorem r24 (hw : w.length ≤ 14) (uw : uniT w) : st_law_24 [S, .ow c, .im (.str L), .im (.str w), .im (.lst ((pds w).map nI)), .ow (.lst ((pds w).map fun p => D.str (w.take (w.length - p)))), c6, c7, c8, c9, c10, c11, c12, c13, c14] = some (.nx, [S, .ow c, .im (.str L), .im (.str w), .im (.lst ((pds w).map nI)), .ow (.lst ((pds w).map fun p => D.str (w.take (w.length - p)))), c6, c7, c8, c9, c10, c11, c12, c13, c14]) := by
  have hb := e_borders w (by omega)
  have os := own_sorted w
  have pl : (pds w).length ≤ w.length := by
    unfold pds
    have := List.length_filter_le (perB w) (List.range' 1 w.length)
    rw [List.length_range'] at this
    omega
  have bl : (bds w).length ≤ w.length := by
    unfold bds
    have := List.length_filter_le (brdB w) (List.range w.length)
    rw [List.length_range] at this
    exact this
  have e1 : ((bds w).map fun k => D.str (w.take k)) = ((bds w).map fun k => w.take k).map D.str := by rw [List.map_map]; rfl
  have e2 : ((pds w).map fun p => D.str (w.take (w.length - p))) = ((pds w).map fun p => w.take (w.length - p)).map D.str := by rw [List.map_map]; rfl
  have hr := rp_txs (xs := (bds w).map fun k => w.take k) (fun x hx => by
    obtain ⟨k, _, rfl⟩ := List.mem_map.mp hx
    exact fun c hc => uw c (List.mem_of_mem_take hc)) (fun x hx => by
    obtain ⟨k, _, rfl⟩ := List.mem_map.mp hx
    rw [List.length_take]; omega) (by rw [List.length_map]; omega)
  have fs : fSortLen [.lst (((pds w).map fun p => w.take (w.length - p)).map D.str)] = some (.fr (.lst (((bds w).map fun k => w.take k).map D.str))) := by
    unfold fSortLen
    simp only [texts_map]
    rw [if_pos ⟨fun y hy => by
      obtain ⟨k, _, rfl⟩ := List.mem_map.mp hy
      rw [List.length_take]; unfold SL; omega, by rw [List.length_map]; unfold SL; omega⟩, os]
  rw [e1] at hb
  rw [e2]
  refine if_ff (e1 := [S, .ow c, .im (.str L), .im (.str w), .im (.lst ((pds w).map nI)), .ow (.lst (((pds w).map fun p => w.take (w.length - p)).map D.str)), c6, c7, c8, c9, c10, c11, c12, c13, c14]) ?_ rfl
  generalize ((bds w).map fun k => w.take k).map D.str = l1 at hb hr fs
  generalize ((pds w).map fun p => w.take (w.length - p)).map D.str = l2 at fs ⊢
  simp [-z_len1, hb, hr, fs]
theorem r25 (hw : w.length ≤ 14) (uw : uniT w) (h7 : c7.free = true) : ∃ c7' : C, c7'.free = true ∧ st_law_25 [S, .ow c, .im (.str L), .im (.str w), c4, c5, c6, c7, c8, c9, c10, c11, c12, c13, c14] = some (.nx, [S, .ow c, .im (.str L), .im (.str w), c4, c5, c6, c7', c8, c9, c10, c11, c12, c13, c14]) := by
  cases h0 : w with
  | nil =>
    refine ⟨c7, h7, if_ff (e1 := [S, .ow c, .im (.str L), .im (.str []), c4, c5, c6, c7, c8, c9, c10, c11, c12, c13, c14]) ?_ rfl⟩
    simp
  | cons a w' =>
    rw [← h0]
    have hne : w ≠ [] := by rw [h0]; simp
    have hne' : (w == []) = false := by rw [h0]; rfl
    clear h0
    have k2 : 2 ≤ SL := by decide
    have rr := e_rotations w (by omega)
    have e1 := e_root w hne (by omega)
    have e2 := e_lroot w hne (by omega)
    have el := e_least w hne uw (by omega)
    have em := e_min_rots w hne uw
    have ei := fIndex_txt (xs := rots w) (rots_uni uw) (lr_mem hne)
    have il : lrI w ≤ 100 := by
      unfold lrI
      have := List.idxOf_le_length (a := lr w) (l := rots w)
      have h2 : (rots w).length = w.length := by unfold rots; simp
      omega
    have hr2 := rp_pair (x := lr w) (i := (lrI w : Int)) (lr_uni uw) (by rw [lr_len]; omega) (by omega)
    obtain ⟨q1, q2, _⟩ := rootS_ok hne
    have hr1 : fRepr [.tup [.str (w.take (rootS w)), .int ((w.length : Int) / (rootS w : Int))]] = some (.im (.str (rp (.tup [.str (w.take (rootS w)), .int ((w.length : Int) / (rootS w : Int))])))) := by
      have e1 : (w.length : Int) / (rootS w : Int) = ((w.length / rootS w : Nat) : Int) := by rw [Int.natCast_ediv]
      have d1 := Nat.div_le_self w.length (rootS w)
      rw [e1]
      generalize w.length / rootS w = a at d1 ⊢
      exact rp_pair (fun c hc => uw c (List.mem_of_mem_take hc)) (by rw [List.length_take]; omega) (by omega)
    refine ⟨.ow (.lst ((rots w).map D.str)), rfl, if_tt (e1 := [S, .ow c, .im (.str L), .im (.str w), c4, c5, c6, c7, c8, c9, c10, c11, c12, c13, c14]) ?_ (seq_nx (e1 := [S, .ow c, .im (.str L), .im (.str w), c4, c5, c6, .ow (.lst ((rots w).map D.str)), c8, c9, c10, c11, c12, c13, c14]) ?_ (seq_nx (e1 := [S, .ow c, .im (.str L), .im (.str w), c4, c5, c6, .ow (.lst ((rots w).map D.str)), c8, c9, c10, c11, c12, c13, c14]) (if_ff (e1 := [S, .ow c, .im (.str L), .im (.str w), c4, c5, c6, .ow (.lst ((rots w).map D.str)), c8, c9, c10, c11, c12, c13, c14]) ?_ rfl) (seq_nx (e1 := [S, .ow c, .im (.str L), .im (.str w), c4, c5, c6, .ow (.lst ((rots w).map D.str)), c8, c9, c10, c11, c12, c13, c14]) (if_ff (e1 := [S, .ow c, .im (.str L), .im (.str w), c4, c5, c6, .ow (.lst ((rots w).map D.str)), c8, c9, c10, c11, c12, c13, c14]) ?_ rfl) rfl)))⟩
    · simp [hne']
    · simp [st_law_5, rr, h7]
    · unfold rootR at e1 e2
      generalize D.tup [.str (w.take (rootS w)), .int ((w.length : Int) / (rootS w : Int))] = x at e1 e2 hr1
      simp [e1, e2, hr1]
    · unfold lrI at el hr2
      generalize (rots w).map D.str = l at em ei
      generalize (rots w).idxOf (lr w) = j at el hr2 ei
      generalize lr w = x at em el hr2 ei
      simp [el, em, ei, hr2, k2]
theorem r26 (hw : w.length ≤ 14) (uw : uniT w) : st_law_26 [S, .ow c, .im (.str L), .im (.str w), c4, c5, c6, c7, c8, c9, c10, c11, c12, c13, c14] = some (.nx, [S, .ow c, .im (.str L), .im (.str w), c4, c5, c6, c7, c8, c9, c10, c11, c12, c13, c14]) := by
  obtain ⟨L1, p1, q1⟩ := e_parts w (by omega)
  obtain ⟨L2, p2, q2⟩ := e_lparts w (by omega)
  obtain rfl := q1.uniq q2
  obtain ⟨n1, n2⟩ := lp_len q1
  have hr := rp_txs (xs := L1) (fun x hx c hc => uw c ((n2 x hx).2 c hc)) (fun x hx => by have := (n2 x hx).1; omega) (by omega)
  refine if_ff (e1 := [S, .ow c, .im (.str L), .im (.str w), c4, c5, c6, c7, c8, c9, c10, c11, c12, c13, c14]) ?_ rfl
  generalize L1.map D.str = l at p1 p2 hr
  simp [p1, p2, hr]
end
end signworth_k20_turning
namespace signworth_k20_turning
open PySem PySem.Spec PyProof.Rows L2 MP

section
variable (S : C)
theorem r28 {c : D} (hc : CSt c) (L w : Tx) (c4 c5 c6 c7 : C) (hL : L = [97, 98] ∨ L = [97, 98, 99]) (hw : w.length ≤ 14) (hm : ∀ x ∈ w, x ∈ L) (k : Nat) (hk : k ≤ w.length) : ∃ (o : Tx) (c' : D), CSt c' ∧ o.length ≤ 14 ∧ (∀ x ∈ o, x ∈ L) ∧ st_law_28 [S, .ow c, .im (.str L), .im (.str w), c4, c5, c6, c7, .im (.int (k : Int)), .un, .un, .un, .un, .un, .un] = some (.nx, [S, .ow c', .im (.str L), .im (.str w), c4, c5, c6, c7, .im (.int (k : Int)), .im (.str o), .un, .un, .un, .un, .un]) := by
  obtain ⟨uL, lL, lL0⟩ := uni_ltrs hL
  have hb : w.length ≤ SL := by unfold SL; omega
  obtain ⟨d, c1, t1, hc1, l1⟩ := take20 hc 2 (by omega) (by omega)
  by_cases h0 : d = 0
  · subst h0
    have c1' := cut_to' w k
    have c2' := cut_from w k
    have hh : (w.drop k).length + (w.take k).length ≤ SL := by rw [List.length_drop, List.length_take]; omega
    refine ⟨rot w k, c1, hc1, by rw [rot_length w k hk]; exact hw, fun x hx => ?_, ?_⟩
    · rcases List.mem_append.mp hx with hx | hx
      · exact hm x (List.mem_of_mem_drop hx)
      · exact hm x (List.mem_of_mem_take hx)
    · unfold rot
      generalize w.drop k = a at c2' hh ⊢
      generalize w.take k = b at c1' hh ⊢
      simp [st_law_28, t1, hb, c1', c2', hh]
  · have hf : ((d : Int) == 0) = false := by simpa using h0
    obtain ⟨o, c2, t2, hc2, l2, m2⟩ := word20 hc1 L (by rcases hL with rfl | rfl <;> simp) (by omega) w.length (by omega)
    refine ⟨o, c2, hc2, by omega, m2, ?_⟩
    simp [st_law_28, t1, hf, hb, t2]
variable (c : D) (L w o : Tx) (k : Nat) (c4 c5 c6 c7 : C)
theorem r29 (uw : uniT w) (uo : uniT o) (hw : w.length ≤ 14) (ho : o.length ≤ 14) : st_law_29 [S, .ow c, .im (.str L), .im (.str w), c4, c5, c6, c7, .im (.int (k : Int)), .im (.str o), .un, .un, .un, .un, .un] = some (.nx, [S, .ow c, .im (.str L), .im (.str w), c4, c5, c6, c7, .im (.int (k : Int)), .im (.str o), .im (papD w o), .un, .un, .un, .un]) := by
  have := e_lpaper w o uw uo (by omega) (by omega)
  generalize papD w o = d at this ⊢
  simp [st_law_29, this]
/-- the seven values -/
def seven (w o : Tx) : List D := match papO w o with
  | some k => [.tup [.str tTurned, nI k], .tup [.str tTurned], .tup [.str tTurned, .int 0], .tup [.str tTurned, .int (w.length : Int)], .tup [.str tUnlike, .str w, .str o], .tup [], .tup [.str tTurned, nI k, .int 0]]
  | none => [unlD w o, .tup [.str tUnlike], .tup [.str tTurned, .int 0], .tup [.str tTurned, .int (w.length : Int)], .tup [.str tUnlike, .str w, .str o], .tup [], .tup [.str tUnlike, .str (lr w), .str (lr o), .int 0]]
theorem seven_jj (hw0 : w ≠ []) (ho0 : o ≠ []) (uw : uniT w) (uo : uniT o) (hw : w.length ≤ 14) (ho : o.length ≤ 14) : ∀ v ∈ seven w o, JJ w o v := by
  have l1 : w.length ≤ 1000 := by omega
  have l2 : o.length ≤ 1000 := by omega
  intro v hv
  unfold seven at hv
  cases hp : papO w o with
  | some k =>
    rw [hp] at hv
    simp only [List.mem_cons, List.not_mem_nil, or_false] at hv
    rcases hv with rfl | rfl | rfl | rfl | rfl | rfl | rfl
    · exact jj_two hw0 ho0 uw uo l1 l2 (k : Int) (by omega)
    · exact jj_one hw0 ho0 uw uo l1 l2 tTurned uT
    · exact jj_two hw0 ho0 uw uo l1 l2 0 (by omega)
    · exact jj_two hw0 ho0 uw uo l1 l2 (w.length : Int) (by omega)
    · exact jj_three hw0 ho0 uw uo l1 l2 w o uw uo
    · exact jj_nil
    · exact jj_tthree hw0 ho0 uw uo l1 l2 (k : Int)
  | none =>
    rw [hp] at hv
    simp only [List.mem_cons, List.not_mem_nil, or_false] at hv
    rcases hv with rfl | rfl | rfl | rfl | rfl | rfl | rfl
    · exact jj_three hw0 ho0 uw uo l1 l2 (lr w) (lr o) (lr_uni uw) (lr_uni uo)
    · exact jj_one hw0 ho0 uw uo l1 l2 tUnlike uU
    · exact jj_two hw0 ho0 uw uo l1 l2 0 (by omega)
    · exact jj_two hw0 ho0 uw uo l1 l2 (w.length : Int) (by omega)
    · exact jj_three hw0 ho0 uw uo l1 l2 w o uw uo
    · exact jj_nil
    · exact jj_four hw0 ho0 uw uo l1 l2 (lr w) (lr o) (lr_uni uw) (lr_uni uo)
theorem r30 (uw : uniT w) (uo : uniT o) (hw : w.length ≤ 14) (ho : o.length ≤ 14) : ∃ c11 : C, st_law_30 [S, .ow c, .im (.str L), .im (.str w), c4, c5, c6, c7, .im (.int (k : Int)), .im (.str o), .im (papD w o), .un, .un, .un, .un] = some (.nx, [S, .ow c, .im (.str L), .im (.str w), c4, c5, c6, c7, .im (.int (k : Int)), .im (.str o), .im (papD w o), c11, .un, .un, .un]) := by
  have hb : w.length ≤ SL := by unfold SL; omega
  cases h0 : w with
  | nil =>
    refine ⟨.un, if_ff (e1 := [S, .ow c, .im (.str L), .im (.str []), c4, c5, c6, c7, .im (.int (k : Int)), .im (.str o), .im (papD [] o), .un, .un, .un, .un]) ?_ rfl⟩
    simp
  | cons a w' =>
    rw [← h0]
    have hne : w ≠ [] := by rw [h0]; simp
    have hne' : (w == []) = false := by rw [h0]; rfl
    clear h0
    cases h1 : o with
    | nil =>
      refine ⟨.un, if_ff (e1 := [S, .ow c, .im (.str L), .im (.str w), c4, c5, c6, c7, .im (.int (k : Int)), .im (.str []), .im (papD w []), .un, .un, .un, .un]) ?_ rfl⟩
      simp [hne']
    | cons b o' =>
      rw [← h1]
      have one : o ≠ [] := by rw [h1]; simp
      have one' : (o == []) = false := by rw [h1]; rfl
      clear h1
      have ep := e_paper w o hne one uw uo (by omega) (by omega)
      have hr := rp_pap w o uw uo (by omega) (by omega)
      have lp := forF_all (g := gN 11) (f := bk_law_9) (fun _ env => ∃ c11 : C, c11.free = true ∧ env = [S, .ow c, .im (.str L), .im (.str w), c4, c5, c6, c7, .im (.int (k : Int)), .im (.str o), .im (papD w o), c11, .un, .un, .un]) (seven w o) [S, .ow c, .im (.str L), .im (.str w), c4, c5, c6, c7, .im (.int (k : Int)), .im (.str o), .im (papD w o), .un, .un, .un, .un] ⟨.un, rfl, rfl⟩ fun j d env hj hp => by
        obtain ⟨c11, h11, rfl⟩ := hp
        obtain ⟨kk, q1, q2⟩ := seven_jj w o hne one uw uo hw ho d (List.mem_of_getElem? hj)
        refine ⟨[S, .ow c, .im (.str L), .im (.str w), c4, c5, c6, c7, .im (.int (k : Int)), .im (.str o), .im (papD w o), .im d, .un, .un, .un], [S, .ow c, .im (.str L), .im (.str w), c4, c5, c6, c7, .im (.int (k : Int)), .im (.str o), .im (papD w o), .im d, .un, .un, .un], by simp [h11], seq_nx (e1 := [S, .ow c, .im (.str L), .im (.str w), c4, c5, c6, c7, .im (.int (k : Int)), .im (.str o), .im (papD w o), .im d, .un, .un, .un]) (if_ff (e1 := [S, .ow c, .im (.str L), .im (.str w), c4, c5, c6, c7, .im (.int (k : Int)), .im (.str o), .im (papD w o), .im d, .un, .un, .un]) ?_ rfl) rfl, .im d, rfl, rfl⟩
        simp [q1, q2, rp_bl]
      obtain ⟨e, w1, c11, h11, rfl⟩ := lp
      have k1 : 1 ≤ SL := by decide
      have k2 : 2 ≤ SL := by decide
      have k3 : 3 ≤ SL := by decide
      have k4 : 4 ≤ SL := by decide
      have k7 : 7 ≤ SL := by decide
      refine ⟨c11, if_tt (e1 := [S, .ow c, .im (.str L), .im (.str w), c4, c5, c6, c7, .im (.int (k : Int)), .im (.str o), .im (papD w o), .un, .un, .un, .un]) ?_ (seq_nx (e1 := [S, .ow c, .im (.str L), .im (.str w), c4, c5, c6, c7, .im (.int (k : Int)), .im (.str o), .im (papD w o), .un, .un, .un, .un]) (if_ff (e1 := [S, .ow c, .im (.str L), .im (.str w), c4, c5, c6, c7, .im (.int (k : Int)), .im (.str o), .im (papD w o), .un, .un, .un, .un]) ?_ rfl) (seq_nx (e1 := [S, .ow c, .im (.str L), .im (.str w), c4, c5, c6, c7, .im (.int (k : Int)), .im (.str o), .im (papD w o), c11, .un, .un, .un]) ?_ rfl))⟩
      · simp [hne', one']
      · generalize papD w o = d at ep hr ⊢
        simp [ep, hr]
      · rw [← w1]
        rw [papD_eq]
        unfold seven papF
        cases hp : papO w o with
        | some k =>
          have cu : cutT [D.str tTurned, nI k] none (some 1) = [D.str tTurned] := cut_to' _ 1
          simp [st_law_13, tTurned, tUnlike, nI] at cu ⊢
          simp [cu, hb, k1, k2, k3, k7]
        | none =>
          have cu : cutT [D.str tUnlike, .str (lr w), .str (lr o)] none (some 1) = [D.str tUnlike] := cut_to' _ 1
          unfold unlD
          simp [st_law_13, tTurned, tUnlike] at cu ⊢
          simp [cu, hb, k1, k2, k3, k4, k7]
end
end signworth_k20_turning
namespace signworth_k20_turning
open PySem PySem.Spec PyProof.Rows L2 MP

section
variable (S : C)
theorem ltr_at {L : Tx} (hL : L = [97, 98] ∨ L = [97, 98, 99]) : atI L 0 = some 97 ∧ atI L 1 = some 98 ∧ 97 ∈ L ∧ 98 ∈ L := by
  rcases hL with rfl | rfl <;> exact ⟨rfl, rfl, by simp, by simp⟩
theorem r31 {c : D} (hc : CSt c) (L : Tx) (c3 c4 c5 c6 c7 c8 c9 c10 c11 : C) (hL : L = [97, 98] ∨ L = [97, 98, 99]) : ∃ (u v : Tx) (c' : D), CSt c' ∧ u ≠ [] ∧ v ≠ [] ∧ u.length ≤ 5 ∧ v.length ≤ 5 ∧ (∀ x ∈ u, x ∈ L) ∧ (∀ x ∈ v, x ∈ L) ∧ st_law_31 [S, .ow c, .im (.str L), c3, c4, c5, c6, c7, c8, c9, c10, c11, .un, .un, .un] = some (.nx, [S, .ow c', .im (.str L), c3, c4, c5, c6, c7, c8, c9, c10, c11, .im (.str u), .im (.str v), .un]) := by
  obtain ⟨uL, lL, lL0⟩ := uni_ltrs hL
  obtain ⟨a0, a1, m0, m1⟩ := ltr_at hL
  have hne : L ≠ [] := by rcases hL with rfl | rfl <;> simp
  have hLS : L.length ≤ SL := by unfold SL; omega
  obtain ⟨x, c1, t1, hc1, l1, x1⟩ := word20 hc L hne (by omega) 3 (by omega)
  obtain ⟨z, c2, t2, hc2, l2, z1⟩ := word20 hc1 L hne (by omega) 4 (by omega)
  refine ⟨97 :: x, z ++ [98], c2, hc2, by simp, by simp, by simp; omega, by simp; omega, fun y hy => ?_, fun y hy => ?_, ?_⟩
  · rcases List.mem_cons.mp hy with rfl | hy
    · exact m0
    · exact x1 y hy
  · rcases List.mem_append.mp hy with hy | hy
    · exact z1 y hy
    · rw [List.mem_singleton.mp hy]; exact m1
  · have q1 : 1 + x.length ≤ SL := by unfold SL; omega
    have q2 : z.length + 1 ≤ SL := by unfold SL; omega
    have a0' : L[0]? = some 97 := by rcases hL with rfl | rfl <;> rfl
    have a1' : L[1]? = some 98 := by rcases hL with rfl | rfl <;> rfl
    clear a0 a1 hL
    simp at t1 t2
    simp [st_law_31, hLS, a0', a1', t1, t2, q1, q2]
theorem m14g {c c1 c2 : D} (L u r1 r2 : Tx) (v : Tx) (c3 c4 c5 c6 c7 c8 c9 c10 c11 : C) (i j m1 m2 : Int) (t1 : fn_law_take [.bo c, .im (.int 3)] = some (.im (.int i), [.bo c1, .im (.int 3)])) (t2 : fn_law_take [.bo c1, .im (.int 3)] = some (.im (.int j), [.bo c2, .im (.int 3)])) (h1 : 1 + i = m1) (h2 : 1 + j = m2) (q1 : fMulA (.str u) (.int m1) = some (.im (.str r1))) (q2 : fMulA (.str u) (.int m2) = some (.im (.str r2))) : st_law_14 [S, .ow c, .im (.str L), c3, c4, c5, c6, c7, c8, c9, c10, c11, .im (.str u), .im (.str v), .un] = some (.nx, [S, .ow c2, .im (.str L), c3, c4, c5, c6, c7, c8, c9, c10, c11, .im (.str r1), .im (.str r2), .un]) := by
  simp [-z_mulS, st_law_14, t1, t2, h1, h2, q1, q2]
theorem r32 {c : D} (hc : CSt c) (L u v : Tx) (c3 c4 c5 c6 c7 c8 c9 c10 c11 : C) (hu : u ≠ []) (hv : v ≠ []) (lu : u.length ≤ 5) (lv : v.length ≤ 5) (mu : ∀ x ∈ u, x ∈ L) (mv : ∀ x ∈ v, x ∈ L) : ∃ (u' v' : Tx) (c' : D), CSt c' ∧ u' ≠ [] ∧ v' ≠ [] ∧ u'.length ≤ 100 ∧ v'.length ≤ 100 ∧ (∀ x ∈ u', x ∈ L) ∧ (∀ x ∈ v', x ∈ L) ∧ st_law_32 [S, .ow c, .im (.str L), c3, c4, c5, c6, c7, c8, c9, c10, c11, .im (.str u), .im (.str v), .un] = some (.nx, [S, .ow c', .im (.str L), c3, c4, c5, c6, c7, c8, c9, c10, c11, .im (.str u'), .im (.str v'), .un]) := by
  obtain ⟨d, c1, t1, hc1, l1⟩ := take20 hc 2 (by omega) (by omega)
  by_cases h0 : d = 0
  · subst h0
    obtain ⟨i, c2, t2, hc2, l2⟩ := take20 hc1 3 (by omega) (by omega)
    obtain ⟨j, c3', t3, hc3, l3⟩ := take20 hc2 3 (by omega) (by omega)
    have rep : ∀ n : Nat, 1 ≤ n → n ≤ 3 → repT u n ≠ [] ∧ (repT u n).length ≤ 100 ∧ ∀ x ∈ repT u n, x ∈ L := fun n n1 n2 => by
      have hl := repT_length u n
      have h1 := List.length_pos_iff.mpr hu
      have h2 : n * u.length ≤ 3 * 5 := Nat.mul_le_mul n2 lu
      have h3 : 1 ≤ n * u.length := Nat.mul_pos n1 h1
      exact ⟨fun q => by rw [q] at hl; simp at hl; omega, by omega, fun x hx => mu x (mem_repT hx)⟩
    have mul : ∀ (n : Nat) (m : Int), m = (n : Int) → 1 ≤ n → n ≤ 3 → fMulA (.str u) (.int m) = some (.im (.str (repT u n))) := fun n m e n1 n2 => by
      have h2 : u.length * n ≤ 5 * 3 := Nat.mul_le_mul lu n2
      exact mulS_ok (by omega) (by omega) (by omega) (by unfold SL; omega) (by unfold SL; omega)
    obtain ⟨m1, e1⟩ : ∃ m1 : Int, 1 + (i : Int) = m1 := ⟨_, rfl⟩
    obtain ⟨m2, e2⟩ : ∃ m2 : Int, 1 + (j : Int) = m2 := ⟨_, rfl⟩
    obtain ⟨a1, a2, a3⟩ := rep (1 + i) (by omega) (by omega)
    obtain ⟨b1, b2, b3⟩ := rep (1 + j) (by omega) (by omega)
    refine ⟨repT u (1 + i), repT u (1 + j), c3', hc3, a1, b1, a2, b2, a3, b3, if_tt (e1 := [S, .ow c1, .im (.str L), c3, c4, c5, c6, c7, c8, c9, c10, c11, .im (.str u), .im (.str v), .un]) ?_ (seq_nx (m14g S L u _ _ v c3 c4 c5 c6 c7 c8 c9 c10 c11 (i : Int) (j : Int) m1 m2 t2 t3 e1 e2 (mul (1 + i) m1 (by omega) (by omega) (by omega)) (mul (1 + j) m2 (by omega) (by omega) (by omega))) rfl)⟩
    simp [t1]
  · have hf : ((d : Int) == 0) = false := by simpa using h0
    refine ⟨u, v, c1, hc1, hu, hv, by omega, by omega, mu, mv, if_ff (e1 := [S, .ow c1, .im (.str L), c3, c4, c5, c6, c7, c8, c9, c10, c11, .im (.str u), .im (.str v), .un]) ?_ rfl⟩
    simp [t1, hf]
theorem r33 (c : D) (L u v : Tx) (c3 c4 c5 c6 c7 c8 c9 c10 c11 : C) (hu : u ≠ []) (hv : v ≠ []) (uu : uniT u) (lu : u.length ≤ 100) (lv : v.length ≤ 100) : st_law_33 [S, .ow c, .im (.str L), c3, c4, c5, c6, c7, c8, c9, c10, c11, .im (.str u), .im (.str v), .un] = some (.nx, [S, .ow c, .im (.str L), c3, c4, c5, c6, c7, c8, c9, c10, c11, .im (.str u), .im (.str v), .un]) := by
  have q1 := e_equal u v hu hv (by omega) (by omega)
  have q2 := e_lequal u v hu hv (by omega) (by omega)
  have hr := rp_pow u v hu uu (by omega) (by omega)
  refine if_ff (e1 := [S, .ow c, .im (.str L), c3, c4, c5, c6, c7, c8, c9, c10, c11, .im (.str u), .im (.str v), .un]) ?_ rfl
  generalize powD u v (dfO u v) = d at q1 q2 hr
  simp [q1, q2, hr]
theorem r34 {c : D} (hc : CSt c) (L u v : Tx) (c3 c4 c5 c6 c7 c8 c9 c10 c11 : C) (h6 : c6.free = true) : ∃ (p q : Nat) (c' : D), CSt c' ∧ 2 ≤ p ∧ p < 11 ∧ 2 ≤ q ∧ q < 11 ∧ st_law_34 [S, .ow c, .im (.str L), c3, c4, c5, c6, c7, c8, c9, c10, c11, .im (.str u), .im (.str v), .un] = some (.nx, [S, .ow c', .im (.str L), c3, c4, c5, .im (.int (p : Int)), c7, c8, c9, c10, c11, .im (.str u), .im (.str v), .im (.int (q : Int))]) := by
  obtain ⟨i, c1, t1, hc1, l1⟩ := take20 hc 9 (by omega) (by omega)
  obtain ⟨j, c2, t2, hc2, l2⟩ := take20 hc1 9 (by omega) (by omega)
  refine ⟨2 + i, 2 + j, c2, hc2, by omega, by omega, by omega, by omega, ?_⟩
  simp [st_law_34, t1, t2, h6]
theorem r35 (c : D) (L u v : Tx) (c3 c4 c5 c7 c8 c9 c10 c11 : C) (p q : Nat) (p1 : 2 ≤ p) (p2 : p < 11) (q1 : 2 ≤ q) (q2 : q < 11) : st_law_35 [S, .ow c, .im (.str L), c3, c4, c5, .im (.int (p : Int)), c7, c8, c9, c10, c11, .im (.str u), .im (.str v), .im (.int (q : Int))] = some (.nx, [S, .ow c, .im (.str L), c3, c4, c5, .im (.int (p : Int)), c7, c8, c9, c10, c11, .im (.str u), .im (.str v), .im (.int (q : Int))]) := by
  have p0 : 0 < p := by omega
  have q0 : 0 < q := by omega
  refine if_ff (e1 := [S, .ow c, .im (.str L), c3, c4, c5, .im (.int (p : Int)), c7, c8, c9, c10, c11, .im (.str u), .im (.str v), .im (.int (q : Int))]) ?_ rfl
  have m1 : ((p : Int) % (q : Int) == 0) = (p % q == 0) := by rw [Bool.eq_iff_iff, beq_iff_eq, beq_iff_eq]; omega
  have m2 : ((q : Int) % (p : Int) == 0) = (q % p == 0) := by rw [Bool.eq_iff_iff, beq_iff_eq, beq_iff_eq]; omega
  cases h1 : (p % q == 0) with
  | true =>
    rw [h1] at m1
    simp [q0, m1]
  | false =>
    rw [h1] at m1
    cases h2 : (q % p == 0) with
    | true =>
      rw [h2] at m2
      simp [q0, p0, m1, m2]
    | false =>
      rw [h2] at m2
      obtain ⟨t, ut, lt', s1, s2⟩ := e_shared p q p1 p2 q1 q2 (by simpa using h1) (by simpa using h2)
      have hr := rp_tx ut (by omega)
      simp [q0, p0, m1, m2, s1, s2, hr]
end
theorem law_true : ∀ ns : List Int, ns.length ≤ 63 → ∃ args', fn_law [.im (.fz (ns.map D.int))] = some (.im (.bl true), args') := by
  intro ns hl
  obtain ⟨c0, as0, t0, hc0, rfl⟩ := start20 ns hl
  obtain ⟨d1, c1, t1, hc1, l1⟩ := take20 hc0 2 (by omega) (by omega)
  obtain ⟨hL, cutL⟩ := ltrs_ok d1 (by omega)
  obtain ⟨S, hS⟩ : ∃ S, C.im (.fz (ns.map D.int)) = S := ⟨_, rfl⟩
  have k3 : 3 ≤ SL := by decide
  have h17 : st_law_17 (env0 15 [.im (.fz (ns.map D.int))]) = some (.nx, [S, .ow c0, .un, .un, .un, .un, .un, .un, .un, .un, .un, .un, .un, .un, .un]) := by
    rw [← hS]
    simp [st_law_17, t0]
  have h18 : st_law_18 [S, .ow c0, .un, .un, .un, .un, .un, .un, .un, .un, .un, .un, .un, .un, .un] = some (.nx, [S, .ow c1, .im (.str (ltrs d1)), .un, .un, .un, .un, .un, .un, .un, .un, .un, .un, .un, .un]) := by
    simp [st_law_18, t1, k3, cutL]
  generalize ltrs d1 = L at hL h18
  obtain ⟨uL, lL, lL0⟩ := uni_ltrs hL
  have hne : L ≠ [] := by rcases hL with rfl | rfl <;> simp
  obtain ⟨w0, c2, t2, hc2, l2, m2⟩ := word20 hc1 L hne (by omega) 14 (by omega)
  have h19 : st_law_19 [S, .ow c1, .im (.str L), .un, .un, .un, .un, .un, .un, .un, .un, .un, .un, .un, .un] = some (.nx, [S, .ow c2, .im (.str L), .im (.str w0), .un, .un, .un, .un, .un, .un, .un, .un, .un, .un, .un]) := by
    simp at t2
    simp [st_law_19, t2]
  obtain ⟨w, c3, hc3, lw, mw, h20⟩ := r20 S hc2 L w0 hL l2 m2
  have uw : uniT w := fun x hx => uL x (mw x hx)
  have h21 : st_law_21 [S, .ow c3, .im (.str L), .im (.str w), .un, .un, .un, .un, .un, .un, .un, .un, .un, .un, .un] = some (.nx, [S, .ow c3, .im (.str L), .im (.str w), .ow (.lst ((pds w).map nI)), .un, .un, .un, .un, .un, .un, .un, .un, .un, .un]) := by
    have := e_lperiods w (by omega)
    simp [st_law_21, this]
  have h22 := r22 S c3 L w .un .un .un .un .un .un .un .un .un .un lw
  have h23 := r23 S c3 L w .un .un .un .un .un .un .un .un .un .un lw rfl rfl rfl
  have h24 := r24 S c3 L w .un .un .un .un .un .un .un .un .un lw uw
  obtain ⟨c7, f7, h25⟩ := r25 S c3 L w (.im (.lst ((pds w).map nI))) (.ow (.lst ((pds w).map fun p => D.str (w.take (w.length - p))))) .un .un .un .un .un .un .un .un .un lw uw rfl
  have h26 := r26 S c3 L w (.im (.lst ((pds w).map nI))) (.ow (.lst ((pds w).map fun p => D.str (w.take (w.length - p))))) .un c7 .un .un .un .un .un .un .un lw uw
  have hb : w.length ≤ SL := by unfold SL; omega
  obtain ⟨k, c4, t4, hc4, lk⟩ := take20 hc3 ((w.length : Int) + 1) (by omega) (by omega)
  have h27 : st_law_27 [S, .ow c3, .im (.str L), .im (.str w), .im (.lst ((pds w).map nI)), .ow (.lst ((pds w).map fun p => D.str (w.take (w.length - p)))), .un, c7, .un, .un, .un, .un, .un, .un, .un] = some (.nx, [S, .ow c4, .im (.str L), .im (.str w), .im (.lst ((pds w).map nI)), .ow (.lst ((pds w).map fun p => D.str (w.take (w.length - p)))), .un, c7, .im (.int (k : Int)), .un, .un, .un, .un, .un, .un]) := by
    simp [st_law_27, hb, t4]
  obtain ⟨o, c5, hc5, lo, mo, h28⟩ := r28 S hc4 L w (.im (.lst ((pds w).map nI))) (.ow (.lst ((pds w).map fun p => D.str (w.take (w.length - p))))) .un c7 hL lw mw k (by omega)
  have uo : uniT o := fun x hx => uL x (mo x hx)
  have h29 := r29 S c5 L w o k (.im (.lst ((pds w).map nI))) (.ow (.lst ((pds w).map fun p => D.str (w.take (w.length - p))))) .un c7 uw uo lw lo
  obtain ⟨c11, h30⟩ := r30 S c5 L w o k (.im (.lst ((pds w).map nI))) (.ow (.lst ((pds w).map fun p => D.str (w.take (w.length - p))))) .un c7 uw uo lw lo
  obtain ⟨u0, v0, c6, hc6, u1, v1, u2, v2, u3, v3, h31⟩ := r31 S hc5 L (.im (.str w)) (.im (.lst ((pds w).map nI))) (.ow (.lst ((pds w).map fun p => D.str (w.take (w.length - p))))) .un c7 (.im (.int (k : Int))) (.im (.str o)) (.im (papD w o)) c11 hL
  obtain ⟨u, v, c8, hc8, x1, y1, x2, y2, x3, y3, h32⟩ := r32 S hc6 L u0 v0 (.im (.str w)) (.im (.lst ((pds w).map nI))) (.ow (.lst ((pds w).map fun p => D.str (w.take (w.length - p))))) .un c7 (.im (.int (k : Int))) (.im (.str o)) (.im (papD w o)) c11 u1 v1 u2 v2 u3 v3
  have uu : uniT u := fun x hx => uL x (x3 x hx)
  have h33 := r33 S c8 L u v (.im (.str w)) (.im (.lst ((pds w).map nI))) (.ow (.lst ((pds w).map fun p => D.str (w.take (w.length - p))))) .un c7 (.im (.int (k : Int))) (.im (.str o)) (.im (papD w o)) c11 x1 y1 uu x2 y2
  obtain ⟨p, q, c9, hc9, p1, p2, q1, q2, h34⟩ := r34 S hc8 L u v (.im (.str w)) (.im (.lst ((pds w).map nI))) (.ow (.lst ((pds w).map fun p => D.str (w.take (w.length - p))))) .un c7 (.im (.int (k : Int))) (.im (.str o)) (.im (papD w o)) c11 rfl
  have h35 := r35 S c9 L u v (.im (.str w)) (.im (.lst ((pds w).map nI))) (.ow (.lst ((pds w).map fun p => D.str (w.take (w.length - p))))) c7 (.im (.int (k : Int))) (.im (.str o)) (.im (papD w o)) c11 p q p1 p2 q1 q2
  obtain ⟨c10, ha⟩ := e_lall hc9
  refine ⟨[.im (.fz (ns.map D.int))], run_rt (seq_nx h17 (seq_nx h18 (seq_nx h19 (seq_nx h20 (seq_nx h21 (seq_nx h22 (seq_nx h23 (seq_nx h24 (seq_nx h25 (seq_nx h26 (seq_nx h27 (seq_nx h28 (seq_nx h29 (seq_nx h30 (seq_nx h31 (seq_nx h32 (seq_nx h33 (seq_nx h34 (seq_nx h35 (seq_rt (e1 := [S, .ow c10, .im (.str L), .im (.str w), .im (.lst ((pds w).map nI)), .ow (.lst ((pds w).map fun p => D.str (w.take (w.length - p)))), .im (.int (p : Int)), c7, .im (.int (k : Int)), .im (.str o), .im (papD w o), c11, .im (.str u), .im (.str v), .im (.int (q : Int))]) ?_)))))))))))))))))))) ?_⟩
  · simp [st_law_36, ha]
  · rw [← hS]
    rfl
end signworth_k20_turning
namespace signworth_k20_turning
open PySem PySem.Spec PyProof.Rows L2 MP
section
variable {P : Program} {w : World} {K : PySem.W.Frag} {mg : Str → Option Value} {base : Heap}
theorem ok_common_divisor {f : Addr} {fd : FuncData} (Fu : Fun K "common_divisor" "common_divisor" s_common_divisor f fd) (B : Bu mg)   : FnG P w K mg base 1 f fd ["first", "second"] (spOf K 2 fn_common_divisor) := by
  have nd := sc_common_divisor.nd
  exact fn_ok Fu sc_common_divisor fun cdv A outer s H hr => (q_cons (q_par rfl nd (ha := (q_callB ok_abs call_abs B.b_abs (q_acons (q_pv (pv 0)) q_anil))) (hb := (q_callB ok_abs call_abs B.b_abs (q_acons (q_pv (pv 1)) q_anil))))
  (q_cons (q_while PassesOwn.never (q_tcmp ok_ne (op_neA hr.r.units) (q_pv (pv 1)) (q_int).p) (q_cons (q_par rfl nd (ha := (q_ev (pv 1))) (hb := (q_op ok_mod op_mod (q_pv (pv 0)) (q_pv (pv 1)))))
  q_nil))
  (q_cons (q_retV (pv 0))
  q_nil)))
theorem ok_is_integer {f : Addr} {fd : FuncData} (Fu : Fun K "is_integer" "is_integer" s_is_integer f fd) (B : Bu mg)   : FnG P w K mg base 1 f fd ["value"] (spOf K 1 fn_is_integer) := by
  have nd := sc_is_integer.nd
  exact fn_ok Fu sc_is_integer fun cdv A outer s H hr => (q_cons (q_ret (q_andT (q_callB ok_isi call_isi B.b_isinstance (q_acons (q_pv (pv 0)) (q_acons ((q_ty B.b_int)).p q_anil))) (q_one (q_enot (q_callB ok_isi call_isi B.b_isinstance (q_acons (q_pv (pv 0)) (q_acons ((q_ty B.b_bool)).p q_anil)))))))
  q_nil)
theorem ok_has_period {f : Addr} {fd : FuncData} (Fu : Fun K "has_period" "has_period" s_has_period f fd) (B : Bu mg)   : FnG P w K mg base 1 f fd ["word", "p"] (spOf K 2 fn_has_period) := by
  have nd := sc_has_period.nd
  exact fn_ok Fu sc_has_period fun cdv A outer s H hr => (q_cons (q_ret (q_callB ok_all (cr_all rfl) B.b_all (q_acons ((q_lc [("k", 2)] rfl nd (q_r1 B.b_range (q_acons ((q_op ok_sub op_sub ((q_callB ok_len call_lenA B.b_len (q_acons (q_pv (pv 0)) q_anil))).p (q_pv (pv 1)))).p q_anil)) (blkOk_by (N := ["word", "p", "k"]) (sc := defScope s_has_period) (by decide +kernel)) (fun _ _ _ _ _ => (q_gcn (by decide) nd)) (fun _ _ _ _ _ => q_tnil) (fun _ _ _ _ _ => (q_cmp ok_eq (op_eqA hr.r.units) ((q_sub hr.u1 (q_pv (pv 0)) (q_pv (pv 2)))).p ((q_sub hr.u1 (q_pv (pv 0)) ((q_op ok_add op_addA (q_pv (pv 2)) (q_pv (pv 1)))).p)).p)))).p q_anil)))
  q_nil)
theorem ok_periods {f : Addr} {fd : FuncData} (Fu : Fun K "periods" "periods" s_periods f fd) (B : Bu mg)  (h_has_period : DefOk P w K mg base "has_period" ["word", "p"] 1 fn_has_period) : FnG P w K mg base 2 f fd ["word"] (spOf K 1 fn_periods) := by
  have nd := sc_periods.nd
  exact fn_ok Fu sc_periods fun cdv A outer s H hr => (q_cons (q_ret (q_callT ok_tuple call_tuple_of B.b_tuple (q_acons ((q_lc [("p", 1)] rfl nd (q_r2 B.b_range (q_acons (q_int).p (q_acons ((q_op ok_add op_addA ((q_callB ok_len call_lenA B.b_len (q_acons (q_pv (pv 0)) q_anil))).p (q_int).p)).p q_anil))) (blkOk_by (N := ["word", "p"]) (sc := defScope s_periods) (by decide +kernel)) (fun _ _ _ _ _ => (q_gcn (by decide) nd)) (fun _ _ _ _ _ => (q_tone (q_truth ((q_fn (h_has_period.mono (by decide)) hr (q_acons ((q_ev (pv 0))).p (q_acons ((q_ev (pv 1))).p q_anil)) (al_cons (al_cons al_nil)))).p))) (fun _ _ _ _ _ => (q_ev (pv 1))))).p q_anil)))
  q_nil)
theorem ok_borders {f : Addr} {fd : FuncData} (Fu : Fun K "borders" "borders" s_borders f fd) (B : Bu mg)   : FnG P w K mg base 1 f fd ["word"] (spOf K 1 fn_borders) := by
  have nd := sc_borders.nd
  exact fn_ok Fu sc_borders fun cdv A outer s H hr => (q_cons (q_ret (q_callT ok_tuple call_tuple_of B.b_tuple (q_acons ((q_lc [("k", 1)] rfl nd (q_r1 B.b_range (q_acons ((q_callB ok_len call_lenA B.b_len (q_acons (q_pv (pv 0)) q_anil))).p q_anil)) (blkOk_by (N := ["word", "k"]) (sc := defScope s_borders) (by decide +kernel)) (fun _ _ _ _ _ => (q_gcn (by decide) nd)) (fun _ _ _ _ _ => (q_tone (q_tcmp ok_eq (op_eqA hr.r.units) ((q_sl (q_pv (pv 0)) q_ono (q_oi (q_pv (pv 1))))).p ((q_sl (q_pv (pv 0)) (q_oi ((q_op ok_sub op_sub ((q_callB ok_len call_lenA B.b_len (q_acons (q_pv (pv 0)) q_anil))).p (q_pv (pv 1)))).p) q_ono)).p))) (fun _ _ _ _ _ => (q_sl (q_pv (pv 0)) q_ono (q_oi (q_pv (pv 1))))))).p q_anil)))
  q_nil)
theorem ok_shared_period {f : Addr} {fd : FuncData} (Fu : Fun K "shared_period" "shared_period" s_shared_period f fd) (B : Bu mg) (g_LETTERS : ∃ t, mg "LETTERS" = some (.str "abcdefghijklmnopqrstuvwxyz" t)) (h_common_divisor : DefOk P w K mg base "common_divisor" ["first", "second"] 1 fn_common_divisor) : FnG P w K mg base 2 f fd ["p", "q"] (spOf K 2 fn_shared_period) := by
  have nd := sc_shared_period.nd
  exact fn_ok Fu sc_shared_period fun cdv A outer s H hr => (q_cons (q_asg nd (he := (q_op ok_sub op_sub ((q_op ok_sub op_sub ((q_op ok_add op_addA (q_pv (pv 0)) (q_pv (pv 1)))).p ((q_fn (h_common_divisor.mono (by decide)) hr (q_acons ((q_ev (pv 0))).p (q_acons ((q_ev (pv 1))).p q_anil)) (al_cons (al_cons al_nil)))).p)).p (q_int).p)))
  (q_cons (q_asg nd (he := (q_listrng1 B.b_list B.b_range (q_ev (pv 2)))))
  (q_cons (q_asg nd (he := q_bl))
  (q_cons (q_while PassesOwn.never (q_truth (q_pv (pv 4))) (q_cons (q_asg nd (he := q_bl))
  (q_cons (q_for PassesOwn.never rfl (q_ie (q_tup (q_acons ((q_ev (pv 0))).p (q_acons ((q_ev (pv 1))).p q_anil)))) (q_gn nd) (q_cons (q_for PassesOwn.never rfl (q_r1 B.b_range (q_acons ((q_op ok_sub op_sub (q_pv (pv 2)) (q_pv (pv 5)))).p q_anil)) (q_gn nd) (q_cons (q_asg nd (he := (q_callB ok_min2 (call_min2 rfl) B.b_min (q_acons ((q_sub hr.u1 (q_pv (pv 3)) (q_pv (pv 6)))).p (q_acons ((q_sub hr.u1 (q_pv (pv 3)) ((q_op ok_add op_addA (q_pv (pv 6)) (q_pv (pv 5)))).p)).p q_anil)))))
  (q_cons (q_if (QW.t (q_or (q_tcmp ok_ne (op_neA hr.r.units) ((q_sub hr.u1 (q_pv (pv 3)) (q_pv (pv 6)))).p (q_pv (pv 7))) (q_or1 (q_tcmp ok_ne (op_neA hr.r.units) ((q_sub hr.u1 (q_pv (pv 3)) ((q_op ok_add op_addA (q_pv (pv 6)) (q_pv (pv 5)))).p)).p (q_pv (pv 7)))))) (q_cons (q_asgG (q_tup (q_acons ((q_ev (pv 7))).p (q_acons ((q_ev (pv 7))).p q_anil))) (q_gt rfl (q_gscons (q_gsub hr.u1 (pv 3) (q_pv (pv 6))) (q_gscons (q_gsub hr.u1 (pv 3) ((q_op ok_add op_addA (q_pv (pv 6)) (q_pv (pv 5)))).p) q_gsnil)) (gs_lenS gs_len1)))
  (q_cons (q_asg nd (he := q_bl))
  q_nil)) q_nil)
  q_nil)))
  q_nil))
  q_nil)))
  (q_cons (q_asg nd (he := (q_lst q_anil)))
  (q_cons (q_for PassesOwn.never rfl (q_ie (q_ev (pv 3))) (q_gn nd) (q_cons (q_if (q_tcmp ok_notIn (op_notInA hr.u65) (q_pv (pv 9)) (q_pv (pv 8))) (q_cons (q_expr (q_mut ok_append F.plainAttrs_list F.slot_list_append F.type_list_append mt_append (pv 8) (q_acons ((q_ev (pv 9))).p q_anil)))
  q_nil) q_nil)
  q_nil))
  (q_cons (q_if (q_tcmp ok_gt op_gtA ((q_callB ok_len call_lenA B.b_len (q_acons (q_pv (pv 8)) q_anil))).p ((q_callB ok_len call_lenA B.b_len (q_acons ((q_gstr g_LETTERS)).p q_anil))).p) (q_cons q_never
  q_nil) q_nil)
  (q_cons (q_ret (q_meth ok_join ty_str F.plainAttrs_str F.slot_str_join F.type_str_join mt_join (q_str).p (q_acons ((q_lc [("one", 9)] rfl nd (q_ie (q_ev (pv 3))) (blkOk_by (N := ["p", "q", "n", "names", "more", "step", "k", "low", "order", "one"]) (sc := defScope s_shared_period) (by decide +kernel)) (fun _ _ _ _ _ => (q_gcn (by decide) nd)) (fun _ _ _ _ _ => q_tnil) (fun _ _ _ _ _ => (q_sub hr.u1 ((q_gstr g_LETTERS)).p ((q_alt (q_meth ok_indexS ty_str F.plainAttrs_str F.slot_str_index F.type_str_index mt_sindex (q_pv (pv 8)) (q_acons (q_pv (pv 9)) q_anil)) (q_meth ok_indexL ty_lst F.plainAttrs_list F.slot_list_index F.type_list_index (mt_indexD hr.u65) (q_pv (pv 8)) (q_acons (q_pv (pv 9)) q_anil)))).p)))).p q_anil)))
  q_nil))))))))
theorem ok_root_of {f : Addr} {fd : FuncData} (Fu : Fun K "root_of" "root_of" s_root_of f fd) (B : Bu mg)   : FnG P w K mg base 1 f fd ["word"] (spOf K 1 fn_root_of) := by
  have nd := sc_root_of.nd
  exact fn_ok Fu sc_root_of fun cdv A outer s H hr => (q_cons (q_for PassesOwn.never rfl (q_r2 B.b_range (q_acons (q_int).p (q_acons ((q_op ok_add op_addA ((q_callB ok_len call_lenA B.b_len (q_acons (q_pv (pv 0)) q_anil))).p (q_int).p)).p q_anil))) (q_gn nd) (q_cons (q_if (QW.t (q_and (q_tcmp ok_eq (op_eqA hr.r.units) ((q_op ok_mod op_mod ((q_callB ok_len call_lenA B.b_len (q_acons (q_pv (pv 0)) q_anil))).p (q_pv (pv 1)))).p (q_int).p) (q_and1 (q_tcmp ok_eq (op_eqA hr.r.units) ((q_op ok_mulA op_mulA ((q_sl (q_pv (pv 0)) q_ono (q_oi (q_pv (pv 1))))).p ((q_op ok_div op_fdiv ((q_callB ok_len call_lenA B.b_len (q_acons (q_pv (pv 0)) q_anil))).p (q_pv (pv 1)))).p)).p (q_pv (pv 0)))))) (q_cons (q_ret (q_tup (q_acons ((q_sl (q_pv (pv 0)) q_ono (q_oi (q_pv (pv 1))))).p (q_acons ((q_op ok_div op_fdiv ((q_callB ok_len call_lenA B.b_len (q_acons (q_pv (pv 0)) q_anil))).p (q_pv (pv 1)))).p q_anil))))
  q_nil) q_nil)
  q_nil))
  (q_cons (q_ret (q_tup (q_acons ((q_ev (pv 0))).p (q_acons (q_int).p q_anil))))
  q_nil))
theorem ok_turned_by {f : Addr} {fd : FuncData} (Fu : Fun K "turned_by" "turned_by" s_turned_by f fd) (B : Bu mg)   : FnG P w K mg base 1 f fd ["word", "at"] (spOf K 2 fn_turned_by) := by
  have nd := sc_turned_by.nd
  exact fn_ok Fu sc_turned_by fun cdv A outer s H hr => (q_cons (q_ret (q_op ok_add op_addA ((q_sl (q_pv (pv 0)) (q_oi (q_pv (pv 1))) q_ono)).p ((q_sl (q_pv (pv 0)) q_ono (q_oi (q_pv (pv 1))))).p))
  q_nil)
theorem ok_least_rotation {f : Addr} {fd : FuncData} (Fu : Fun K "least_rotation" "least_rotation" s_least_rotation f fd) (B : Bu mg)  (h_turned_by : DefOk P w K mg base "turned_by" ["word", "at"] 1 fn_turned_by) : FnG P w K mg base 2 f fd ["word"] (spOf K 1 fn_least_rotation) := by
  have nd := sc_least_rotation.nd
  exact fn_ok Fu sc_least_rotation fun cdv A outer s H hr => (q_cons (q_ret (q_callB ok_minA (cr_minA rfl hr.u66) B.b_min (q_acons ((q_lc [("at", 1)] rfl nd (q_r1 B.b_range (q_acons ((q_callB ok_max2 (call_max2 rfl) B.b_max (q_acons (q_int).p (q_acons ((q_callB ok_len call_lenA B.b_len (q_acons (q_pv (pv 0)) q_anil))).p q_anil)))).p q_anil)) (blkOk_by (N := ["word", "at"]) (sc := defScope s_least_rotation) (by decide +kernel)) (fun _ _ _ _ _ => (q_gcn (by decide) nd)) (fun _ _ _ _ _ => q_tnil) (fun _ _ _ _ _ => (q_tup (q_acons ((q_fn (h_turned_by.mono (by decide)) hr (q_acons ((q_ev (pv 0))).p (q_acons ((q_ev (pv 1))).p q_anil)) (al_cons (al_cons al_nil)))).p (q_acons ((q_ev (pv 1))).p q_anil)))))).p q_anil)))
  q_nil)
theorem ok_turned_paper {f : Addr} {fd : FuncData} (Fu : Fun K "turned_paper" "turned_paper" s_turned_paper f fd) (B : Bu mg)  (h_turned_by : DefOk P w K mg base "turned_by" ["word", "at"] 1 fn_turned_by) (h_least_rotation : DefOk P w K mg base "least_rotation" ["word"] 2 fn_least_rotation) : FnG P w K mg base 3 f fd ["word", "other"] (spOf K 2 fn_turned_paper) := by
  have nd := sc_turned_paper.nd
  exact fn_ok Fu sc_turned_paper fun cdv A outer s H hr => (q_cons (q_if (q_tcmp ok_eq (op_eqA hr.r.units) ((q_callB ok_len call_lenA B.b_len (q_acons (q_pv (pv 0)) q_anil))).p ((q_callB ok_len call_lenA B.b_len (q_acons (q_pv (pv 1)) q_anil))).p) (q_cons (q_for PassesOwn.never rfl (q_r1 B.b_range (q_acons ((q_callB ok_max2 (call_max2 rfl) B.b_max (q_acons (q_int).p (q_acons ((q_callB ok_len call_lenA B.b_len (q_acons (q_pv (pv 0)) q_anil))).p q_anil)))).p q_anil)) (q_gn nd) (q_cons (q_if (q_tcmp ok_eq (op_eqA hr.r.units) ((q_fn (h_turned_by.mono (by decide)) hr (q_acons ((q_ev (pv 0))).p (q_acons ((q_ev (pv 2))).p q_anil)) (al_cons (al_cons al_nil)))).p (q_pv (pv 1))) (q_cons (q_ret (q_tup (q_acons (q_str).p (q_acons ((q_ev (pv 2))).p q_anil))))
  q_nil) q_nil)
  q_nil))
  q_nil) q_nil)
  (q_cons (q_ret (q_tup (q_acons (q_str).p (q_acons ((q_sub hr.u1 ((q_fn (h_least_rotation.mono (by decide)) hr (q_acons ((q_ev (pv 0))).p q_anil) (al_cons al_nil))).p (q_int).p)).p (q_acons ((q_sub hr.u1 ((q_fn (h_least_rotation.mono (by decide)) hr (q_acons ((q_ev (pv 1))).p q_anil) (al_cons al_nil))).p (q_int).p)).p q_anil)))))
  q_nil))
theorem ok_judge_turned {f : Addr} {fd : FuncData} (Fu : Fun K "judge_turned" "judge_turned" s_judge_turned f fd) (B : Bu mg)  (h_is_integer : DefOk P w K mg base "is_integer" ["value"] 1 fn_is_integer) (h_turned_paper : DefOk P w K mg base "turned_paper" ["word", "other"] 3 fn_turned_paper) : FnG P w K mg base 4 f fd ["word", "other", "value"] (spOf K 3 fn_judge_turned) := by
  have nd := sc_judge_turned.nd
  exact fn_ok Fu sc_judge_turned fun cdv A outer s H hr => (q_cons (q_if (QW.t (q_or (q_not (q_truth ((q_callB ok_isi call_isi B.b_isinstance (q_acons (q_pv (pv 2)) (q_acons ((q_ty B.b_tuple)).p q_anil)))).p)) (q_or (q_tcmp ok_notIn (op_notInA hr.u65) ((q_callB ok_len call_lenA B.b_len (q_acons (q_pv (pv 2)) q_anil))).p ((q_tup (q_acons (q_int).p (q_acons (q_int).p q_anil)))).p) (q_or1 (q_not (q_truth ((q_callB ok_isi call_isi B.b_isinstance (q_acons ((q_sub hr.u1 (q_pv (pv 2)) (q_int).p)).p (q_acons ((q_ty B.b_str)).p q_anil)))).p)))))) (q_cons (q_ret q_bl)
  q_nil) q_nil)
  (q_cons (q_if (q_tcmp ok_eq (op_eqA hr.r.units) ((q_sub hr.u1 (q_pv (pv 2)) (q_int).p)).p (q_str).p) (q_cons (q_ret (q_andT (q_cmp ok_eq (op_eqA hr.r.units) ((q_callB ok_len call_lenA B.b_len (q_acons (q_pv (pv 2)) q_anil))).p (q_int).p) (q_andT (q_fn (h_is_integer.mono (by decide)) hr (q_acons ((q_sub hr.u1 (q_pv (pv 2)) (q_int).p)).p q_anil) (al_cons al_nil)) (q_one (q_cmp ok_eq (op_eqA hr.r.units) ((q_fn (h_turned_paper.mono (by decide)) hr (q_acons ((q_ev (pv 0))).p (q_acons ((q_ev (pv 1))).p q_anil)) (al_cons (al_cons al_nil)))).p (q_pv (pv 2)))))))
  q_nil) q_nil)
  (q_cons (q_ret (q_cmp ok_eq (op_eqA hr.r.units) ((q_fn (h_turned_paper.mono (by decide)) hr (q_acons ((q_ev (pv 0))).p (q_acons ((q_ev (pv 1))).p q_anil)) (al_cons (al_cons al_nil)))).p (q_pv (pv 2))))
  q_nil)))
theorem ok_lyndon_parts {f : Addr} {fd : FuncData} (Fu : Fun K "lyndon_parts" "lyndon_parts" s_lyndon_parts f fd) (B : Bu mg)   : FnG P w K mg base 1 f fd ["word"] (spOf K 1 fn_lyndon_parts) := by
  have nd := sc_lyndon_parts.nd
  exact fn_ok Fu sc_lyndon_parts fun cdv A outer s H hr => (q_cons (q_asg nd (he := (q_lst q_anil)))
  (q_cons (q_asg nd (he := q_int))
  (q_cons (q_while PassesOwn.never (q_tcmp ok_lt op_ltA (q_pv (pv 2)) ((q_callB ok_len call_lenA B.b_len (q_acons (q_pv (pv 0)) q_anil))).p) (q_cons (q_par rfl nd (ha := (q_ev (pv 2))) (hb := (q_op ok_add op_addA (q_pv (pv 2)) (q_int).p)))
  (q_cons (q_while PassesOwn.never (QW.t (q_and (q_tcmp ok_lt op_ltA (q_pv (pv 4)) ((q_callB ok_len call_lenA B.b_len (q_acons (q_pv (pv 0)) q_anil))).p) (q_and1 (q_tcmp ok_le op_leA ((q_sub hr.u1 (q_pv (pv 0)) (q_pv (pv 3)))).p ((q_sub hr.u1 (q_pv (pv 0)) (q_pv (pv 4)))).p)))) (q_cons (q_asg nd (he := (q_ifx (q_tcmp ok_lt op_ltA ((q_sub hr.u1 (q_pv (pv 0)) (q_pv (pv 3)))).p ((q_sub hr.u1 (q_pv (pv 0)) (q_pv (pv 4)))).p) (q_ev (pv 2)) (q_op ok_add op_addA (q_pv (pv 3)) (q_int).p))))
  (q_cons (q_aug ok_addI iop_addA nd (he := (q_int).p))
  q_nil)))
  (q_cons (q_while PassesOwn.never (q_tcmp ok_le op_leA (q_pv (pv 2)) (q_pv (pv 3))) (q_cons (q_expr (q_mut ok_append F.plainAttrs_list F.slot_list_append F.type_list_append mt_append (pv 1) (q_acons ((q_sl (q_pv (pv 0)) (q_oi (q_pv (pv 2))) (q_oi ((q_op ok_sub op_sub ((q_op ok_add op_addA (q_pv (pv 2)) (q_pv (pv 4)))).p (q_pv (pv 3)))).p))).p q_anil)))
  (q_cons (q_aug ok_addI iop_addA nd (he := ((q_op ok_sub op_sub (q_pv (pv 4)) (q_pv (pv 3)))).p))
  q_nil)))
  q_nil))))
  (q_cons (q_ret (q_callT ok_tuple call_tuple_of B.b_tuple (q_acons (q_pv (pv 1)) q_anil)))
  q_nil))))
theorem ok_lyndon_up_to {f : Addr} {fd : FuncData} (Fu : Fun K "lyndon_up_to" "lyndon_up_to" s_lyndon_up_to f fd) (B : Bu mg)   : FnG P w K mg base 1 f fd ["letters", "n"] (spOf K 2 fn_lyndon_up_to) := by
  have nd := sc_lyndon_up_to.nd
  exact fn_ok Fu sc_lyndon_up_to fun cdv A outer s H hr => (q_cons (q_asg nd (he := (q_lst q_anil)))
  (q_cons (q_asg nd (he := (q_sub hr.u1 (q_pv (pv 0)) (q_int).p)))
  (q_cons (q_while PassesOwn.never (q_tcmp ok_ne (op_neA hr.r.units) (q_pv (pv 3)) (q_str).p) (q_cons (q_expr (q_mut ok_append F.plainAttrs_list F.slot_list_append F.type_list_append mt_append (pv 2) (q_acons ((q_ev (pv 3))).p q_anil)))
  (q_cons (q_asg nd (he := (q_sl ((q_op ok_mulA op_mulA (q_pv (pv 3)) ((q_op ok_add op_addA ((q_op ok_div op_fdiv (q_pv (pv 1)) ((q_callB ok_len call_lenA B.b_len (q_acons (q_pv (pv 3)) q_anil))).p)).p (q_int).p)).p)).p q_ono (q_oi (q_pv (pv 1))))))
  (q_cons (q_while PassesOwn.never (QW.t (q_and (q_tcmp ok_ne (op_neA hr.r.units) (q_pv (pv 3)) (q_str).p) (q_and1 (q_tcmp ok_eq (op_eqA hr.r.units) ((q_sub hr.u1 (q_pv (pv 3)) ((q_neg (q_int).p)).p)).p ((q_sub hr.u1 (q_pv (pv 0)) ((q_neg (q_int).p)).p)).p)))) (q_cons (q_asg nd (he := (q_sl (q_pv (pv 3)) q_ono (q_oi ((q_neg (q_int).p)).p))))
  q_nil))
  (q_cons (q_if (q_tcmp ok_ne (op_neA hr.r.units) (q_pv (pv 3)) (q_str).p) (q_cons (q_asg nd (he := (q_op ok_add op_addA ((q_sl (q_pv (pv 3)) q_ono (q_oi ((q_neg (q_int).p)).p))).p ((q_sub hr.u1 (q_pv (pv 0)) ((q_op ok_add op_addA ((q_alt (q_meth ok_indexS ty_str F.plainAttrs_str F.slot_str_index F.type_str_index mt_sindex (q_pv (pv 0)) (q_acons ((q_sub hr.u1 (q_pv (pv 3)) ((q_neg (q_int).p)).p)).p q_anil)) (q_meth ok_indexL ty_lst F.plainAttrs_list F.slot_list_index F.type_list_index (mt_indexD hr.u65) (q_pv (pv 0)) (q_acons ((q_sub hr.u1 (q_pv (pv 3)) ((q_neg (q_int).p)).p)).p q_anil)))).p (q_int).p)).p)).p)))
  q_nil) q_nil)
  q_nil)))))
  (q_cons (q_retV (pv 2))
  q_nil))))
theorem ok_lyndon_words {f : Addr} {fd : FuncData} (Fu : Fun K "lyndon_words" "lyndon_words" s_lyndon_words f fd) (B : Bu mg)  (h_lyndon_up_to : DefOk P w K mg base "lyndon_up_to" ["letters", "n"] 1 fn_lyndon_up_to) : FnG P w K mg base 2 f fd ["letters", "n"] (spOf K 2 fn_lyndon_words) := by
  have nd := sc_lyndon_words.nd
  exact fn_ok Fu sc_lyndon_words fun cdv A outer s H hr => (q_cons (q_ret (q_callT ok_tuple call_tuple_of B.b_tuple (q_acons ((q_lc [("word", 2)] rfl nd (q_ie (q_fn (h_lyndon_up_to.mono (by decide)) hr (q_acons ((q_ev (pv 0))).p (q_acons ((q_ev (pv 1))).p q_anil)) (al_cons (al_cons al_nil)))) (blkOk_by (N := ["letters", "n", "word"]) (sc := defScope s_lyndon_words) (by decide +kernel)) (fun _ _ _ _ _ => (q_gcn (by decide) nd)) (fun _ _ _ _ _ => (q_tone (q_tcmp ok_eq (op_eqA hr.r.units) ((q_callB ok_len call_lenA B.b_len (q_acons (q_pv (pv 2)) q_anil))).p (q_pv (pv 1))))) (fun _ _ _ _ _ => (q_ev (pv 2))))).p q_anil)))
  q_nil)
theorem ok_all_row {f : Addr} {fd : FuncData} (Fu : Fun K "all_row" "all_row" s_all_row f fd) (B : Bu mg)  (h_lyndon_up_to : DefOk P w K mg base "lyndon_up_to" ["letters", "n"] 1 fn_lyndon_up_to) : FnG P w K mg base 2 f fd ["letters", "n"] (spOf K 2 fn_all_row) := by
  have nd := sc_all_row.nd
  exact fn_ok Fu sc_all_row fun cdv A outer s H hr => (q_cons (q_ret (q_meth ok_join ty_str F.plainAttrs_str F.slot_str_join F.type_str_join mt_join (q_str).p (q_acons ((q_lc [("word", 2)] rfl nd (q_ie (q_fn (h_lyndon_up_to.mono (by decide)) hr (q_acons ((q_ev (pv 0))).p (q_acons ((q_ev (pv 1))).p q_anil)) (al_cons (al_cons al_nil)))) (blkOk_by (N := ["letters", "n", "word"]) (sc := defScope s_all_row) (by decide +kernel)) (fun _ _ _ _ _ => (q_gcn (by decide) nd)) (fun _ _ _ _ _ => (q_tone (q_tcmp ok_eq (op_eqA hr.r.units) ((q_op ok_mod op_mod (q_pv (pv 1)) ((q_callB ok_len call_lenA B.b_len (q_acons (q_pv (pv 2)) q_anil))).p)).p (q_int).p))) (fun _ _ _ _ _ => (q_ev (pv 2))))).p q_anil)))
  q_nil)
theorem ok_words_of {f : Addr} {fd : FuncData} (Fu : Fun K "words_of" "words_of" s_words_of f fd) (B : Bu mg)   : FnG P w K mg base 1 f fd ["letters", "n"] (spOf K 2 fn_words_of) := by
  have nd := sc_words_of.nd
  exact fn_ok Fu sc_words_of fun cdv A outer s H hr => (q_cons (q_asg nd (he := (q_lst (q_acons (q_str).p q_anil))))
  (q_cons (q_for PassesOwn.never rfl (q_r1 B.b_range (q_acons (q_pv (pv 1)) q_anil)) (q_gn nd) (q_cons (q_asgLc2 [("word", 4), ("letter", 5)] rfl nd (sw_true rfl rfl rfl (by decide +kernel)) (q_ie (q_ev (pv 2))) (blkOk_by (N := ["letters", "n", "found", "turn", "word", "letter"]) (sc := defScope s_words_of) (by decide +kernel)) (by decide) (fun _ _ _ _ _ => (q_gcn (by decide) nd)) (fun _ _ _ _ _ => q_tnil) (fun _ _ _ _ _ => (q_ie (q_ev (pv 0)))) (fun _ _ _ _ _ => (q_gcn (by decide) nd)) (fun _ _ _ _ _ => q_tnil) (fun _ _ _ _ _ => (q_op ok_add op_addA (q_pv (pv 4)) (q_pv (pv 5)))))
  q_nil))
  (q_cons (q_retV (pv 2))
  q_nil)))
theorem ok_all_paper {f : Addr} {fd : FuncData} (Fu : Fun K "all_paper" "all_paper" s_all_paper f fd) (B : Bu mg)  (h_words_of : DefOk P w K mg base "words_of" ["letters", "n"] 1 fn_words_of) : FnG P w K mg base 2 f fd ["letters", "n", "word"] (spOf K 3 fn_all_paper) := by
  have nd := sc_all_paper.nd
  exact fn_ok Fu sc_all_paper fun cdv A outer s H hr => (q_cons (q_asg nd (he := (q_ifx (q_truth (q_pv (pv 2))) (q_op ok_mulA op_mulA (q_pv (pv 2)) ((q_op ok_add op_addA (q_pv (pv 1)) (q_int).p)).p) q_str)))
  (q_cons (q_asg nd (he := q_dk))
  (q_cons (q_for PassesOwn.never rfl (q_r1 B.b_range (q_acons ((q_callB ok_len call_lenA B.b_len (q_acons (q_pv (pv 2)) q_anil))).p q_anil)) (q_gn nd) (q_cons (q_asg nd (he := (q_sl (q_pv (pv 3)) (q_oi (q_pv (pv 5))) (q_oi ((q_op ok_add op_addA (q_pv (pv 5)) (q_pv (pv 1)))).p))))
  (q_cons (q_asgG (q_op ok_add op_addA ((q_get2 hr.u1 (q_pv (pv 4)) (q_pv (pv 6)) q_int)).p (q_int).p) (q_gsub hr.u1 (pv 4) (q_pv (pv 6))))
  q_nil)))
  (q_cons (q_for PassesOwn.never rfl (q_ie (q_fn (h_words_of.mono (by decide)) hr (q_acons ((q_ev (pv 0))).p (q_acons ((q_ev (pv 1))).p q_anil)) (al_cons (al_cons al_nil)))) (q_gn nd) (q_cons (q_if (q_tcmp ok_ne (op_neA hr.r.units) ((q_get2 hr.u1 (q_pv (pv 4)) (q_pv (pv 6)) q_int)).p (q_int).p) (q_cons (q_ret (q_tup (q_acons (q_str).p (q_acons ((q_ev (pv 6))).p q_anil))))
  q_nil) q_nil)
  q_nil))
  (q_cons (q_ret (q_tup (q_acons (q_str).p q_anil)))
  q_nil)))))
theorem ok_equal_powers {f : Addr} {fd : FuncData} (Fu : Fun K "equal_powers" "equal_powers" s_equal_powers f fd) (B : Bu mg)  (h_root_of : DefOk P w K mg base "root_of" ["word"] 1 fn_root_of) : FnG P w K mg base 2 f fd ["u", "v"] (spOf K 2 fn_equal_powers) := by
  have nd := sc_equal_powers.nd
  exact fn_ok Fu sc_equal_powers fun cdv A outer s H hr => (q_cons (q_par rfl nd (ha := (q_op ok_add op_addA (q_pv (pv 0)) (q_pv (pv 1)))) (hb := (q_op ok_add op_addA (q_pv (pv 1)) (q_pv (pv 0)))))
  (q_cons (q_for PassesOwn.never rfl (q_r1 B.b_range (q_acons ((q_callB ok_len call_lenA B.b_len (q_acons (q_pv (pv 2)) q_anil))).p q_anil)) (q_gn nd) (q_cons (q_if (q_tcmp ok_ne (op_neA hr.r.units) ((q_sub hr.u1 (q_pv (pv 2)) (q_pv (pv 4)))).p ((q_sub hr.u1 (q_pv (pv 3)) (q_pv (pv 4)))).p) (q_cons (q_ret (q_tup (q_acons (q_str).p (q_acons ((q_ev (pv 4))).p q_anil))))
  q_nil) q_nil)
  q_nil))
  (q_cons (q_asg nd (he := (q_sub hr.u1 ((q_fn (h_root_of.mono (by decide)) hr (q_acons ((q_ev (pv 0))).p q_anil) (al_cons al_nil))).p (q_int).p)))
  (q_cons (q_ret (q_tup (q_acons (q_str).p (q_acons ((q_ev (pv 5))).p (q_acons ((q_op ok_div op_fdiv ((q_callB ok_len call_lenA B.b_len (q_acons (q_pv (pv 0)) q_anil))).p ((q_callB ok_len call_lenA B.b_len (q_acons (q_pv (pv 5)) q_anil))).p)).p (q_acons ((q_op ok_div op_fdiv ((q_callB ok_len call_lenA B.b_len (q_acons (q_pv (pv 1)) q_anil))).p ((q_callB ok_len call_lenA B.b_len (q_acons (q_pv (pv 5)) q_anil))).p)).p q_anil))))))
  q_nil))))
theorem ok_law_start {f : Addr} {fd : FuncData} (Fu : Fun K "_law_start" "_law_start" s_law_start f fd) (B : Bu mg)   : FnG P w K mg base 1 f fd ["script"] (spOf K 1 fn_law_start) := by
  have nd := sc_law_start.nd
  exact fn_ok Fu sc_law_start fun cdv A outer s H hr => (q_cons (q_ret (q_lst (q_acons ((q_lc [("cell", 1)] rfl nd (q_ie (q_sl (q_pv (pv 0)) q_ono (q_oi (q_int).p))) (blkOk_by (N := ["script", "cell"]) (sc := defScope s_law_start) (by decide +kernel)) (fun _ _ _ _ _ => (q_gcn (by decide) nd)) (fun _ _ _ _ _ => q_tnil) (fun _ _ _ _ _ => (q_callT ok_int1 call_int1 B.b_int (q_acons (q_pv (pv 1)) q_anil))))).p (q_acons (q_int).p (q_acons (q_int).p (q_acons (q_int).p (q_acons (q_int).p q_anil)))))))
  q_nil)
theorem ok_law_fill {f : Addr} {fd : FuncData} (Fu : Fun K "_law_fill" "_law_fill" s_law_fill f fd) (B : Bu mg)   : FnG P w K mg base 1 f fd ["c"] (spOf K 1 fn_law_fill) := by
  have nd := sc_law_fill.nd
  exact fn_ok Fu sc_law_fill fun cdv A outer s H hr => (q_cons (q_asgG (q_op ok_add op_addA ((q_sub hr.u1 (q_pv (pv 0)) (q_int).p)).p (q_int).p) (q_gsub hr.u1 (pv 0) (q_int).p))
  (q_cons (q_asg nd (he := (q_op ok_add op_addA ((q_op ok_mul op_mul ((q_sub hr.u1 (q_pv (pv 0)) (q_int).p)).p (q_int).p)).p (q_int).p)))
  (q_cons (q_if (q_tcmp ok_lt op_ltA ((q_sub hr.u1 (q_pv (pv 0)) (q_int).p)).p ((q_callB ok_len call_lenA B.b_len (q_acons ((q_sub hr.u1 (q_pv (pv 0)) (q_int).p)).p q_anil))).p) (q_cons (q_asg nd (he := (q_callB ok_max2 (call_max2 rfl) B.b_max (q_acons ((q_sub hr.u1 ((q_sub hr.u1 (q_pv (pv 0)) (q_int).p)).p ((q_sub hr.u1 (q_pv (pv 0)) (q_int).p)).p)).p (q_acons ((q_op ok_sub op_sub ((q_op ok_sub op_sub (q_int).p (q_int).p)).p ((q_sub hr.u1 ((q_sub hr.u1 (q_pv (pv 0)) (q_int).p)).p ((q_sub hr.u1 (q_pv (pv 0)) (q_int).p)).p)).p)).p q_anil)))))
  (q_cons (q_asgG (q_op ok_add op_addA ((q_sub hr.u1 (q_pv (pv 0)) (q_int).p)).p (q_int).p) (q_gsub hr.u1 (pv 0) (q_int).p))
  (q_cons (q_if (q_tcmp ok_ge op_geA (q_pv (pv 1)) ((q_op ok_pow op_pow (q_int).p (q_int).p)).p) (q_cons (q_retV (pv 1))
  q_nil) q_nil)
  q_nil))) q_nil)
  (q_cons (q_if (QW.t (q_and (q_truth ((q_sub hr.u1 (q_pv (pv 0)) (q_int).p)).p) (q_and1 (q_tcmp ok_ge op_geA ((q_sub hr.u1 (q_pv (pv 0)) (q_int).p)).p ((q_callB ok_len call_lenA B.b_len (q_acons ((q_sub hr.u1 (q_pv (pv 0)) (q_int).p)).p q_anil))).p)))) (q_cons (q_asg nd (he := (q_op ok_add op_addA (q_pv (pv 1)) ((q_op ok_mod op_mod ((q_callT ok_int1 call_int1 B.b_int (q_acons ((q_sub hr.u1 ((q_sub hr.u1 (q_pv (pv 0)) (q_int).p)).p ((q_neg (q_int).p)).p)).p q_anil))).p (q_int).p)).p)))
  q_nil) q_nil)
  (q_cons (q_asg nd (he := (q_op ok_mod op_mod ((q_callT ok_int1 call_int1 B.b_int (q_acons ((q_op ok_add op_addA ((q_op ok_mul op_mul (q_pv (pv 1)) (q_int).p)).p ((q_op ok_mul op_mul ((q_sub hr.u1 (q_pv (pv 0)) (q_int).p)).p (q_int).p)).p)).p q_anil))).p (q_int).p)))
  (q_cons (q_ret (q_op ok_add op_addA ((q_op ok_div op_fdiv ((q_callT ok_int1 call_int1 B.b_int (q_acons ((q_op ok_add op_addA ((q_op ok_add op_addA ((q_op ok_mul op_mul (q_pv (pv 1)) (q_pv (pv 1)))).p ((q_op ok_mul op_mul ((q_sub hr.u1 (q_pv (pv 0)) (q_int).p)).p (q_int).p)).p)).p (q_int).p)).p q_anil))).p (q_int).p)).p (q_int).p))
  q_nil))))))
theorem ok_law_take {f : Addr} {fd : FuncData} (Fu : Fun K "_law_take" "_law_take" s_law_take f fd) (B : Bu mg)  (h_law_fill : DefOk P w K mg base "_law_fill" ["c"] 1 fn_law_fill) : FnG P w K mg base 2 f fd ["c", "many"] (spOf K 2 fn_law_take) := by
  have nd := sc_law_take.nd
  exact fn_ok Fu sc_law_take fun cdv A outer s H hr => (q_cons (q_if (q_tcmp ok_lt op_ltA ((q_sub hr.u1 (q_pv (pv 0)) (q_int).p)).p (q_pv (pv 1))) (q_cons (q_asgG (q_fn (h_law_fill.mono (by decide)) hr (q_acons (q_pv (pv 0)) q_anil) (al_cons al_nil)) (q_gsub hr.u1 (pv 0) (q_int).p))
  q_nil) q_nil)
  (q_cons (q_asg nd (he := (q_op ok_mod op_mod ((q_callT ok_int1 call_int1 B.b_int (q_acons ((q_sub hr.u1 (q_pv (pv 0)) (q_int).p)).p q_anil))).p (q_pv (pv 1)))))
  (q_cons (q_asgG (q_op ok_div op_fdiv ((q_sub hr.u1 (q_pv (pv 0)) (q_int).p)).p (q_pv (pv 1))) (q_gsub hr.u1 (pv 0) (q_int).p))
  (q_cons (q_retV (pv 2))
  q_nil))))
theorem ok_law_word {f : Addr} {fd : FuncData} (Fu : Fun K "_law_word" "_law_word" s_law_word f fd) (B : Bu mg)  (h_law_take : DefOk P w K mg base "_law_take" ["c", "many"] 2 fn_law_take) : FnG P w K mg base 3 f fd ["c", "letters", "most"] (spOf K 3 fn_law_word) := by
  have nd := sc_law_word.nd
  exact fn_ok Fu sc_law_word fun cdv A outer s H hr => (q_cons (q_ret (q_meth ok_join ty_str F.plainAttrs_str F.slot_str_join F.type_str_join mt_join (q_str).p (q_acons ((q_lc [("k", 3)] rfl nd (q_r1 B.b_range (q_acons ((q_fn (h_law_take.mono (by decide)) hr (q_acons (q_pv (pv 0)) (q_acons ((q_op ok_add op_addA (q_pv (pv 2)) (q_int).p)).p q_anil)) (al_cons (al_cons al_nil)))).p q_anil)) (blkOk_by (N := ["c", "letters", "most", "k"]) (sc := defScope s_law_word) (by decide +kernel)) (fun _ _ _ _ _ => (q_gcn (by decide) nd)) (fun _ _ _ _ _ => q_tnil) (fun _ _ _ _ _ => (q_sub hr.u1 (q_pv (pv 1)) ((q_fn (h_law_take.mono (by decide)) hr (q_acons (q_pv (pv 0)) (q_acons ((q_callB ok_len call_lenA B.b_len (q_acons (q_pv (pv 1)) q_anil))).p q_anil)) (al_cons (al_cons al_nil)))).p)))).p q_anil)))
  q_nil)
theorem ok_law_words {f : Addr} {fd : FuncData} (Fu : Fun K "_law_words" "_law_words" s_law_words f fd) (B : Bu mg)   : FnG P w K mg base 1 f fd ["letters", "n"] (spOf K 2 fn_law_words) := by
  have nd := sc_law_words.nd
  exact fn_ok Fu sc_law_words fun cdv A outer s H hr => (q_cons (q_asg nd (he := (q_lst (q_acons (q_str).p q_anil))))
  (q_cons (q_for PassesOwn.never rfl (q_r1 B.b_range (q_acons (q_pv (pv 1)) q_anil)) (q_gn nd) (q_cons (q_asg nd (he := (q_lst q_anil)))
  (q_cons (q_for PassesOwn.never rfl (q_ie (q_ev (pv 2))) (q_gn nd) (q_cons (q_asg nd (he := (q_op ok_add op_addA (q_pv (pv 4)) ((q_lc [("letter", 6)] rfl nd (q_ie (q_ev (pv 0))) (blkOk_by (N := ["letters", "n", "found", "turn", "new", "word", "letter"]) (sc := defScope s_law_words) (by decide +kernel)) (fun _ _ _ _ _ => (q_gcn (by decide) nd)) (fun _ _ _ _ _ => q_tnil) (fun _ _ _ _ _ => (q_op ok_add op_addA (q_pv (pv 5)) (q_pv (pv 6)))))).p)))
  q_nil))
  (q_cons (q_asg nd (he := (q_ev (pv 4))))
  q_nil))))
  (q_cons (q_retV (pv 2))
  q_nil)))
theorem ok_law_periods {f : Addr} {fd : FuncData} (Fu : Fun K "_law_periods" "_law_periods" s_law_periods f fd) (B : Bu mg)   : FnG P w K mg base 1 f fd ["word"] (spOf K 1 fn_law_periods) := by
  have nd := sc_law_periods.nd
  exact fn_ok Fu sc_law_periods fun cdv A outer s H hr => (q_cons (q_asg nd (he := (q_callB ok_len call_lenA B.b_len (q_acons (q_pv (pv 0)) q_anil))))
  (q_cons (q_ret (q_lc [("p", 2)] rfl nd (q_r2 B.b_range (q_acons (q_int).p (q_acons ((q_op ok_add op_addA (q_pv (pv 1)) (q_int).p)).p q_anil))) (blkOk_by (N := ["word", "n", "p", "k"]) (sc := defScope s_law_periods) (by decide +kernel)) (fun _ _ _ _ _ => (q_gcn (by decide) nd)) (fun _ _ _ _ _ => (q_tone (q_truth ((q_callB ok_all (cr_all rfl) B.b_all (q_acons ((q_lc [("k", 3)] rfl nd (q_r1 B.b_range (q_acons ((q_op ok_sub op_sub (q_pv (pv 1)) (q_pv (pv 2)))).p q_anil)) (blkOk_by (by kernel_rfl)) (fun _ _ _ _ _ => (q_gcn (by decide) nd)) (fun _ _ _ _ _ => q_tnil) (fun _ _ _ _ _ => (q_cmp ok_eq (op_eqA hr.r.units) ((q_sub hr.u1 (q_pv (pv 0)) (q_pv (pv 3)))).p ((q_sub hr.u1 (q_pv (pv 0)) ((q_op ok_add op_addA (q_pv (pv 3)) (q_pv (pv 2)))).p)).p)))).p q_anil))).p))) (fun _ _ _ _ _ => (q_ev (pv 2)))))
  q_nil))
theorem ok_law_rotations {f : Addr} {fd : FuncData} (Fu : Fun K "_law_rotations" "_law_rotations" s_law_rotations f fd) (B : Bu mg)   : FnG P w K mg base 1 f fd ["word"] (spOf K 1 fn_law_rotations) := by
  have nd := sc_law_rotations.nd
  exact fn_ok Fu sc_law_rotations fun cdv A outer s H hr => (q_cons (q_ret (q_lc [("k", 1)] rfl nd (q_r1 B.b_range (q_acons ((q_callB ok_len call_lenA B.b_len (q_acons (q_pv (pv 0)) q_anil))).p q_anil)) (blkOk_by (N := ["word", "k"]) (sc := defScope s_law_rotations) (by decide +kernel)) (fun _ _ _ _ _ => (q_gcn (by decide) nd)) (fun _ _ _ _ _ => q_tnil) (fun _ _ _ _ _ => (q_op ok_add op_addA ((q_sl (q_pv (pv 0)) (q_oi (q_pv (pv 1))) q_ono)).p ((q_sl (q_pv (pv 0)) q_ono (q_oi (q_pv (pv 1))))).p))))
  q_nil)
theorem ok_law_root {f : Addr} {fd : FuncData} (Fu : Fun K "_law_root" "_law_root" s_law_root f fd) (B : Bu mg)   : FnG P w K mg base 1 f fd ["word"] (spOf K 1 fn_law_root) := by
  have nd := sc_law_root.nd
  exact fn_ok Fu sc_law_root fun cdv A outer s H hr => (q_cons (q_for PassesOwn.never rfl (q_r2 B.b_range (q_acons (q_int).p (q_acons ((q_op ok_add op_addA ((q_callB ok_len call_lenA B.b_len (q_acons (q_pv (pv 0)) q_anil))).p (q_int).p)).p q_anil))) (q_gn nd) (q_cons (q_if (QW.t (q_and (q_tcmp ok_eq (op_eqA hr.r.units) ((q_op ok_mod op_mod ((q_callB ok_len call_lenA B.b_len (q_acons (q_pv (pv 0)) q_anil))).p (q_pv (pv 1)))).p (q_int).p) (q_and1 (q_tcmp ok_eq (op_eqA hr.r.units) ((q_op ok_mulA op_mulA ((q_sl (q_pv (pv 0)) q_ono (q_oi (q_pv (pv 1))))).p ((q_op ok_div op_fdiv ((q_callB ok_len call_lenA B.b_len (q_acons (q_pv (pv 0)) q_anil))).p (q_pv (pv 1)))).p)).p (q_pv (pv 0)))))) (q_cons (q_ret (q_tup (q_acons ((q_sl (q_pv (pv 0)) q_ono (q_oi (q_pv (pv 1))))).p (q_acons ((q_op ok_div op_fdiv ((q_callB ok_len call_lenA B.b_len (q_acons (q_pv (pv 0)) q_anil))).p (q_pv (pv 1)))).p q_anil))))
  q_nil) q_nil)
  q_nil))
  (q_cons (q_ret q_non)
  q_nil))
theorem ok_law_is_lyndon {f : Addr} {fd : FuncData} (Fu : Fun K "_law_is_lyndon" "_law_is_lyndon" s_law_is_lyndon f fd) (B : Bu mg)   : FnG P w K mg base 1 f fd ["word"] (spOf K 1 fn_law_is_lyndon) := by
  have nd := sc_law_is_lyndon.nd
  exact fn_ok Fu sc_law_is_lyndon fun cdv A outer s H hr => (q_cons (q_ret (q_andT (q_cmp ok_ne (op_neA hr.r.units) (q_pv (pv 0)) (q_str).p) (q_one (q_callB ok_all (cr_all rfl) B.b_all (q_acons ((q_lc [("k", 1)] rfl nd (q_r2 B.b_range (q_acons (q_int).p (q_acons ((q_callB ok_len call_lenA B.b_len (q_acons (q_pv (pv 0)) q_anil))).p q_anil))) (blkOk_by (N := ["word", "k"]) (sc := defScope s_law_is_lyndon) (by decide +kernel)) (fun _ _ _ _ _ => (q_gcn (by decide) nd)) (fun _ _ _ _ _ => q_tnil) (fun _ _ _ _ _ => (q_cmp ok_lt op_ltA (q_pv (pv 0)) ((q_op ok_add op_addA ((q_sl (q_pv (pv 0)) (q_oi (q_pv (pv 1))) q_ono)).p ((q_sl (q_pv (pv 0)) q_ono (q_oi (q_pv (pv 1))))).p)).p)))).p q_anil)))))
  q_nil)
theorem ok_law_parts {f : Addr} {fd : FuncData} (Fu : Fun K "_law_parts" "_law_parts" s_law_parts f fd) (B : Bu mg)  (h_law_is_lyndon : DefOk P w K mg base "_law_is_lyndon" ["word"] 1 fn_law_is_lyndon) : FnG P w K mg base 2 f fd ["word"] (spOf K 1 fn_law_parts) := by
  have nd := sc_law_parts.nd
  exact fn_ok Fu sc_law_parts fun cdv A outer s H hr => (q_cons (q_asg nd (he := (q_lst q_anil)))
  (q_cons (q_for PassesOwn.never rfl (q_r1 B.b_range (q_acons ((q_callB ok_len call_lenA B.b_len (q_acons (q_pv (pv 0)) q_anil))).p q_anil)) (q_gn nd) (q_cons (q_if (q_tcmp ok_eq (op_eqA hr.r.units) (q_pv (pv 0)) (q_str).p) (q_cons q_break
  q_nil) q_nil)
  (q_cons (q_asg nd (he := (q_callB ok_maxA (cr_maxA rfl hr.u66) B.b_max (q_acons ((q_lc [("k", 4)] rfl nd (q_r2 B.b_range (q_acons (q_int).p (q_acons ((q_op ok_add op_addA ((q_callB ok_len call_lenA B.b_len (q_acons (q_pv (pv 0)) q_anil))).p (q_int).p)).p q_anil))) (blkOk_by (N := ["word", "found", "turn", "size", "k"]) (sc := defScope s_law_parts) (by decide +kernel)) (fun _ _ _ _ _ => (q_gcn (by decide) nd)) (fun _ _ _ _ _ => (q_tone (q_truth ((q_fn (h_law_is_lyndon.mono (by decide)) hr (q_acons ((q_sl (q_pv (pv 0)) q_ono (q_oi (q_pv (pv 4))))).p q_anil) (al_cons al_nil))).p))) (fun _ _ _ _ _ => (q_ev (pv 4))))).p q_anil))))
  (q_cons (q_expr (q_mut ok_append F.plainAttrs_list F.slot_list_append F.type_list_append mt_append (pv 1) (q_acons ((q_sl (q_pv (pv 0)) q_ono (q_oi (q_pv (pv 3))))).p q_anil)))
  (q_cons (q_asg nd (he := (q_sl (q_pv (pv 0)) (q_oi (q_pv (pv 3))) q_ono)))
  q_nil)))))
  (q_cons (q_ret (q_callT ok_tuple call_tuple_of B.b_tuple (q_acons (q_pv (pv 1)) q_anil)))
  q_nil)))
theorem ok_law_shared {f : Addr} {fd : FuncData} (Fu : Fun K "_law_shared" "_law_shared" s_law_shared f fd) (B : Bu mg)   : FnG P w K mg base 1 f fd ["p", "q"] (spOf K 2 fn_law_shared) := by
  have nd := sc_law_shared.nd
  exact fn_ok Fu sc_law_shared fun cdv A outer s H hr => (q_cons (q_par rfl nd (ha := (q_ev (pv 0))) (hb := (q_ev (pv 1))))
  (q_cons (q_for PassesOwn.never rfl (q_r1 B.b_range (q_acons (q_int).p q_anil)) (q_gn nd) (q_cons (q_if (q_tcmp ok_eq (op_eqA hr.r.units) (q_pv (pv 3)) (q_int).p) (q_cons q_break
  q_nil) q_nil)
  (q_cons (q_par rfl nd (ha := (q_ev (pv 3))) (hb := (q_op ok_mod op_mod (q_pv (pv 2)) (q_pv (pv 3)))))
  q_nil)))
  (q_cons (q_asg nd (he := (q_op ok_sub op_sub ((q_op ok_sub op_sub ((q_op ok_add op_addA (q_pv (pv 0)) (q_pv (pv 1)))).p (q_pv (pv 2)))).p (q_int).p)))
  (q_cons (q_asg nd (he := (q_listrng1 B.b_list B.b_range (q_ev (pv 5)))))
  (q_cons (q_for PassesOwn.never rfl (q_r1 B.b_range (q_acons (q_pv (pv 5)) q_anil)) (q_gn nd) (q_cons (q_for PassesOwn.never rfl (q_r1 B.b_range (q_acons (q_pv (pv 5)) q_anil)) (q_gn nd) (q_cons (q_for PassesOwn.never rfl (q_ie (q_tup (q_acons ((q_ev (pv 0))).p (q_acons ((q_ev (pv 1))).p q_anil)))) (q_gn nd) (q_cons (q_if (q_tcmp ok_lt op_ltA ((q_op ok_add op_addA (q_pv (pv 7)) (q_pv (pv 8)))).p (q_pv (pv 5))) (q_cons (q_asg nd (he := (q_callB ok_min2 (call_min2 rfl) B.b_min (q_acons ((q_sub hr.u1 (q_pv (pv 6)) (q_pv (pv 7)))).p (q_acons ((q_sub hr.u1 (q_pv (pv 6)) ((q_op ok_add op_addA (q_pv (pv 7)) (q_pv (pv 8)))).p)).p q_anil)))))
  (q_cons (q_asgG (q_tup (q_acons ((q_ev (pv 9))).p (q_acons ((q_ev (pv 9))).p q_anil))) (q_gt rfl (q_gscons (q_gsub hr.u1 (pv 6) (q_pv (pv 7))) (q_gscons (q_gsub hr.u1 (pv 6) ((q_op ok_add op_addA (q_pv (pv 7)) (q_pv (pv 8)))).p) q_gsnil)) (gs_lenS gs_len1)))
  q_nil)) q_nil)
  q_nil))
  q_nil))
  q_nil))
  (q_cons (q_parO rfl nd (ha := q_dk) (hb := q_str))
  (q_cons (q_for PassesOwn.never rfl (q_r1 B.b_range (q_acons (q_pv (pv 5)) q_anil)) (q_gn nd) (q_cons (q_if (q_tcmp ok_notIn (op_notInA hr.u65) ((q_sub hr.u1 (q_pv (pv 6)) (q_pv (pv 7)))).p (q_pv (pv 10))) (q_cons (q_asgG (q_sub hr.u1 (q_str).p ((q_callB ok_len call_lenA B.b_len (q_acons (q_pv (pv 10)) q_anil))).p) (q_gsub hr.u1 (pv 10) ((q_sub hr.u1 (q_pv (pv 6)) (q_pv (pv 7)))).p))
  q_nil) q_nil)
  (q_cons (q_asg nd (he := (q_op ok_add op_addA (q_pv (pv 11)) ((q_sub hr.u1 (q_pv (pv 10)) ((q_sub hr.u1 (q_pv (pv 6)) (q_pv (pv 7)))).p)).p)))
  q_nil)))
  (q_cons (q_retV (pv 11))
  q_nil))))))))
theorem ok_law_paper {f : Addr} {fd : FuncData} (Fu : Fun K "_law_paper" "_law_paper" s_law_paper f fd) (B : Bu mg)  (h_law_rotations : DefOk P w K mg base "_law_rotations" ["word"] 1 fn_law_rotations) : FnG P w K mg base 2 f fd ["first", "second"] (spOf K 2 fn_law_paper) := by
  have nd := sc_law_paper.nd
  exact fn_ok Fu sc_law_paper fun cdv A outer s H hr => (q_cons (q_if (q_tcmp ok_eq (op_eqA hr.r.units) ((q_callB ok_len call_lenA B.b_len (q_acons (q_pv (pv 0)) q_anil))).p ((q_callB ok_len call_lenA B.b_len (q_acons (q_pv (pv 1)) q_anil))).p) (q_cons (q_for PassesOwn.never rfl (q_r1 B.b_range (q_acons ((q_callB ok_max2 (call_max2 rfl) B.b_max (q_acons ((q_callB ok_len call_lenA B.b_len (q_acons (q_pv (pv 0)) q_anil))).p (q_acons (q_int).p q_anil)))).p q_anil)) (q_gn nd) (q_cons (q_if (q_tcmp ok_eq (op_eqA hr.r.units) ((q_op ok_add op_addA ((q_sl (q_pv (pv 0)) (q_oi (q_pv (pv 2))) q_ono)).p ((q_sl (q_pv (pv 0)) q_ono (q_oi (q_pv (pv 2))))).p)).p (q_pv (pv 1))) (q_cons (q_ret (q_tup (q_acons (q_str).p (q_acons ((q_ev (pv 2))).p q_anil))))
  q_nil) q_nil)
  q_nil))
  q_nil) q_nil)
  (q_cons (q_ret (q_tup (q_acons (q_str).p (q_acons ((q_callB ok_minA (cr_minA rfl hr.u66) B.b_min (q_acons ((q_op ok_add op_addA ((q_fn (h_law_rotations.mono (by decide)) hr (q_acons ((q_ev (pv 0))).p q_anil) (al_cons al_nil))).p ((q_lst (q_acons ((q_ev (pv 0))).p q_anil))).p)).p q_anil))).p (q_acons ((q_callB ok_minA (cr_minA rfl hr.u66) B.b_min (q_acons ((q_op ok_add op_addA ((q_fn (h_law_rotations.mono (by decide)) hr (q_acons ((q_ev (pv 1))).p q_anil) (al_cons al_nil))).p ((q_lst (q_acons ((q_ev (pv 1))).p q_anil))).p)).p q_anil))).p q_anil)))))
  q_nil))
theorem ok_law_turned {f : Addr} {fd : FuncData} (Fu : Fun K "_law_turned" "_law_turned" s_law_turned f fd) (B : Bu mg)  (h_law_paper : DefOk P w K mg base "_law_paper" ["first", "second"] 2 fn_law_paper) : FnG P w K mg base 3 f fd ["first", "second", "value"] (spOf K 3 fn_law_turned) := by
  have nd := sc_law_turned.nd
  exact fn_ok Fu sc_law_turned fun cdv A outer s H hr => (q_cons (q_if (QW.t (q_or (q_not (q_truth ((q_callB ok_isi call_isi B.b_isinstance (q_acons (q_pv (pv 2)) (q_acons ((q_ty B.b_tuple)).p q_anil)))).p)) (q_or (q_not (q_truth (q_pv (pv 2)))) (q_or1 (q_not (q_truth ((q_callB ok_isi call_isi B.b_isinstance (q_acons ((q_sub hr.u1 (q_pv (pv 2)) (q_int).p)).p (q_acons ((q_ty B.b_str)).p q_anil)))).p)))))) (q_cons (q_ret q_bl)
  q_nil) q_nil)
  (q_cons (q_if (q_tcmp ok_eq (op_eqA hr.r.units) ((q_sub hr.u1 (q_pv (pv 2)) (q_int).p)).p (q_str).p) (q_cons (q_if (QW.t (q_or (q_tcmp ok_ne (op_neA hr.r.units) ((q_callB ok_len call_lenA B.b_len (q_acons (q_pv (pv 2)) q_anil))).p (q_int).p) (q_or (q_not (q_truth ((q_callB ok_isi call_isi B.b_isinstance (q_acons ((q_sub hr.u1 (q_pv (pv 2)) (q_int).p)).p (q_acons ((q_ty B.b_int)).p q_anil)))).p)) (q_or1 (q_truth ((q_callB ok_isi call_isi B.b_isinstance (q_acons ((q_sub hr.u1 (q_pv (pv 2)) (q_int).p)).p (q_acons ((q_ty B.b_bool)).p q_anil)))).p))))) (q_cons (q_ret q_bl)
  q_nil) q_nil)
  (q_cons (q_ret (q_andT (q_cmp ok_ge op_geA ((q_sub hr.u1 (q_pv (pv 2)) (q_int).p)).p (q_int).p) (q_one (q_cmp ok_eq (op_eqA hr.r.units) ((q_fn (h_law_paper.mono (by decide)) hr (q_acons ((q_ev (pv 0))).p (q_acons ((q_ev (pv 1))).p q_anil)) (al_cons (al_cons al_nil)))).p (q_pv (pv 2))))))
  q_nil)) q_nil)
  (q_cons (q_ret (q_andT (q_cmp ok_eq (op_eqA hr.r.units) ((q_sub hr.u1 (q_pv (pv 2)) (q_int).p)).p (q_str).p) (q_one (q_cmp ok_eq (op_eqA hr.r.units) ((q_fn (h_law_paper.mono (by decide)) hr (q_acons ((q_ev (pv 0))).p (q_acons ((q_ev (pv 1))).p q_anil)) (al_cons (al_cons al_nil)))).p (q_pv (pv 2))))))
  q_nil)))
theorem ok_law_equal {f : Addr} {fd : FuncData} (Fu : Fun K "_law_equal" "_law_equal" s_law_equal f fd) (B : Bu mg)  (h_law_root : DefOk P w K mg base "_law_root" ["word"] 1 fn_law_root) : FnG P w K mg base 2 f fd ["u", "v"] (spOf K 2 fn_law_equal) := by
  have nd := sc_law_equal.nd
  exact fn_ok Fu sc_law_equal fun cdv A outer s H hr => (q_cons (q_if (q_tcmp ok_eq (op_eqA hr.r.units) ((q_op ok_add op_addA (q_pv (pv 0)) (q_pv (pv 1)))).p ((q_op ok_add op_addA (q_pv (pv 1)) (q_pv (pv 0)))).p) (q_cons (q_asg nd (he := (q_sub hr.u1 ((q_fn (h_law_root.mono (by decide)) hr (q_acons ((q_ev (pv 0))).p q_anil) (al_cons al_nil))).p (q_int).p)))
  (q_cons (q_ret (q_tup (q_acons (q_str).p (q_acons ((q_ev (pv 2))).p (q_acons ((q_op ok_div op_fdiv ((q_callB ok_len call_lenA B.b_len (q_acons (q_pv (pv 0)) q_anil))).p ((q_callB ok_len call_lenA B.b_len (q_acons (q_pv (pv 2)) q_anil))).p)).p (q_acons ((q_op ok_div op_fdiv ((q_callB ok_len call_lenA B.b_len (q_acons (q_pv (pv 1)) q_anil))).p ((q_callB ok_len call_lenA B.b_len (q_acons (q_pv (pv 2)) q_anil))).p)).p q_anil))))))
  q_nil)) q_nil)
  (q_cons (q_ret (q_tup (q_acons (q_str).p (q_acons ((q_sub hr.u1 ((q_lc [("k", 3)] rfl nd (q_r1 B.b_range (q_acons ((q_callB ok_len call_lenA B.b_len (q_acons ((q_op ok_add op_addA (q_pv (pv 0)) (q_pv (pv 1)))).p q_anil))).p q_anil)) (blkOk_by (N := ["u", "v", "root", "k"]) (sc := defScope s_law_equal) (by decide +kernel)) (fun _ _ _ _ _ => (q_gcn (by decide) nd)) (fun _ _ _ _ _ => (q_tone (q_tcmp ok_ne (op_neA hr.r.units) ((q_sub hr.u1 ((q_op ok_add op_addA (q_pv (pv 0)) (q_pv (pv 1)))).p (q_pv (pv 3)))).p ((q_sub hr.u1 ((q_op ok_add op_addA (q_pv (pv 1)) (q_pv (pv 0)))).p (q_pv (pv 3)))).p))) (fun _ _ _ _ _ => (q_ev (pv 3))))).p (q_int).p)).p q_anil))))
  q_nil))
theorem ok_law_flat {f : Addr} {fd : FuncData} (Fu : Fun K "_law_flat" "_law_flat" s_law_flat f fd) (B : Bu mg)   : FnG P w K mg base 1 f fd ["rows"] (spOf K 1 fn_law_flat) := by
  have nd := sc_law_flat.nd
  exact fn_ok Fu sc_law_flat fun cdv A outer s H hr => (q_cons (q_asg nd (he := (q_lst q_anil)))
  (q_cons (q_for PassesOwn.never rfl (q_ie (q_ev (pv 0))) (q_gn nd) (q_cons (q_asg nd (he := (q_op ok_add op_addA (q_pv (pv 1)) (q_pv (pv 2)))))
  q_nil))
  (q_cons (q_retV (pv 1))
  q_nil)))
theorem ok_law_lyndon {f : Addr} {fd : FuncData} (Fu : Fun K "_law_lyndon" "_law_lyndon" s_law_lyndon f fd) (B : Bu mg)  (h_law_words : DefOk P w K mg base "_law_words" ["letters", "n"] 1 fn_law_words) (h_law_is_lyndon : DefOk P w K mg base "_law_is_lyndon" ["word"] 1 fn_law_is_lyndon) : FnG P w K mg base 2 f fd ["letters", "n"] (spOf K 2 fn_law_lyndon) := by
  have nd := sc_law_lyndon.nd
  exact fn_ok Fu sc_law_lyndon fun cdv A outer s H hr => (q_cons (q_ret (q_lc [("word", 2)] rfl nd (q_ie (q_fn (h_law_words.mono (by decide)) hr (q_acons ((q_ev (pv 0))).p (q_acons ((q_ev (pv 1))).p q_anil)) (al_cons (al_cons al_nil)))) (blkOk_by (N := ["letters", "n", "word"]) (sc := defScope s_law_lyndon) (by decide +kernel)) (fun _ _ _ _ _ => (q_gcn (by decide) nd)) (fun _ _ _ _ _ => (q_tone (q_truth ((q_fn (h_law_is_lyndon.mono (by decide)) hr (q_acons ((q_ev (pv 2))).p q_anil) (al_cons al_nil))).p))) (fun _ _ _ _ _ => (q_ev (pv 2)))))
  q_nil)
theorem ok_law_all {f : Addr} {fd : FuncData} (Fu : Fun K "_law_all" "_law_all" s_law_all f fd) (B : Bu mg)  (h_lyndon_words : DefOk P w K mg base "lyndon_words" ["letters", "n"] 2 fn_lyndon_words) (h_all_row : DefOk P w K mg base "all_row" ["letters", "n"] 2 fn_all_row) (h_all_paper : DefOk P w K mg base "all_paper" ["letters", "n", "word"] 2 fn_all_paper) (h_law_take : DefOk P w K mg base "_law_take" ["c", "many"] 2 fn_law_take) (h_law_words : DefOk P w K mg base "_law_words" ["letters", "n"] 1 fn_law_words) (h_law_flat : DefOk P w K mg base "_law_flat" ["rows"] 1 fn_law_flat) (h_law_lyndon : DefOk P w K mg base "_law_lyndon" ["letters", "n"] 2 fn_law_lyndon) : FnG P w K mg base 3 f fd ["c"] (spOf K 1 fn_law_all) := by
  have nd := sc_law_all.nd
  exact fn_ok Fu sc_law_all fun cdv A outer s H hr => (q_cons (q_asgG (q_tup (q_acons ((q_sl (q_str).p q_ono (q_oi ((q_op ok_add op_addA (q_int).p ((q_fn (h_law_take.mono (by decide)) hr (q_acons (q_pv (pv 0)) (q_acons (q_int).p q_anil)) (al_cons (al_cons al_nil)))).p)).p))).p (q_acons ((q_op ok_add op_addA (q_int).p ((q_fn (h_law_take.mono (by decide)) hr (q_acons (q_pv (pv 0)) (q_acons (q_int).p q_anil)) (al_cons (al_cons al_nil)))).p)).p q_anil))) (q_gt rfl (q_gscons (q_gn nd) (q_gscons (q_gn nd) q_gsnil)) (gs_lenS gs_len1)))
  (q_cons (q_asg nd (he := (q_callB ok_sortA (cr_sortA rfl hr.u66) B.b_sorted (q_acons ((q_fn (h_law_flat.mono (by decide)) hr (q_acons ((q_lc [("size", 4)] rfl nd (q_r2 B.b_range (q_acons (q_int).p (q_acons ((q_op ok_add op_addA (q_pv (pv 2)) (q_int).p)).p q_anil))) (blkOk_by (N := ["c", "letters", "n", "whole", "size", "due", "k", "word", "around", "pieces", "at", "bad", "one"]) (sc := defScope s_law_all) (by decide +kernel)) (fun _ _ _ _ _ => (q_gcn (by decide) nd)) (fun _ _ _ _ _ => (q_tone (q_tcmp ok_eq (op_eqA hr.r.units) ((q_op ok_mod op_mod (q_pv (pv 2)) (q_pv (pv 4)))).p (q_int).p))) (fun _ _ _ _ _ => (q_fn (h_law_lyndon.mono (by decide)) hr (q_acons ((q_ev (pv 1))).p (q_acons ((q_ev (pv 4))).p q_anil)) (al_cons (al_cons al_nil)))))).p q_anil) (al_cons al_nil))).p q_anil))))
  (q_cons (q_asg nd (he := (q_meth ok_join ty_str F.plainAttrs_str F.slot_str_join F.type_str_join mt_join (q_str).p (q_acons (q_pv (pv 3)) q_anil))))
  (q_cons (q_if (QW.t (q_or (q_tcmp ok_ne (op_neA hr.r.units) ((q_callB ok_repr (cr_repr hr) B.b_repr (q_acons ((q_fn (h_all_row.mono (by decide)) hr (q_acons ((q_ev (pv 1))).p (q_acons ((q_ev (pv 2))).p q_anil)) (al_cons (al_cons al_nil)))).p q_anil))).p ((q_callB ok_repr (cr_repr hr) B.b_repr (q_acons (q_pv (pv 5)) q_anil))).p) (q_or1 (q_tcmp ok_ne (op_neA hr.r.units) ((q_callB ok_repr (cr_repr hr) B.b_repr (q_acons ((q_fn (h_lyndon_words.mono (by decide)) hr (q_acons ((q_ev (pv 1))).p (q_acons ((q_ev (pv 2))).p q_anil)) (al_cons (al_cons al_nil)))).p q_anil))).p ((q_callB ok_repr (cr_repr hr) B.b_repr (q_acons ((q_callT ok_tuple call_tuple_of B.b_tuple (q_acons ((q_fn (h_law_lyndon.mono (by decide)) hr (q_acons ((q_ev (pv 1))).p (q_acons ((q_ev (pv 2))).p q_anil)) (al_cons (al_cons al_nil)))).p q_anil))).p q_anil))).p)))) (q_cons (q_ret q_bl)
  q_nil) q_nil)
  (q_cons (q_asg nd (he := (q_fn (h_law_take.mono (by decide)) hr (q_acons (q_pv (pv 0)) (q_acons ((q_callB ok_len call_lenA B.b_len (q_acons (q_pv (pv 5)) q_anil))).p q_anil)) (al_cons (al_cons al_nil)))))
  (q_cons (q_for PassesOwn.never rfl (q_ie (q_tup (q_acons ((q_ev (pv 5))).p (q_acons ((q_op ok_add op_addA ((q_sl (q_pv (pv 5)) (q_oi (q_pv (pv 6))) q_ono)).p ((q_sl (q_pv (pv 5)) q_ono (q_oi (q_pv (pv 6))))).p)).p (q_acons ((q_op ok_add op_addA ((q_sl (q_pv (pv 5)) q_ono (q_oi (q_pv (pv 6))))).p ((q_sl (q_pv (pv 5)) (q_oi ((q_op ok_add op_addA (q_pv (pv 6)) (q_int).p)).p) q_ono)).p)).p (q_acons ((q_op ok_add op_addA ((q_op ok_add op_addA ((q_sl (q_pv (pv 5)) q_ono (q_oi (q_pv (pv 6))))).p ((q_sub hr.u1 (q_pv (pv 1)) (q_int).p)).p)).p ((q_sl (q_pv (pv 5)) (q_oi ((q_op ok_add op_addA (q_pv (pv 6)) (q_int).p)).p) q_ono)).p)).p (q_acons ((q_op ok_add op_addA (q_pv (pv 5)) ((q_sl (q_pv (pv 5)) q_ono (q_oi (q_int).p))).p)).p q_anil))))))) (q_gn nd) (q_cons (q_if (q_tcmp ok_eq (op_eqA hr.r.units) (q_pv (pv 7)) (q_str).p) (q_cons q_continue
  q_nil) q_nil)
  (q_cons (q_asg nd (he := (q_op ok_mulA op_mulA (q_pv (pv 7)) ((q_op ok_add op_addA ((q_op ok_div op_fdiv (q_pv (pv 2)) ((q_callB ok_len call_lenA B.b_len (q_acons (q_pv (pv 7)) q_anil))).p)).p (q_int).p)).p)))
  (q_cons (q_asg nd (he := (q_lc [("at", 10)] rfl nd (q_r1 B.b_range (q_acons ((q_callB ok_len call_lenA B.b_len (q_acons (q_pv (pv 7)) q_anil))).p q_anil)) (blkOk_by (N := ["c", "letters", "n", "whole", "size", "due", "k", "word", "around", "pieces", "at", "bad", "one"]) (sc := defScope s_law_all) (by decide +kernel)) (fun _ _ _ _ _ => (q_gcn (by decide) nd)) (fun _ _ _ _ _ => q_tnil) (fun _ _ _ _ _ => (q_sl (q_pv (pv 8)) (q_oi (q_pv (pv 10))) (q_oi ((q_op ok_add op_addA (q_pv (pv 10)) (q_pv (pv 2)))).p))))))
  (q_cons (q_asgLc [("one", 12)] rfl nd (sw_true rfl rfl rfl (by decide +kernel)) (q_ie (q_fn (h_law_words.mono (by decide)) hr (q_acons ((q_ev (pv 1))).p (q_acons ((q_ev (pv 2))).p q_anil)) (al_cons (al_cons al_nil)))) (blkOk_by (N := ["c", "letters", "n", "whole", "size", "due", "k", "word", "around", "pieces", "at", "bad", "one"]) (sc := defScope s_law_all) (by decide +kernel)) (fun _ _ _ _ _ => (q_gcn (by decide) nd)) (fun _ _ _ _ _ => (q_tone (q_tcmp ok_ne (op_neA hr.r.units) ((q_alt (q_meth ok_count ty_str F.plainAttrs_str F.slot_str_count F.type_str_count mt_count (q_pv (pv 9)) (q_acons (q_pv (pv 12)) q_anil)) (q_meth ok_countL ty_lst F.plainAttrs_list F.slot_list_count F.type_list_count (mt_countD hr.u65) (q_pv (pv 9)) (q_acons (q_pv (pv 12)) q_anil)))).p (q_int).p))) (fun _ _ _ _ _ => (q_ev (pv 12))))
  (q_cons (q_if (q_tcmp ok_ne (op_neA hr.r.units) ((q_callB ok_repr (cr_repr hr) B.b_repr (q_acons ((q_fn (h_all_paper.mono (by decide)) hr (q_acons ((q_ev (pv 1))).p (q_acons ((q_ev (pv 2))).p (q_acons ((q_ev (pv 7))).p q_anil))) (al_cons (al_cons (al_cons al_nil))))).p q_anil))).p ((q_callB ok_repr (cr_repr hr) B.b_repr (q_acons ((q_ifx (q_truth (q_pv (pv 11))) (q_tup (q_acons (q_str).p (q_acons ((q_sub hr.u1 (q_pv (pv 11)) (q_int).p)).p q_anil))) (q_tup (q_acons (q_str).p q_anil)))).p q_anil))).p) (q_cons (q_ret q_bl)
  q_nil) q_nil)
  q_nil))))))
  (q_cons (q_ret q_bl)
  q_nil)))))))
theorem ok_law {f : Addr} {fd : FuncData} (Fu : Fun K "law" "law" s_law f fd) (B : Bu mg)  (h_periods : DefOk P w K mg base "periods" ["word"] 2 fn_periods) (h_borders : DefOk P w K mg base "borders" ["word"] 1 fn_borders) (h_shared_period : DefOk P w K mg base "shared_period" ["p", "q"] 2 fn_shared_period) (h_root_of : DefOk P w K mg base "root_of" ["word"] 1 fn_root_of) (h_least_rotation : DefOk P w K mg base "least_rotation" ["word"] 2 fn_least_rotation) (h_turned_paper : DefOk P w K mg base "turned_paper" ["word", "other"] 3 fn_turned_paper) (h_judge_turned : DefOk P w K mg base "judge_turned" ["word", "other", "value"] 4 fn_judge_turned) (h_lyndon_parts : DefOk P w K mg base "lyndon_parts" ["word"] 1 fn_lyndon_parts) (h_equal_powers : DefOk P w K mg base "equal_powers" ["u", "v"] 2 fn_equal_powers) (h_law_start : DefOk P w K mg base "_law_start" ["script"] 1 fn_law_start) (h_law_take : DefOk P w K mg base "_law_take" ["c", "many"] 2 fn_law_take) (h_law_word : DefOk P w K mg base "_law_word" ["c", "letters", "most"] 3 fn_law_word) (h_law_periods : DefOk P w K mg base "_law_periods" ["word"] 1 fn_law_periods) (h_law_rotations : DefOk P w K mg base "_law_rotations" ["word"] 1 fn_law_rotations) (h_law_root : DefOk P w K mg base "_law_root" ["word"] 1 fn_law_root) (h_law_parts : DefOk P w K mg base "_law_parts" ["word"] 2 fn_law_parts) (h_law_shared : DefOk P w K mg base "_law_shared" ["p", "q"] 1 fn_law_shared) (h_law_turned : DefOk P w K mg base "_law_turned" ["first", "second", "value"] 3 fn_law_turned) (h_law_paper : DefOk P w K mg base "_law_paper" ["first", "second"] 2 fn_law_paper) (h_law_equal : DefOk P w K mg base "_law_equal" ["u", "v"] 2 fn_law_equal) (h_law_all : DefOk P w K mg base "_law_all" ["c"] 3 fn_law_all) : FnG P w K mg base 5 f fd ["script"] (spOf K 1 fn_law) := by
  have nd := sc_law.nd
  exact fn_ok Fu sc_law fun cdv A outer s H hr => (q_cons (q_asg nd (he := (q_fn (h_law_start.mono (by decide)) hr (q_acons ((q_ev (pv 0))).p q_anil) (al_cons al_nil))))
  (q_cons (q_asg nd (he := (q_sl (q_str).p q_ono (q_oi ((q_op ok_add op_addA (q_int).p ((q_fn (h_law_take.mono (by decide)) hr (q_acons (q_pv (pv 1)) (q_acons (q_int).p q_anil)) (al_cons (al_cons al_nil)))).p)).p))))
  (q_cons (q_asg nd (he := (q_fn (h_law_word.mono (by decide)) hr (q_acons (q_pv (pv 1)) (q_acons ((q_ev (pv 2))).p (q_acons (q_int).p q_anil))) (al_cons (al_cons (al_cons al_nil))))))
  (q_cons (q_if (q_tcmp ok_eq (op_eqA hr.r.units) ((q_fn (h_law_take.mono (by decide)) hr (q_acons (q_pv (pv 1)) (q_acons (q_int).p q_anil)) (al_cons (al_cons al_nil)))).p (q_int).p) (q_cons (q_asg nd (he := (q_sl ((q_op ok_mulA op_mulA ((q_fn (h_law_word.mono (by decide)) hr (q_acons (q_pv (pv 1)) (q_acons ((q_ev (pv 2))).p (q_acons (q_int).p q_anil))) (al_cons (al_cons (al_cons al_nil))))).p (q_int).p)).p q_ono (q_oi (q_int).p))))
  q_nil) q_nil)
  (q_cons (q_asg nd (he := (q_fn (h_law_periods.mono (by decide)) hr (q_acons ((q_ev (pv 3))).p q_anil) (al_cons al_nil))))
  (q_cons (q_if (q_tcmp ok_ne (op_neA hr.r.units) ((q_callB ok_repr (cr_repr hr) B.b_repr (q_acons ((q_fn (h_periods.mono (by decide)) hr (q_acons ((q_ev (pv 3))).p q_anil) (al_cons al_nil))).p q_anil))).p ((q_callB ok_repr (cr_repr hr) B.b_repr (q_acons ((q_callT ok_tuple call_tuple_of B.b_tuple (q_acons (q_pv (pv 4)) q_anil))).p q_anil))).p) (q_cons (q_ret q_bl)
  q_nil) q_nil)
  (q_cons (q_asgLc [("p", 6)] rfl nd (sw_true rfl rfl rfl (by decide +kernel)) (q_ie (q_ev (pv 4))) (blkOk_by (N := ["script", "c", "letters", "word", "due", "own", "p", "turns", "k", "other", "told", "value", "u", "v", "q"]) (sc := defScope s_law) (by decide +kernel)) (fun _ _ _ _ _ => (q_gcn (by decide) nd)) (fun _ _ _ _ _ => q_tnil) (fun _ _ _ _ _ => (q_sl (q_pv (pv 3)) q_ono (q_oi ((q_op ok_sub op_sub ((q_callB ok_len call_lenA B.b_len (q_acons (q_pv (pv 3)) q_anil))).p (q_pv (pv 6)))).p))))
  (q_cons (q_if (q_tcmp ok_ne (op_neA hr.r.units) ((q_callB ok_repr (cr_repr hr) B.b_repr (q_acons ((q_fn (h_borders.mono (by decide)) hr (q_acons ((q_ev (pv 3))).p q_anil) (al_cons al_nil))).p q_anil))).p ((q_callB ok_repr (cr_repr hr) B.b_repr (q_acons ((q_callT ok_tuple call_tuple_of B.b_tuple (q_acons ((q_sortLen hr.u66 B.b_sorted B.b_len (q_acons (q_pv (pv 5)) q_anil))).p q_anil))).p q_anil))).p) (q_cons (q_ret q_bl)
  q_nil) q_nil)
  (q_cons (q_if (q_tcmp ok_ne (op_neA hr.r.units) (q_pv (pv 3)) (q_str).p) (q_cons (q_asg nd (he := (q_fn (h_law_rotations.mono (by decide)) hr (q_acons ((q_ev (pv 3))).p q_anil) (al_cons al_nil))))
  (q_cons (q_if (q_tcmp ok_ne (op_neA hr.r.units) ((q_callB ok_repr (cr_repr hr) B.b_repr (q_acons ((q_fn (h_root_of.mono (by decide)) hr (q_acons ((q_ev (pv 3))).p q_anil) (al_cons al_nil))).p q_anil))).p ((q_callB ok_repr (cr_repr hr) B.b_repr (q_acons ((q_fn (h_law_root.mono (by decide)) hr (q_acons ((q_ev (pv 3))).p q_anil) (al_cons al_nil))).p q_anil))).p) (q_cons (q_ret q_bl)
  q_nil) q_nil)
  (q_cons (q_if (q_tcmp ok_ne (op_neA hr.r.units) ((q_callB ok_repr (cr_repr hr) B.b_repr (q_acons ((q_fn (h_least_rotation.mono (by decide)) hr (q_acons ((q_ev (pv 3))).p q_anil) (al_cons al_nil))).p q_anil))).p ((q_callB ok_repr (cr_repr hr) B.b_repr (q_acons ((q_tup (q_acons ((q_callB ok_minA (cr_minA rfl hr.u66) B.b_min (q_acons (q_pv (pv 7)) q_anil))).p (q_acons ((q_alt (q_meth ok_indexS ty_str F.plainAttrs_str F.slot_str_index F.type_str_index mt_sindex (q_pv (pv 7)) (q_acons ((q_callB ok_minA (cr_minA rfl hr.u66) B.b_min (q_acons (q_pv (pv 7)) q_anil))).p q_anil)) (q_meth ok_indexL ty_lst F.plainAttrs_list F.slot_list_index F.type_list_index (mt_indexD hr.u65) (q_pv (pv 7)) (q_acons ((q_callB ok_minA (cr_minA rfl hr.u66) B.b_min (q_acons (q_pv (pv 7)) q_anil))).p q_anil)))).p q_anil)))).p q_anil))).p) (q_cons (q_ret q_bl)
  q_nil) q_nil)
  q_nil))) q_nil)
  (q_cons (q_if (q_tcmp ok_ne (op_neA hr.r.units) ((q_callB ok_repr (cr_repr hr) B.b_repr (q_acons ((q_fn (h_lyndon_parts.mono (by decide)) hr (q_acons ((q_ev (pv 3))).p q_anil) (al_cons al_nil))).p q_anil))).p ((q_callB ok_repr (cr_repr hr) B.b_repr (q_acons ((q_fn (h_law_parts.mono (by decide)) hr (q_acons ((q_ev (pv 3))).p q_anil) (al_cons al_nil))).p q_anil))).p) (q_cons (q_ret q_bl)
  q_nil) q_nil)
  (q_cons (q_asg nd (he := (q_fn (h_law_take.mono (by decide)) hr (q_acons (q_pv (pv 1)) (q_acons ((q_op ok_add op_addA ((q_callB ok_len call_lenA B.b_len (q_acons (q_pv (pv 3)) q_anil))).p (q_int).p)).p q_anil)) (al_cons (al_cons al_nil)))))
  (q_cons (q_asg nd (he := (q_ifx (q_tcmp ok_eq (op_eqA hr.r.units) ((q_fn (h_law_take.mono (by decide)) hr (q_acons (q_pv (pv 1)) (q_acons (q_int).p q_anil)) (al_cons (al_cons al_nil)))).p (q_int).p) (q_op ok_add op_addA ((q_sl (q_pv (pv 3)) (q_oi (q_pv (pv 8))) q_ono)).p ((q_sl (q_pv (pv 3)) q_ono (q_oi (q_pv (pv 8))))).p) (q_fn (h_law_word.mono (by decide)) hr (q_acons (q_pv (pv 1)) (q_acons ((q_ev (pv 2))).p (q_acons ((q_callB ok_len call_lenA B.b_len (q_acons (q_pv (pv 3)) q_anil))).p q_anil))) (al_cons (al_cons (al_cons al_nil)))))))
  (q_cons (q_asg nd (he := (q_fn (h_law_paper.mono (by decide)) hr (q_acons ((q_ev (pv 3))).p (q_acons ((q_ev (pv 9))).p q_anil)) (al_cons (al_cons al_nil)))))
  (q_cons (q_if (QW.t (q_and (q_tcmp ok_ne (op_neA hr.r.units) (q_pv (pv 3)) (q_str).p) (q_and1 (q_tcmp ok_ne (op_neA hr.r.units) (q_pv (pv 9)) (q_str).p)))) (q_cons (q_if (q_tcmp ok_ne (op_neA hr.r.units) ((q_callB ok_repr (cr_repr hr) B.b_repr (q_acons ((q_fn (h_turned_paper.mono (by decide)) hr (q_acons ((q_ev (pv 3))).p (q_acons ((q_ev (pv 9))).p q_anil)) (al_cons (al_cons al_nil)))).p q_anil))).p ((q_callB ok_repr (cr_repr hr) B.b_repr (q_acons (q_pv (pv 10)) q_anil))).p) (q_cons (q_ret q_bl)
  q_nil) q_nil)
  (q_cons (q_for PassesOwn.never rfl (q_ie (q_tup (q_acons ((q_ev (pv 10))).p (q_acons ((q_sl (q_pv (pv 10)) q_ono (q_oi (q_int).p))).p (q_acons ((q_tup (q_acons (q_str).p (q_acons (q_int).p q_anil)))).p (q_acons ((q_tup (q_acons (q_str).p (q_acons ((q_callB ok_len call_lenA B.b_len (q_acons (q_pv (pv 3)) q_anil))).p q_anil)))).p (q_acons ((q_tup (q_acons (q_str).p (q_acons ((q_ev (pv 3))).p (q_acons ((q_ev (pv 9))).p q_anil))))).p (q_acons ((q_tup q_anil)).p (q_acons ((q_op ok_add op_addA (q_pv (pv 10)) ((q_tup (q_acons (q_int).p q_anil))).p)).p q_anil))))))))) (q_gn nd) (q_cons (q_if (q_tcmp ok_ne (op_neA hr.r.units) ((q_callB ok_repr (cr_repr hr) B.b_repr (q_acons ((q_fn (h_judge_turned.mono (by decide)) hr (q_acons ((q_ev (pv 3))).p (q_acons ((q_ev (pv 9))).p (q_acons ((q_ev (pv 11))).p q_anil))) (al_cons (al_cons (al_cons al_nil))))).p q_anil))).p ((q_callB ok_repr (cr_repr hr) B.b_repr (q_acons ((q_fn (h_law_turned.mono (by decide)) hr (q_acons ((q_ev (pv 3))).p (q_acons ((q_ev (pv 9))).p (q_acons ((q_ev (pv 11))).p q_anil))) (al_cons (al_cons (al_cons al_nil))))).p q_anil))).p) (q_cons (q_ret q_bl)
  q_nil) q_nil)
  q_nil))
  q_nil)) q_nil)
  (q_cons (q_par rfl nd (ha := (q_op ok_add op_addA ((q_sub hr.u1 (q_pv (pv 2)) (q_int).p)).p ((q_fn (h_law_word.mono (by decide)) hr (q_acons (q_pv (pv 1)) (q_acons ((q_ev (pv 2))).p (q_acons (q_int).p q_anil))) (al_cons (al_cons (al_cons al_nil))))).p)) (hb := (q_op ok_add op_addA ((q_fn (h_law_word.mono (by decide)) hr (q_acons (q_pv (pv 1)) (q_acons ((q_ev (pv 2))).p (q_acons (q_int).p q_anil))) (al_cons (al_cons (al_cons al_nil))))).p ((q_sub hr.u1 (q_pv (pv 2)) (q_int).p)).p)))
  (q_cons (q_if (q_tcmp ok_eq (op_eqA hr.r.units) ((q_fn (h_law_take.mono (by decide)) hr (q_acons (q_pv (pv 1)) (q_acons (q_int).p q_anil)) (al_cons (al_cons al_nil)))).p (q_int).p) (q_cons (q_par rfl nd (ha := (q_op ok_mulA op_mulA (q_pv (pv 12)) ((q_op ok_add op_addA (q_int).p ((q_fn (h_law_take.mono (by decide)) hr (q_acons (q_pv (pv 1)) (q_acons (q_int).p q_anil)) (al_cons (al_cons al_nil)))).p)).p)) (hb := (q_op ok_mulA op_mulA (q_pv (pv 12)) ((q_op ok_add op_addA (q_int).p ((q_fn (h_law_take.mono (by decide)) hr (q_acons (q_pv (pv 1)) (q_acons (q_int).p q_anil)) (al_cons (al_cons al_nil)))).p)).p)))
  q_nil) q_nil)
  (q_cons (q_if (q_tcmp ok_ne (op_neA hr.r.units) ((q_callB ok_repr (cr_repr hr) B.b_repr (q_acons ((q_fn (h_equal_powers.mono (by decide)) hr (q_acons ((q_ev (pv 12))).p (q_acons ((q_ev (pv 13))).p q_anil)) (al_cons (al_cons al_nil)))).p q_anil))).p ((q_callB ok_repr (cr_repr hr) B.b_repr (q_acons ((q_fn (h_law_equal.mono (by decide)) hr (q_acons ((q_ev (pv 12))).p (q_acons ((q_ev (pv 13))).p q_anil)) (al_cons (al_cons al_nil)))).p q_anil))).p) (q_cons (q_ret q_bl)
  q_nil) q_nil)
  (q_cons (q_par rfl nd (ha := (q_op ok_add op_addA (q_int).p ((q_fn (h_law_take.mono (by decide)) hr (q_acons (q_pv (pv 1)) (q_acons (q_int).p q_anil)) (al_cons (al_cons al_nil)))).p)) (hb := (q_op ok_add op_addA (q_int).p ((q_fn (h_law_take.mono (by decide)) hr (q_acons (q_pv (pv 1)) (q_acons (q_int).p q_anil)) (al_cons (al_cons al_nil)))).p)))
  (q_cons (q_if (QW.t (q_and (q_tcmp ok_ne (op_neA hr.r.units) ((q_op ok_mod op_mod (q_pv (pv 6)) (q_pv (pv 14)))).p (q_int).p) (q_and (q_tcmp ok_ne (op_neA hr.r.units) ((q_op ok_mod op_mod (q_pv (pv 14)) (q_pv (pv 6)))).p (q_int).p) (q_and1 (q_tcmp ok_ne (op_neA hr.r.units) ((q_callB ok_repr (cr_repr hr) B.b_repr (q_acons ((q_fn (h_shared_period.mono (by decide)) hr (q_acons ((q_ev (pv 6))).p (q_acons ((q_ev (pv 14))).p q_anil)) (al_cons (al_cons al_nil)))).p q_anil))).p ((q_callB ok_repr (cr_repr hr) B.b_repr (q_acons ((q_fn (h_law_shared.mono (by decide)) hr (q_acons ((q_ev (pv 6))).p (q_acons ((q_ev (pv 14))).p q_anil)) (al_cons (al_cons al_nil)))).p q_anil))).p))))) (q_cons (q_ret q_bl)
  q_nil) q_nil)
  (q_cons (q_ret (q_fn (h_law_all.mono (by decide)) hr (q_acons (q_pv (pv 1)) q_anil) (al_cons al_nil)))
  q_nil))))))))))))))))))))
end
end signworth_k20_turning
namespace signworth_k20_turning
open PySem PySem.Spec PyProof.Rows L2 MP
theorem all_mk {l : PySem.W.OpenLaw} {w : World} {K : PySem.W.Frag} {h : Heap} {mg : Str → Option Value} {fa f0 f1 f2 f3 f4 f5 f6 f7 f8 f9 f10 f11 f12 f13 f14 f15 f16 f17 f18 f19 f20 f21 f22 f23 f24 f25 f26 f27 f28 f29 f30 f31 f32 f33 f34 f35 : Addr} (X : K.In h) (G : h.Ns mainGlobals mg) (hfa : mg "law" = some (.ref fa))
    {od0 an0 od1 an1 od2 an2 od3 an3 od4 an4 od5 an5 od6 an6 od7 an7 od8 an8 od9 an9 od10 an10 od11 an11 od12 an12 od13 an13 od14 an14 od15 an15 od16 an16 od17 an17 od18 an18 od19 an19 od20 an20 od21 an21 od22 an22 od23 an23 od24 an24 od25 an25 od26 an26 od27 an27 od28 an28 od29 an29 od30 an30 od31 an31 od32 an32 od33 an33 od34 an34 od35 an35 : Option Addr} {sl0 sl1 sl2 sl3 sl4 sl5 sl6 sl7 sl8 sl9 sl10 sl11 sl12 sl13 sl14 sl15 sl16 sl17 sl18 sl19 sl20 sl21 sl22 sl23 sl24 sl25 sl26 sl27 sl28 sl29 sl30 sl31 sl32 sl33 sl34 sl35 : Array (Option Value)} {oc0 kV0 dc0 pm0 cd0 ct0 oc1 kV1 dc1 pm1 cd1 ct1 oc2 kV2 dc2 pm2 cd2 ct2 oc3 kV3 dc3 pm3 cd3 ct3 oc4 kV4 dc4 pm4 cd4 ct4 oc5 kV5 dc5 pm5 cd5 ct5 oc6 kV6 dc6 pm6 cd6 ct6 oc7 kV7 dc7 pm7 cd7 ct7 oc8 kV8 dc8 pm8 cd8 ct8 oc9 kV9 dc9 pm9 cd9 ct9 oc10 kV10 dc10 pm10 cd10 ct10 oc11 kV11 dc11 pm11 cd11 ct11 oc12 kV12 dc12 pm12 cd12 ct12 oc13 kV13 dc13 pm13 cd13 ct13 oc14 kV14 dc14 pm14 cd14 ct14 oc15 kV15 dc15 pm15 cd15 ct15 oc16 kV16 dc16 pm16 cd16 ct16 oc17 kV17 dc17 pm17 cd17 ct17 oc18 kV18 dc18 pm18 cd18 ct18 oc19 kV19 dc19 pm19 cd19 ct19 oc20 kV20 dc20 pm20 cd20 ct20 oc21 kV21 dc21 pm21 cd21 ct21 oc22 kV22 dc22 pm22 cd22 ct22 oc23 kV23 dc23 pm23 cd23 ct23 oc24 kV24 dc24 pm24 cd24 ct24 oc25 kV25 dc25 pm25 cd25 ct25 oc26 kV26 dc26 pm26 cd26 ct26 oc27 kV27 dc27 pm27 cd27 ct27 oc28 kV28 dc28 pm28 cd28 ct28 oc29 kV29 dc29 pm29 cd29 ct29 oc30 kV30 dc30 pm30 cd30 ct30 oc31 kV31 dc31 pm31 cd31 ct31 oc32 kV32 dc32 pm32 cd32 ct32 oc33 kV33 dc33 pm33 cd33 ct33 oc34 kV34 dc34 pm34 cd34 ct34 oc35 kV35 dc35 pm35 cd35 ct35 : Value}
    {tg0 : _}
    (a0 : PySem.W.nsIn K mainGlobals "common_divisor" = some (some (.ref f0))) (l0 : K.lookup f0 = some ⟨oc0, od0, .func (PySem.W.fnOf "common_divisor" "common_divisor" (defArgs s_common_divisor) (defBody s_common_divisor) (defScope s_common_divisor) .none kV0 dc0 pm0 an0 cd0 ct0), sl0⟩) (c0 : PySem.W.codeIn K cd0 "common_divisor" = true) (k0 : PySem.W.keepIn K (.ref f0) = true)
    (a1 : PySem.W.nsIn K mainGlobals "is_integer" = some (some (.ref f1))) (l1 : K.lookup f1 = some ⟨oc1, od1, .func (PySem.W.fnOf "is_integer" "is_integer" (defArgs s_is_integer) (defBody s_is_integer) (defScope s_is_integer) .none kV1 dc1 pm1 an1 cd1 ct1), sl1⟩) (c1 : PySem.W.codeIn K cd1 "is_integer" = true) (k1 : PySem.W.keepIn K (.ref f1) = true)
    (a2 : PySem.W.nsIn K mainGlobals "has_period" = some (some (.ref f2))) (l2 : K.lookup f2 = some ⟨oc2, od2, .func (PySem.W.fnOf "has_period" "has_period" (defArgs s_has_period) (defBody s_has_period) (defScope s_has_period) .none kV2 dc2 pm2 an2 cd2 ct2), sl2⟩) (c2 : PySem.W.codeIn K cd2 "has_period" = true) (k2 : PySem.W.keepIn K (.ref f2) = true)
    (a3 : PySem.W.nsIn K mainGlobals "periods" = some (some (.ref f3))) (l3 : K.lookup f3 = some ⟨oc3, od3, .func (PySem.W.fnOf "periods" "periods" (defArgs s_periods) (defBody s_periods) (defScope s_periods) .none kV3 dc3 pm3 an3 cd3 ct3), sl3⟩) (c3 : PySem.W.codeIn K cd3 "periods" = true) (k3 : PySem.W.keepIn K (.ref f3) = true)
    (a4 : PySem.W.nsIn K mainGlobals "borders" = some (some (.ref f4))) (l4 : K.lookup f4 = some ⟨oc4, od4, .func (PySem.W.fnOf "borders" "borders" (defArgs s_borders) (defBody s_borders) (defScope s_borders) .none kV4 dc4 pm4 an4 cd4 ct4), sl4⟩) (c4 : PySem.W.codeIn K cd4 "borders" = true) (k4 : PySem.W.keepIn K (.ref f4) = true)
    (a5 : PySem.W.nsIn K mainGlobals "shared_period" = some (some (.ref f5))) (l5 : K.lookup f5 = some ⟨oc5, od5, .func (PySem.W.fnOf "shared_period" "shared_period" (defArgs s_shared_period) (defBody s_shared_period) (defScope s_shared_period) .none kV5 dc5 pm5 an5 cd5 ct5), sl5⟩) (c5 : PySem.W.codeIn K cd5 "shared_period" = true) (k5 : PySem.W.keepIn K (.ref f5) = true)
    (a6 : PySem.W.nsIn K mainGlobals "root_of" = some (some (.ref f6))) (l6 : K.lookup f6 = some ⟨oc6, od6, .func (PySem.W.fnOf "root_of" "root_of" (defArgs s_root_of) (defBody s_root_of) (defScope s_root_of) .none kV6 dc6 pm6 an6 cd6 ct6), sl6⟩) (c6 : PySem.W.codeIn K cd6 "root_of" = true) (k6 : PySem.W.keepIn K (.ref f6) = true)
    (a7 : PySem.W.nsIn K mainGlobals "turned_by" = some (some (.ref f7))) (l7 : K.lookup f7 = some ⟨oc7, od7, .func (PySem.W.fnOf "turned_by" "turned_by" (defArgs s_turned_by) (defBody s_turned_by) (defScope s_turned_by) .none kV7 dc7 pm7 an7 cd7 ct7), sl7⟩) (c7 : PySem.W.codeIn K cd7 "turned_by" = true) (k7 : PySem.W.keepIn K (.ref f7) = true)
    (a8 : PySem.W.nsIn K mainGlobals "least_rotation" = some (some (.ref f8))) (l8 : K.lookup f8 = some ⟨oc8, od8, .func (PySem.W.fnOf "least_rotation" "least_rotation" (defArgs s_least_rotation) (defBody s_least_rotation) (defScope s_least_rotation) .none kV8 dc8 pm8 an8 cd8 ct8), sl8⟩) (c8 : PySem.W.codeIn K cd8 "least_rotation" = true) (k8 : PySem.W.keepIn K (.ref f8) = true)
    (a9 : PySem.W.nsIn K mainGlobals "turned_paper" = some (some (.ref f9))) (l9 : K.lookup f9 = some ⟨oc9, od9, .func (PySem.W.fnOf "turned_paper" "turned_paper" (defArgs s_turned_paper) (defBody s_turned_paper) (defScope s_turned_paper) .none kV9 dc9 pm9 an9 cd9 ct9), sl9⟩) (c9 : PySem.W.codeIn K cd9 "turned_paper" = true) (k9 : PySem.W.keepIn K (.ref f9) = true)
    (a10 : PySem.W.nsIn K mainGlobals "judge_turned" = some (some (.ref f10))) (l10 : K.lookup f10 = some ⟨oc10, od10, .func (PySem.W.fnOf "judge_turned" "judge_turned" (defArgs s_judge_turned) (defBody s_judge_turned) (defScope s_judge_turned) .none kV10 dc10 pm10 an10 cd10 ct10), sl10⟩) (c10 : PySem.W.codeIn K cd10 "judge_turned" = true) (k10 : PySem.W.keepIn K (.ref f10) = true)
    (a11 : PySem.W.nsIn K mainGlobals "lyndon_parts" = some (some (.ref f11))) (l11 : K.lookup f11 = some ⟨oc11, od11, .func (PySem.W.fnOf "lyndon_parts" "lyndon_parts" (defArgs s_lyndon_parts) (defBody s_lyndon_parts) (defScope s_lyndon_parts) .none kV11 dc11 pm11 an11 cd11 ct11), sl11⟩) (c11 : PySem.W.codeIn K cd11 "lyndon_parts" = true) (k11 : PySem.W.keepIn K (.ref f11) = true)
    (a12 : PySem.W.nsIn K mainGlobals "lyndon_up_to" = some (some (.ref f12))) (l12 : K.lookup f12 = some ⟨oc12, od12, .func (PySem.W.fnOf "lyndon_up_to" "lyndon_up_to" (defArgs s_lyndon_up_to) (defBody s_lyndon_up_to) (defScope s_lyndon_up_to) .none kV12 dc12 pm12 an12 cd12 ct12), sl12⟩) (c12 : PySem.W.codeIn K cd12 "lyndon_up_to" = true) (k12 : PySem.W.keepIn K (.ref f12) = true)
    (a13 : PySem.W.nsIn K mainGlobals "lyndon_words" = some (some (.ref f13))) (l13 : K.lookup f13 = some ⟨oc13, od13, .func (PySem.W.fnOf "lyndon_words" "lyndon_words" (defArgs s_lyndon_words) (defBody s_lyndon_words) (defScope s_lyndon_words) .none kV13 dc13 pm13 an13 cd13 ct13), sl13⟩) (c13 : PySem.W.codeIn K cd13 "lyndon_words" = true) (k13 : PySem.W.keepIn K (.ref f13) = true)
    (a14 : PySem.W.nsIn K mainGlobals "all_row" = some (some (.ref f14))) (l14 : K.lookup f14 = some ⟨oc14, od14, .func (PySem.W.fnOf "all_row" "all_row" (defArgs s_all_row) (defBody s_all_row) (defScope s_all_row) .none kV14 dc14 pm14 an14 cd14 ct14), sl14⟩) (c14 : PySem.W.codeIn K cd14 "all_row" = true) (k14 : PySem.W.keepIn K (.ref f14) = true)
    (a15 : PySem.W.nsIn K mainGlobals "words_of" = some (some (.ref f15))) (l15 : K.lookup f15 = some ⟨oc15, od15, .func (PySem.W.fnOf "words_of" "words_of" (defArgs s_words_of) (defBody s_words_of) (defScope s_words_of) .none kV15 dc15 pm15 an15 cd15 ct15), sl15⟩) (c15 : PySem.W.codeIn K cd15 "words_of" = true) (k15 : PySem.W.keepIn K (.ref f15) = true)
    (a16 : PySem.W.nsIn K mainGlobals "all_paper" = some (some (.ref f16))) (l16 : K.lookup f16 = some ⟨oc16, od16, .func (PySem.W.fnOf "all_paper" "all_paper" (defArgs s_all_paper) (defBody s_all_paper) (defScope s_all_paper) .none kV16 dc16 pm16 an16 cd16 ct16), sl16⟩) (c16 : PySem.W.codeIn K cd16 "all_paper" = true) (k16 : PySem.W.keepIn K (.ref f16) = true)
    (a17 : PySem.W.nsIn K mainGlobals "equal_powers" = some (some (.ref f17))) (l17 : K.lookup f17 = some ⟨oc17, od17, .func (PySem.W.fnOf "equal_powers" "equal_powers" (defArgs s_equal_powers) (defBody s_equal_powers) (defScope s_equal_powers) .none kV17 dc17 pm17 an17 cd17 ct17), sl17⟩) (c17 : PySem.W.codeIn K cd17 "equal_powers" = true) (k17 : PySem.W.keepIn K (.ref f17) = true)
    (a18 : PySem.W.nsIn K mainGlobals "_law_start" = some (some (.ref f18))) (l18 : K.lookup f18 = some ⟨oc18, od18, .func (PySem.W.fnOf "_law_start" "_law_start" (defArgs s_law_start) (defBody s_law_start) (defScope s_law_start) .none kV18 dc18 pm18 an18 cd18 ct18), sl18⟩) (c18 : PySem.W.codeIn K cd18 "_law_start" = true) (k18 : PySem.W.keepIn K (.ref f18) = true)
    (a19 : PySem.W.nsIn K mainGlobals "_law_fill" = some (some (.ref f19))) (l19 : K.lookup f19 = some ⟨oc19, od19, .func (PySem.W.fnOf "_law_fill" "_law_fill" (defArgs s_law_fill) (defBody s_law_fill) (defScope s_law_fill) .none kV19 dc19 pm19 an19 cd19 ct19), sl19⟩) (c19 : PySem.W.codeIn K cd19 "_law_fill" = true) (k19 : PySem.W.keepIn K (.ref f19) = true)
    (a20 : PySem.W.nsIn K mainGlobals "_law_take" = some (some (.ref f20))) (l20 : K.lookup f20 = some ⟨oc20, od20, .func (PySem.W.fnOf "_law_take" "_law_take" (defArgs s_law_take) (defBody s_law_take) (defScope s_law_take) .none kV20 dc20 pm20 an20 cd20 ct20), sl20⟩) (c20 : PySem.W.codeIn K cd20 "_law_take" = true) (k20 : PySem.W.keepIn K (.ref f20) = true)
    (a21 : PySem.W.nsIn K mainGlobals "_law_word" = some (some (.ref f21))) (l21 : K.lookup f21 = some ⟨oc21, od21, .func (PySem.W.fnOf "_law_word" "_law_word" (defArgs s_law_word) (defBody s_law_word) (defScope s_law_word) .none kV21 dc21 pm21 an21 cd21 ct21), sl21⟩) (c21 : PySem.W.codeIn K cd21 "_law_word" = true) (k21 : PySem.W.keepIn K (.ref f21) = true)
    (a22 : PySem.W.nsIn K mainGlobals "_law_words" = some (some (.ref f22))) (l22 : K.lookup f22 = some ⟨oc22, od22, .func (PySem.W.fnOf "_law_words" "_law_words" (defArgs s_law_words) (defBody s_law_words) (defScope s_law_words) .none kV22 dc22 pm22 an22 cd22 ct22), sl22⟩) (c22 : PySem.W.codeIn K cd22 "_law_words" = true) (k22 : PySem.W.keepIn K (.ref f22) = true)
    (a23 : PySem.W.nsIn K mainGlobals "_law_periods" = some (some (.ref f23))) (l23 : K.lookup f23 = some ⟨oc23, od23, .func (PySem.W.fnOf "_law_periods" "_law_periods" (defArgs s_law_periods) (defBody s_law_periods) (defScope s_law_periods) .none kV23 dc23 pm23 an23 cd23 ct23), sl23⟩) (c23 : PySem.W.codeIn K cd23 "_law_periods" = true) (k23 : PySem.W.keepIn K (.ref f23) = true)
    (a24 : PySem.W.nsIn K mainGlobals "_law_rotations" = some (some (.ref f24))) (l24 : K.lookup f24 = some ⟨oc24, od24, .func (PySem.W.fnOf "_law_rotations" "_law_rotations" (defArgs s_law_rotations) (defBody s_law_rotations) (defScope s_law_rotations) .none kV24 dc24 pm24 an24 cd24 ct24), sl24⟩) (c24 : PySem.W.codeIn K cd24 "_law_rotations" = true) (k24 : PySem.W.keepIn K (.ref f24) = true)
    (a25 : PySem.W.nsIn K mainGlobals "_law_root" = some (some (.ref f25))) (l25 : K.lookup f25 = some ⟨oc25, od25, .func (PySem.W.fnOf "_law_root" "_law_root" (defArgs s_law_root) (defBody s_law_root) (defScope s_law_root) .none kV25 dc25 pm25 an25 cd25 ct25), sl25⟩) (c25 : PySem.W.codeIn K cd25 "_law_root" = true) (k25 : PySem.W.keepIn K (.ref f25) = true)
    (a26 : PySem.W.nsIn K mainGlobals "_law_is_lyndon" = some (some (.ref f26))) (l26 : K.lookup f26 = some ⟨oc26, od26, .func (PySem.W.fnOf "_law_is_lyndon" "_law_is_lyndon" (defArgs s_law_is_lyndon) (defBody s_law_is_lyndon) (defScope s_law_is_lyndon) .none kV26 dc26 pm26 an26 cd26 ct26), sl26⟩) (c26 : PySem.W.codeIn K cd26 "_law_is_lyndon" = true) (k26 : PySem.W.keepIn K (.ref f26) = true)
    (a27 : PySem.W.nsIn K mainGlobals "_law_parts" = some (some (.ref f27))) (l27 : K.lookup f27 = some ⟨oc27, od27, .func (PySem.W.fnOf "_law_parts" "_law_parts" (defArgs s_law_parts) (defBody s_law_parts) (defScope s_law_parts) .none kV27 dc27 pm27 an27 cd27 ct27), sl27⟩) (c27 : PySem.W.codeIn K cd27 "_law_parts" = true) (k27 : PySem.W.keepIn K (.ref f27) = true)
    (a28 : PySem.W.nsIn K mainGlobals "_law_shared" = some (some (.ref f28))) (l28 : K.lookup f28 = some ⟨oc28, od28, .func (PySem.W.fnOf "_law_shared" "_law_shared" (defArgs s_law_shared) (defBody s_law_shared) (defScope s_law_shared) .none kV28 dc28 pm28 an28 cd28 ct28), sl28⟩) (c28 : PySem.W.codeIn K cd28 "_law_shared" = true) (k28 : PySem.W.keepIn K (.ref f28) = true)
    (a29 : PySem.W.nsIn K mainGlobals "_law_paper" = some (some (.ref f29))) (l29 : K.lookup f29 = some ⟨oc29, od29, .func (PySem.W.fnOf "_law_paper" "_law_paper" (defArgs s_law_paper) (defBody s_law_paper) (defScope s_law_paper) .none kV29 dc29 pm29 an29 cd29 ct29), sl29⟩) (c29 : PySem.W.codeIn K cd29 "_law_paper" = true) (k29 : PySem.W.keepIn K (.ref f29) = true)
    (a30 : PySem.W.nsIn K mainGlobals "_law_turned" = some (some (.ref f30))) (l30 : K.lookup f30 = some ⟨oc30, od30, .func (PySem.W.fnOf "_law_turned" "_law_turned" (defArgs s_law_turned) (defBody s_law_turned) (defScope s_law_turned) .none kV30 dc30 pm30 an30 cd30 ct30), sl30⟩) (c30 : PySem.W.codeIn K cd30 "_law_turned" = true) (k30 : PySem.W.keepIn K (.ref f30) = true)
    (a31 : PySem.W.nsIn K mainGlobals "_law_equal" = some (some (.ref f31))) (l31 : K.lookup f31 = some ⟨oc31, od31, .func (PySem.W.fnOf "_law_equal" "_law_equal" (defArgs s_law_equal) (defBody s_law_equal) (defScope s_law_equal) .none kV31 dc31 pm31 an31 cd31 ct31), sl31⟩) (c31 : PySem.W.codeIn K cd31 "_law_equal" = true) (k31 : PySem.W.keepIn K (.ref f31) = true)
    (a32 : PySem.W.nsIn K mainGlobals "_law_flat" = some (some (.ref f32))) (l32 : K.lookup f32 = some ⟨oc32, od32, .func (PySem.W.fnOf "_law_flat" "_law_flat" (defArgs s_law_flat) (defBody s_law_flat) (defScope s_law_flat) .none kV32 dc32 pm32 an32 cd32 ct32), sl32⟩) (c32 : PySem.W.codeIn K cd32 "_law_flat" = true) (k32 : PySem.W.keepIn K (.ref f32) = true)
    (a33 : PySem.W.nsIn K mainGlobals "_law_lyndon" = some (some (.ref f33))) (l33 : K.lookup f33 = some ⟨oc33, od33, .func (PySem.W.fnOf "_law_lyndon" "_law_lyndon" (defArgs s_law_lyndon) (defBody s_law_lyndon) (defScope s_law_lyndon) .none kV33 dc33 pm33 an33 cd33 ct33), sl33⟩) (c33 : PySem.W.codeIn K cd33 "_law_lyndon" = true) (k33 : PySem.W.keepIn K (.ref f33) = true)
    (a34 : PySem.W.nsIn K mainGlobals "_law_all" = some (some (.ref f34))) (l34 : K.lookup f34 = some ⟨oc34, od34, .func (PySem.W.fnOf "_law_all" "_law_all" (defArgs s_law_all) (defBody s_law_all) (defScope s_law_all) .none kV34 dc34 pm34 an34 cd34 ct34), sl34⟩) (c34 : PySem.W.codeIn K cd34 "_law_all" = true) (k34 : PySem.W.keepIn K (.ref f34) = true)
    (a35 : PySem.W.nsIn K mainGlobals "law" = some (some (.ref f35))) (l35 : K.lookup f35 = some ⟨oc35, od35, .func (PySem.W.fnOf "law" "law" (defArgs s_law) (defBody s_law) (defScope s_law) .none kV35 dc35 pm35 an35 cd35 ct35), sl35⟩) (c35 : PySem.W.codeIn K cd35 "law" = true) (k35 : PySem.W.keepIn K (.ref f35) = true)
    (gl0 : PySem.W.nsIn K mainGlobals "LETTERS" = some (some (.str "abcdefghijklmnopqrstuvwxyz" tg0)))
    (z0 : PySem.W.nsIn K mainGlobals "abs" = some none) (z1 : PySem.W.nsIn K mainGlobals "all" = some none) (z2 : PySem.W.nsIn K mainGlobals "bool" = some none) (z3 : PySem.W.nsIn K mainGlobals "int" = some none) (z4 : PySem.W.nsIn K mainGlobals "isinstance" = some none) (z5 : PySem.W.nsIn K mainGlobals "len" = some none) (z6 : PySem.W.nsIn K mainGlobals "list" = some none) (z7 : PySem.W.nsIn K mainGlobals "max" = some none) (z8 : PySem.W.nsIn K mainGlobals "min" = some none) (z9 : PySem.W.nsIn K mainGlobals "range" = some none) (z10 : PySem.W.nsIn K mainGlobals "repr" = some none) (z11 : PySem.W.nsIn K mainGlobals "sorted" = some none) (z12 : PySem.W.nsIn K mainGlobals "str" = some none) (z13 : PySem.W.nsIn K mainGlobals "tuple" = some none) :
    ∃ fd : FuncData, (∀ (s : Shared) (v : Value), BindsTo s fd ⟨[v], []⟩ [("script", v)]) ∧ ∀ base : Heap, K.In base → base.Ns mainGlobals mg → FnG l.prog w K mg base 5 fa fd ["script"] (spOf K 1 fn_law) := by
  have e := hfa.symm.trans (PySem.W.mg_of X G a35)
  cases e
  have BB : Bu mg := ⟨PySem.W.mg_none_of X G z0, PySem.W.mg_none_of X G z1, PySem.W.mg_none_of X G z2, PySem.W.mg_none_of X G z3, PySem.W.mg_none_of X G z4, PySem.W.mg_none_of X G z5, PySem.W.mg_none_of X G z6, PySem.W.mg_none_of X G z7, PySem.W.mg_none_of X G z8, PySem.W.mg_none_of X G z9, PySem.W.mg_none_of X G z10, PySem.W.mg_none_of X G z11, PySem.W.mg_none_of X G z12, PySem.W.mg_none_of X G z13⟩
  have F0 := fun_mk (st := s_common_divisor) l0 c0 k0
  have F1 := fun_mk (st := s_is_integer) l1 c1 k1
  have F2 := fun_mk (st := s_has_period) l2 c2 k2
  have F3 := fun_mk (st := s_periods) l3 c3 k3
  have F4 := fun_mk (st := s_borders) l4 c4 k4
  have F5 := fun_mk (st := s_shared_period) l5 c5 k5
  have F6 := fun_mk (st := s_root_of) l6 c6 k6
  have F7 := fun_mk (st := s_turned_by) l7 c7 k7
  have F8 := fun_mk (st := s_least_rotation) l8 c8 k8
  have F9 := fun_mk (st := s_turned_paper) l9 c9 k9
  have F10 := fun_mk (st := s_judge_turned) l10 c10 k10
  have F11 := fun_mk (st := s_lyndon_parts) l11 c11 k11
  have F12 := fun_mk (st := s_lyndon_up_to) l12 c12 k12
  have F13 := fun_mk (st := s_lyndon_words) l13 c13 k13
  have F14 := fun_mk (st := s_all_row) l14 c14 k14
  have F15 := fun_mk (st := s_words_of) l15 c15 k15
  have F16 := fun_mk (st := s_all_paper) l16 c16 k16
  have F17 := fun_mk (st := s_equal_powers) l17 c17 k17
  have F18 := fun_mk (st := s_law_start) l18 c18 k18
  have F19 := fun_mk (st := s_law_fill) l19 c19 k19
  have F20 := fun_mk (st := s_law_take) l20 c20 k20
  have F21 := fun_mk (st := s_law_word) l21 c21 k21
  have F22 := fun_mk (st := s_law_words) l22 c22 k22
  have F23 := fun_mk (st := s_law_periods) l23 c23 k23
  have F24 := fun_mk (st := s_law_rotations) l24 c24 k24
  have F25 := fun_mk (st := s_law_root) l25 c25 k25
  have F26 := fun_mk (st := s_law_is_lyndon) l26 c26 k26
  have F27 := fun_mk (st := s_law_parts) l27 c27 k27
  have F28 := fun_mk (st := s_law_shared) l28 c28 k28
  have F29 := fun_mk (st := s_law_paper) l29 c29 k29
  have F30 := fun_mk (st := s_law_turned) l30 c30 k30
  have F31 := fun_mk (st := s_law_equal) l31 c31 k31
  have F32 := fun_mk (st := s_law_flat) l32 c32 k32
  have F33 := fun_mk (st := s_law_lyndon) l33 c33 k33
  have F34 := fun_mk (st := s_law_all) l34 c34 k34
  have F35 := fun_mk (st := s_law) l35 c35 k35
  refine ⟨PySem.W.fnOf "law" "law" (defArgs s_law) (defBody s_law) (defScope s_law) .none kV35 dc35 pm35 an35 cd35 ct35, fun s v => .of_eq rfl, fun base _ _ => ?_⟩
  have h_common_divisor : DefOk l.prog w K mg base "common_divisor" ["first", "second"] 1 fn_common_divisor := ⟨_, _, PySem.W.mg_of X G a0, F0.kp, F0.binds (ps := ["first", "second"]) fun _ _ _ _ _ _ us hl => match us, hl with | [_, _], _ => rfl, ok_common_divisor F0 BB⟩
  have h_is_integer : DefOk l.prog w K mg base "is_integer" ["value"] 1 fn_is_integer := ⟨_, _, PySem.W.mg_of X G a1, F1.kp, F1.binds (ps := ["value"]) fun _ _ _ _ _ _ us hl => match us, hl with | [_], _ => rfl, ok_is_integer F1 BB⟩
  have h_has_period : DefOk l.prog w K mg base "has_period" ["word", "p"] 1 fn_has_period := ⟨_, _, PySem.W.mg_of X G a2, F2.kp, F2.binds (ps := ["word", "p"]) fun _ _ _ _ _ _ us hl => match us, hl with | [_, _], _ => rfl, ok_has_period F2 BB⟩
  have h_periods : DefOk l.prog w K mg base "periods" ["word"] 2 fn_periods := ⟨_, _, PySem.W.mg_of X G a3, F3.kp, F3.binds (ps := ["word"]) fun _ _ _ _ _ _ us hl => match us, hl with | [_], _ => rfl, ok_periods F3 BB h_has_period⟩
  have h_borders : DefOk l.prog w K mg base "borders" ["word"] 1 fn_borders := ⟨_, _, PySem.W.mg_of X G a4, F4.kp, F4.binds (ps := ["word"]) fun _ _ _ _ _ _ us hl => match us, hl with | [_], _ => rfl, ok_borders F4 BB⟩
  have h_shared_period : DefOk l.prog w K mg base "shared_period" ["p", "q"] 2 fn_shared_period := ⟨_, _, PySem.W.mg_of X G a5, F5.kp, F5.binds (ps := ["p", "q"]) fun _ _ _ _ _ _ us hl => match us, hl with | [_, _], _ => rfl, ok_shared_period F5 BB ⟨_, PySem.W.mg_of X G gl0⟩ h_common_divisor⟩
  have h_root_of : DefOk l.prog w K mg base "root_of" ["word"] 1 fn_root_of := ⟨_, _, PySem.W.mg_of X G a6, F6.kp, F6.binds (ps := ["word"]) fun _ _ _ _ _ _ us hl => match us, hl with | [_], _ => rfl, ok_root_of F6 BB⟩
  have h_turned_by : DefOk l.prog w K mg base "turned_by" ["word", "at"] 1 fn_turned_by := ⟨_, _, PySem.W.mg_of X G a7, F7.kp, F7.binds (ps := ["word", "at"]) fun _ _ _ _ _ _ us hl => match us, hl with | [_, _], _ => rfl, ok_turned_by F7 BB⟩
  have h_least_rotation : DefOk l.prog w K mg base "least_rotation" ["word"] 2 fn_least_rotation := ⟨_, _, PySem.W.mg_of X G a8, F8.kp, F8.binds (ps := ["word"]) fun _ _ _ _ _ _ us hl => match us, hl with | [_], _ => rfl, ok_least_rotation F8 BB h_turned_by⟩
  have h_turned_paper : DefOk l.prog w K mg base "turned_paper" ["word", "other"] 3 fn_turned_paper := ⟨_, _, PySem.W.mg_of X G a9, F9.kp, F9.binds (ps := ["word", "other"]) fun _ _ _ _ _ _ us hl => match us, hl with | [_, _], _ => rfl, ok_turned_paper F9 BB h_turned_by h_least_rotation⟩
  have h_judge_turned : DefOk l.prog w K mg base "judge_turned" ["word", "other", "value"] 4 fn_judge_turned := ⟨_, _, PySem.W.mg_of X G a10, F10.kp, F10.binds (ps := ["word", "other", "value"]) fun _ _ _ _ _ _ us hl => match us, hl with | [_, _, _], _ => rfl, ok_judge_turned F10 BB h_is_integer h_turned_paper⟩
  have h_lyndon_parts : DefOk l.prog w K mg base "lyndon_parts" ["word"] 1 fn_lyndon_parts := ⟨_, _, PySem.W.mg_of X G a11, F11.kp, F11.binds (ps := ["word"]) fun _ _ _ _ _ _ us hl => match us, hl with | [_], _ => rfl, ok_lyndon_parts F11 BB⟩
  have h_lyndon_up_to : DefOk l.prog w K mg base "lyndon_up_to" ["letters", "n"] 1 fn_lyndon_up_to := ⟨_, _, PySem.W.mg_of X G a12, F12.kp, F12.binds (ps := ["letters", "n"]) fun _ _ _ _ _ _ us hl => match us, hl with | [_, _], _ => rfl, ok_lyndon_up_to F12 BB⟩
  have h_lyndon_words : DefOk l.prog w K mg base "lyndon_words" ["letters", "n"] 2 fn_lyndon_words := ⟨_, _, PySem.W.mg_of X G a13, F13.kp, F13.binds (ps := ["letters", "n"]) fun _ _ _ _ _ _ us hl => match us, hl with | [_, _], _ => rfl, ok_lyndon_words F13 BB h_lyndon_up_to⟩
  have h_all_row : DefOk l.prog w K mg base "all_row" ["letters", "n"] 2 fn_all_row := ⟨_, _, PySem.W.mg_of X G a14, F14.kp, F14.binds (ps := ["letters", "n"]) fun _ _ _ _ _ _ us hl => match us, hl with | [_, _], _ => rfl, ok_all_row F14 BB h_lyndon_up_to⟩
  have h_words_of : DefOk l.prog w K mg base "words_of" ["letters", "n"] 1 fn_words_of := ⟨_, _, PySem.W.mg_of X G a15, F15.kp, F15.binds (ps := ["letters", "n"]) fun _ _ _ _ _ _ us hl => match us, hl with | [_, _], _ => rfl, ok_words_of F15 BB⟩
  have h_all_paper : DefOk l.prog w K mg base "all_paper" ["letters", "n", "word"] 2 fn_all_paper := ⟨_, _, PySem.W.mg_of X G a16, F16.kp, F16.binds (ps := ["letters", "n", "word"]) fun _ _ _ _ _ _ us hl => match us, hl with | [_, _, _], _ => rfl, ok_all_paper F16 BB h_words_of⟩
  have h_equal_powers : DefOk l.prog w K mg base "equal_powers" ["u", "v"] 2 fn_equal_powers := ⟨_, _, PySem.W.mg_of X G a17, F17.kp, F17.binds (ps := ["u", "v"]) fun _ _ _ _ _ _ us hl => match us, hl with | [_, _], _ => rfl, ok_equal_powers F17 BB h_root_of⟩
  have h_law_start : DefOk l.prog w K mg base "_law_start" ["script"] 1 fn_law_start := ⟨_, _, PySem.W.mg_of X G a18, F18.kp, F18.binds (ps := ["script"]) fun _ _ _ _ _ _ us hl => match us, hl with | [_], _ => rfl, ok_law_start F18 BB⟩
  have h_law_fill : DefOk l.prog w K mg base "_law_fill" ["c"] 1 fn_law_fill := ⟨_, _, PySem.W.mg_of X G a19, F19.kp, F19.binds (ps := ["c"]) fun _ _ _ _ _ _ us hl => match us, hl with | [_], _ => rfl, ok_law_fill F19 BB⟩
  have h_law_take : DefOk l.prog w K mg base "_law_take" ["c", "many"] 2 fn_law_take := ⟨_, _, PySem.W.mg_of X G a20, F20.kp, F20.binds (ps := ["c", "many"]) fun _ _ _ _ _ _ us hl => match us, hl with | [_, _], _ => rfl, ok_law_take F20 BB h_law_fill⟩
  have h_law_word : DefOk l.prog w K mg base "_law_word" ["c", "letters", "most"] 3 fn_law_word := ⟨_, _, PySem.W.mg_of X G a21, F21.kp, F21.binds (ps := ["c", "letters", "most"]) fun _ _ _ _ _ _ us hl => match us, hl with | [_, _, _], _ => rfl, ok_law_word F21 BB h_law_take⟩
  have h_law_words : DefOk l.prog w K mg base "_law_words" ["letters", "n"] 1 fn_law_words := ⟨_, _, PySem.W.mg_of X G a22, F22.kp, F22.binds (ps := ["letters", "n"]) fun _ _ _ _ _ _ us hl => match us, hl with | [_, _], _ => rfl, ok_law_words F22 BB⟩
  have h_law_periods : DefOk l.prog w K mg base "_law_periods" ["word"] 1 fn_law_periods := ⟨_, _, PySem.W.mg_of X G a23, F23.kp, F23.binds (ps := ["word"]) fun _ _ _ _ _ _ us hl => match us, hl with | [_], _ => rfl, ok_law_periods F23 BB⟩
  have h_law_rotations : DefOk l.prog w K mg base "_law_rotations" ["word"] 1 fn_law_rotations := ⟨_, _, PySem.W.mg_of X G a24, F24.kp, F24.binds (ps := ["word"]) fun _ _ _ _ _ _ us hl => match us, hl with | [_], _ => rfl, ok_law_rotations F24 BB⟩
  have h_law_root : DefOk l.prog w K mg base "_law_root" ["word"] 1 fn_law_root := ⟨_, _, PySem.W.mg_of X G a25, F25.kp, F25.binds (ps := ["word"]) fun _ _ _ _ _ _ us hl => match us, hl with | [_], _ => rfl, ok_law_root F25 BB⟩
  have h_law_is_lyndon : DefOk l.prog w K mg base "_law_is_lyndon" ["word"] 1 fn_law_is_lyndon := ⟨_, _, PySem.W.mg_of X G a26, F26.kp, F26.binds (ps := ["word"]) fun _ _ _ _ _ _ us hl => match us, hl with | [_], _ => rfl, ok_law_is_lyndon F26 BB⟩
  have h_law_parts : DefOk l.prog w K mg base "_law_parts" ["word"] 2 fn_law_parts := ⟨_, _, PySem.W.mg_of X G a27, F27.kp, F27.binds (ps := ["word"]) fun _ _ _ _ _ _ us hl => match us, hl with | [_], _ => rfl, ok_law_parts F27 BB h_law_is_lyndon⟩
  have h_law_shared : DefOk l.prog w K mg base "_law_shared" ["p", "q"] 1 fn_law_shared := ⟨_, _, PySem.W.mg_of X G a28, F28.kp, F28.binds (ps := ["p", "q"]) fun _ _ _ _ _ _ us hl => match us, hl with | [_, _], _ => rfl, ok_law_shared F28 BB⟩
  have h_law_paper : DefOk l.prog w K mg base "_law_paper" ["first", "second"] 2 fn_law_paper := ⟨_, _, PySem.W.mg_of X G a29, F29.kp, F29.binds (ps := ["first", "second"]) fun _ _ _ _ _ _ us hl => match us, hl with | [_, _], _ => rfl, ok_law_paper F29 BB h_law_rotations⟩
  have h_law_turned : DefOk l.prog w K mg base "_law_turned" ["first", "second", "value"] 3 fn_law_turned := ⟨_, _, PySem.W.mg_of X G a30, F30.kp, F30.binds (ps := ["first", "second", "value"]) fun _ _ _ _ _ _ us hl => match us, hl with | [_, _, _], _ => rfl, ok_law_turned F30 BB h_law_paper⟩
  have h_law_equal : DefOk l.prog w K mg base "_law_equal" ["u", "v"] 2 fn_law_equal := ⟨_, _, PySem.W.mg_of X G a31, F31.kp, F31.binds (ps := ["u", "v"]) fun _ _ _ _ _ _ us hl => match us, hl with | [_, _], _ => rfl, ok_law_equal F31 BB h_law_root⟩
  have h_law_flat : DefOk l.prog w K mg base "_law_flat" ["rows"] 1 fn_law_flat := ⟨_, _, PySem.W.mg_of X G a32, F32.kp, F32.binds (ps := ["rows"]) fun _ _ _ _ _ _ us hl => match us, hl with | [_], _ => rfl, ok_law_flat F32 BB⟩
  have h_law_lyndon : DefOk l.prog w K mg base "_law_lyndon" ["letters", "n"] 2 fn_law_lyndon := ⟨_, _, PySem.W.mg_of X G a33, F33.kp, F33.binds (ps := ["letters", "n"]) fun _ _ _ _ _ _ us hl => match us, hl with | [_, _], _ => rfl, ok_law_lyndon F33 BB h_law_words h_law_is_lyndon⟩
  have h_law_all : DefOk l.prog w K mg base "_law_all" ["c"] 3 fn_law_all := ⟨_, _, PySem.W.mg_of X G a34, F34.kp, F34.binds (ps := ["c"]) fun _ _ _ _ _ _ us hl => match us, hl with | [_], _ => rfl, ok_law_all F34 BB h_lyndon_words h_all_row h_all_paper h_law_take h_law_words h_law_flat h_law_lyndon⟩
  exact ok_law F35 BB h_periods h_borders h_shared_period h_root_of h_least_rotation h_turned_paper h_judge_turned h_lyndon_parts h_equal_powers h_law_start h_law_take h_law_word h_law_periods h_law_rotations h_law_root h_law_parts h_law_shared h_law_turned h_law_paper h_law_equal h_law_all
end signworth_k20_turning
open PySem PySem.W PyProof.Rows
set_option maxHeartbeats 0 in
theorem PySem.Challenge.cw_signworth_k20_turning_holds : PySem.Challenge.rw_signworth_k20_turning.Holds := by
  w_on; o_law; k_head; (case hw => w_witness2)
  k_fill
  refine MP.walk_ofG (l := PySem.Challenge.rw_signworth_k20_turning) (n := 63) (k := 5) (x := "script") (sp := fun w => MP.spOf _ 1 signworth_k20_turning.fn_law) rfl (by decide) rfl ⟨rfl, by decide, by decide⟩ (fun w h Y => PySem.W.kIn_of Y) ?F (fun w H a ns hl hO hS => MP.law_sp signworth_k20_turning.law_true H a ns hl hO hS)
  case F =>
    intro w mg fa h KX G hmg
    refine' signworth_k20_turning.all_mk KX G hmg ?a0 ?l0 ?c0 ?k0 ?a1 ?l1 ?c1 ?k1 ?a2 ?l2 ?c2 ?k2 ?a3 ?l3 ?c3 ?k3 ?a4 ?l4 ?c4 ?k4 ?a5 ?l5 ?c5 ?k5 ?a6 ?l6 ?c6 ?k6 ?a7 ?l7 ?c7 ?k7 ?a8 ?l8 ?c8 ?k8 ?a9 ?l9 ?c9 ?k9 ?a10 ?l10 ?c10 ?k10 ?a11 ?l11 ?c11 ?k11 ?a12 ?l12 ?c12 ?k12 ?a13 ?l13 ?c13 ?k13 ?a14 ?l14 ?c14 ?k14 ?a15 ?l15 ?c15 ?k15 ?a16 ?l16 ?c16 ?k16 ?a17 ?l17 ?c17 ?k17 ?a18 ?l18 ?c18 ?k18 ?a19 ?l19 ?c19 ?k19 ?a20 ?l20 ?c20 ?k20 ?a21 ?l21 ?c21 ?k21 ?a22 ?l22 ?c22 ?k22 ?a23 ?l23 ?c23 ?k23 ?a24 ?l24 ?c24 ?k24 ?a25 ?l25 ?c25 ?k25 ?a26 ?l26 ?c26 ?k26 ?a27 ?l27 ?c27 ?k27 ?a28 ?l28 ?c28 ?k28 ?a29 ?l29 ?c29 ?k29 ?a30 ?l30 ?c30 ?k30 ?a31 ?l31 ?c31 ?k31 ?a32 ?l32 ?c32 ?k32 ?a33 ?l33 ?c33 ?k33 ?a34 ?l34 ?c34 ?k34 ?a35 ?l35 ?c35 ?k35 ?gl0 ?z0 ?z1 ?z2 ?z3 ?z4 ?z5 ?z6 ?z7 ?z8 ?z9 ?z10 ?z11 ?z12 ?z13
    (case a0 => k_is)
    (case l0 => k_is)
    (case c0 => k_is)
    (case k0 => k_is)
    (case a1 => k_is)
    (case l1 => k_is)
    (case c1 => k_is)
    (case k1 => k_is)
    (case a2 => k_is)
    (case l2 => k_is)
    (case c2 => k_is)
    (case k2 => k_is)
    (case a3 => k_is)
    (case l3 => k_is)
    (case c3 => k_is)
    (case k3 => k_is)
    (case a4 => k_is)
    (case l4 => k_is)
    (case c4 => k_is)
    (case k4 => k_is)
    (case a5 => k_is)
    (case l5 => k_is)
    (case c5 => k_is)
    (case k5 => k_is)
    (case a6 => k_is)
    (case l6 => k_is)
    (case c6 => k_is)
    (case k6 => k_is)
    (case a7 => k_is)
    (case l7 => k_is)
    (case c7 => k_is)
    (case k7 => k_is)
    (case a8 => k_is)
    (case l8 => k_is)
    (case c8 => k_is)
    (case k8 => k_is)
    (case a9 => k_is)
    (case l9 => k_is)
    (case c9 => k_is)
    (case k9 => k_is)
    (case a10 => k_is)
    (case l10 => k_is)
    (case c10 => k_is)
    (case k10 => k_is)
    (case a11 => k_is)
    (case l11 => k_is)
    (case c11 => k_is)
    (case k11 => k_is)
    (case a12 => k_is)
    (case l12 => k_is)
    (case c12 => k_is)
    (case k12 => k_is)
    (case a13 => k_is)
    (case l13 => k_is)
    (case c13 => k_is)
    (case k13 => k_is)
    (case a14 => k_is)
    (case l14 => k_is)
    (case c14 => k_is)
    (case k14 => k_is)
    (case a15 => k_is)
    (case l15 => k_is)
    (case c15 => k_is)
    (case k15 => k_is)
    (case a16 => k_is)
    (case l16 => k_is)
    (case c16 => k_is)
    (case k16 => k_is)
    (case a17 => k_is)
    (case l17 => k_is)
    (case c17 => k_is)
    (case k17 => k_is)
    (case a18 => k_is)
    (case l18 => k_is)
    (case c18 => k_is)
    (case k18 => k_is)
    (case a19 => k_is)
    (case l19 => k_is)
    (case c19 => k_is)
    (case k19 => k_is)
    (case a20 => k_is)
    (case l20 => k_is)
    (case c20 => k_is)
    (case k20 => k_is)
    (case a21 => k_is)
    (case l21 => k_is)
    (case c21 => k_is)
    (case k21 => k_is)
    (case a22 => k_is)
    (case l22 => k_is)
    (case c22 => k_is)
    (case k22 => k_is)
    (case a23 => k_is)
    (case l23 => k_is)
    (case c23 => k_is)
    (case k23 => k_is)
    (case a24 => k_is)
    (case l24 => k_is)
    (case c24 => k_is)
    (case k24 => k_is)
    (case a25 => k_is)
    (case l25 => k_is)
    (case c25 => k_is)
    (case k25 => k_is)
    (case a26 => k_is)
    (case l26 => k_is)
    (case c26 => k_is)
    (case k26 => k_is)
    (case a27 => k_is)
    (case l27 => k_is)
    (case c27 => k_is)
    (case k27 => k_is)
    (case a28 => k_is)
    (case l28 => k_is)
    (case c28 => k_is)
    (case k28 => k_is)
    (case a29 => k_is)
    (case l29 => k_is)
    (case c29 => k_is)
    (case k29 => k_is)
    (case a30 => k_is)
    (case l30 => k_is)
    (case c30 => k_is)
    (case k30 => k_is)
    (case a31 => k_is)
    (case l31 => k_is)
    (case c31 => k_is)
    (case k31 => k_is)
    (case a32 => k_is)
    (case l32 => k_is)
    (case c32 => k_is)
    (case k32 => k_is)
    (case a33 => k_is)
    (case l33 => k_is)
    (case c33 => k_is)
    (case k33 => k_is)
    (case a34 => k_is)
    (case l34 => k_is)
    (case c34 => k_is)
    (case k34 => k_is)
    (case a35 => k_is)
    (case l35 => k_is)
    (case c35 => k_is)
    (case k35 => k_is)
    (case gl0 => k_is)
    (case z0 => k_is)
    (case z1 => k_is)
    (case z2 => k_is)
    (case z3 => k_is)
    (case z4 => k_is)
    (case z5 => k_is)
    (case z6 => k_is)
    (case z7 => k_is)
    (case z8 => k_is)
    (case z9 => k_is)
    (case z10 => k_is)
    (case z11 => k_is)
    (case z12 => k_is)
    (case z13 => k_is)
