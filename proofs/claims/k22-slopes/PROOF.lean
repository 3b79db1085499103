import PyProof.Rows.All
import Wide.All
import OpenK.AllK
import Wide.FinOn
import HandS.ForMost
import HandS.SetKeys
import HandS.DictComp
import HandS.Conv
import HandS.IsInst
import HandS.TupAny
import HandS.Flow
import HandS.Wide
import HandS.Codes
import HandS.StrMore
import HandS.Zip
import HandS.Deep
import HandS.SortInts
import HandS.RaiseMore
import PyProof.Rows.SortShellAny
import HandS.SetFor
import HandS.TupSets
import PySem.Challenge.RW_signworth_k22_slopes
set_option Elab.async false
set_option linter.all false
set_option maxRecDepth 100000
set_option maxHeartbeats 4000000
namespace MP
open PySem PySem.Spec PyProof.Rows L2

/-! ### data -/
abbrev Tx := List Nat
abbrev Ky := Sum Int Tx
def S (l : Tx) : Str := ⟨l.toArray⟩
theorem S_inj {a b : Tx} (h : S a = S b) : a = b := by
  have := congrArg (fun s : Str => s.cps.toList) h
  simpa [S] using this
theorem S_cps (a : Tx) : (S a).cps.toList = a := by simp [S]
theorem S_length (a : Tx) : (S a).length = a.length := by simp [S, Str.length]
theorem S_append (a b : Tx) : S a ++ S b = S (a ++ b) := by
  show Str.append _ _ = _
  simp [S, Str.append]
theorem S_of (z : Str) : z = S z.cps.toList := by
  cases z; simp [S]
def kK : Ky → Key
  | .inl i => .inl i
  | .inr x => .inr (S x)
theorem kK_inj {a b : Ky} (h : kK a = kK b) : a = b := by
  cases a <;> cases b <;> simp [kK] at h ⊢
  · exact h
  · exact S_inj h

inductive D where
  | non | bl (b : Bool) | int (i : Int) | str (x : Tx) | tup (xs : List D) | lst (xs : List D)
  | dk (kvs : List (Ky × D)) | dt (kvs : List (List Ky × D)) | st (ks : List Ky) | fz (xs : List D) | ty (n : String)
instance : Inhabited D := ⟨.non⟩

mutual
/-- in the frozen part F the value v is the datum d -/
inductive Dn (K : PySem.W.Frag) (F : Hp) : V → D → Prop
  | non : Dn K F .non .non
  | bl (b : Bool) : Dn K F (.bl b) (.bl b)
  | int (i : Int) : Dn K F (.int i) (.int i)
  | str (x : Tx) : Dn K F (.str (S x)) (.str x)
  | ty (n : String) : Dn K F (.ty n) (.ty n)
  | tup {a : Addr} {vs : List V} {ds : List D} : SqT K F a vs → DnAll K F vs ds → Dn K F (.ref a) (.tup ds)
  | lst {a : Addr} {vs : List V} {ds : List D} : F a = some (.lst vs) → DnAll K F vs ds → Dn K F (.ref a) (.lst ds)
  | fz {a : Addr} {vs : List V} {ds : List D} : SqL K F a vs → DnAll K F vs ds → Dn K F (.ref a) (.fz ds)
  | dk {a : Addr} {ks : List (Key × V)} {kvs : List (Ky × D)} : F a = some (.dK ks) → KvAll K F ks kvs → Dn K F (.ref a) (.dk kvs)
inductive DnAll (K : PySem.W.Frag) (F : Hp) : List V → List D → Prop
  | nil : DnAll K F [] []
  | cons {v : V} {vs : List V} {d : D} {ds : List D} : Dn K F v d → DnAll K F vs ds → DnAll K F (v :: vs) (d :: ds)
inductive KvAll (K : PySem.W.Frag) (F : Hp) : List (Key × V) → List (Ky × D) → Prop
  | nil : KvAll K F [] []
  | cons {k : Ky} {v : V} {ks : List (Key × V)} {d : D} {kvs : List (Ky × D)} : Dn K F v d → KvAll K F ks kvs → KvAll K F ((kK k, v) :: ks) ((k, d) :: kvs)
end

section
variable {K : PySem.W.Frag} {F F' H H' : Hp}
theorem same_rd {a : Addr} {u : HO} (e : Same F F') (h : Rd F a u) : Rd F' a u := by
  rcases h with h | ⟨o, h⟩
  · exact .inl (e _ _ h)
  · exact .inr ⟨o, e _ _ h⟩
theorem same_l {a : Addr} {xs : List V} (e : Same F F') (h : SqL K F a xs) : SqL K F' a xs := by
  rcases h with h | h
  · exact .inl (same_rd e h)
  · exact .inr h
theorem same_t {a : Addr} {xs : List V} (e : Same F F') (h : SqT K F a xs) : SqT K F' a xs := by
  rcases h with h | h
  · exact .inl (same_rd e h)
  · exact .inr h
mutual
theorem Dn.mono (e : Same F F') : ∀ {v : V} {d : D}, Dn K F v d → Dn K F' v d
  | _, _, .non => .non
  | _, _, .bl b => .bl b
  | _, _, .int i => .int i
  | _, _, .str x => .str x
  | _, _, .ty n => .ty n
  | _, _, .tup h t => .tup (same_t e h) (DnAll.mono e t)
  | _, _, .lst h t => .lst (e _ _ h) (DnAll.mono e t)
  | _, _, .fz h t => .fz (same_l e h) (DnAll.mono e t)
  | _, _, .dk h t => .dk (e _ _ h) (KvAll.mono e t)
theorem DnAll.mono (e : Same F F') : ∀ {vs : List V} {ds : List D}, DnAll K F vs ds → DnAll K F' vs ds
  | _, _, .nil => .nil
  | _, _, .cons h t => .cons (Dn.mono e h) (DnAll.mono e t)
theorem KvAll.mono (e : Same F F') : ∀ {ks : List (Key × V)} {kvs : List (Ky × D)}, KvAll K F ks kvs → KvAll K F' ks kvs
  | _, _, .nil => .nil
  | _, _, .cons h t => .cons (Dn.mono e h) (KvAll.mono e t)
end
theorem DnAll.length : ∀ {vs : List V} {ds : List D}, DnAll K F vs ds → vs.length = ds.length
  | _, _, .nil => rfl
  | _, _, .cons _ t => by simp [DnAll.length t]
theorem DnAll.append : ∀ {vs ws : List V} {ds es : List D}, DnAll K F vs ds → DnAll K F ws es → DnAll K F (vs ++ ws) (ds ++ es)
  | _, _, _, _, .nil, h => h
  | _, _, _, _, .cons h t, u => .cons h (DnAll.append t u)
theorem DnAll.get : ∀ {vs : List V} {ds : List D} {i : Nat} {d : D}, DnAll K F vs ds → ds[i]? = some d → ∃ v, vs[i]? = some v ∧ Dn K F v d
  | _, _, _, _, .nil, e => by simp at e
  | _, _, 0, _, .cons h _, e => by simp at e; subst e; exact ⟨_, rfl, h⟩
  | _, _, i + 1, d, .cons _ t, e => by
    obtain ⟨v, h1, h2⟩ := DnAll.get (i := i) (d := d) t (by simpa using e)
    exact ⟨v, by simpa using h1, h2⟩
theorem DnAll.set {v : V} {d : D} (h : Dn K F v d) : ∀ {vs : List V} {ds : List D} (i : Nat), DnAll K F vs ds → DnAll K F (vs.set i v) (ds.set i d)
  | _, _, _, .nil => .nil
  | _, _, 0, .cons _ t => .cons h t
  | _, _, i + 1, .cons q t => .cons q (DnAll.set h i t)
theorem DnAll.take : ∀ {vs : List V} {ds : List D} (n : Nat), DnAll K F vs ds → DnAll K F (vs.take n) (ds.take n)
  | _, _, 0, _ => .nil
  | _, _, _ + 1, .nil => .nil
  | _, _, n + 1, .cons h t => .cons h (DnAll.take n t)
theorem DnAll.drop : ∀ {vs : List V} {ds : List D} (n : Nat), DnAll K F vs ds → DnAll K F (vs.drop n) (ds.drop n)
  | _, _, 0, t => t
  | _, _, _ + 1, .nil => .nil
  | _, _, n + 1, .cons _ t => DnAll.drop n t
theorem DnAll.reverse : ∀ {vs : List V} {ds : List D}, DnAll K F vs ds → DnAll K F vs.reverse ds.reverse
  | _, _, .nil => .nil
  | _, _, .cons h t => by simpa using (DnAll.reverse t).append (.cons h .nil)
theorem DnAll.eraseIdx : ∀ {vs : List V} {ds : List D} (i : Nat), DnAll K F vs ds → DnAll K F (vs.eraseIdx i) (ds.eraseIdx i)
  | _, _, _, .nil => .nil
  | _, _, 0, .cons _ t => t
  | _, _, i + 1, .cons q t => .cons q (DnAll.eraseIdx i t)
theorem KvAll.length : ∀ {ks : List (Key × V)} {kvs : List (Ky × D)}, KvAll K F ks kvs → ks.length = kvs.length
  | _, _, .nil => rfl
  | _, _, .cons _ t => by simp [KvAll.length t]
end

/-- the frozen part stands in the heap (a dict of it may be locked) -/
def Ag (F H : Hp) : Prop := ∀ a o, F a = some o → H a = some o ∨ (((∃ ks, o = .dK ks) ∨ (∃ ks, o = .dT ks)) ∧ ∃ ob, H a = some (.frz ob o))
section
variable {K : PySem.W.Frag} {F F' H H' : Hp} {a : Addr}
theorem Ag.of (h : Same F H) : Ag F H := fun a o e => .inl (h a o e)
theorem Ag.h (h : Ag F H) (e : Same H H') : Ag F H' := fun a o q => by
  rcases h a o q with k | ⟨k, ob, z⟩
  · exact .inl (e _ _ k)
  · exact .inr ⟨k, ob, e _ _ z⟩
theorem Ag.f (h : Ag F' H) (e : Same F F') : Ag F H := fun a o q => h a o (e _ _ q)
theorem Ag.free (h : Ag F H) (n : H a = none) : F a = none := by
  cases q : F a with
  | none => rfl
  | some o =>
    rcases h a o q with k | ⟨_, _, k⟩
    · rw [n] at k; cases k
    · rw [n] at k; cases k
theorem Ag.lst {vs : List V} (h : Ag F H) (e : F a = some (.lst vs)) : H a = some (.lst vs) := by
  rcases h a _ e with k | ⟨k | k, _⟩
  · exact k
  · obtain ⟨_, z⟩ := k; cases z
  · obtain ⟨_, z⟩ := k; cases z
theorem Ag.rd {u : HO} (h : Ag F H) (e : F a = some u) : Rd H a u := by
  rcases h a _ e with k | ⟨_, ob, k⟩
  · exact .inl k
  · exact .inr ⟨ob, k⟩
theorem Ag.rd2 {u : HO} (h : Ag F H) (e : Rd F a u) (no : (∀ ks, u ≠ .dK ks) ∧ ∀ ks, u ≠ .dT ks) : Rd H a u := by
  rcases e with e | ⟨o, e⟩
  · exact h.rd e
  · rcases h a _ e with k | ⟨k | k, _⟩
    · exact .inr ⟨o, k⟩
    · obtain ⟨_, z⟩ := k; cases z
    · obtain ⟨_, z⟩ := k; cases z
theorem Ag.l {xs : List V} (e : Ag F H) (h : SqL K F a xs) : SqL K H a xs := by
  rcases h with h | h
  · exact .inl (e.rd2 h ⟨fun _ z => by (cases z), fun _ z => by (cases z)⟩)
  · exact .inr h
theorem Ag.t {xs : List V} (e : Ag F H) (h : SqT K F a xs) : SqT K H a xs := by
  rcases h with h | h
  · exact .inl (e.rd2 h ⟨fun _ z => by (cases z), fun _ z => by (cases z)⟩)
  · exact .inr h
end

/-! ### cells, frames -/
/-- a name's cell: not told, a datum, an object of one's own, one that was lent, one that was lent and is frozen now -/
inductive C where
  | un | im (d : D) | ow (d : D) | bo (d : D) | bf (d : D)
instance : Inhabited C := ⟨.un⟩
abbrev Ev := List C
/-- a result: frozen, or fresh -/
inductive R where
  | im (d : D) | fr (d : D)
def R.d : R → D
  | .im d => d
  | .fr d => d
/-- an operand: a value, or the name in slot i, read when all is there -/
inductive P where
  | val (d : D) | slot (i : Nat)

structure Base where
  F0 : Hp
  H0 : Hp
  σ0 : L2.St

/-- an object of one's own at p -/
def OwnO (K : PySem.W.Frag) (F H : Hp) (p : Addr) : D → Prop
  | .lst ds => ∃ vs, H p = some (.lst vs) ∧ DnAll K F vs ds
  | .dk kvs => ∃ ks, H p = some (.dK ks) ∧ KvAll K F ks kvs
  | _ => False
theorem OwnO.has {K : PySem.W.Frag} {F H : Hp} {p : Addr} {d : D} (h : OwnO K F H p d) : ∃ o, H p = some o := by
  cases d <;> simp only [OwnO] at h
  · obtain ⟨_, h, _⟩ := h; exact ⟨_, h⟩
  · obtain ⟨_, h, _⟩ := h; exact ⟨_, h⟩
theorem OwnO.mono {K : PySem.W.Frag} {F F' H H' : Hp} {p : Addr} {d : D} (h : OwnO K F H p d) (e : Same F F') (k : H' p = H p) : OwnO K F' H' p d := by
  cases d <;> simp only [OwnO] at h ⊢
  · obtain ⟨vs, h1, h2⟩ := h; exact ⟨vs, k.trans h1, h2.mono e⟩
  · obtain ⟨vs, h1, h2⟩ := h; exact ⟨vs, k.trans h1, h2.mono e⟩
/-- frozen -/
theorem OwnO.freeze {K : PySem.W.Frag} {F H : Hp} {p : Addr} {d : D} (h : OwnO K F H p d) : ∃ o, H p = some o ∧ (F p = none → Dn K (upd F p o) (.ref p) d) := by
  cases d <;> simp only [OwnO] at h
  · obtain ⟨vs, h1, h2⟩ := h
    refine ⟨_, h1, fun n => .lst upd_same (h2.mono fun a o e => ?_)⟩
    rw [upd_ne (ne_of_none e n)]; exact e
  · obtain ⟨vs, h1, h2⟩ := h
    refine ⟨_, h1, fun n => .dk upd_same (h2.mono fun a o e => ?_)⟩
    rw [upd_ne (ne_of_none e n)]; exact e

def CellOk (K : PySem.W.Frag) (b : Base) (F H : Hp) (w : Option V) (w0 : Option V) : C → Prop
  | .un => True
  | .im d => ∃ v, w = some v ∧ Dn K F v d
  | .ow d => ∃ p, w = some (.ref p) ∧ OwnO K F H p d ∧ F p = none ∧ b.H0 p = none
  | .bo d => ∃ p, w = some (.ref p) ∧ OwnO K F H p d ∧ F p = none ∧ b.H0 p = none ∧ w0 = w
  | .bf d => ∃ v, w = some v ∧ Dn K F v d ∧ w0 = w ∧ ∃ p o, v = .ref p ∧ F p = some o
def C.own : C → Bool
  | .ow _ => true
  | .bo _ => true
  | _ => false
/-- the i-th name holds an object of its own at p -/
def OwnAt (env : Ev) (σ : L2.St) (i : Nat) (p : Addr) : Prop := (∃ c, env[i]? = some c ∧ c.own = true) ∧ σ[i]? = some (some (.ref p))
structure Gd (K : PySem.W.Frag) (b : Base) (F : Hp) (σ : L2.St) (H : Hp) (env : Ev) : Prop where
  len : env.length = σ.length
  same : Ag F H
  cells : ∀ (i : Nat) (c : C), env[i]? = some c → CellOk K b F H (σ[i]?.join) (b.σ0[i]?.join) c
  dis : ∀ (i j : Nat) (p : Addr), OwnAt env σ i p → OwnAt env σ j p → i = j
  keep : ∀ a o, b.H0 a = some o → H a = some o
  new : ∀ a o, F a = some o → b.F0 a = some o ∨ b.H0 a = none

/-- only new objects -/
structure Xt (F H F' H' : Hp) : Prop where
  ff : Same F F'
  hh : Same H H'
  fh : Ag F' H'
  nw : ∀ a o, F' a = some o → F a = some o ∨ H a = none
theorem Xt.refl {F H : Hp} (h : Ag F H) : Xt F H F H := ⟨Same.refl F, Same.refl H, h, fun _ _ e => .inl e⟩
theorem Xt.trans {F H F1 H1 F2 H2 : Hp} (a : Xt F H F1 H1) (b : Xt F1 H1 F2 H2) : Xt F H F2 H2 :=
  ⟨a.ff.trans b.ff, a.hh.trans b.hh, b.fh, fun x o e => by
    rcases b.nw x o e with q | q
    · exact a.nw x o q
    · exact .inr (a.hh.free q)⟩
theorem same_upd {H : Hp} {p : Addr} {o : HO} (h : H p = none) : Same H (upd H p o) := fun b x e => by
  rw [upd_ne (ne_of_none e h)]; exact e
theorem same_upd2 {F H : Hp} {p : Addr} {o : HO} (e : Ag F H) (h : F p = none) : Ag F (upd H p o) := fun b x q => by
  rw [upd_ne (ne_of_none q h)]; exact e _ _ q
/-- a new object, frozen at once -/
theorem Xt.laid {F H : Hp} {p : Addr} {o : HO} (e : Ag F H) (h : H p = none) : Xt F H (upd F p o) (upd H p o) := by
  have hf := e.free h
  refine ⟨same_upd hf, same_upd h, fun a x q => ?_, fun a x q => ?_⟩
  · by_cases c : a = p
    · subst c; rw [upd_same] at q ⊢; exact .inl q
    · rw [upd_ne c] at q ⊢; exact e _ _ q
  · by_cases c : a = p
    · subst c; exact .inr h
    · rw [upd_ne c] at q; exact .inl q
/-- a new object, not frozen -/
theorem Xt.fresh {F H : Hp} {p : Addr} {o : HO} (e : Ag F H) (h : H p = none) : Xt F H F (upd H p o) :=
  ⟨Same.refl F, same_upd h, e.h (same_upd h), fun _ _ q => .inl q⟩

section
variable {K : PySem.W.Frag} {b : Base} {F F' H H' : Hp} {σ : L2.St} {env : Ev}
theorem Gd.h0 (g : Gd K b F σ H env) {a : Addr} (h : H a = none) : b.H0 a = none := by
  cases q : b.H0 a with
  | none => rfl
  | some o =>
    have := g.keep a o q
    rw [h] at this; cases this
theorem CellOk.mono {w w0 : Option V} {c : C} (h : CellOk K b F H w w0 c) (e : Same F F') (k : ∀ p, w = some (.ref p) → c.own = true → H p = H' p ∧ (F p = none → F' p = none)) : CellOk K b F' H' w w0 c := by
  cases c with
  | un => trivial
  | im d => obtain ⟨v, h1, h2⟩ := h; exact ⟨v, h1, h2.mono e⟩
  | ow d =>
    obtain ⟨p, h1, h2, h3, h4⟩ := h
    obtain ⟨k1, k2⟩ := k p h1 rfl
    exact ⟨p, h1, h2.mono e k1.symm, k2 h3, h4⟩
  | bo d =>
    obtain ⟨p, h1, h2, h3, h4⟩ := h
    obtain ⟨k1, k2⟩ := k p h1 rfl
    exact ⟨p, h1, h2.mono e k1.symm, k2 h3, h4⟩
  | bf d => obtain ⟨v, h1, h2, h3, q, o, h4, h5⟩ := h; exact ⟨v, h1, h2.mono e, h3, q, o, h4, e _ _ h5⟩
theorem CellOk.ownSome {w w0 : Option V} {c : C} (h : CellOk K b F H w w0 c) (o : c.own = true) : ∃ p, w = some (.ref p) ∧ (∃ o, H p = some o) ∧ F p = none ∧ b.H0 p = none := by
  cases c with
  | un => cases o
  | im d => cases o
  | bf d => cases o
  | ow d => obtain ⟨p, h1, h2, h3, h4⟩ := h; exact ⟨p, h1, h2.has, h3, h4⟩
  | bo d => obtain ⟨p, h1, h2, h3, h4, _⟩ := h; exact ⟨p, h1, h2.has, h3, h4⟩
theorem Gd.ext (g : Gd K b F σ H env) (e : Xt F H F' H') : Gd K b F' σ H' env := by
  refine ⟨g.len, e.fh, fun i c h => ?_, g.dis, fun a o q => e.hh _ _ (g.keep a o q), fun a o q => ?_⟩
  · refine (g.cells i c h).mono e.ff fun p hw ho => ?_
    obtain ⟨q, h1, ⟨o, h2⟩, h3, _⟩ := (g.cells i c h).ownSome ho
    rw [hw] at h1; cases h1
    refine ⟨h2.trans (e.hh _ _ h2).symm, fun _ => ?_⟩
    cases z : F' p with
    | none => rfl
    | some x =>
      rcases e.nw p x z with y | y
      · rw [h3] at y; cases y
      · rw [h2] at y; cases y
  · rcases e.nw a o q with y | y
    · exact g.new a o y
    · exact .inr (g.h0 y)
/-- a slot's own object is frozen -/
theorem OwnAt.of {i : Nat} {c : C} {p : Addr} (h : env[i]? = some c) (o : c.own = true) (e : σ[i]?.join = some (.ref p)) : OwnAt env σ i p := by
  refine ⟨⟨c, h, o⟩, ?_⟩
  cases q : σ[i]? with
  | none => rw [q] at e; cases e
  | some w => rw [q] at e; simpa using e
theorem OwnAt.join {i : Nat} {p : Addr} (h : OwnAt env σ i p) : σ[i]?.join = some (.ref p) := by rw [h.2]; rfl

/-- the frozen form of a cell -/
def C.fz : C → C
  | .ow d => .im d
  | .bo d => .bf d
  | c => c
theorem C.fz_own (c : C) : c.fz.own = false := by cases c <;> rfl
theorem set_get {α : Type} {l : List α} {i j : Nat} {a c : α} (h : (l.set i a)[j]? = some c) : (j = i ∧ c = a ∧ i < l.length) ∨ (j ≠ i ∧ l[j]? = some c) := by
  by_cases e : j = i
  · subst e
    by_cases hl : j < l.length
    · rw [List.getElem?_set_self hl] at h; cases h; exact .inl ⟨rfl, rfl, hl⟩
    · rw [List.getElem?_eq_none (by simpa using hl)] at h; cases h
  · rw [List.getElem?_set_ne (Ne.symm e)] at h; exact .inr ⟨e, h⟩
theorem Gd.freeze (g : Gd K b F σ H env) {i : Nat} {c : C} (h : env[i]? = some c) : ∃ F', Same F F' ∧ Gd K b F' σ H (env.set i c.fz) ∧ (∀ d, (c = .ow d ∨ c = .bo d ∨ c = .im d ∨ c = .bf d) → ∃ v, σ[i]?.join = some v ∧ Dn K F' v d) := by
  have hi : i < env.length := by
    rcases Nat.lt_or_ge i env.length with q | q
    · exact q
    · rw [List.getElem?_eq_none q] at h; cases h
  have triv : c.fz = c → (∀ d, (c = .ow d ∨ c = .bo d ∨ c = .im d ∨ c = .bf d) → ∃ v, σ[i]?.join = some v ∧ Dn K F v d) → ∃ F', Same F F' ∧ Gd K b F' σ H (env.set i c.fz) ∧ (∀ d, (c = .ow d ∨ c = .bo d ∨ c = .im d ∨ c = .bf d) → ∃ v, σ[i]?.join = some v ∧ Dn K F' v d) := by
    intro e q
    have : env.set i c.fz = env := by
      rw [e]
      apply List.ext_getElem?
      intro j
      by_cases ej : j = i
      · subst ej; rw [List.getElem?_set_self hi, h]
      · rw [List.getElem?_set_ne (Ne.symm ej)]
    exact ⟨F, Same.refl F, by rw [this]; exact g, q⟩
  have main : c.own = true → (∀ F', (∀ p o, σ[i]?.join = some (.ref p) → H p = some o → F' = upd F p o → CellOk K b F' H (σ[i]?.join) (b.σ0[i]?.join) c.fz)) →
      (∀ F' d, (∀ p o, σ[i]?.join = some (.ref p) → H p = some o → F' = upd F p o → (c = .ow d ∨ c = .bo d) → Dn K F' (.ref p) d)) → ∃ F', Same F F' ∧ Gd K b F' σ H (env.set i c.fz) ∧ (∀ d, (c = .ow d ∨ c = .bo d ∨ c = .im d ∨ c = .bf d) → ∃ v, σ[i]?.join = some v ∧ Dn K F' v d) := by
    intro ho hcell hd
    obtain ⟨p, h1, ⟨o, h2⟩, h3, h4⟩ := (g.cells i c h).ownSome ho
    refine ⟨upd F p o, same_upd h3, ⟨by simpa using g.len, fun a x q => ?_, fun j c' hj => ?_, fun j k q hj hk => ?_, g.keep, fun a x q => ?_⟩, fun d hd' => ?_⟩
    · by_cases e : a = p
      · subst e; rw [upd_same] at q; cases q; exact .inl h2
      · rw [upd_ne e] at q; exact g.same _ _ q
    · rcases set_get hj with ⟨rfl, rfl, _⟩ | ⟨hne, hj⟩
      · exact hcell _ p o h1 h2 rfl
      · refine (g.cells j c' hj).mono (same_upd h3) fun q hw hq => ⟨rfl, fun n => ?_⟩
        have : q ≠ p := by
          rintro rfl
          exact hne (g.dis j i q (OwnAt.of hj hq hw) (OwnAt.of h ho h1))
        rw [upd_ne this]; exact n
    · obtain ⟨⟨cj, e1, o1⟩, e2⟩ := hj
      obtain ⟨⟨ck, f1, o3⟩, f2⟩ := hk
      rcases set_get e1 with ⟨rfl, rfl, _⟩ | ⟨n1, e1⟩
      · rw [C.fz_own] at o1; cases o1
      · rcases set_get f1 with ⟨rfl, rfl, _⟩ | ⟨n2, f1⟩
        · rw [C.fz_own] at o3; cases o3
        · exact g.dis j k q ⟨⟨cj, e1, o1⟩, e2⟩ ⟨⟨ck, f1, o3⟩, f2⟩
    · by_cases e : a = p
      · subst e; exact .inr h4
      · rw [upd_ne e] at q; exact g.new _ _ q
    · refine ⟨.ref p, h1, hd _ d p o h1 h2 rfl ?_⟩
      rcases hd' with q | q | q | q
      · exact .inl q
      · exact .inr q
      · rw [q] at ho; cases ho
      · rw [q] at ho; cases ho
  have cok := g.cells i c h
  cases c with
  | un => exact triv rfl fun d q => by rcases q with q | q | q | q <;> cases q
  | im d =>
    refine triv rfl fun d' q => ?_
    rcases q with q | q | q | q <;> cases q
    exact cok
  | bf d =>
    refine triv rfl fun d' q => ?_
    rcases q with q | q | q | q <;> cases q
    obtain ⟨v, e, f, _⟩ := cok
    exact ⟨v, e, f⟩
  | ow d =>
    obtain ⟨p, e1, e2, e3, e4⟩ := cok
    obtain ⟨o, q1, q2⟩ := e2.freeze
    refine main rfl (fun F' p' o' z1 z2 z3 => ?_) (fun F' d' p' o' z1 z2 z3 z4 => ?_)
    · rw [e1] at z1; cases z1
      rw [q1] at z2; cases z2
      subst z3
      exact ⟨_, e1, q2 e3⟩
    · rw [e1] at z1; cases z1
      rw [q1] at z2; cases z2
      subst z3
      rcases z4 with z | z <;> cases z
      exact q2 e3
  | bo d =>
    obtain ⟨p, e1, e2, e3, e4, e5⟩ := cok
    obtain ⟨o, q1, q2⟩ := e2.freeze
    refine main rfl (fun F' p' o' z1 z2 z3 => ?_) (fun F' d' p' o' z1 z2 z3 z4 => ?_)
    · rw [e1] at z1; cases z1
      rw [q1] at z2; cases z2
      subst z3
      exact ⟨_, e1, q2 e3, e5, _, _, rfl, upd_same⟩
    · rw [e1] at z1; cases z1
      rw [q1] at z2; cases z2
      subst z3
      rcases z4 with z | z <;> cases z
      exact q2 e3
end
end MP
namespace MP
open PySem PySem.Spec PyProof.Rows L2

/-! ### results, operands, readings -/
def RV (K : PySem.W.Frag) (b : Base) (F H : Hp) (σ : L2.St) (env : Ev) (v : V) : R → Prop
  | .im d => Dn K F v d
  | .fr d => ∃ p, v = .ref p ∧ OwnO K F H p d ∧ F p = none ∧ b.H0 p = none ∧ ∀ i, ¬ OwnAt env σ i p
def PVal (K : PySem.W.Frag) (F : Hp) (σ : L2.St) (v : V) : P → Prop
  | .val d => Dn K F v d
  | .slot i => σ[i]?.join = some v
def C.rd : C → Option D
  | .un => none
  | .im d => some d
  | .ow d => some d
  | .bo d => some d
  | .bf d => some d
def rdP (env : Ev) : P → Option D
  | .val d => some d
  | .slot i => (env[i]?).bind C.rd
inductive PVals (K : PySem.W.Frag) (F : Hp) (σ : L2.St) : List V → List P → Prop
  | nil : PVals K F σ [] []
  | cons {v : V} {vs : List V} {p : P} {ps : List P} : PVal K F σ v p → PVals K F σ vs ps → PVals K F σ (v :: vs) (p :: ps)
def rdPs (env : Ev) : List P → Option (List D)
  | [] => some []
  | p :: ps => match rdP env p with
    | none => none
    | some d => match rdPs env ps with
      | none => none
      | some ds => some (d :: ds)
/-- v reads as d -/
def RdD (K : PySem.W.Frag) (F H : Hp) (v : V) (d : D) : Prop := Dn K F v d ∨ ∃ p, v = .ref p ∧ OwnO K F H p d
inductive RdAll (K : PySem.W.Frag) (F H : Hp) : List V → List D → Prop
  | nil : RdAll K F H [] []
  | cons {v : V} {vs : List V} {d : D} {ds : List D} : RdD K F H v d → RdAll K F H vs ds → RdAll K F H (v :: vs) (d :: ds)

section
variable {K : PySem.W.Frag} {b : Base} {F F' H H' : Hp} {σ : L2.St} {env : Ev} {v : V} {p : P}
theorem PVal.mono (h : PVal K F σ v p) (e : Same F F') : PVal K F' σ v p := by
  cases p with
  | val d => exact Dn.mono e h
  | slot i => exact h
theorem PVals.mono : ∀ {vs : List V} {ps : List P}, PVals K F σ vs ps → Same F F' → PVals K F' σ vs ps
  | _, _, .nil, _ => .nil
  | _, _, .cons h t, e => .cons (h.mono e) (PVals.mono t e)
theorem Gd.cell (g : Gd K b F σ H env) {i : Nat} {d : D} (h : (env[i]?).bind C.rd = some d) (hv : σ[i]?.join = some v) : RdD K F H v d := by
  cases q : env[i]? with
  | none => rw [q] at h; cases h
  | some c =>
    rw [q] at h
    have k := g.cells i c q
    rw [hv] at k
    cases c with
    | un => cases h
    | im d' =>
      cases (show some d' = some d from h)
      obtain ⟨w, e, k⟩ := k; cases e; exact .inl k
    | ow d' =>
      cases (show some d' = some d from h)
      obtain ⟨w, e, k, _⟩ := k; cases e; exact .inr ⟨_, rfl, k⟩
    | bo d' =>
      cases (show some d' = some d from h)
      obtain ⟨w, e, k, _⟩ := k; cases e; exact .inr ⟨_, rfl, k⟩
    | bf d' =>
      cases (show some d' = some d from h)
      obtain ⟨w, e, k, _⟩ := k; cases e; exact .inl k
theorem Gd.rd (g : Gd K b F σ H env) {d : D} (hv : PVal K F σ v p) (h : rdP env p = some d) : RdD K F H v d := by
  cases p with
  | val d' => cases h; exact .inl hv
  | slot i => exact g.cell h hv
theorem Gd.rds (g : Gd K b F σ H env) : ∀ {vs : List V} {ps : List P} {ds : List D}, PVals K F σ vs ps → rdPs env ps = some ds → RdAll K F H vs ds
  | _, _, ds, .nil, h => by cases h; exact .nil
  | _, _, ds, .cons (p := p) (ps := ps) h1 t, h => by
    unfold rdPs at h
    cases q : rdP env p with
    | none => rw [q] at h; cases h
    | some d =>
      rw [q] at h
      cases q2 : rdPs env ps with
      | none => simp only [q2] at h; cases h
      | some es =>
        simp only [q2] at h
        cases h
        exact .cons (g.rd h1 q) (Gd.rds g t q2)
/-- freeze a fresh object -/
theorem Gd.freezeFr (g : Gd K b F σ H env) {q : Addr} {d : D} (h : OwnO K F H q d) (n : F q = none) (n0 : b.H0 q = none) (no : ∀ i, ¬ OwnAt env σ i q) :
    ∃ F', Same F F' ∧ Gd K b F' σ H env ∧ Dn K F' (.ref q) d := by
  obtain ⟨o, h1, h2⟩ := h.freeze
  refine ⟨upd F q o, same_upd n, ⟨g.len, fun a x e => ?_, fun i c hc => ?_, g.dis, g.keep, fun a x e => ?_⟩, h2 n⟩
  · by_cases z : a = q
    · subst z; rw [upd_same] at e; cases e; exact .inl h1
    · rw [upd_ne z] at e; exact g.same _ _ e
  · refine (g.cells i c hc).mono (same_upd n) fun r hw ho => ⟨rfl, fun nn => ?_⟩
    have : r ≠ q := fun z => no i (z ▸ OwnAt.of hc ho hw)
    rw [upd_ne this]; exact nn
  · by_cases z : a = q
    · subst z; exact .inr n0
    · rw [upd_ne z] at e; exact g.new _ _ e
theorem RV.freeze {r : R} (g : Gd K b F σ H env) (h : RV K b F H σ env v r) : ∃ F', Same F F' ∧ Gd K b F' σ H env ∧ Dn K F' v r.d := by
  cases r with
  | im d => exact ⟨F, Same.refl F, g, h⟩
  | fr d =>
    obtain ⟨q, rfl, h1, h2, h3, h4⟩ := h
    exact g.freezeFr h1 h2 h3 h4
end

/-! ### what a combinator's reading is -/
abbrev EF := Ev → Option (R × Ev)
abbrev PF := Ev → Option (P × Ev)
abbrev AF := Ev → Option (List P × Ev)
abbrev BF := Ev → Option (Bool × Ev)
def tEv (K : PySem.W.Frag) (f : EF) : TE := fun σ H Q => ∃ b F env r env', Gd K b F σ H env ∧ f env = some (r, env') ∧
  ∀ v H' F', Gd K b F' σ H' env' → Same F F' → RV K b F' H' σ env' v r → Q v H'
def tPv (K : PySem.W.Frag) (f : PF) : TE := fun σ H Q => ∃ b F env p env', Gd K b F σ H env ∧ f env = some (p, env') ∧
  ∀ v H' F', Gd K b F' σ H' env' → Same F F' → PVal K F' σ v p → Q v H'
def tAv (K : PySem.W.Frag) (f : AF) : TA := fun σ H Q => ∃ b F env ps env', Gd K b F σ H env ∧ f env = some (ps, env') ∧
  ∀ vs H' F', Gd K b F' σ H' env' → Same F F' → PVals K F' σ vs ps → Q vs H'
def tBv (K : PySem.W.Frag) (f : BF) : TT := fun σ H Q => ∃ b F env k env', Gd K b F σ H env ∧ f env = some (k, env') ∧
  ∀ H' F', Gd K b F' σ H' env' → Same F F' → Q k H'
section
variable {X : Cx}
theorem _root_.L2.PE.imp {e : Expr} {t t' : TE} (h : PE X e t) (k : ∀ σ H Q, t' σ H Q → t σ H Q) : PE X e t' := ⟨fun pins s σ H Q I q => h.run pins s σ H Q I (k σ H Q q)⟩
theorem _root_.L2.PT.imp {e : Expr} {t t' : TT} (h : PT X e t) (k : ∀ σ H Q, t' σ H Q → t σ H Q) : PT X e t' := ⟨fun pins s σ H Q I q => h.run pins s σ H Q I (k σ H Q q)⟩
theorem _root_.L2.PA.imp {e : List Expr} {t t' : TA} (h : PA X e t) (k : ∀ σ H Q, t' σ H Q → t σ H Q) : PA X e t' := ⟨fun pos pins s σ H Q I q => h.run pos pins s σ H Q I (k σ H Q q)⟩
abbrev QE (X : Cx) (e : Expr) (f : EF) : Prop := PE X e (tEv X.K f)
abbrev QP (X : Cx) (e : Expr) (f : PF) : Prop := PE X e (tPv X.K f)
abbrev QT (X : Cx) (e : Expr) (f : BF) : Prop := PT X e (tBv X.K f)
abbrev QA (X : Cx) (e : List Expr) (f : AF) : Prop := PA X e (tAv X.K f)

/-! ### the basic combinators -/
def pE (f : EF) : PF := fun env => match f env with
  | none => none
  | some (r, e) => some (.val r.d, e)
def pV (i : Nat) : PF := fun env => match (env[i]?).bind C.rd with
  | some _ => some (.slot i, env)
  | none => none
def eC (d : D) : EF := fun env => some (.im d, env)
def eV (i : Nat) : EF := fun env => match env[i]? with
  | some c => match c.rd with
    | none => none
    | some d => some (.im d, env.set i c.fz)
  | none => none
theorem QE.p {e : Expr} {f : EF} (h : QE X e f) : QP X e (pE f) := h.imp fun σ H Q q => by
  obtain ⟨b, F, env, p, env', g, hf, k⟩ := q
  unfold pE at hf
  cases q : f env with
  | none => rw [q] at hf; cases hf
  | some re =>
    obtain ⟨r, e1⟩ := re
    rw [q] at hf
    cases hf
    refine ⟨b, F, env, r, env', g, q, fun v H' F' g' sm rv => ?_⟩
    obtain ⟨F2, s2, g2, d2⟩ := rv.freeze g'
    exact k v H' F2 g2 (sm.trans s2) d2
theorem join_of {σ : L2.St} {i : Nat} {v : V} (h : σ[i]?.join = some v) : σ[i]? = some (some v) := by
  cases q : σ[i]? with
  | none => rw [q] at h; cases h
  | some w => rw [q] at h; rw [show w = some v from h]
theorem Gd.there {K : PySem.W.Frag} {b : Base} {F H : Hp} {σ : L2.St} {env : Ev} (g : Gd K b F σ H env) {i : Nat} {c : C} {d : D} (h : env[i]? = some c) (hd : c.rd = some d) : ∃ v, σ[i]? = some (some v) := by
  have k := g.cells i c h
  cases c with
  | un => cases hd
  | im d => obtain ⟨v, e, _⟩ := k; exact ⟨v, join_of e⟩
  | ow d => obtain ⟨v, e, _⟩ := k; exact ⟨_, join_of e⟩
  | bo d => obtain ⟨v, e, _⟩ := k; exact ⟨_, join_of e⟩
  | bf d => obtain ⟨v, e, _⟩ := k; exact ⟨v, join_of e⟩
theorem q_pv {e : Expr} {i : Nat} (h : PE X e (tVar i)) : QP X e (pV i) := h.imp fun σ H Q q => by
  obtain ⟨b, F, env, p, env', g, hf, k⟩ := q
  unfold pV at hf
  cases q : env[i]? with
  | none => rw [q] at hf; cases hf
  | some c =>
    rw [q] at hf
    cases q2 : c.rd with
    | none => simp only [Option.bind_some, q2] at hf; cases hf
    | some d =>
      simp only [Option.bind_some, q2] at hf
      cases hf
      obtain ⟨v, e⟩ := g.there q q2
      exact ⟨v, e, k v H F g (Same.refl F) (by show σ[i]?.join = some v; rw [e]; rfl)⟩
theorem q_ev {e : Expr} {i : Nat} (h : PE X e (tVar i)) : QE X e (eV i) := h.imp fun σ H Q q => by
  obtain ⟨b, F, env, p, env', g, hf, k⟩ := q
  unfold eV at hf
  cases q : env[i]? with
  | none => rw [q] at hf; cases hf
  | some c =>
    rw [q] at hf
    cases q2 : c.rd with
    | none => simp only [q2] at hf; cases hf
    | some d =>
      simp only [q2] at hf
      cases hf
      obtain ⟨v, e⟩ := g.there q q2
      obtain ⟨F', sm, g', hd⟩ := g.freeze q
      have : c = .ow d ∨ c = .bo d ∨ c = .im d ∨ c = .bf d := by
        cases c <;> cases q2 <;> simp
      obtain ⟨v', e1, e2⟩ := hd d this
      refine ⟨v, e, k v H F' g' sm ?_⟩
      rw [e] at e1; cases e1
      exact e2
def D.flat : D → Bool
  | .non => true
  | .bl _ => true
  | .int _ => true
  | .str _ => true
  | .ty _ => true
  | _ => false
def D.v : D → V
  | .bl b => .bl b
  | .int i => .int i
  | .str x => .str (S x)
  | .ty n => .ty n
  | _ => .non
theorem Dn.flat {K : PySem.W.Frag} {F : Hp} : ∀ {d : D}, d.flat = true → Dn K F d.v d
  | .non, _ => .non
  | .bl b, _ => .bl b
  | .int i, _ => .int i
  | .str x, _ => .str x
  | .ty n, _ => .ty n
theorem q_c {e : Expr} {d : D} (h : PE X e (tC d.v)) (hd : d.flat = true := by rfl) : QE X e (eC d) := h.imp fun σ H Q q => by
  obtain ⟨b, F, env, p, env', g, hf, k⟩ := q
  cases hf
  exact k _ H F g (Same.refl F) (Dn.flat hd)
theorem q_int {i : Int} {j pos} : QE X (.Constant (.int i) j pos) (eC (.int i)) := q_c pe_int
theorem q_bl {i : Bool} {j pos} : QE X (.Constant (.bool i) j pos) (eC (.bl i)) := q_c pe_bl
theorem q_non {j pos} : QE X (.Constant .none j pos) (eC .non) := q_c pe_non
theorem q_str {x : Tx} {z : Str} {j pos} (h : z = S x := by decide +kernel) : QE X (.Constant (.str z) j pos) (eC (.str x)) := by
  subst h; exact q_c pe_str

/-! ### what an operation on read values may do -/
def RF (K : PySem.W.Frag) (H F' H' : Hp) (v : V) : R → Prop
  | .im d => Dn K F' v d
  | .fr d => ∃ p, v = .ref p ∧ H p = none ∧ F' p = none ∧ OwnO K F' H' p d
theorem RF.rv {K : PySem.W.Frag} {b : Base} {F H F' H' : Hp} {σ : L2.St} {env : Ev} {v : V} {r : R} (g : Gd K b F σ H env) (h : RF K H F' H' v r) : RV K b F' H' σ env v r := by
  cases r with
  | im d => exact h
  | fr d =>
    obtain ⟨p, e, h1, h2, h3⟩ := h
    refine ⟨p, e, h3, h2, g.h0 h1, fun i o => ?_⟩
    obtain ⟨⟨c, hc, ho⟩, _⟩ := id o
    obtain ⟨q, w, ⟨x, hx⟩, _⟩ := (g.cells i c hc).ownSome ho
    rw [o.join] at w; cases w
    rw [h1] at hx; cases hx
/-- a two-place operation -/
def OpOk (K : PySem.W.Frag) (r : R2) (f : D → D → Option R) : Prop := ∀ F H x y dx dy res Q, Ag F H → RdD K F H x dx → RdD K F H y dy → f dx dy = some res →
  (∀ v H' F', Xt F H F' H' → RF K H F' H' v res → Q v H') → r x y H Q
def CallOk (K : PySem.W.Frag) (r : List V → Hp → VK → Prop) (f : List D → Option R) : Prop := ∀ F H vs ds res Q, Ag F H → RdAll K F H vs ds → f ds = some res →
  (∀ v H' F', Xt F H F' H' → RF K H F' H' v res → Q v H') → r vs H Q
def MtOk (K : PySem.W.Frag) (r : V → List V → Hp → VK → Prop) (f : D → List D → Option R) : Prop := ∀ F H x vs dx ds res Q, Ag F H → RdD K F H x dx → RdAll K F H vs ds → f dx ds = some res →
  (∀ v H' F', Xt F H F' H' → RF K H F' H' v res → Q v H') → r x vs H Q
def eOp (f : D → D → Option R) (pa pb : PF) : EF := fun env => match pa env with
  | none => none
  | some (p, e1) => match pb e1 with
    | none => none
    | some (q, e2) => match rdP e2 p with
      | none => none
      | some x => match rdP e2 q with
        | none => none
        | some y => match f x y with
          | none => none
          | some r => some (r, e2)
theorem tOp_of {r : R2} {f : D → D → Option R} {pa pb : PF} (ok : OpOk X.K r f) {σ : L2.St} {H : Hp} {Q : VK} (q : tEv X.K (eOp f pa pb) σ H Q) : tOp r (tPv X.K pa) (tPv X.K pb) σ H Q := by
  obtain ⟨b, F, env, res, env', g, hf, k⟩ := q
  unfold eOp at hf
  split at hf
  · cases hf
  rename_i p e1 h1
  split at hf
  · cases hf
  rename_i q e2 h2
  split at hf
  · cases hf
  rename_i x h3
  split at hf
  · cases hf
  rename_i y h4
  split at hf
  · cases hf
  rename_i r h5
  cases hf
  refine ⟨b, F, env, p, e1, g, h1, fun v H1 F1 g1 s1 r1 => ⟨b, F1, e1, q, env', g1, h2, fun w H2 F2 g2 s2 r2 => ?_⟩⟩
  refine ok F2 H2 v w x y res Q g2.same (g2.rd (r1.mono s2) h3) (g2.rd r2 h4) h5 fun u H3 F3 xt rf => ?_
  exact k u H3 F3 (g2.ext xt) ((s1.trans s2).trans xt.ff) (rf.rv g2)
theorem q_op {a c : Expr} {op : Operator} {r : R2} {f : D → D → Option R} {pa pb : PF} {pos : Pos} (ok : OpOk X.K r f) (ho : OpR X (binaryOp op) r) (ha : QP X a pa) (hb : QP X c pb) : QE X (.BinOp a op c pos) (eOp f pa pb) :=
  (pe_op ho ha hb).imp fun _ _ _ q => tOp_of ok q
theorem q_cmp {a c : Expr} {op : CmpOp} {r : R2} {f : D → D → Option R} {pa pb : PF} {pos : Pos} (ok : OpOk X.K r f) (ho : OpR X (compareOp op) r) (ha : QP X a pa) (hb : QP X c pb) (hm : behindInMarks op c = false := by first | exact nomark _ | rfl) : QE X (.Compare a [op] [c] pos) (eOp f pa pb) :=
  (pe_cmpR ho ha hb hm).imp fun _ _ _ q => tOp_of ok q
theorem q_ix {a c : Expr} {r : R2} {f : D → D → Option R} {pa pb : PF} {pos : Pos} (ok : OpOk X.K r f) (ho : IxR X r) (ha : QP X a pa) (hb : QP X c pb) (hs : PlainIx c := by exact fun _ _ => rfl) : QE X (.Subscript a c pos) (eOp f pa pb) :=
  (pe_ix ho ha hb hs).imp fun _ _ _ q => tOp_of ok q

/-! ### tests -/
/-- a value that is True or False -/
def bE (f : EF) : BF := fun env => match f env with
  | some (.im (.bl k), e) => some (k, e)
  | _ => none
theorem bE_some {f : EF} {env env' : Ev} {k : Bool} (h : bE f env = some (k, env')) : f env = some (.im (.bl k), env') := by
  unfold bE at h
  split at h
  · cases h; assumption
  · cases h
theorem Dn.bl_inv {K : PySem.W.Frag} {F : Hp} {v : V} {k : Bool} (h : Dn K F v (.bl k)) : v = .bl k := by cases h; rfl
theorem q_tcmp {a c : Expr} {op : CmpOp} {r : R2} {f : D → D → Option R} {pa pb : PF} {pos : Pos} (ok : OpOk X.K r f) (ho : OpR X (compareOp op) r) (ha : QP X a pa) (hb : QP X c pb) (hm : behindInMarks op c = false := by first | exact nomark _ | rfl) : QT X (.Compare a [op] [c] pos) (bE (eOp f pa pb)) :=
  (pt_cmpR ho ha hb hm).imp fun σ H Q q => by
    obtain ⟨b, F, env, k, env', g, hf, w⟩ := q
    show tOp r (tPv X.K pa) (tPv X.K pb) σ H fun x H' => ∃ k, x = .bl k ∧ Q k H'
    refine tOp_of ok ⟨b, F, env, _, env', g, bE_some hf, fun v H' F' g' sm rv => ?_⟩
    exact ⟨k, Dn.bl_inv rv, w H' F' g' sm⟩
/-- and, or, not -/
def bAnd (f g : BF) : BF := fun env => match f env with
  | none => none
  | some (true, e) => g e
  | some (false, e) => some (false, e)
def bOr (f g : BF) : BF := fun env => match f env with
  | none => none
  | some (true, e) => some (true, e)
  | some (false, e) => g e
def bNot (f : BF) : BF := fun env => match f env with
  | none => none
  | some (k, e) => some (!k, e)
def QW (X : Cx) (e : Expr) (f : BF) : Prop := PW X e (tBv X.K f)
theorem _root_.L2.PW.imp {e : Expr} {t t' : TT} (h : PW X e t) (k : ∀ σ H Q, t' σ H Q → t σ H Q) : PW X e t' := ⟨fun wh pins s σ H Q I q => h.run wh pins s σ H Q I (k σ H Q q)⟩
theorem q_and1 {a : Expr} {f : BF} {pos : Pos} (h : QT X a f) : QW X (.BoolOp .And [a] pos) f := pw_and1 h
theorem q_or1 {a : Expr} {f : BF} {pos : Pos} (h : QT X a f) : QW X (.BoolOp .Or [a] pos) f := pw_or1 h
theorem q_and {a c : Expr} {rest : List Expr} {f g : BF} {pos : Pos} (ha : QT X a f) (hb : QW X (.BoolOp .And (c :: rest) pos) g) : QW X (.BoolOp .And (a :: c :: rest) pos) (bAnd f g) :=
  (pw_and ha hb).imp fun σ H Q q => by
    obtain ⟨b, F, env, k, env', gd, hf, w⟩ := q
    unfold bAnd at hf
    cases q1 : f env with
    | none => rw [q1] at hf; cases hf
    | some re =>
      obtain ⟨k1, e1⟩ := re
      rw [q1] at hf
      refine ⟨b, F, env, k1, e1, gd, q1, fun H1 F1 g1 s1 => ?_⟩
      cases k1 with
      | true => exact iteT ⟨b, F1, e1, k, env', g1, hf, fun H2 F2 g2 s2 => w H2 F2 g2 (s1.trans s2)⟩
      | false => cases hf; exact iteF (w H1 F1 g1 s1)
theorem q_or {a c : Expr} {rest : List Expr} {f g : BF} {pos : Pos} (ha : QT X a f) (hb : QW X (.BoolOp .Or (c :: rest) pos) g) : QW X (.BoolOp .Or (a :: c :: rest) pos) (bOr f g) :=
  (pw_or ha hb).imp fun σ H Q q => by
    obtain ⟨b, F, env, k, env', gd, hf, w⟩ := q
    unfold bOr at hf
    cases q1 : f env with
    | none => rw [q1] at hf; cases hf
    | some re =>
      obtain ⟨k1, e1⟩ := re
      rw [q1] at hf
      refine ⟨b, F, env, k1, e1, gd, q1, fun H1 F1 g1 s1 => ?_⟩
      cases k1 with
      | false => exact iteF ⟨b, F1, e1, k, env', g1, hf, fun H2 F2 g2 s2 => w H2 F2 g2 (s1.trans s2)⟩
      | true => cases hf; exact iteT (w H1 F1 g1 s1)
theorem QW.t {e : Expr} {f : BF} (h : QW X e f) : QT X e f := PW.pt h
theorem q_not {a : Expr} {f : BF} {pos : Pos} (h : QT X a f) : QT X (.UnaryOp .Not a pos) (bNot f) :=
  (pt_not h).imp fun σ H Q q => by
    obtain ⟨b, F, env, k, env', gd, hf, w⟩ := q
    unfold bNot at hf
    cases q1 : f env with
    | none => rw [q1] at hf; cases hf
    | some re =>
      obtain ⟨k1, e1⟩ := re
      rw [q1] at hf
      cases hf
      exact ⟨b, F, env, k1, env', gd, q1, fun H1 F1 g1 s1 => w H1 F1 g1 s1⟩
/-- any value as a test -/
def SL : Nat := 16777216
theorem SL_eq : sizeLine = SL := sizeLine_eq
def D.truth : D → Option Bool
  | .non => some false
  | .bl k => some k
  | .int i => some (i != 0)
  | .str x => if x.length ≤ SL then some (!x.isEmpty) else none
  | .tup xs => some (!xs.isEmpty)
  | .lst xs => some (!xs.isEmpty)
  | .fz xs => some (!xs.isEmpty)
  | .dk kvs => some (!kvs.isEmpty)
  | _ => none
theorem DnAll.isEmpty {K : PySem.W.Frag} {F : Hp} {vs : List V} {ds : List D} (h : DnAll K F vs ds) : (!vs.isEmpty) = !ds.isEmpty := by cases h <;> rfl
theorem KvAll.isEmpty {K : PySem.W.Frag} {F : Hp} {vs : List (Key × V)} {ds : List (Ky × D)} (h : KvAll K F vs ds) : (!vs.isEmpty) = !ds.isEmpty := by cases h <;> rfl
/-- a dict's truth too where it is locked -/
def TruW (K : PySem.W.Frag) (x : V) (H : Hp) (k : Bool) : Prop := TruV K x H k ∨ ∃ p kvs, x = .ref p ∧ Rd H p (.dK kvs) ∧ k = !kvs.isEmpty
theorem truW_ok : TruR X (fun x H Q => ∃ k, TruW X.K x H k ∧ Q k H) := by
  intro pins s σ H x v Q I rx h
  obtain ⟨k, e | ⟨p, kvs, rfl, hx, e⟩, q⟩ := h
  · exact tru_ok pins s σ H x v Q I rx ⟨k, e, q⟩
  · cases rx
    subst e
    have hs : sizeLine = 16777216 := sizeLine_eq
    obtain ⟨hz, hS, vs, r, m⟩ : kvs.length ≤ sizeLine ∧ (p == sysModules) = false ∧ ∃ vs, KV kvs vs ∧ s.heap.DictOf (mixKind X.prog X.w) p vs := hx.ok I.hok
    have hlen : kvs.length = vs.length := Paired.length r
    refine wpAny_truthy_dict hS m (by omega) ⟨H, I.tok _, ?_⟩
    rw [isEmpty_kv r]; exact q
theorem truth_ok {K : PySem.W.Frag} {F H : Hp} {v : V} {d : D} {k : Bool} (sm : Ag F H) (h : RdD K F H v d) (t : d.truth = some k) : TruW K v H k := by
  rcases h with h | ⟨p, rfl, h⟩
  · cases h with
    | non => cases t; exact .inl rfl
    | bl b => cases t; exact .inl rfl
    | int i => cases t; exact .inl rfl
    | ty n => cases t
    | str x =>
      have t : (if x.length ≤ SL then some (!x.isEmpty) else none) = some k := t
      by_cases c : x.length ≤ SL
      · rw [if_pos c] at t; cases t
        refine .inl ⟨by rw [S_length, SL_eq]; exact c, ?_⟩
        rw [S_length]
        cases x with
        | nil => rfl
        | cons a l => simp; omega
      · rw [if_neg c] at t; cases t
    | tup h1 h2 => cases t; exact .inl (.inr (.inl ⟨_, sm.t h1, h2.isEmpty.symm⟩))
    | lst h1 h2 => cases t; exact .inl (.inl ⟨_, .of (sm.lst h1), h2.isEmpty.symm⟩)
    | fz h1 h2 => cases t; exact .inl (.inl ⟨_, sm.l h1, h2.isEmpty.symm⟩)
    | dk h1 h2 => cases t; exact .inr ⟨_, _, rfl, sm.rd h1, h2.isEmpty.symm⟩
  · cases d <;> simp only [OwnO] at h
    · obtain ⟨vs, h1, h2⟩ := h
      cases t; exact .inl (.inl ⟨_, .of h1, h2.isEmpty.symm⟩)
    · obtain ⟨ks, h1, h2⟩ := h
      cases t; exact .inr ⟨_, _, rfl, .inl h1, h2.isEmpty.symm⟩
/-- truth of what is no dict -/
def D.truthN : D → Option Bool
  | .dk _ => none
  | d => d.truth
theorem truthN_ok {K : PySem.W.Frag} {F H : Hp} {v : V} {d : D} {k : Bool} (sm : Ag F H) (h : Dn K F v d) (t : d.truthN = some k) : TruV K v H k := by
  have t2 : d.truth = some k := by cases d <;> first | exact t | cases t
  rcases truth_ok (H := H) sm (.inl h) t2 with q | ⟨p, kvs, rfl, q, _⟩
  · exact q
  · cases h with
    | dk _ _ => cases t
    | tup h1 h2 => cases t; exact .inr (.inl ⟨_, sm.t h1, h2.isEmpty.symm⟩)
    | lst h1 h2 => cases t; exact .inl ⟨_, .of (sm.lst h1), h2.isEmpty.symm⟩
    | fz h1 h2 => cases t; exact .inl ⟨_, sm.l h1, h2.isEmpty.symm⟩
def bP (p : PF) : BF := fun env => match p env with
  | none => none
  | some (q, e) => match rdP e q with
    | none => none
    | some d => match d.truth with
      | none => none
      | some k => some (k, e)
theorem q_truth {a : Expr} {p : PF} (h : QP X a p) (he : ∀ whole, isTrue a X.env whole = (do let v ← whole; standAt a.pos; holding [v] (truthy v)) := by intro _; rfl) : QT X a (bP p) :=
  (PT.imp (t := fun σ H Q => tPv X.K p σ H fun x H' => ∃ k, TruW X.K x H' k ∧ Q k H') ⟨fun pins s σ H Q I h' => isTrue_plain (thn (h.run pins s σ H _ I h') fun v s1 ⟨x, H1, I1, r1, q1⟩ => truW_ok pins s1 σ H1 x v Q I1 r1 q1) (he _)⟩) fun σ H Q q => by
    obtain ⟨b, F, env, k, env', gd, hf, w⟩ := q
    unfold bP at hf
    split at hf
    · cases hf
    rename_i p1 e1 h1
    split at hf
    · cases hf
    rename_i d h2
    split at hf
    · cases hf
    rename_i k1 h3
    cases hf
    exact ⟨b, F, env, p1, env', gd, h1, fun v H' F' g' sm pv => ⟨k, truth_ok g'.same (g'.rd pv h2) h3, w H' F' g' sm⟩⟩
/-- a if t else b -/
def eIf (t : BF) (f g : EF) : EF := fun env => match t env with
  | none => none
  | some (true, e) => f e
  | some (false, e) => g e
theorem q_ifx {c a d : Expr} {t : BF} {f g : EF} {pos : Pos} (hc : QT X c t) (ha : QE X a f) (hb : QE X d g) : QE X (.IfExp c a d pos) (eIf t f g) :=
  (pe_ifExp hc ha hb).imp fun σ H Q q => by
    obtain ⟨b, F, env, r, env', gd, hf, w⟩ := q
    unfold eIf at hf
    cases q1 : t env with
    | none => rw [q1] at hf; cases hf
    | some re =>
      obtain ⟨k1, e1⟩ := re
      rw [q1] at hf
      refine ⟨b, F, env, k1, e1, gd, q1, fun H1 F1 g1 s1 => ?_⟩
      cases k1 with
      | true => exact iteT ⟨b, F1, e1, r, env', g1, hf, fun v H2 F2 g2 s2 rv => w v H2 F2 g2 (s1.trans s2) rv⟩
      | false => exact iteF ⟨b, F1, e1, r, env', g1, hf, fun v H2 F2 g2 s2 rv => w v H2 F2 g2 (s1.trans s2) rv⟩
/-- x and y, x or y, not x as values: by truth; the first operand frozen -/
def eOr (f g : EF) : EF := fun env => match f env with
  | none => none
  | some (r, e) => match r.d.truthN with
    | none => none
    | some true => some (.im r.d, e)
    | some false => g e
def eAnd (f g : EF) : EF := fun env => match f env with
  | none => none
  | some (r, e) => match r.d.truthN with
    | none => none
    | some false => some (.im r.d, e)
    | some true => g e
def eNot (f : EF) : EF := fun env => match f env with
  | none => none
  | some (r, e) => match r.d.truthN with
    | none => none
    | some k => some (.im (.bl (!k)), e)
theorem q_orT {a c : Expr} {rest : List Expr} {f g : EF} {pos : Pos} (ha : QE X a f) (hb : QE X (.BoolOp .Or (c :: rest) pos) g) : QE X (.BoolOp .Or (a :: c :: rest) pos) (eOr f g) :=
  (pe_orT ha hb).imp fun σ H Q q => by
    obtain ⟨b, F, env, r, env', gd, hf, w⟩ := q
    unfold eOr at hf
    cases q1 : f env with
    | none => rw [q1] at hf; cases hf
    | some re =>
      obtain ⟨r1, e1⟩ := re
      rw [q1] at hf
      simp only at hf
      refine ⟨b, F, env, r1, e1, gd, q1, fun v H1 F1 g1 s1 rv => ?_⟩
      obtain ⟨F2, s2, g2, d2⟩ := rv.freeze g1
      cases q2 : r1.d.truthN with
      | none => rw [q2] at hf; cases hf
      | some k =>
        rw [q2] at hf
        refine ⟨k, truthN_ok g2.same d2 q2, ?_⟩
        cases k with
        | true => cases hf; exact iteT (w v H1 F2 g2 (s1.trans s2) d2)
        | false => exact iteF ⟨b, F2, e1, r, env', g2, hf, fun v H2 F3 g3 s3 rv => w v H2 F3 g3 ((s1.trans s2).trans s3) rv⟩
theorem q_andT {a c : Expr} {rest : List Expr} {f g : EF} {pos : Pos} (ha : QE X a f) (hb : QE X (.BoolOp .And (c :: rest) pos) g) : QE X (.BoolOp .And (a :: c :: rest) pos) (eAnd f g) :=
  (pe_andT ha hb).imp fun σ H Q q => by
    obtain ⟨b, F, env, r, env', gd, hf, w⟩ := q
    unfold eAnd at hf
    cases q1 : f env with
    | none => rw [q1] at hf; cases hf
    | some re =>
      obtain ⟨r1, e1⟩ := re
      rw [q1] at hf
      simp only at hf
      refine ⟨b, F, env, r1, e1, gd, q1, fun v H1 F1 g1 s1 rv => ?_⟩
      obtain ⟨F2, s2, g2, d2⟩ := rv.freeze g1
      cases q2 : r1.d.truthN with
      | none => rw [q2] at hf; cases hf
      | some k =>
        rw [q2] at hf
        refine ⟨k, truthN_ok g2.same d2 q2, ?_⟩
        cases k with
        | false => cases hf; exact iteF (w v H1 F2 g2 (s1.trans s2) d2)
        | true => exact iteT ⟨b, F2, e1, r, env', g2, hf, fun v H2 F3 g3 s3 rv => w v H2 F3 g3 ((s1.trans s2).trans s3) rv⟩
theorem q_one {a : Expr} {op : BoolOp} {f : EF} {pos : Pos} (h : QE X a f) : QE X (.BoolOp op [a] pos) f := pe_one h
theorem q_enot {a : Expr} {f : EF} {pos : Pos} (h : QE X a f) : QE X (.UnaryOp .Not a pos) (eNot f) :=
  (pe_notT h).imp fun σ H Q q => by
    obtain ⟨b, F, env, k, env', gd, hf, w⟩ := q
    unfold eNot at hf
    split at hf
    · cases hf
    rename_i r e1 h1
    split at hf
    · cases hf
    rename_i k1 h3
    cases hf
    refine ⟨b, F, env, r, env', gd, h1, fun v H' F' g' sm rv => ?_⟩
    obtain ⟨F2, s2, g2, d2⟩ := rv.freeze g'
    exact ⟨k1, truthN_ok g2.same d2 h3, w _ H' F2 g2 (sm.trans s2) (.bl _)⟩

/-! ### arguments -/
def aNil : AF := fun env => some ([], env)
def aCons (p : PF) (a : AF) : AF := fun env => match p env with
  | none => none
  | some (x, e1) => match a e1 with
    | none => none
    | some (xs, e2) => some (x :: xs, e2)
theorem q_anil : QA X [] aNil := pa_nil.imp fun σ H Q q => by
  obtain ⟨b, F, env, ps, env', g, hf, k⟩ := q
  cases hf
  exact k [] H F g (Same.refl F) .nil
theorem q_acons {e : Expr} {es : List Expr} {p : PF} {a : AF} (he : QP X e p) (ha : QA X es a) (hs : starEach (e :: es) X.env = (false, eval e X.env) :: starEach es X.env := by rfl) : QA X (e :: es) (aCons p a) :=
  (pa_cons he ha hs).imp fun σ H Q q => by
    obtain ⟨b, F, env, ps, env', g, hf, k⟩ := q
    unfold aCons at hf
    split at hf
    · cases hf
    rename_i x e1 h1
    split at hf
    · cases hf
    rename_i xs e2 h2
    cases hf
    exact ⟨b, F, env, x, e1, g, h1, fun v H1 F1 g1 s1 r1 => ⟨b, F1, e1, xs, env', g1, h2, fun vs H2 F2 g2 s2 r2 => k _ H2 F2 g2 (s1.trans s2) (.cons (r1.mono s2) r2)⟩⟩
def eCall (f : List D → Option R) (a : AF) : EF := fun env => match a env with
  | none => none
  | some (ps, e) => match rdPs e ps with
    | none => none
    | some ds => match f ds with
      | none => none
      | some r => some (r, e)
theorem tCB_of {r : List V → Hp → VK → Prop} {f : List D → Option R} {a : AF} (ok : CallOk X.K r f) {σ : L2.St} {H : Hp} {Q : VK} (q : tEv X.K (eCall f a) σ H Q) : tCB r (tAv X.K a) σ H Q := by
  obtain ⟨b, F, env, res, env', g, hf, k⟩ := q
  unfold eCall at hf
  split at hf
  · cases hf
  rename_i ps e1 h1
  split at hf
  · cases hf
  rename_i ds h2
  split at hf
  · cases hf
  rename_i r h3
  cases hf
  refine ⟨b, F, env, ps, env', g, h1, fun vs H1 F1 g1 s1 r1 => ?_⟩
  exact ok F1 H1 vs ds res Q g1.same (g1.rds r1 h2) h3 fun v H2 F2 xt rf => k v H2 F2 (g1.ext xt) (s1.trans xt.ff) (rf.rv g1)
theorem q_callB {x : Str} {id : String} {r : List V → Hp → VK → Prop} {f : List D → Option R} {a : AF} {e : Expr} {es : List Expr} {p pos : Pos} (ok : CallOk X.K r f) (hc : CallR X (.builtin id) r) (hm : X.mg x = none) (ha : QA X (e :: es) a) (hg : Gl X x := by rfl) (hv : bootBuiltins x = some (.builtin id) := by decide +kernel)
    (hn : x ≠ "__name__" := by decide) (hdb : (x == ("__debug__" : Str)) = false := by decide)
    (he : starEach (e :: es) X.env = (false, eval e X.env) :: starEach es X.env := by rfl) (hpl : (backTo pos (starEach es X.env)).any (·.1) = false := by rfl) : QE X (.Call (.Name x p) (e :: es) [] pos) (eCall f a) :=
  (pe_callB hc hg hm hv ha hn hdb he hpl).imp fun _ _ _ q => tCB_of ok q
theorem q_callT {x : Str} {id : String} {r : List V → Hp → VK → Prop} {f : List D → Option R} {a : AF} {e : Expr} {es : List Expr} {p pos : Pos} (ok : CallOk X.K r f) (hc : CallR X (.type id) r) (hm : X.mg x = none) (ha : QA X (e :: es) a) (hg : Gl X x := by rfl) (hv : bootBuiltins x = some (.type id) := by decide +kernel)
    (hn : x ≠ "__name__" := by decide) (hdb : (x == ("__debug__" : Str)) = false := by decide)
    (he : starEach (e :: es) X.env = (false, eval e X.env) :: starEach es X.env := by rfl) (hpl : (backTo pos (starEach es X.env)).any (·.1) = false := by rfl) : QE X (.Call (.Name x p) (e :: es) [] pos) (eCall f a) :=
  (pe_callTy hc hg hm hv ha hn hdb he hpl).imp fun _ _ _ q => tCB_of ok q
theorem RdAll.dn {K : PySem.W.Frag} {F H : Hp} : ∀ {vs : List V} {ds : List D}, DnAll K F vs ds → RdAll K F H vs ds
  | _, _, .nil => .nil
  | _, _, .cons h t => .cons (.inl h) (RdAll.dn t)
/-- all operands values: frozen -/
def vals : List P → Option (List D)
  | [] => some []
  | .val d :: ps => match vals ps with
    | some ds => some (d :: ds)
    | none => none
  | _ => none
theorem vals_dn {K : PySem.W.Frag} {F : Hp} {σ : L2.St} : ∀ {vs : List V} {ps : List P} {ds : List D}, PVals K F σ vs ps → vals ps = some ds → DnAll K F vs ds
  | _, _, _, .nil, h => by cases h; exact .nil
  | _, _, _, .cons (p := .val d) (ps := ps) h1 t, h => by
    unfold vals at h
    split at h
    · rename_i ds q; cases h; exact .cons h1 (vals_dn t q)
    · cases h
  | _, _, _, .cons (p := .slot i) h1 t, h => by simp [vals] at h
/-- displays: a tuple, a list -/
def eTup (a : AF) : EF := fun env => match a env with
  | none => none
  | some (ps, e) => match vals ps with
    | none => none
    | some ds => if ds.length ≤ SL then some (.im (.tup ds), e) else none
def eLst (a : AF) : EF := fun env => match a env with
  | none => none
  | some (ps, e) => match vals ps with
    | none => none
    | some ds => if ds.length ≤ SL then some (.fr (.lst ds), e) else none
theorem Gd.newTup {K : PySem.W.Frag} {b : Base} {F H : Hp} {σ : L2.St} {env : Ev} {vs : List V} {ds : List D} (g : Gd K b F σ H env) (h : DnAll K F vs ds) {p : Addr} (n : H p = none) :
    Gd K b (upd F p (.tup vs)) σ (upd H p (.tup vs)) env ∧ Same F (upd F p (.tup vs)) ∧ Dn K (upd F p (.tup vs)) (.ref p) (.tup ds) := by
  have x : Xt F H (upd F p (.tup vs)) (upd H p (.tup vs)) := Xt.laid g.same n
  exact ⟨g.ext x, x.ff, .tup (.of upd_same) (h.mono x.ff)⟩
theorem q_tup {es : List Expr} {a : AF} {x1 : Nat} {pos : Pos} (h : QA X es a) : QE X (.Tuple es x1 pos) (eTup a) := (pe_tup h).imp fun σ H Q q => by
  obtain ⟨b, F, env, res, env', g, hf, k⟩ := q
  unfold eTup at hf
  split at hf
  · cases hf
  rename_i ps e1 h1
  split at hf
  · cases hf
  rename_i ds h2
  split at hf
  · rename_i hz
    cases hf
    refine ⟨b, F, env, ps, env', g, h1, fun vs H1 F1 g1 s1 r1 => ?_⟩
    have dn := vals_dn r1 h2
    refine ⟨by rw [dn.length, SL_eq]; exact hz, fun p hp => ?_⟩
    obtain ⟨g2, s2, d2⟩ := g1.newTup dn hp
    exact k _ _ _ g2 (s1.trans s2) d2
  · cases hf
theorem q_lst {es : List Expr} {a : AF} {pos : Pos} (h : QA X es a) : QE X (.List es pos) (eLst a) := (pe_lst h).imp fun σ H Q q => by
  obtain ⟨b, F, env, res, env', g, hf, k⟩ := q
  unfold eLst at hf
  split at hf
  · cases hf
  rename_i ps e1 h1
  split at hf
  · cases hf
  rename_i ds h2
  split at hf
  · rename_i hz
    cases hf
    refine ⟨b, F, env, ps, env', g, h1, fun vs H1 F1 g1 s1 r1 => ?_⟩
    have dn := vals_dn r1 h2
    refine ⟨by rw [dn.length, SL_eq]; exact hz, fun p hp => ?_⟩
    have x := Xt.fresh (o := .lst vs) g1.same hp
    refine k _ _ F1 (g1.ext x) s1 (RF.rv (H := H1) g1 ⟨p, rfl, hp, g1.same.free hp, vs, upd_same, dn⟩)
  · cases hf
end
end MP
namespace MP
open PySem PySem.Spec PyProof.Rows L2

/-! ### statements -/
inductive Fl where
  | nx | bk | ct | rt (r : R)
abbrev SF := Ev → Option (Fl × Ev)
def Fin (K : PySem.W.Frag) (b : Base) (F : Hp) (env' : Ev) (D : Ends) : Fl → Prop
  | .nx => ∀ σ' H' F', Gd K b F' σ' H' env' → Same F F' → D.nx σ' H'
  | .bk => ∀ σ' H' F', Gd K b F' σ' H' env' → Same F F' → D.bk σ' H'
  | .ct => ∀ σ' H' F', Gd K b F' σ' H' env' → Same F F' → D.ct σ' H'
  | .rt r => ∀ v σ' H' F', Gd K b F' σ' H' env' → Same F F' → RV K b F' H' σ' env' v r → D.rt v H'
theorem Fin.mono {K : PySem.W.Frag} {b : Base} {F F1 : Hp} {env' : Ev} {D : Ends} : ∀ {fl : Fl}, Fin K b F env' D fl → Same F F1 → Fin K b F1 env' D fl
  | .nx, h, s => fun σ' H' F' g q => h σ' H' F' g (s.trans q)
  | .bk, h, s => fun σ' H' F' g q => h σ' H' F' g (s.trans q)
  | .ct, h, s => fun σ' H' F' g q => h σ' H' F' g (s.trans q)
  | .rt r, h, s => fun v σ' H' F' g q => h v σ' H' F' g (s.trans q)
def tSv (K : PySem.W.Frag) (f : SF) : TS := fun D σ H => ∃ b F env fl env', Gd K b F σ H env ∧ f env = some (fl, env') ∧ Fin K b F env' D fl
theorem _root_.L2.PS.imp {X : Cx} {e : Stmt} {t t' : TS} (h : PS X e t) (k : ∀ D σ H, t' D σ H → t D σ H) : PS X e t' := ⟨fun pins s σ H D I q => h.run pins s σ H D I (k D σ H q)⟩
theorem _root_.L2.PSs.imp {X : Cx} {e : List Stmt} {t t' : TS} (h : PSs X e t) (k : ∀ D σ H, t' D σ H → t D σ H) : PSs X e t' := ⟨fun pins s σ H D I q => h.run pins s σ H D I (k D σ H q)⟩
theorem _root_.L2.PG.imp {X : Cx} {e : Expr} {t t' : TG} (h : PG X e t) (k : ∀ v σ H Q, t' v σ H Q → t v σ H Q) : PG X e t' := ⟨fun pins s σ H v u Q I r q => h.run pins s σ H v u Q I r (k v σ H Q q)⟩
theorem _root_.L2.PGs.imp {X : Cx} {e : List Expr} {t t' : TGs} (h : PGs X e t) (k : ∀ v σ H Q, t' v σ H Q → t v σ H Q) : PGs X e t' := ⟨fun pins s σ H v u Q I r q => h.run pins s σ H v u Q I r (k v σ H Q q)⟩
theorem _root_.L2.PI.imp {X : Cx} {tg e : Expr} {t t' : TI} (h : PI X tg e t) (k : ∀ σ H Q, t' σ H Q → t σ H Q) : PI X tg e t' := ⟨fun pins s σ H R I q => h.run pins s σ H R I (k σ H R q)⟩
abbrev QS (X : Cx) (e : Stmt) (f : SF) : Prop := PS X e (tSv X.K f)
abbrev QB (X : Cx) (e : List Stmt) (f : SF) : Prop := PSs X e (tSv X.K f)

section
variable {X : Cx}
def sNil : SF := fun env => some (.nx, env)
def sSeq (f g : SF) : SF := fun env => match f env with
  | none => none
  | some (.nx, e) => g e
  | some (fl, e) => some (fl, e)
theorem q_nil : QB X [] sNil := pss_nil.imp fun D σ H q => by
  obtain ⟨b, F, env, fl, env', g, hf, k⟩ := q
  cases hf
  exact k σ H F g (Same.refl F)
theorem q_cons {st : Stmt} {rest : List Stmt} {f g : SF} (h1 : QS X st f) (h2 : QB X rest g) : QB X (st :: rest) (sSeq f g) := (pss_cons h1 h2).imp fun D σ H q => by
  obtain ⟨b, F, env, fl, env', gd, hf, k⟩ := q
  unfold sSeq at hf
  cases q1 : f env with
  | none => rw [q1] at hf; cases hf
  | some re =>
    obtain ⟨fl1, e1⟩ := re
    rw [q1] at hf
    refine ⟨b, F, env, fl1, e1, gd, q1, ?_⟩
    cases fl1 with
    | nx => exact fun σ' H' F' g' s => ⟨b, F', e1, fl, env', g', hf, k.mono s⟩
    | bk => cases hf; exact k
    | ct => cases hf; exact k
    | rt r => cases hf; exact k
theorem q_blk1 {st : Stmt} {f : SF} (h1 : QS X st f) : QB X [st] f := pss_one h1
/-- storing at a name -/
def C.free : C → Bool
  | .bo _ => false
  | .bf _ => false
  | _ => true
def R.cell : R → C
  | .im d => .im d
  | .fr d => .ow d
def put (env : Ev) (i : Nat) (c : C) : Option Ev := match env[i]? with
  | none => none
  | some c0 => if c0.free then some (env.set i c) else none
theorem put_some {env env' : Ev} {i : Nat} {c : C} (h : put env i c = some env') : ∃ c0, env[i]? = some c0 ∧ c0.free = true ∧ env' = env.set i c := by
  unfold put at h
  split at h
  · cases h
  · rename_i c0 q
    split at h
    · rename_i w; cases h; exact ⟨c0, q, w, rfl⟩
    · cases h
theorem lt_of_get {α : Type} {l : List α} {i : Nat} {c : α} (h : l[i]? = some c) : i < l.length := by
  rcases Nat.lt_or_ge i l.length with q | q
  · exact q
  · rw [List.getElem?_eq_none q] at h; cases h
theorem Gd.put {K : PySem.W.Frag} {b : Base} {F H : Hp} {σ : L2.St} {env env' : Ev} {i : Nat} {v : V} {r : R} (g : Gd K b F σ H env) (h : RV K b F H σ env v r) (e : put env i r.cell = some env') : Gd K b F (σ.set i (some v)) H env' := by
  obtain ⟨c0, h0, hfree, rfl⟩ := put_some e
  have hi := lt_of_get h0
  have hσ : i < σ.length := by rw [← g.len]; exact hi
  have base : ∀ j, j ≠ i → ((σ.set i (some v))[j]?).join = (σ[j]?).join := fun j n => by rw [List.getElem?_set_ne (Ne.symm n)]
  have here : ((σ.set i (some v))[i]?).join = some v := by rw [List.getElem?_set_self hσ]; rfl
  refine ⟨by simpa using g.len, g.same, fun j c hj => ?_, fun j k p hj hk => ?_, g.keep, g.new⟩
  · rcases set_get hj with ⟨rfl, rfl, _⟩ | ⟨n, hj⟩
    · rw [here]
      cases r with
      | im d => exact ⟨v, rfl, h⟩
      | fr d =>
        obtain ⟨p, rfl, h1, h2, h3, _⟩ := h
        exact ⟨p, rfl, h1, h2, h3⟩
    · rw [base j n]; exact g.cells j c hj
  · have old : ∀ {j : Nat}, j ≠ i → OwnAt (env.set i r.cell) (σ.set i (some v)) j p → OwnAt env σ j p := fun {j} n ⟨⟨c, q1, q2⟩, q3⟩ => by
      rw [List.getElem?_set_ne (Ne.symm n)] at q1 q3
      exact ⟨⟨c, q1, q2⟩, q3⟩
    have new : OwnAt (env.set i r.cell) (σ.set i (some v)) i p → ∃ d, r = .fr d ∧ v = .ref p := fun ⟨⟨c, q1, q2⟩, q3⟩ => by
      rw [List.getElem?_set_self hi] at q1; cases q1
      rw [List.getElem?_set_self hσ] at q3
      cases r with
      | im d => cases q2
      | fr d => exact ⟨d, rfl, by simpa using q3⟩
    by_cases ej : j = i
    · subst ej
      by_cases ek : k = j
      · exact ek.symm
      · obtain ⟨d, rfl, rfl⟩ := new hj
        obtain ⟨p', e, _, _, _, no⟩ := h
        cases e
        exact absurd (old ek hk) (no k)
    · by_cases ek : k = i
      · subst ek
        obtain ⟨d, rfl, rfl⟩ := new hk
        obtain ⟨p', e, _, _, _, no⟩ := h
        cases e
        exact absurd (old ej hj) (no j)
      · exact g.dis j k p (old ej hj) (old ek hk)
def sAsg (i : Nat) (f : EF) : SF := fun env => match f env with
  | none => none
  | some (r, e) => match put e i r.cell with
    | none => none
    | some e2 => some (.nx, e2)
theorem tAsg_of {i : Nat} {f : EF} {t : TE} (h : ∀ σ H Q, tEv X.K f σ H Q → t σ H Q) {D : Ends} {σ : L2.St} {H : Hp} (q : tSv X.K (sAsg i f) D σ H) : tAsg t (gName i) D σ H := by
  obtain ⟨b, F, env, fl, env', gd, hf, k⟩ := q
  unfold sAsg at hf
  split at hf
  · cases hf
  rename_i r e1 h1
  split at hf
  · cases hf
  rename_i e2 h2
  cases hf
  exact h σ H _ ⟨b, F, env, r, e1, gd, h1, fun v H' F' g' s rv => k _ H' F' (g'.put rv h2) s⟩
theorem q_asgT {i : Nat} {st : Stmt} {f : EF} {t : TE} (hp : PS X st (tAsg t (gName i))) (h : ∀ σ H Q, tEv X.K f σ H Q → t σ H Q) : QS X st (sAsg i f) := hp.imp fun D σ H q => tAsg_of h q
theorem q_asg {i : Nat} {x : Str} {e : Expr} {f : EF} {pos pos' : Pos} (hN : X.N.Nodup) (hi : X.N[i]? = some x := by rfl) (hx : Loc X.env.scope x := by first | exact .inl rfl | exact .inr rfl) (he : QE X e f) (hs : swapsWith e (some (.Name x pos')) pos.line X.env = pure false := by rfl)
    (hf : X.fn x = true ∨ X.env.scope.names.lookup x = some .local := by first | exact .inl rfl | exact .inr rfl) : QS X (.Assign [.Name x pos'] e pos) (sAsg i f) :=
  q_asgT (ps_set hN hi hx he hs hf) fun _ _ _ q => q

/-! ### targets -/
abbrev GF := D → Ev → Option Ev
def tGv (K : PySem.W.Frag) (g : GF) : TG := fun v σ H Q => ∃ b F env d env', Gd K b F σ H env ∧ Dn K F v d ∧ g d env = some env' ∧ ∀ σ' H' F', Gd K b F' σ' H' env' → Same F F' → Q σ' H'
abbrev QG (X : Cx) (e : Expr) (g : GF) : Prop := PG X e (tGv X.K g)
abbrev GFs := List D → Ev → Option Ev
def tGvs (K : PySem.W.Frag) (g : GFs) : TGs := fun vs σ H Q => ∃ b F env ds env', Gd K b F σ H env ∧ DnAll K F vs ds ∧ g ds env = some env' ∧ ∀ σ' H' F', Gd K b F' σ' H' env' → Same F F' → Q σ' H'
abbrev QGs (X : Cx) (e : List Expr) (g : GFs) : Prop := PGs X e (tGvs X.K g)
def gN (i : Nat) : GF := fun d env => put env i (.im d)
theorem q_gn {i : Nat} {x : Str} {pos : Pos} (hN : X.N.Nodup) (hi : X.N[i]? = some x := by rfl) (hx : Loc X.env.scope x := by first | exact .inl rfl | exact .inr rfl) (hf : X.fn x = true ∨ X.env.scope.names.lookup x = some .local := by first | exact .inl rfl | exact .inr rfl) : QG X (.Name x pos) (gN i) :=
  (pg_name hN hi hx hf).imp fun v σ H Q q => by
    obtain ⟨b, F, env, d, env', g, hd, hg, k⟩ := q
    exact k _ H F (g.put (r := .im d) hd hg) (Same.refl F)
def gsNil : GFs := fun ds env => match ds with
  | [] => some env
  | _ => none
def gsCons (g : GF) (gs : GFs) : GFs := fun ds env => match ds with
  | [] => none
  | d :: r => match g d env with
    | none => none
    | some e => gs r e
theorem q_gsnil : QGs X [] gsNil := pgs_nil.imp fun vs σ H Q q => by
  obtain ⟨b, F, env, ds, env', g, hd, hg, k⟩ := q
  cases hd with
  | nil => cases hg; exact ⟨rfl, k σ H F g (Same.refl F)⟩
  | cons _ _ => cases hg
theorem q_gscons {e : Expr} {es : List Expr} {t : GF} {u : GFs} (h1 : QG X e t) (h2 : QGs X es u) (hs : (assignEach (e :: es) X.env).map (·.2) = assign e X.env :: (assignEach es X.env).map (·.2) := by rfl) : QGs X (e :: es) (gsCons t u) :=
  (pgs_cons h1 h2 hs).imp fun vs σ H Q q => by
    obtain ⟨b, F, env, ds, env', g, hd, hg, k⟩ := q
    cases hd with
    | nil => cases hg
    | cons h t =>
      unfold gsCons at hg
      split at hg
      · cases hg
      rename_i dd rr eq
      cases eq
      split at hg
      · cases hg
      rename_i e1 q1
      refine ⟨_, _, rfl, b, F, env, _, e1, g, h, q1, fun σ1 H1 F1 g1 s1 => ⟨b, F1, e1, _, env', g1, t.mono s1, hg, fun σ2 H2 F2 g2 s2 => k σ2 H2 F2 g2 (s1.trans s2)⟩⟩
def gT (gs : GFs) : GF := fun d env => match d with
  | .tup ds => gs ds env
  | _ => none
theorem q_gt {es : List Expr} {k : Nat} {t : GFs} {n : Nat} {pos : Pos} (hc : X.calm = true) (h : QGs X es t) (hlen : ∀ ds env e', t ds env = some e' → ds.length = n)
    (hn : (assignEach es X.env).length = n := by rfl) (hst : (assignEach es X.env).findIdx? (·.1) = none := by rfl) : QG X (.Tuple es k pos) (gT t) :=
  (pg_tup hc h hn hst).imp fun v σ H Q q => by
    obtain ⟨b, F, env, d, env', g, hd, hg, k⟩ := q
    cases hd with
    | tup h1 h2 =>
      have hg : t _ env = some env' := hg
      exact ⟨_, _, rfl, g.same.t h1, h2.length.trans (hlen _ _ _ hg), b, F, env, _, env', g, h2, hg, k⟩
    | non => cases hg
    | bl _ => cases hg
    | int _ => cases hg
    | str _ => cases hg
    | ty _ => cases hg
    | lst _ _ => cases hg
    | fz _ _ => cases hg
    | dk _ _ => cases hg
/-- target = value -/
def sAsgG (f : EF) (g : GF) : SF := fun env => match f env with
  | none => none
  | some (r, e) => match g r.d e with
    | none => none
    | some e2 => some (.nx, e2)
theorem q_asgG {tg e : Expr} {f : EF} {g : GF} {pos : Pos} (he : QE X e f) (hg : QG X tg g) (hs : swapsWithSole [tg] e pos.line X.env = pure false := by rfl) (hw : swappedStores [tg] e X.env = pure none := by rfl)
    (h1 : (assignEach [tg] X.env).map (·.2) = [assign tg X.env] := by rfl) : QS X (.Assign [tg] e pos) (sAsgG f g) := (ps_asg he hg hs hw h1).imp fun D σ H q => by
  obtain ⟨b, F, env, fl, env', gd, hf, k⟩ := q
  unfold sAsgG at hf
  split at hf
  · cases hf
  rename_i r e1 h1
  split at hf
  · cases hf
  rename_i e2 h2
  cases hf
  refine ⟨b, F, env, r, e1, gd, h1, fun v H' F' g' s rv => ?_⟩
  obtain ⟨F2, s2, g2, d2⟩ := rv.freeze g'
  exact ⟨b, F2, e1, r.d, env', g2, d2, h2, fun σ3 H3 F3 g3 s3 => k σ3 H3 F3 g3 ((s.trans s2).trans s3)⟩
/-- a, b = e1, e2 by swapped stores -/
def sPar (i j : Nat) (f h : EF) : SF := fun env => match f env with
  | none => none
  | some (r, e1) => match h e1 with
    | none => none
    | some (q, e2) => match put e2 i (.im r.d) with
      | none => none
      | some e3 => match put e3 j (.im q.d) with
        | none => none
        | some e4 => some (.nx, e4)
theorem q_par {i j : Nat} {x y : Str} {a c : Expr} {f h : EF} {px py pt pos : Pos} {kt k2 pt2} (hc : X.calm = true) (hN : X.N.Nodup) (hi : X.N[i]? = some x := by rfl) (hj : X.N[j]? = some y := by rfl) (hij : i ≠ j := by decide)
    (hx : X.env.scope.names.lookup x = some .local := by rfl) (hy : X.env.scope.names.lookup y = some .local := by rfl) (ha : QE X a f) (hb : QE X c h)
    (hw : swappedStores [.Tuple [.Name x px, .Name y py] kt pt] (.Tuple [a, c] k2 pt2) X.env = pure (some [x, y]) := by rfl)
    (hs : swapsWithSole [.Tuple [.Name x px, .Name y py] kt pt] (.Tuple [a, c] k2 pt2) pos.line X.env = pure false := by rfl)
    (n1 : starEach [a, c] X.env = (false, eval a X.env) :: starEach [c] X.env := by rfl) (n2 : starEach [c] X.env = (false, eval c X.env) :: starEach [] X.env := by rfl) :
    QS X (.Assign [.Tuple [.Name x px, .Name y py] kt pt] (.Tuple [a, c] k2 pt2) pos) (sPar i j f h) :=
  (ps_par hc hN hi hj hij hx hy (pa_cons ha (pa_cons hb pa_nil n2) n1) hw hs).imp fun D σ H q => by
    obtain ⟨b, F, env, fl, env', gd, hf, k⟩ := q
    unfold sPar at hf
    split at hf
    · cases hf
    rename_i r e1 h1
    split at hf
    · cases hf
    rename_i r2 e2 h2
    split at hf
    · cases hf
    rename_i e3 h3
    split at hf
    · cases hf
    rename_i e4 h4
    cases hf
    refine ⟨b, F, env, r, e1, gd, h1, fun v H1 F1 g1 s1 rv1 => ?_⟩
    obtain ⟨F2, s2, g2, d2⟩ := rv1.freeze g1
    refine ⟨b, F2, e1, r2, e2, g2, h2, fun w H3 F3 g3 s3 rv3 => ?_⟩
    obtain ⟨F4, s4, g4, d4⟩ := rv3.freeze g3
    have g5 := g4.put (i := i) (r := .im r.d) (v := v) ((d2.mono s3).mono s4) h3
    have g6 := g5.put (i := j) (r := .im r2.d) (v := w) d4 h4
    exact ⟨v, w, rfl, k _ _ _ g6 (((s1.trans s2).trans s3).trans s4)⟩

/-! ### small statements -/
def sExpr (f : EF) : SF := fun env => match f env with
  | none => none
  | some (_, e) => some (.nx, e)
theorem q_expr {e : Expr} {f : EF} {pos : Pos} (he : QE X e f) (hs : swapsWith e none pos.line X.env = pure false := by rfl) : QS X (.Expr e pos) (sExpr f) := (ps_expr he hs).imp fun D σ H q => by
  obtain ⟨b, F, env, fl, env', gd, hf, k⟩ := q
  unfold sExpr at hf
  split at hf
  · cases hf
  rename_i r e1 h1
  cases hf
  exact ⟨b, F, env, r, env', gd, h1, fun v H' F' g' s rv => k σ H' F' g' s⟩
def sRet (f : EF) : SF := fun env => match f env with
  | none => none
  | some (r, e) => some (.rt r, e)
theorem q_ret {e : Expr} {f : EF} {pos : Pos} (he : QE X e f) : QS X (.Return (some e) pos) (sRet f) := (ps_ret he).imp fun D σ H q => by
  obtain ⟨b, F, env, fl, env', gd, hf, k⟩ := q
  unfold sRet at hf
  split at hf
  · cases hf
  rename_i r e1 h1
  cases hf
  exact ⟨b, F, env, r, env', gd, h1, fun v H' F' g' s rv => k v σ H' F' g' s rv⟩
def sRetN : SF := fun env => some (.rt (.im .non), env)
theorem q_retN {pos : Pos} : QS X (.Return none pos) sRetN := ps_retN.imp fun D σ H q => by
  obtain ⟨b, F, env, fl, env', gd, hf, k⟩ := q
  cases hf
  exact k .non σ H F gd (Same.refl F) .non
/-- return x, x a name that holds an object of one's own: it is moved out -/
def sRetV (i : Nat) : SF := fun env => match env[i]? with
  | some (.ow d) => some (.rt (.fr d), env.set i .un)
  | some c => match c.rd with
    | none => none
    | some d => some (.rt (.im d), env.set i c.fz)
  | none => none
theorem Gd.forget {K : PySem.W.Frag} {b : Base} {F H : Hp} {σ : L2.St} {env : Ev} (g : Gd K b F σ H env) (i : Nat) : Gd K b F σ H (env.set i .un) := by
  refine ⟨by simpa using g.len, g.same, fun j c hj => ?_, fun j k p hj hk => ?_, g.keep, g.new⟩
  · rcases set_get hj with ⟨rfl, rfl, _⟩ | ⟨n, hj⟩
    · trivial
    · exact g.cells j c hj
  · obtain ⟨⟨c1, a1, a2⟩, a3⟩ := hj
    obtain ⟨⟨c2, b1, b2⟩, b3⟩ := hk
    rcases set_get a1 with ⟨rfl, rfl, _⟩ | ⟨n, a1⟩
    · cases a2
    · rcases set_get b1 with ⟨rfl, rfl, _⟩ | ⟨n, b1⟩
      · cases b2
      · exact g.dis j k p ⟨⟨c1, a1, a2⟩, a3⟩ ⟨⟨c2, b1, b2⟩, b3⟩
theorem q_retV {e : Expr} {i : Nat} {pos : Pos} (h : PE X e (tVar i)) : QS X (.Return (some e) pos) (sRetV i) := (ps_ret h).imp fun DD σ H q => by
  obtain ⟨b, F, env, fl, env', g, hf, k⟩ := q
  have plain : ∀ (c : C) (d : D), env[i]? = some c → c.rd = some d → some (Fl.rt (.im d), env.set i c.fz) = some (fl, env') → tRet (tVar i) DD σ H := fun c d q q2 hf => by
    cases hf
    obtain ⟨v, e⟩ := g.there q q2
    obtain ⟨F', sm, g', hd⟩ := g.freeze q
    have : c = .ow d ∨ c = .bo d ∨ c = .im d ∨ c = .bf d := by cases c <;> cases q2 <;> simp
    obtain ⟨v', e1, e2⟩ := hd d this
    refine ⟨v, e, k v σ H F' g' sm ?_⟩
    rw [e] at e1; cases e1
    exact e2
  unfold sRetV at hf
  split at hf
  · rename_i d q
    cases hf
    obtain ⟨p, e1, e2, e3, e4⟩ := g.cells i _ q
    refine ⟨.ref p, join_of e1, k _ σ H F (g.forget i) (Same.refl F) ⟨p, rfl, e2, e3, e4, fun j o => ?_⟩⟩
    obtain ⟨⟨c1, a1, a2⟩, a3⟩ := o
    rcases set_get a1 with ⟨rfl, rfl, _⟩ | ⟨n, a1⟩
    · cases a2
    · exact n (g.dis j i p ⟨⟨c1, a1, a2⟩, a3⟩ (OwnAt.of q rfl e1))
  · rename_i c nq q
    cases q2 : c.rd with
    | none => simp only [q2] at hf; cases hf
    | some d => simp only [q2] at hf; exact plain c d q q2 hf
  · cases hf
def sPass : SF := fun env => some (.nx, env)
def sBreak : SF := fun env => some (.bk, env)
def sCont : SF := fun env => some (.ct, env)
theorem q_pass {pos : Pos} : QS X (.Pass pos) sPass := ps_pass.imp fun D σ H q => by
  obtain ⟨b, F, env, fl, env', gd, hf, k⟩ := q
  cases hf; exact k σ H F gd (Same.refl F)
theorem q_doc {x j pos pos'} : QS X (.Expr (.Constant (.str x) j pos) pos') sPass := ps_doc.imp fun D σ H q => by
  obtain ⟨b, F, env, fl, env', gd, hf, k⟩ := q
  cases hf; exact k σ H F gd (Same.refl F)
theorem q_break {pos : Pos} : QS X (.Break pos) sBreak := ps_break.imp fun D σ H q => by
  obtain ⟨b, F, env, fl, env', gd, hf, k⟩ := q
  cases hf; exact k σ H F gd (Same.refl F)
theorem q_continue {pos : Pos} : QS X (.Continue pos) sCont := ps_continue.imp fun D σ H q => by
  obtain ⟨b, F, env, fl, env', gd, hf, k⟩ := q
  cases hf; exact k σ H F gd (Same.refl F)
def sIf (t : BF) (f g : SF) : SF := fun env => match t env with
  | none => none
  | some (true, e) => f e
  | some (false, e) => g e
theorem q_if {c : Expr} {a d : List Stmt} {t : BF} {f g : SF} {pos : Pos} (hc : QT X c t) (ha : QB X a f) (hb : QB X d g) : QS X (.If c a d pos) (sIf t f g) := (ps_if hc ha hb).imp fun D σ H q => by
  obtain ⟨b, F, env, fl, env', gd, hf, k⟩ := q
  unfold sIf at hf
  cases q1 : t env with
  | none => rw [q1] at hf; cases hf
  | some re =>
    obtain ⟨k1, e1⟩ := re
    rw [q1] at hf
    refine ⟨b, F, env, k1, e1, gd, q1, fun H1 F1 g1 s1 => ?_⟩
    cases k1 with
    | true => exact iteT ⟨b, F1, e1, fl, env', g1, hf, k.mono s1⟩
    | false => exact iteF ⟨b, F1, e1, fl, env', g1, hf, k.mono s1⟩
/-- a statement that the reading never comes to -/
def sNever : SF := fun _ => none
theorem q_never {st : Stmt} : QS X st sNever := ps_never.imp fun D σ H q => by
  obtain ⟨b, F, env, fl, env', gd, hf, k⟩ := q
  cases hf
/-- name op= e -/
def sAug (i : Nat) (f : D → D → Option R) (p : PF) : SF := fun env => match (env[i]?).bind C.rd with
  | none => none
  | some _ => match p env with
    | none => none
    | some (q, e) => match (e[i]?).bind C.rd with
      | none => none
      | some x => match rdP e q with
        | none => none
        | some y => match f x y with
          | none => none
          | some r => match put e i r.cell with
            | none => none
            | some e2 => some (.nx, e2)
theorem q_aug {i : Nat} {x : Str} {e : Expr} {op : Operator} {r : R2} {f : D → D → Option R} {p : PF} {pos pos' : Pos} (ok : OpOk X.K r f) (ho : OpR X (inplaceOp op) r) (hN : X.N.Nodup) (hi : X.N[i]? = some x := by rfl) (hx : Loc X.env.scope x := by first | exact .inl rfl | exact .inr rfl) (he : QP X e p)
    (hf : X.fn x = true ∨ X.env.scope.names.lookup x = some .local := by first | exact .inl rfl | exact .inr rfl) : QS X (.AugAssign (.Name x pos') op e pos) (sAug i f p) :=
  (ps_aug hN hi hx he (ti := r) (fun pins s σ H x y v u Q I rx ry q => ho pins s σ H x y v u Q I rx ry q) hf).imp fun D σ H q => by
    obtain ⟨b, F, env, fl, env', gd, hf, k⟩ := q
    unfold sAug at hf
    split at hf
    · cases hf
    rename_i d0 h0
    split at hf
    · cases hf
    rename_i q1 e1 h1
    split at hf
    · cases hf
    rename_i x1 h2
    split at hf
    · cases hf
    rename_i y1 h3
    split at hf
    · cases hf
    rename_i r1 h4
    split at hf
    · cases hf
    rename_i e2 h5
    cases hf
    obtain ⟨c, hc, hd⟩ := Option.bind_eq_some_iff.mp h0
    obtain ⟨v, hv⟩ := gd.there hc hd
    refine ⟨v, hv, b, F, env, q1, e1, gd, h1, fun w H1 F1 g1 s1 pv => ?_⟩
    refine ok F1 H1 v w x1 y1 r1 _ g1.same (g1.cell h2 (by rw [hv]; rfl)) (g1.rd pv h3) h4 fun z H2 F2 xt rf => ?_
    exact k _ H2 F2 ((g1.ext xt).put (rf.rv g1) h5) (s1.trans xt.ff)

/-! ### while -/
def whileF (t : BF) (f : SF) : Nat → SF
  | 0 => fun _ => none
  | n + 1 => fun env => match t env with
    | none => none
    | some (false, e) => some (.nx, e)
    | some (true, e) => match f e with
      | none => none
      | some (.nx, e2) => whileF t f n e2
      | some (.ct, e2) => whileF t f n e2
      | some (.bk, e2) => some (.nx, e2)
      | some (.rt r, e2) => some (.rt r, e2)
def sWhile (n : Nat) (t : BF) (f : SF) : SF := whileF t f n
theorem q_while {c : Expr} {body : List Stmt} {t : BF} {f : SF} {n : Nat} {pos : Pos} (hp : PassesOwn (model X.prog X.w) X.A X.env X.xe) (hc : QT X c t) (hb : QB X body f) : QS X (.While c body [] pos) (sWhile n t f) := (ps_while hp hc hb).imp fun D σ H q => by
  obtain ⟨b, F, env, fl, env', gd, hf, k⟩ := q
  refine ⟨fun m σ H => ∃ F1 env1, Gd X.K b F1 σ H env1 ∧ Same F F1 ∧ whileF t f m env1 = some (fl, env'), ⟨n, F, env, gd, Same.refl F, hf⟩, ?_⟩
  rintro m σ1 H1 ⟨F1, env1, g1, s1, hw⟩
  cases m with
  | zero => cases hw
  | succ m =>
    unfold whileF at hw
    cases q1 : t env1 with
    | none => rw [q1] at hw; cases hw
    | some re =>
      obtain ⟨k1, e1⟩ := re
      rw [q1] at hw
      refine ⟨b, F1, env1, k1, e1, g1, q1, fun H2 F2 g2 s2 => ?_⟩
      cases k1 with
      | false => cases hw; exact iteF (k σ1 H2 F2 g2 (s1.trans s2))
      | true =>
        refine iteT ⟨fun σ H => ∃ F1 env1, Gd X.K b F1 σ H env1 ∧ Same F F1 ∧ whileF t f m env1 = some (fl, env'), fun σ' H' h => ⟨m, Nat.lt_succ_self m, h⟩, ?_⟩
        simp only at hw
        cases q2 : f e1 with
        | none => rw [q2] at hw; cases hw
        | some re =>
          obtain ⟨fl2, e2⟩ := re
          rw [q2] at hw
          refine ⟨b, F2, e1, fl2, e2, g2, q2, ?_⟩
          cases fl2 with
          | nx => exact fun σ' H' F' g' s' => ⟨F', e2, g', (s1.trans s2).trans s', hw⟩
          | ct => exact fun σ' H' F' g' s' => ⟨F', e2, g', (s1.trans s2).trans s', hw⟩
          | bk => cases hw; exact fun σ' H' F' g' s' => k σ' H' F' g' ((s1.trans s2).trans s')
          | rt r => cases hw; exact fun v σ' H' F' g' s' rv => k v σ' H' F' g' ((s1.trans s2).trans s') rv

/-! ### what is walked -/
def ItOk (K : PySem.W.Frag) (J : It) (F : Hp) (ds : List D) : Prop := ∀ F' H', Same F F' → Ag F' H' →
  (∀ i, ds.length ≤ i → J.stop i H') ∧ (∀ i d, ds[i]? = some d → J.go i H' ∧ ∀ x H'', J.yld i H' x H'' → ∃ F'', Xt F' H' F'' H'' ∧ Dn K F'' x d)
abbrev IF := Ev → Option (List D × Ev)
def tIv (K : PySem.W.Frag) (f : IF) : TI := fun σ H R => ∃ b F env ds env', Gd K b F σ H env ∧ f env = some (ds, env') ∧ ∀ J H' F', Gd K b F' σ H' env' → Same F F' → ItOk K J F' ds → R J H'
abbrev QI (X : Cx) (tg e : Expr) (f : IF) : Prop := PI X tg e (tIv X.K f)
def forF (g : GF) (f : SF) : List D → SF
  | [], env => some (.nx, env)
  | d :: ds, env => match g d env with
    | none => none
    | some e => match f e with
      | none => none
      | some (.nx, e2) => forF g f ds e2
      | some (.ct, e2) => forF g f ds e2
      | some (.bk, e2) => some (.nx, e2)
      | some (.rt r, e2) => some (.rt r, e2)
def sFor (it : IF) (g : GF) (f : SF) : SF := fun env => match it env with
  | none => none
  | some (ds, e) => forF g f ds e
theorem q_for {tg iter : Expr} {body : List Stmt} {it : IF} {g : GF} {f : SF} {pos : Pos} (hp : PassesOwn (model X.prog X.w) X.A X.env X.xe) (hc : X.calm = true) (hi : QI X tg iter it) (hg : QG X tg g) (hb : QB X body f)
    (hs : ∀ x, foldedSetIterable iter X.env x = pure x := by intro _; rfl) : QS X (.For tg iter body [] pos) (sFor it g f) := (ps_for hp hc hi hg hb hs).imp fun D σ H q => by
  obtain ⟨b, F, env, fl, env', gd, hf, k⟩ := q
  unfold sFor at hf
  split at hf
  · cases hf
  rename_i ds e1 h1
  refine ⟨b, F, env, ds, e1, gd, h1, fun J H1 F1 g1 s1 ok => ?_⟩
  refine ⟨fun i m σ H => ∃ F2 env2, Gd X.K b F2 σ H env2 ∧ Same F1 F2 ∧ m = ds.length - i ∧ forF g f (ds.drop i) env2 = some (fl, env'), ⟨ds.length, F1, e1, g1, Same.refl F1, rfl, hf⟩, ?_⟩
  rintro i m σ2 H2 ⟨F2, env2, g2, s2, rfl, hw⟩
  obtain ⟨okS, okG⟩ := ok F2 H2 s2 g2.same
  cases q : ds[i]? with
  | none =>
    have hl := List.getElem?_eq_none_iff.mp q
    rw [List.drop_of_length_le hl] at hw
    cases hw
    exact .inl ⟨okS i hl, k σ2 H2 F2 g2 (s1.trans s2)⟩
  | some d =>
    have hl := lt_of_get q
    rw [List.drop_eq_getElem_cons hl] at hw
    have hd : ds[i] = d := by rw [List.getElem?_eq_getElem hl] at q; exact Option.some.inj q
    rw [hd] at hw
    obtain ⟨go, yl⟩ := okG i d q
    refine .inr ⟨go, fun σ H => ∃ F2 env2, Gd X.K b F2 σ H env2 ∧ Same F1 F2 ∧ forF g f (ds.drop (i + 1)) env2 = some (fl, env'), fun σ' H' ⟨F3, e3, g3, s3, w3⟩ => ⟨ds.length - (i + 1), by omega, F3, e3, g3, s3, rfl, w3⟩, fun x H3 hy => ?_⟩
    obtain ⟨F3, xt, dn⟩ := yl x H3 hy
    unfold forF at hw
    split at hw
    · cases hw
    rename_i e4 h4
    refine ⟨b, F3, env2, d, e4, g2.ext xt, dn, h4, fun σ5 H5 F5 g5 s5 => ?_⟩
    have s15 : Same F1 F5 := (s2.trans xt.ff).trans s5
    cases q2 : f e4 with
    | none => rw [q2] at hw; cases hw
    | some re =>
      obtain ⟨fl2, e5⟩ := re
      rw [q2] at hw
      refine ⟨b, F5, e4, fl2, e5, g5, q2, ?_⟩
      cases fl2 with
      | nx => exact fun σ' H' F' g' s' => ⟨F', e5, g', s15.trans s', hw⟩
      | ct => exact fun σ' H' F' g' s' => ⟨F', e5, g', s15.trans s', hw⟩
      | bk => cases hw; exact fun σ' H' F' g' s' => k σ' H' F' g' ((s1.trans s15).trans s')
      | rt r => cases hw; exact fun v σ' H' F' g' s' rv => k v σ' H' F' g' ((s1.trans s15).trans s') rv
end
end MP
namespace MP
open PySem PySem.Spec PyProof.Rows L2
section
variable {X : Cx}

/-! ### iterables -/
/-- items as they are walked -/
def D.items : D → Option (List D)
  | .lst ds => some ds
  | .tup ds => some ds
  | .fz ds => some ds
  | .str x => some (x.map fun c => .str [c])
  | _ => none
theorem itOk_list {K : PySem.W.Frag} {F : Hp} {a : Addr} {vs : List V} {ds : List D} (h : ∀ F' H', Same F F' → Ag F' H' → SqL K H' a vs) (hd : DnAll K F vs ds) (one : ∀ H' ws, SqL K H' a vs → SqL K H' a ws → ws = vs) : ItOk K (Itl K a) F ds := fun F' H' s g => by
  have q := h F' H' s g
  refine ⟨fun i hi => ⟨vs, q, by rw [hd.length]; exact hi⟩, fun i d hi => ?_⟩
  obtain ⟨v, h1, h2⟩ := hd.get hi
  refine ⟨⟨vs, v, q, h1⟩, fun x H'' hy => ?_⟩
  obtain ⟨rfl, hy⟩ := hy
  have := (hy vs q).symm.trans h1
  cases this
  exact ⟨F', Xt.refl g, h2.mono s⟩
theorem itOk_tup {K : PySem.W.Frag} {F : Hp} {a : Addr} {vs : List V} {ds : List D} (h : SqT K F a vs) (hd : DnAll K F vs ds) : ItOk K (Itt K a) F ds := fun F' H' s g => by
  have q := g.t (same_t s h)
  refine ⟨fun i hi => ⟨vs, q, by rw [hd.length]; exact hi⟩, fun i d hi => ?_⟩
  obtain ⟨v, h1, h2⟩ := hd.get hi
  refine ⟨⟨vs, v, q, h1⟩, fun x H'' hy => ?_⟩
  obtain ⟨rfl, hy⟩ := hy
  have := (hy vs q).symm.trans h1
  cases this
  exact ⟨F', Xt.refl g, h2.mono s⟩
theorem itOk_str {K : PySem.W.Frag} {F : Hp} (x : Tx) : ItOk K (Its (S x)) F (x.map fun c => .str [c]) := fun F' H' s g => by
  have sz : (S x).cps.size = x.length := by simp [S]
  refine ⟨fun i hi => ?_, fun i d hi => ?_⟩
  · show (S x).cps.size ≤ i
    rw [sz]; simpa using hi
  · have hl := lt_of_get hi
    rw [List.length_map] at hl
    refine ⟨?_, fun v H'' hy => ?_⟩
    · show i < (S x).cps.size
      rw [sz]; exact hl
    · obtain ⟨rfl, c, h1, rfl⟩ := hy
      refine ⟨F', Xt.refl g, ?_⟩
      have e : x[i]? = some c := by rw [← h1]; simp [S]
      rw [List.getElem?_map, e] at hi
      cases hi
      exact Dn.str [c]
/-- a sequence of any kind -/
theorem pi_any {tg l : Expr} {tl : TE} (hl : PE X l tl) : PI X tg l (fun σ H R => tl σ H fun x H1 => (∃ a xs, x = .ref a ∧ SqL X.K H1 a xs ∧ R (Itl X.K a) H1) ∨ (∃ a xs, x = .ref a ∧ SqT X.K H1 a xs ∧ R (Itt X.K a) H1) ∨ ∃ z, x = .str z ∧ R (Its z) H1) := by
  refine ⟨fun pins s σ H R I h => thn (hl.run pins s σ H _ I h) fun v s1 ⟨x, H1, I1, r1, q1⟩ => ?_⟩
  rcases q1 with ⟨a, xs, rfl, hq, q⟩ | ⟨a, xs, rfl, hq, q⟩ | ⟨z, rfl, q⟩
  · cases r1
    obtain ⟨its, rv, p, hz⟩ := I1.list hq
    exact wpAny_pyIter_list p.isList (pi_one (tk := s1.toks) I1 _ (turn_list a _) ⟨_, Heap.get?_push_size _ rfl, rfl, rfl⟩ q)
  · cases r1
    obtain ⟨its, rv, p, hz⟩ := I1.tuple hq
    exact wpAny_pyIter_tuple (show s1.heap.IsTuple a its.toArray from p) (pi_one (tk := s1.toks) I1 _ (turn_tuple a _) ⟨_, Heap.get?_push_size _ rfl, rfl, rfl⟩ q)
  · obtain ⟨t, rfl⟩ := r1
    cases ha : z.cps.all (· < 128)
    · exact wpAny_pyIter_wide ha (pi_one (tk := s1.toks) I1 _ (turn_str _ z t _ (.inr rfl)) ⟨_, Heap.get?_push_size _ rfl, rfl, rfl⟩ q)
    · exact wpAny_pyIter_ascii ha (pi_one (tk := s1.toks) I1 _ (turn_str _ z t _ (.inl rfl)) ⟨_, Heap.get?_push_size _ rfl, rfl, rfl⟩ q)
/-- the value is frozen, then walked -/
def iE (f : EF) : IF := fun env => match f env with
  | none => none
  | some (r, e) => match r.d.items with
    | none => none
    | some ds => some (ds, e)
theorem sqL_one {K : PySem.W.Frag} {H : Hp} {a : Addr} {vs ws : List V} (h0 : H a = some (.lst vs)) (hK : ∀ o, K.lookup a = some o → False) (h : SqL K H a ws) : ws = vs := by
  rcases h with (h | ⟨o, h⟩) | ⟨o, _, _, h, _⟩
  · rw [h0] at h; cases h; rfl
  · rw [h0] at h; cases h
  · exact (hK o h).elim
/-- like itOk_list, where nothing is known of other readings: the items are taken by the reading itself -/
theorem itOk_list2 {K : PySem.W.Frag} {F : Hp} {a : Addr} {vs : List V} {ds : List D} (h : ∀ F' H', Same F F' → Ag F' H' → SqL K H' a vs) (hd : DnAll K F vs ds) : ItOk K (Itl K a) F ds := fun F' H' s g => by
  have q := h F' H' s g
  refine ⟨fun i hi => ⟨vs, q, by rw [hd.length]; exact hi⟩, fun i d hi => ?_⟩
  obtain ⟨v, h1, h2⟩ := hd.get hi
  refine ⟨⟨vs, v, q, h1⟩, fun x H'' hy => ?_⟩
  obtain ⟨rfl, hy⟩ := hy
  have := (hy vs q).symm.trans h1
  cases this
  exact ⟨F', Xt.refl g, h2.mono s⟩
theorem q_ie {tg e : Expr} {f : EF} (h : QE X e f) : QI X tg e (iE f) := (pi_any h).imp fun σ H R q => by
  obtain ⟨b, F, env, ds, env', gd, hf, k⟩ := q
  unfold iE at hf
  split at hf
  · cases hf
  rename_i r e1 h1
  split at hf
  · cases hf
  rename_i ds2 h2
  cases hf
  refine ⟨b, F, env, r, env', gd, h1, fun v H1 F1 g1 s1 rv => ?_⟩
  obtain ⟨F2, s2, g2, d2⟩ := rv.freeze g1
  have s := s1.trans s2
  cases hd : r.d with
  | lst xs =>
    rw [hd] at h2 d2; cases h2
    cases d2 with
    | lst a1 a2 => exact .inl ⟨_, _, rfl, .of (g2.same.lst a1), k _ H1 F2 g2 s (itOk_list2 (fun F' H' s' g' => .of (g'.lst (s' _ _ a1))) a2)⟩
  | fz xs =>
    rw [hd] at h2 d2; cases h2
    cases d2 with
    | fz a1 a2 => exact .inl ⟨_, _, rfl, g2.same.l a1, k _ H1 F2 g2 s (itOk_list2 (fun F' H' s' g' => g'.l (same_l s' a1)) a2)⟩
  | tup xs =>
    rw [hd] at h2 d2; cases h2
    cases d2 with
    | tup a1 a2 => exact .inr (.inl ⟨_, _, rfl, g2.same.t a1, k _ H1 F2 g2 s (itOk_tup a1 a2)⟩)
  | str x =>
    rw [hd] at h2 d2; cases h2
    cases d2 with
    | str x => exact .inr (.inr ⟨_, rfl, k _ H1 F2 g2 s (itOk_str x)⟩)
  | non => rw [hd] at h2; cases h2
  | bl _ => rw [hd] at h2; cases h2
  | int _ => rw [hd] at h2; cases h2
  | dk _ => rw [hd] at h2; cases h2
  | dt _ => rw [hd] at h2; cases h2
  | st _ => rw [hd] at h2; cases h2
  | ty _ => rw [hd] at h2; cases h2
/-- ranges -/
def rng (lo : Int) (n : Nat) (c : Int) : List D := (List.range n).map fun i => .int (lo + (i : Nat) * c)
theorem rng_get {lo c : Int} {n i : Nat} {d : D} (h : (rng lo n c)[i]? = some d) : i < n ∧ d = .int (lo + (i : Nat) * c) := by
  unfold rng at h
  rw [List.getElem?_map] at h
  by_cases hi : i < n
  · rw [List.getElem?_range hi] at h
    exact ⟨hi, by simpa using h.symm⟩
  · rw [List.getElem?_eq_none (by simpa using hi)] at h; cases h
theorem rng_length (lo : Int) (n : Nat) (c : Int) : (rng lo n c).length = n := by simp [rng]
theorem itOk_rng {K : PySem.W.Frag} {F : Hp} (lo : Int) (n : Nat) : ItOk K (Itr lo n) F (rng lo n 1) := fun F' H' s g => by
  refine ⟨fun i hi => by rw [rng_length] at hi; exact hi, fun i d hi => ?_⟩
  obtain ⟨hl, rfl⟩ := rng_get hi
  refine ⟨hl, fun v H'' hy => ?_⟩
  obtain ⟨rfl, rfl⟩ := hy
  refine ⟨F', Xt.refl g, ?_⟩
  rw [Int.mul_one]; exact .int _
theorem itOk_rngC {K : PySem.W.Frag} {F : Hp} (lo : Int) (n : Nat) (c : Int) : ItOk K (Itc lo c n) F (rng lo n c) := fun F' H' s g => by
  refine ⟨fun i hi => by rw [rng_length] at hi; exact hi, fun i d hi => ?_⟩
  obtain ⟨hl, rfl⟩ := rng_get hi
  refine ⟨hl, fun v H'' hy => ?_⟩
  obtain ⟨rfl, rfl⟩ := hy
  exact ⟨F', Xt.refl g, .int _⟩
def small (i : Int) : Bool := decide (i.natAbs < 4611686018427387904)
theorem small_iff {i : Int} (h : small i = true) : -(2 ^ 62) ≤ i ∧ i < 2 ^ 62 := by
  unfold small at h
  simp only [decide_eq_true_eq] at h
  omega
/-- range(..) of what the arguments read as -/
def rng1 : List D → Option (List D)
  | [.int j] => if small j then some (rng 0 j.toNat 1) else none
  | _ => none
def rng2 : List D → Option (List D)
  | [.int i, .int j] => if small i && small j then some (rng i (j - i).toNat 1) else none
  | _ => none
def rng3 : List D → Option (List D)
  | [.int i, .int j, .int c] => if small i && small j && (c == -1) then some (rng i (i - j).toNat (-1)) else none
  | _ => none
def iR (w : List D → Option (List D)) (a : AF) : IF := fun env => match a env with
  | none => none
  | some (ps, e) => match rdPs e ps with
    | none => none
    | some xs => match w xs with
      | none => none
      | some ds => some (ds, e)
theorem iR_some {w : List D → Option (List D)} {a : AF} {env env' : Ev} {ds : List D} (h : iR w a env = some (ds, env')) : ∃ ps xs, a env = some (ps, env') ∧ rdPs env' ps = some xs ∧ w xs = some ds := by
  unfold iR at h
  split at h
  · cases h
  rename_i ps e1 h1
  split at h
  · cases h
  rename_i xs h2
  split at h
  · cases h
  rename_i ds2 h3
  cases h
  exact ⟨ps, xs, h1, h2, h3⟩
theorem RdD.int_inv {K : PySem.W.Frag} {F H : Hp} {v : V} {i : Int} (h : RdD K F H v (.int i)) : v = .int i := by
  rcases h with h | ⟨p, _, h⟩
  · cases h; rfl
  · exact h.elim
theorem q_r1 {tg a : Expr} {f : AF} {p pos : Pos} (hm : X.mg "range" = none) (ha : QA X [a] f) (hg : Gl X "range" := by rfl) (hs : starEach [a] X.env = [(false, eval a X.env)] := by rfl) : QI X tg (.Call (.Name "range" p) [a] [] pos) (iR rng1 f) :=
  (pi_range1 hg hm ha hs).imp fun σ H R q => by
    obtain ⟨b, F, env, ds, env', gd, hf, k⟩ := q
    obtain ⟨ps, xs, h1, h2, h3⟩ := iR_some hf
    refine ⟨b, F, env, ps, env', gd, h1, fun vs H1 F1 g1 s1 pv => ?_⟩
    have rd := g1.rds pv h2
    unfold rng1 at h3
    split at h3
    · rename_i j
      split at h3
      · rename_i hs
        cases h3
        cases rd with
        | cons r t =>
          cases t
          obtain ⟨q1, q2⟩ := small_iff hs
          exact ⟨j, by rw [r.int_inv], q1, q2, k _ H1 F1 g1 s1 (itOk_rng 0 j.toNat)⟩
      · cases h3
    · cases h3
theorem q_r2 {tg a c : Expr} {f : AF} {p pos : Pos} (hm : X.mg "range" = none) (ha : QA X [a, c] f) (hg : Gl X "range" := by rfl) (hs : starEach [a, c] X.env = [(false, eval a X.env), (false, eval c X.env)] := by rfl) (hs2 : starEach [c] X.env = [(false, eval c X.env)] := by rfl) : QI X tg (.Call (.Name "range" p) [a, c] [] pos) (iR rng2 f) :=
  (pi_range2 hg hm ha hs hs2).imp fun σ H R q => by
    obtain ⟨b, F, env, ds, env', gd, hf, k⟩ := q
    obtain ⟨ps, xs, h1, h2, h3⟩ := iR_some hf
    refine ⟨b, F, env, ps, env', gd, h1, fun vs H1 F1 g1 s1 pv => ?_⟩
    have rd := g1.rds pv h2
    unfold rng2 at h3
    split at h3
    · rename_i i j
      split at h3
      · rename_i hs
        cases h3
        rw [Bool.and_eq_true] at hs
        cases rd with
        | cons r t =>
          cases t with
          | cons r2 t2 =>
            cases t2
            obtain ⟨q1, q2⟩ := small_iff hs.1
            obtain ⟨q3, q4⟩ := small_iff hs.2
            exact ⟨i, j, by rw [r.int_inv, r2.int_inv], ⟨q1, q2, q3, q4⟩, k _ H1 F1 g1 s1 (itOk_rng i (j - i).toNat)⟩
      · cases h3
    · cases h3
theorem q_r3 {tg a c d : Expr} {f : AF} {p pos : Pos} (hm : X.mg "range" = none) (ha : QA X [a, c, d] f) (hg : Gl X "range" := by rfl) (hs : starEach [a, c, d] X.env = (false, eval a X.env) :: starEach [c, d] X.env := by rfl) (hpl : (backTo pos (starEach [c, d] X.env)).any (·.1) = false := by rfl) : QI X tg (.Call (.Name "range" p) [a, c, d] [] pos) (iR rng3 f) :=
  (pi_range3 hg hm ha hs hpl).imp fun σ H R q => by
    obtain ⟨b, F, env, ds, env', gd, hf, k⟩ := q
    obtain ⟨ps, xs, h1, h2, h3⟩ := iR_some hf
    refine ⟨b, F, env, ps, env', gd, h1, fun vs H1 F1 g1 s1 pv => ?_⟩
    have rd := g1.rds pv h2
    unfold rng3 at h3
    split at h3
    · rename_i i j c0
      split at h3
      · rename_i hs
        cases h3
        rw [Bool.and_eq_true, Bool.and_eq_true] at hs
        have hc : c0 = -1 := by simpa using hs.2
        subst hc
        cases rd with
        | cons r t =>
          cases t with
          | cons r2 t2 =>
            cases t2 with
            | cons r3 t3 =>
              cases t3
              obtain ⟨q1, q2⟩ := small_iff hs.1.1
              obtain ⟨q3, q4⟩ := small_iff hs.1.2
              exact ⟨i, j, -1, (i - j).toNat, by rw [r.int_inv, r2.int_inv, r3.int_inv], RgC.neg q1 q2 q3 q4, k _ H1 F1 g1 s1 (itOk_rngC i (i - j).toNat (-1))⟩
      · cases h3
    · cases h3
/-- enumerate(list): pairs; the list is frozen -/
def pairsF : Nat → List D → List D
  | _, [] => []
  | i, d :: ds => .tup [.int (i : Nat), d] :: pairsF (i + 1) ds
theorem pairsF_length : ∀ (i : Nat) (ds : List D), (pairsF i ds).length = ds.length
  | _, [] => rfl
  | i, d :: ds => by simp [pairsF, pairsF_length]
theorem pairsF_get : ∀ (i j : Nat) (ds : List D), (pairsF i ds)[j]? = (ds[j]?).map fun d => .tup [.int ((i + j : Nat) : Int), d]
  | _, _, [] => by simp [pairsF]
  | i, 0, d :: ds => by simp [pairsF]
  | i, j + 1, d :: ds => by
    rw [pairsF, List.getElem?_cons_succ, List.getElem?_cons_succ, pairsF_get (i + 1) j ds]
    rw [show i + 1 + j = i + (j + 1) by omega]
theorem itOk_enum {K : PySem.W.Frag} {F : Hp} {a : Addr} {vs : List V} {ds : List D} (h : F a = some (.lst vs)) (hd : DnAll K F vs ds) : ItOk K (Ite K a) F (pairsF 0 ds) := fun F' H' s g => by
  have q : SqL K H' a vs := .of (g.lst (s _ _ h))
  refine ⟨fun i hi => ⟨vs, q, by rw [pairsF_length] at hi; rw [hd.length]; exact hi⟩, fun i d hi => ?_⟩
  rw [pairsF_get] at hi
  cases q2 : ds[i]? with
  | none => rw [q2] at hi; cases hi
  | some d0 =>
    rw [q2] at hi
    cases hi
    obtain ⟨v, h1, h2⟩ := hd.get q2
    refine ⟨⟨vs, v, q, h1⟩, fun x H'' hy => ?_⟩
    obtain ⟨T, y, rfl, hT, rfl, hy⟩ := hy
    have := (hy vs q).symm.trans h1
    cases this
    have xt := Xt.laid (o := .tup [.int (i : Nat), v]) g hT
    refine ⟨_, xt, .tup (.of upd_same) (.cons ?_ (.cons (h2.mono (s.trans xt.ff)) .nil))⟩
    rw [Nat.zero_add]; exact .int _
def valLst : List P → Option (List D)
  | [.val (.lst ds)] => some ds
  | _ => none
def iEn (a : AF) : IF := fun env => match a env with
  | none => none
  | some (ps, e) => match valLst ps with
    | none => none
    | some ds => some (pairsF 0 ds, e)
theorem q_enum {elts : List Expr} {kk : Nat} {tpos : Pos} {a : Expr} {f : AF} {p pos : Pos} (hm : X.mg "enumerate" = none) (ha : QA X [a] f) (hg : Gl X "enumerate" := by rfl) (hs : starEach [a] X.env = [(false, eval a X.env)] := by rfl) : QI X (.Tuple elts kk tpos) (.Call (.Name "enumerate" p) [a] [] pos) (iEn f) :=
  (pi_enum hg hm ha hs).imp fun σ H R q => by
    obtain ⟨b, F, env, ds, env', gd, hf, k⟩ := q
    unfold iEn at hf
    split at hf
    · cases hf
    rename_i ps e1 h1
    split at hf
    · cases hf
    rename_i xs h2
    cases hf
    refine ⟨b, F, env, ps, env', gd, h1, fun vs H1 F1 g1 s1 pv => ?_⟩
    unfold valLst at h2
    split at h2
    · cases h2
      cases pv with
      | cons r t =>
        cases t
        cases (show Dn X.K F1 _ _ from r) with
        | lst a1 a2 => exact ⟨_, _, rfl, .of (g1.same.lst a1), k _ H1 F1 g1 s1 (itOk_enum a1 a2)⟩
    · cases h2
/-- zip of two lists or two tuples (frozen) -/
def zipD : List D → List D → List D
  | x :: xs, y :: ys => .tup [x, y] :: zipD xs ys
  | _, _ => []
theorem zipD_get : ∀ (j : Nat) (ds es : List D), (zipD ds es)[j]? = (ds[j]?).bind fun d => (es[j]?).map fun e => .tup [d, e]
  | j, [], es => by simp [zipD]
  | j, d :: ds, [] => by cases j <;> simp [zipD]
  | 0, d :: ds, e :: es => by simp [zipD]
  | j + 1, d :: ds, e :: es => by simp [zipD, zipD_get j ds es]
theorem zipD_length : ∀ (ds es : List D), (zipD ds es).length = min ds.length es.length
  | [], es => by simp [zipD]
  | d :: ds, [] => by simp [zipD]
  | d :: ds, e :: es => by simp [zipD, zipD_length ds es]
theorem itOk_zip {K : PySem.W.Frag} {F : Hp} {a b : Addr} {vs ws : List V} {ds es : List D} (h : F a = some (.lst vs)) (h2 : F b = some (.lst ws)) (hd : DnAll K F vs ds) (he : DnAll K F ws es) : ItOk K (Itz K a b) F (zipD ds es) := fun F' H' s g => by
  have q : SqL K H' a vs := .of (g.lst (s _ _ h))
  have q' : SqL K H' b ws := .of (g.lst (s _ _ h2))
  refine ⟨fun i hi => ⟨vs, ws, q, q', by rw [zipD_length] at hi; rw [hd.length, he.length]; omega⟩, fun i d hi => ?_⟩
  rw [zipD_get] at hi
  cases q1 : ds[i]? with
  | none => rw [q1] at hi; cases hi
  | some d0 =>
    cases q2 : es[i]? with
    | none => rw [q1, q2] at hi; cases hi
    | some e0 =>
      rw [q1, q2] at hi
      cases hi
      obtain ⟨v, a1, a2⟩ := hd.get q1
      obtain ⟨w, b1, b2⟩ := he.get q2
      refine ⟨⟨vs, ws, v, w, q, q', a1, b1⟩, fun x H'' hy => ?_⟩
      obtain ⟨T, y, z, rfl, hT, rfl, hy, hz⟩ := hy
      have := (hy vs q).symm.trans a1
      cases this
      have := (hz ws q').symm.trans b1
      cases this
      have xt := Xt.laid (o := .tup [v, w]) g hT
      exact ⟨_, xt, .tup (.of upd_same) (.cons (a2.mono (s.trans xt.ff)) (.cons (b2.mono (s.trans xt.ff)) .nil))⟩
theorem itOk_zipT {K : PySem.W.Frag} {F : Hp} {a b : Addr} {vs ws : List V} {ds es : List D} (h : SqT K F a vs) (h2 : SqT K F b ws) (hd : DnAll K F vs ds) (he : DnAll K F ws es) : ItOk K (RZ.ItzT K a b) F (zipD ds es) := fun F' H' s g => by
  have q : SqT K H' a vs := g.t (same_t s h)
  have q' : SqT K H' b ws := g.t (same_t s h2)
  refine ⟨fun i hi => ⟨vs, ws, q, q', by rw [zipD_length] at hi; rw [hd.length, he.length]; omega⟩, fun i d hi => ?_⟩
  rw [zipD_get] at hi
  cases q1 : ds[i]? with
  | none => rw [q1] at hi; cases hi
  | some d0 =>
    cases q2 : es[i]? with
    | none => rw [q1, q2] at hi; cases hi
    | some e0 =>
      rw [q1, q2] at hi
      cases hi
      obtain ⟨v, a1, a2⟩ := hd.get q1
      obtain ⟨w, b1, b2⟩ := he.get q2
      refine ⟨⟨vs, ws, v, w, q, q', a1, b1⟩, fun x H'' hy => ?_⟩
      obtain ⟨T, y, z, rfl, hT, rfl, hy, hz⟩ := hy
      have := (hy vs q).symm.trans a1
      cases this
      have := (hz ws q').symm.trans b1
      cases this
      have xt := Xt.laid (o := .tup [v, w]) g hT
      exact ⟨_, xt, .tup (.of upd_same) (.cons (a2.mono (s.trans xt.ff)) (.cons (b2.mono (s.trans xt.ff)) .nil))⟩
def valZip : List P → Option (List D)
  | [.val (.lst ds), .val (.lst es)] => some (zipD ds es)
  | [.val (.tup ds), .val (.tup es)] => some (zipD ds es)
  | _ => none
def iZp (a : AF) : IF := fun env => match a env with
  | none => none
  | some (ps, e) => match valZip ps with
    | none => none
    | some ds => some (ds, e)

theorem q_zip {elts : List Expr} {kk : Nat} {tpos : Pos} {a c : Expr} {f : AF} {p pos : Pos} (hm : X.mg "zip" = none) (ha : QA X [a, c] f) (hg : Gl X "zip" := by rfl) (hs : starEach [a, c] X.env = (false, eval a X.env) :: starEach [c] X.env := by rfl) (hpl : (backTo pos (starEach [c] X.env)).any (·.1) = false := by rfl) : QI X (.Tuple elts kk tpos) (.Call (.Name "zip" p) [a, c] [] pos) (iZp f) :=
  (RZ.pi_zipA hg hm ha hs hpl).imp fun σ H R q => by
    obtain ⟨b, F, env, ds, env', gd, hf, k⟩ := q
    unfold iZp at hf
    split at hf
    · cases hf
    rename_i ps e1 h1
    split at hf
    · cases hf
    rename_i xs h2
    cases hf
    refine ⟨b, F, env, ps, env', gd, h1, fun vs H1 F1 g1 s1 pv => ?_⟩
    unfold valZip at h2
    split at h2
    · cases h2
      cases pv with
      | cons r t =>
        cases t with
        | cons r2 t =>
          cases t
          cases (show Dn X.K F1 _ _ from r) with
          | lst a1 a2 =>
            cases (show Dn X.K F1 _ _ from r2) with
            | lst b1 b2 => exact ⟨_, _, _, _, rfl, .inl ⟨.of (g1.same.lst a1), .of (g1.same.lst b1), k _ H1 F1 g1 s1 (itOk_zip a1 b1 a2 b2)⟩⟩
    · cases h2
      cases pv with
      | cons r t =>
        cases t with
        | cons r2 t =>
          cases t
          cases (show Dn X.K F1 _ _ from r) with
          | tup a1 a2 =>
            cases (show Dn X.K F1 _ _ from r2) with
            | tup b1 b2 => exact ⟨_, _, _, _, rfl, .inr ⟨g1.same.t a1, g1.same.t b1, k _ H1 F1 g1 s1 (itOk_zipT a1 b1 a2 b2)⟩⟩
    · cases h2
end
end MP
namespace MP
open PySem PySem.Spec PyProof.Rows L2
/-! ### the block's names -/
def blank (env : Ev) : List Nat → Ev
  | [] => env
  | i :: is => (blank env is).set i .un
def fzs (env : Ev) : List Nat → Ev
  | [] => env
  | i :: is => match (fzs env is)[i]? with
    | some c => (fzs env is).set i c.fz
    | none => fzs env is
def back (old new : Ev) : List Nat → Ev
  | [] => new
  | i :: is => (back old new is).set i (old[i]?.getD .un)
theorem wipe_get (σ : L2.St) (j : Nat) : ∀ is : List Nat, (wipe σ is)[j]? = if j ∈ is then (σ[j]?).map (fun _ => none) else σ[j]?
  | [] => by simp [wipe]
  | i :: is => by
    unfold wipe
    rw [List.getElem?_set, wipe_length, wipe_get σ j is]
    by_cases e : i = j
    · subst e
      rw [if_pos rfl, if_pos List.mem_cons_self]
      by_cases h : i < σ.length
      · rw [if_pos h, List.getElem?_eq_getElem h]; rfl
      · rw [if_neg h, List.getElem?_eq_none (by omega)]; rfl
    · rw [if_neg e]
      by_cases h : j ∈ is
      · rw [if_pos h, if_pos (List.mem_cons_of_mem _ h)]
      · rw [if_neg h, if_neg (by simp [h, Ne.symm e])]
theorem blank_length (env : Ev) : ∀ is : List Nat, (blank env is).length = env.length
  | [] => rfl
  | i :: is => by unfold blank; rw [List.length_set, blank_length env is]
theorem blank_get (env : Ev) (j : Nat) : ∀ is : List Nat, (blank env is)[j]? = if j ∈ is then (env[j]?).map (fun _ => .un) else env[j]?
  | [] => by simp [blank]
  | i :: is => by
    unfold blank
    rw [List.getElem?_set, blank_length, blank_get env j is]
    by_cases e : i = j
    · subst e
      rw [if_pos rfl, if_pos List.mem_cons_self]
      by_cases h : i < env.length
      · rw [if_pos h, List.getElem?_eq_getElem h]; rfl
      · rw [if_neg h, List.getElem?_eq_none (by omega)]; rfl
    · rw [if_neg e]
      by_cases h : j ∈ is
      · rw [if_pos h, if_pos (List.mem_cons_of_mem _ h)]
      · rw [if_neg h, if_neg (by simp [h, Ne.symm e])]
theorem back_length (old new : Ev) : ∀ is : List Nat, (back old new is).length = new.length
  | [] => rfl
  | i :: is => by unfold back; rw [List.length_set, back_length old new is]
theorem back_get (old new : Ev) (j : Nat) : ∀ is : List Nat, (back old new is)[j]? = if j ∈ is then (new[j]?).map (fun _ => old[j]?.getD .un) else new[j]?
  | [] => by simp [back]
  | i :: is => by
    unfold back
    rw [List.getElem?_set, back_length, back_get old new j is]
    by_cases e : i = j
    · subst e
      rw [if_pos rfl, if_pos List.mem_cons_self]
      by_cases h : i < new.length
      · rw [if_pos h, List.getElem?_eq_getElem h]; rfl
      · rw [if_neg h, List.getElem?_eq_none (l := new) (by omega)]; rfl
    · rw [if_neg e]
      by_cases h : j ∈ is
      · rw [if_pos h, if_pos (List.mem_cons_of_mem _ h)]
      · rw [if_neg h, if_neg (by simp [h, Ne.symm e])]
section
variable {K : PySem.W.Frag} {b : Base} {F F' H H' : Hp} {σ σ' : L2.St} {env env' : Ev}
theorem Gd.fzs (g : Gd K b F σ H env) : ∀ is : List Nat, ∃ F', Same F F' ∧ Gd K b F' σ H (fzs env is) ∧ ∀ j ∈ is, ∀ c, (fzs env is)[j]? = some c → c.own = false
  | [] => ⟨F, Same.refl F, g, fun j h => by simp at h⟩
  | i :: is => by
    obtain ⟨F1, s1, g1, n1⟩ := Gd.fzs g is
    unfold MP.fzs
    cases q : (MP.fzs env is)[i]? with
    | none =>
      refine ⟨F1, s1, g1, fun j hj c hc => ?_⟩
      rcases List.mem_cons.mp hj with rfl | hj
      · simp only at hc; rw [q] at hc; cases hc
      · exact n1 j hj c hc
    | some c0 =>
      obtain ⟨F2, s2, g2, _⟩ := g1.freeze q
      refine ⟨F2, s1.trans s2, g2, fun j hj c hc => ?_⟩
      rcases set_get hc with ⟨_, rfl, _⟩ | ⟨n, hc⟩
      · exact C.fz_own c0
      · rcases List.mem_cons.mp hj with rfl | hj
        · exact absurd rfl n
        · exact n1 j hj c hc
theorem Gd.blank (g : Gd K b F σ H env) (is : List Nat) : Gd K b F (wipe σ is) H (blank env is) := by
  have own : ∀ j p, OwnAt (MP.blank env is) (wipe σ is) j p → OwnAt env σ j p := fun j p ⟨⟨c, h1, h2⟩, h3⟩ => by
    rw [blank_get] at h1
    rw [wipe_get] at h3
    by_cases e : j ∈ is
    · rw [if_pos e] at h3
      cases q : σ[j]? with
      | none => rw [q] at h3; cases h3
      | some w => rw [q] at h3; cases h3
    · rw [if_neg e] at h1 h3; exact ⟨⟨c, h1, h2⟩, h3⟩
  refine ⟨by rw [blank_length, wipe_length]; exact g.len, g.same, fun j c hj => ?_, fun j k p hj hk => g.dis j k p (own j p hj) (own k p hk), g.keep, g.new⟩
  rw [blank_get] at hj
  rw [wipe_get]
  by_cases e : j ∈ is
  · rw [if_pos e] at hj
    cases q : env[j]? with
    | none => rw [q] at hj; cases hj
    | some w => rw [q] at hj; cases hj; trivial
  · rw [if_neg e] at hj ⊢; exact g.cells j c hj
theorem Gd.back {Ho : Hp} {old : Ev} {is : List Nat} {Fo : Hp} (g : Gd K b F (wipe σ is) H (MP.blank env is)) (o : Gd K b Fo σ Ho old) (s : Same Fo F) (no : ∀ j ∈ is, ∀ c, old[j]? = some c → c.own = false) : Gd K b F σ H (MP.back old env is) := by
  have ln : env.length = σ.length := by have := g.len; rw [blank_length, wipe_length] at this; exact this
  have lo : old.length = env.length := by rw [ln]; exact o.len
  have own : ∀ j p, OwnAt (MP.back old env is) σ j p → OwnAt (MP.blank env is) (wipe σ is) j p := fun j p ⟨⟨c, h1, h2⟩, h3⟩ => by
    rw [back_get] at h1
    by_cases e : j ∈ is
    · rw [if_pos e] at h1
      cases q : env[j]? with
      | none => rw [q] at h1; cases h1
      | some w =>
        have hj : j < old.length := by rw [lo]; exact lt_of_get q
        rw [q, List.getElem?_eq_getElem hj] at h1
        cases h1
        have := no j e _ (List.getElem?_eq_getElem hj)
        rw [show (some old[j]).getD .un = old[j] from rfl, this] at h2; cases h2
    · rw [if_neg e] at h1
      refine ⟨⟨c, by rw [blank_get, if_neg e]; exact h1, h2⟩, by rw [wipe_get, if_neg e]; exact h3⟩
  refine ⟨by rw [back_length]; exact ln, g.same, fun j c hj => ?_, fun j k p hj hk => g.dis j k p (own j p hj) (own k p hk), g.keep, g.new⟩
  rw [back_get] at hj
  by_cases e : j ∈ is
  · rw [if_pos e] at hj
    cases q : env[j]? with
    | none => rw [q] at hj; cases hj
    | some w =>
      have hl : j < old.length := by rw [lo]; exact lt_of_get q
      rw [q, List.getElem?_eq_getElem hl] at hj
      cases hj
      have hc := List.getElem?_eq_getElem hl
      exact (o.cells j _ hc).mono s fun p hw ho => by rw [no j e _ hc] at ho; cases ho
  · rw [if_neg e] at hj
    have := g.cells j c (by rw [blank_get, if_neg e]; exact hj)
    rw [wipe_get, if_neg e] at this
    exact this
/-- an object that is nobody's here may change -/
theorem Gd.other (g : Gd K b F σ H env) {p : Addr} {o : HO} (n : F p = none) (n0 : b.H0 p = none) (no : ∀ i, ¬ OwnAt env σ i p) : Gd K b F σ (upd H p o) env := by
  refine ⟨g.len, same_upd2 g.same n, fun i c hc => (g.cells i c hc).mono (Same.refl F) fun q hw ho => ⟨?_, fun h => h⟩, g.dis, fun a x h => ?_, g.new⟩
  · rw [upd_ne]
    rintro rfl
    exact no i (OwnAt.of hc ho hw)
  · rw [upd_ne (ne_of_none h n0)]; exact g.keep _ _ h
/-- the base taken anew: all that stands here and isn't owned here is kept -/
noncomputable def Base.re (b : Base) (F : Hp) (σ : L2.St) (H : Hp) (env : Ev) : Base :=
  { F0 := F, H0 := fun a => by classical exact if ∃ i, OwnAt env σ i a then none else H a, σ0 := b.σ0 }
theorem Base.re_own {a : Addr} {i : Nat} (h : OwnAt env σ i a) : (b.re F σ H env).H0 a = none := by
  unfold Base.re; simp only; rw [if_pos ⟨i, h⟩]
theorem Base.re_no {a : Addr} (h : ∀ i, ¬ OwnAt env σ i a) : (b.re F σ H env).H0 a = H a := by
  unfold Base.re; simp only; rw [if_neg (fun ⟨i, q⟩ => h i q)]
theorem Base.re_cases (a : Addr) : (∃ i, OwnAt env σ i a) ∨ ((∀ i, ¬ OwnAt env σ i a) ∧ (b.re F σ H env).H0 a = H a) := by
  by_cases h : ∃ i, OwnAt env σ i a
  · exact .inl h
  · have h2 : ∀ i, ¬ OwnAt env σ i a := fun i q => h ⟨i, q⟩
    exact .inr ⟨h2, Base.re_no h2⟩
theorem Gd.own0 (g : Gd K b F σ H env) {i : Nat} {p : Addr} (h : OwnAt env σ i p) : b.H0 p = none ∧ F p = none := by
  obtain ⟨⟨c, h1, h2⟩, h3⟩ := id h
  obtain ⟨q, w, _, h5, h6⟩ := (g.cells i c h1).ownSome h2
  rw [h.join] at w; cases w
  exact ⟨h6, h5⟩
theorem Gd.re (g : Gd K b F σ H env) : Gd K (b.re F σ H env) F σ H env := by
  refine ⟨g.len, g.same, fun i c hc => ?_, g.dis, fun a o h => ?_, fun a o h => .inl h⟩
  · have k := g.cells i c hc
    cases c with
    | un => trivial
    | im d => exact k
    | ow d => obtain ⟨p, h1, h2, h3, h4⟩ := k; exact ⟨p, h1, h2, h3, Base.re_own (OwnAt.of hc rfl h1)⟩
    | bo d => obtain ⟨p, h1, h2, h3, h4, h5⟩ := k; exact ⟨p, h1, h2, h3, Base.re_own (OwnAt.of hc rfl h1), h5⟩
    | bf d => exact k
  · rcases Base.re_cases (b := b) (F := F) (H := H) (env := env) (σ := σ) a with ⟨i, q⟩ | ⟨_, q⟩
    · rw [Base.re_own q] at h; cases h
    · rw [q] at h; exact h
theorem Gd.unre (g : Gd K b F σ H env) (g' : Gd K (b.re F σ H env) F' σ' H' env') : Gd K b F' σ' H' env' := by
  have z : ∀ p, (b.re F σ H env).H0 p = none → b.H0 p = none := fun p h => by
    rcases Base.re_cases (b := b) (F := F) (H := H) (env := env) (σ := σ) p with ⟨i, q⟩ | ⟨_, q⟩
    · exact (g.own0 q).1
    · rw [q] at h; exact g.h0 h
  refine ⟨g'.len, g'.same, fun i c hc => ?_, g'.dis, fun a o h => ?_, fun a o h => ?_⟩
  · have k := g'.cells i c hc
    cases c with
    | un => trivial
    | im d => exact k
    | ow d => obtain ⟨p, h1, h2, h3, h4⟩ := k; exact ⟨p, h1, h2, h3, z p h4⟩
    | bo d => obtain ⟨p, h1, h2, h3, h4, h5⟩ := k; exact ⟨p, h1, h2, h3, z p h4, h5⟩
    | bf d => exact k
  · rcases Base.re_cases (b := b) (F := F) (H := H) (env := env) (σ := σ) a with ⟨i, q⟩ | ⟨_, q⟩
    · rw [(g.own0 q).1] at h; cases h
    · exact g'.keep a o (by rw [q]; exact g.keep _ _ h)
  · rcases g'.new a o h with q | q
    · exact g.new a o q
    · exact .inr (z a q)
/-- what isn't owned stays behind -/
theorem Gd.kept (g : Gd K b F σ H env) (g' : Gd K (b.re F σ H env) F' σ' H' env') {p : Addr} {o : HO} (h : H p = some o) (no : ∀ i, ¬ OwnAt env σ i p) : H' p = some o ∧ (F p = none → F' p = none) ∧ ∀ i, ¬ OwnAt env' σ' i p := by
  have q : (b.re F σ H env).H0 p = some o := (Base.re_no no).trans h
  refine ⟨g'.keep p o q, fun n => ?_, fun i z => ?_⟩
  · cases w : F' p with
    | none => rfl
    | some x =>
      rcases g'.new p x w with y | y
      · rw [show (b.re F σ H env).F0 p = F p from rfl, n] at y; cases y
      · rw [q] at y; cases y
  · have := (g'.own0 z).1
    rw [q] at this; cases this
end

/-! ### targets of a comprehension -/
def tGc (K : PySem.W.Frag) (is : List Nat) (g : GF) : TG := fun v σ H Q => ∃ b F env d env', Gd K b F σ H env ∧ Dn K F v d ∧ g d env = some env' ∧ ∀ σ' H' F', Gd K b F' σ' H' env' → Same F F' → wipe σ' is = wipe σ is → Q σ' H'
abbrev QGc (X : Cx) (is : List Nat) (e : Expr) (g : GF) : Prop := PG X e (tGc X.K is g)
def tGcs (K : PySem.W.Frag) (is : List Nat) (g : GFs) : TGs := fun vs σ H Q => ∃ b F env ds env', Gd K b F σ H env ∧ DnAll K F vs ds ∧ g ds env = some env' ∧ ∀ σ' H' F', Gd K b F' σ' H' env' → Same F F' → wipe σ' is = wipe σ is → Q σ' H'
abbrev QGcs (X : Cx) (is : List Nat) (e : List Expr) (g : GFs) : Prop := PGs X e (tGcs X.K is g)
theorem wipe_set {σ : L2.St} {i : Nat} {w : Option V} {is : List Nat} (h : i ∈ is) : wipe (σ.set i w) is = wipe σ is := by
  apply List.ext_getElem?
  intro j
  rw [wipe_get, wipe_get]
  by_cases e : j ∈ is
  · rw [if_pos e, if_pos e, List.getElem?_set]
    by_cases q : i = j
    · subst q
      rw [if_pos rfl]
      by_cases l : i < σ.length
      · rw [if_pos l, List.getElem?_eq_getElem l]; rfl
      · rw [if_neg l, List.getElem?_eq_none (by omega)]
    · rw [if_neg q]
  · rw [if_neg e, if_neg e, List.getElem?_set_ne (by rintro rfl; exact e h)]
section
variable {X : Cx}
theorem q_gcn {i : Nat} {is : List Nat} {x : Str} {pos : Pos} (hm : i ∈ is) (hN : X.N.Nodup) (hi : X.N[i]? = some x := by rfl) (hx : Loc X.env.scope x := by first | exact .inl rfl | exact .inr rfl) (hf : X.fn x = true ∨ X.env.scope.names.lookup x = some .local := by first | exact .inl rfl | exact .inr rfl) : QGc X is (.Name x pos) (gN i) :=
  (pg_name hN hi hx hf).imp fun v σ H Q q => by
    obtain ⟨b, F, env, d, env', g, hd, hg, k⟩ := q
    exact k _ H F (g.put (r := .im d) hd hg) (Same.refl F) (wipe_set hm)
theorem q_gcsnil {is : List Nat} : QGcs X is [] gsNil := pgs_nil.imp fun vs σ H Q q => by
  obtain ⟨b, F, env, ds, env', g, hd, hg, k⟩ := q
  cases hd with
  | nil => cases hg; exact ⟨rfl, k σ H F g (Same.refl F) rfl⟩
  | cons _ _ => cases hg
theorem q_gcscons {is : List Nat} {e : Expr} {es : List Expr} {t : GF} {u : GFs} (h1 : QGc X is e t) (h2 : QGcs X is es u) (hs : (assignEach (e :: es) X.env).map (·.2) = assign e X.env :: (assignEach es X.env).map (·.2) := by rfl) : QGcs X is (e :: es) (gsCons t u) :=
  (pgs_cons h1 h2 hs).imp fun vs σ H Q q => by
    obtain ⟨b, F, env, ds, env', g, hd, hg, k⟩ := q
    cases hd with
    | nil => cases hg
    | cons h t =>
      unfold gsCons at hg
      split at hg
      · cases hg
      rename_i dd rr eq
      cases eq
      split at hg
      · cases hg
      rename_i e1 q1
      refine ⟨_, _, rfl, b, F, env, _, e1, g, h, q1, fun σ1 H1 F1 g1 s1 w1 => ⟨b, F1, e1, _, env', g1, t.mono s1, hg, fun σ2 H2 F2 g2 s2 w2 => k σ2 H2 F2 g2 (s1.trans s2) (w2.trans w1)⟩⟩
theorem q_gct {is : List Nat} {es : List Expr} {k : Nat} {t : GFs} {n : Nat} {pos : Pos} (hc : X.calm = true) (h : QGcs X is es t) (hlen : ∀ ds env e', t ds env = some e' → ds.length = n)
    (hn : (assignEach es X.env).length = n := by rfl) (hst : (assignEach es X.env).findIdx? (·.1) = none := by rfl) : QGc X is (.Tuple es k pos) (gT t) :=
  (pg_tup hc h hn hst).imp fun v σ H Q q => by
    obtain ⟨b, F, env, d, env', g, hd, hg, k⟩ := q
    cases hd with
    | tup h1 h2 =>
      have hg : t _ env = some env' := hg
      exact ⟨_, _, rfl, g.same.t h1, h2.length.trans (hlen _ _ _ hg), b, F, env, _, env', g, h2, hg, k⟩
    | non => cases hg
    | bl _ => cases hg
    | int _ => cases hg
    | str _ => cases hg
    | ty _ => cases hg
    | lst _ _ => cases hg
    | fz _ _ => cases hg
    | dk _ _ => cases hg
theorem gs_len1 {g : GF} : ∀ ds env e', gsCons g gsNil ds env = some e' → ds.length = 1
  | [], _, _, h => by cases h
  | [d], _, _, _ => rfl
  | d :: d2 :: r, env, e', h => by
    unfold gsCons at h
    simp only at h
    split at h
    · cases h
    · cases h
theorem gs_lenS {g : GF} {gs : GFs} {n : Nat} (hn : ∀ ds env e', gs ds env = some e' → ds.length = n) : ∀ ds env e', gsCons g gs ds env = some e' → ds.length = n + 1
  | [], _, _, h => by cases h
  | d :: r, env, e', h => by
    unfold gsCons at h
    simp only at h
    split at h
    · cases h
    · rw [List.length_cons, hn _ _ _ h]

/-! ### list comprehensions -/
def bTrue : BF := fun env => some (true, env)
abbrev QTs (X : Cx) (ifs : List Expr) (t : BF) : Prop := PTs X ifs (tBv X.K t)
theorem _root_.L2.PTs.imp {e : List Expr} {t t' : TT} (h : PTs X e t) (k : ∀ σ H Q, t' σ H Q → t σ H Q) : PTs X e t' := ⟨fun pins s σ H Q I q => h.run pins s σ H Q I (k σ H Q q)⟩
theorem q_tnil : QTs X [] bTrue := pts_nil.imp fun σ H Q q => by
  obtain ⟨b, F, env, k, env', g, hf, w⟩ := q
  cases hf
  exact w H F g (Same.refl F)
theorem q_tone {c : Expr} {t : BF} (h : QT X c t) : QTs X [c] t := pts_one h
/-- the turns: what has been made so far in acc -/
def lcF (is : List Nat) (g : GF) (t : BF) (f : EF) : List D → Ev → List D → Option (List D × Ev)
  | [], env, acc => some (acc, env)
  | d :: ds, env, acc => match g d (blank env is) with
    | none => none
    | some e1 => match t e1 with
      | none => none
      | some (false, e2) => lcF is g t f ds e2 acc
      | some (true, e2) => match f e2 with
        | none => none
        | some (r, e3) => if acc.length < SL then lcF is g t f ds e3 (acc ++ [r.d]) else none
def eLc (is : List Nat) (it : IF) (g : GF) (t : BF) (f : EF) : EF := fun env => match it env with
  | none => none
  | some (ds, e) => match lcF is g t f ds (fzs e is) [] with
    | none => none
    | some (acc, e2) => some (.fr (.lst acc), back (fzs e is) e2 is)
/-- where a comprehension stands between two turns -/
structure LcAt (K : PySem.W.Frag) (b : Base) (F1 : Hp) (σ : L2.St) (is : List Nat) (D : Addr) (F H : Hp) (env : Ev) (acc : List MP.D) : Prop where
  gd : Gd K b F (wipe σ is) H (blank env is)
  sm : Same F1 F
  ln : env.length = σ.length
  at_ : ∃ vs, H D = some (.lst vs) ∧ DnAll K F vs acc
  nf : F D = none
  no : ∀ i, ¬ OwnAt (blank env is) (wipe σ is) i D
theorem tLc_of {is : List Nat} {it : IF} {g : GF} {t : BF} {f : EF} {σ : L2.St} {H : Hp} {Q : VK} (q : tEv X.K (eLc is it g t f) σ H Q) : tLc (tIv X.K it) (tGc X.K is g) (tBv X.K t) (tEv X.K f) is σ H Q := by
  obtain ⟨b, F, env, r, env', gd, hf, k⟩ := q
  unfold eLc at hf
  split at hf
  · cases hf
  rename_i ds e1 h1
  split at hf
  · cases hf
  rename_i acc0 e2 h2
  cases hf
  refine ⟨b, F, env, ds, e1, gd, h1, fun J H1 F1 g1 s1 ok D hD => ?_⟩
  obtain ⟨F2, s2, g2, no2⟩ := g1.fzs is
  have h0D : b.H0 D = none := g1.h0 hD
  refine ⟨fun i m H => ∃ F3 env3 acc, m = ds.length - i ∧ LcAt X.K b F2 σ is D F3 H env3 acc ∧ lcF is g t f (ds.drop i) env3 acc = some (acc0, e2), ⟨ds.length, F2, fzs e1 is, [], rfl, ?_, h2⟩, ?_⟩
  · have gb := (g2.ext (Xt.fresh (o := .lst []) g2.same hD)).blank is
    refine ⟨gb, Same.refl _, g2.len, ⟨[], upd_same, .nil⟩, g2.same.free hD, fun i o => ?_⟩
    obtain ⟨⟨c, c1, c2⟩, _⟩ := id o
    obtain ⟨q, w, ⟨x, hx⟩, _⟩ := ((g2.blank is).cells i c c1).ownSome c2
    rw [o.join] at w; cases w
    rw [hD] at hx; cases hx
  · rintro i m H3 ⟨F3, env3, acc, rfl, at3, hw⟩
    obtain ⟨okS, okG⟩ := ok F3 H3 (s2.trans at3.sm) at3.gd.same
    cases q : ds[i]? with
    | none =>
      have hl := List.getElem?_eq_none_iff.mp q
      rw [List.drop_of_length_le hl] at hw
      cases hw
      refine .inl ⟨okS i hl, ?_⟩
      obtain ⟨vs, v1, v2⟩ := at3.at_
      have gk := at3.gd.back g2 at3.sm no2
      refine k _ H3 F3 gk ((s1.trans s2).trans at3.sm) ⟨D, rfl, ⟨vs, v1, v2⟩, at3.nf, h0D, fun j o => ?_⟩
      obtain ⟨⟨c, c1, c2⟩, c3⟩ := o
      rw [back_get] at c1
      by_cases e : j ∈ is
      · rw [if_pos e] at c1
        cases q3 : e2[j]? with
        | none => rw [q3] at c1; cases c1
        | some w =>
          rw [q3] at c1
          cases q4 : (fzs e1 is)[j]? with
          | none => rw [q4] at c1; cases c1; cases c2
          | some w4 => rw [q4] at c1; cases c1; rw [show (some w4).getD .un = w4 from rfl, no2 j e _ q4] at c2; cases c2
      · rw [if_neg e] at c1
        exact at3.no j ⟨⟨c, by rw [blank_get, if_neg e]; exact c1, c2⟩, by rw [wipe_get, if_neg e]; exact c3⟩
    | some d =>
      have hl := lt_of_get q
      rw [List.drop_eq_getElem_cons hl] at hw
      have hd : ds[i] = d := by rw [List.getElem?_eq_getElem hl] at q; exact Option.some.inj q
      rw [hd] at hw
      obtain ⟨go, yl⟩ := okG i d q
      refine .inr ⟨go, fun H => ∃ F3 env3 acc, LcAt X.K b F2 σ is D F3 H env3 acc ∧ lcF is g t f (ds.drop (i + 1)) env3 acc = some (acc0, e2), fun H' ⟨F4, e4, a4, l4, w4⟩ => ⟨ds.length - (i + 1), by omega, F4, e4, a4, rfl, l4, w4⟩, fun x H4 hy => ?_⟩
      obtain ⟨F4, xt, dn⟩ := yl x H4 hy
      have g4 := at3.gd.ext xt
      obtain ⟨vs, v1, v2⟩ := at3.at_
      have D4 : H4 D = some (.lst vs) := xt.hh _ _ v1
      have nf4 : F4 D = none := by
        cases w : F4 D with
        | none => rfl
        | some y =>
          rcases xt.nw D y w with z | z
          · rw [at3.nf] at z; cases z
          · rw [v1] at z; cases z
      unfold lcF at hw
      split at hw
      · cases hw
      rename_i e5 h5
      refine ⟨b.re F4 (wipe σ is) H4 (blank env3 is), F4, blank env3 is, d, e5, g4.re, dn, h5, fun σ5 H5 F5 g5 s5 w5 => ⟨w5.trans ?_, ?_⟩⟩
      · apply List.ext_getElem?
        intro j
        rw [wipe_get, wipe_get]
        by_cases e : j ∈ is
        · rw [if_pos e, if_pos e]
          cases σ[j]? <;> rfl
        · rw [if_neg e, if_neg e]
      have ww : wipe σ5 is = wipe σ is := w5.trans (by
        apply List.ext_getElem?
        intro j
        rw [wipe_get, wipe_get]
        by_cases e : j ∈ is
        · rw [if_pos e, if_pos e]
          cases σ[j]? <;> rfl
        · rw [if_neg e, if_neg e])
      have next : ∀ {F6 H6 : Hp} {e6 : Ev} {ac : List MP.D} {ws : List V}, Gd X.K (b.re F4 (wipe σ is) H4 (blank env3 is)) F6 σ5 H6 e6 → Same F4 F6 → (H6 D = some (.lst vs) → F6 D = none → DnAll X.K F6 ws ac → LcAt X.K b F2 σ is D F6 (upd H6 D (.lst ws)) e6 ac) ∧ H6 D = some (.lst vs) ∧ F6 D = none ∧ LcAt X.K b F2 σ is D F6 H6 e6 acc := fun {F6 H6 e6 ac ws} g6 s6 => by
        obtain ⟨k1, k2, k3⟩ := g4.kept g6 D4 at3.no
        have g7 := (g4.unre g6).blank is
        rw [ww] at g7
        have ln6 : e6.length = σ.length := by
          have := g7.len
          rw [blank_length, wipe_length] at this; exact this
        have no7 : ∀ j, ¬ OwnAt (blank e6 is) (wipe σ is) j D := fun j ⟨⟨c, c1, c2⟩, c3⟩ => by
          rw [blank_get] at c1
          by_cases e : j ∈ is
          · rw [if_pos e] at c1
            cases q6 : e6[j]? with
            | none => rw [q6] at c1; cases c1
            | some w => rw [q6] at c1; cases c1; cases c2
          · rw [if_neg e] at c1
            refine k3 j ⟨⟨c, c1, c2⟩, ?_⟩
            rw [← ww, wipe_get, if_neg e] at c3; exact c3
        have sm6 := (at3.sm.trans xt.ff).trans s6
        refine ⟨fun hD6 nF hA => ⟨g7.other nF h0D no7, sm6, ln6, ⟨ws, upd_same, hA⟩, nF, no7⟩, k1, k2 nf4, g7, sm6, ln6, ⟨vs, k1, (v2.mono xt.ff).mono s6⟩, k2 nf4, no7⟩
      cases q2 : t e5 with
      | none => rw [q2] at hw; cases hw
      | some re =>
        obtain ⟨kk, e6⟩ := re
        rw [q2] at hw
        refine ⟨_, F5, e5, kk, e6, g5, q2, fun H6 F6 g6 s6 => ?_⟩
        cases kk with
        | false => exact iteF ⟨F6, e6, acc, (next (ac := acc) (ws := vs) g6 (s5.trans s6)).2.2.2, hw⟩
        | true =>
          simp only at hw
          cases q3 : f e6 with
          | none => rw [q3] at hw; cases hw
          | some re =>
            obtain ⟨r7, e7⟩ := re
            rw [q3] at hw
            simp only at hw
            split at hw
            · rename_i hz
              refine iteT ⟨_, F6, e6, r7, e7, g6, q3, fun v H7 F7 g7 s7 rv => ?_⟩
              obtain ⟨F8, s8, g8, d8⟩ := rv.freeze g7
              have s48 := ((s5.trans s6).trans s7).trans s8
              obtain ⟨n1, n2, n3, n4⟩ := next (ac := acc ++ [r7.d]) (ws := vs ++ [v]) g8 s48
              have a8 := (v2.mono xt.ff).mono s48
              exact ⟨vs, n2, by rw [a8.length, SL_eq]; exact hz, F8, e7, _, n1 n2 n3 (a8.append (.cons d8 .nil)), hw⟩
            · cases hw
theorem q_lc {elt tg iter : Expr} {ifs : List Expr} {scope : Scope} (own : List (Str × Nat)) {is : List Nat} {it : IF} {g : GF} {t : BF} {f : EF} {pos : Pos} (hc : X.calm = true) (hN : X.N.Nodup) (hi : QI X tg iter it) (ok : BlkOk X.N X.env.scope scope own)
    (hg : ∀ (s : Shared) (H : Hp) (C : Addr) (cl : List (Str × Addr)) (fp : List Addr), QGc (X.blk s H scope (compEnvC scope cl C X.env) fp) is tg g) (ht : ∀ (s : Shared) (H : Hp) (C : Addr) (cl : List (Str × Addr)) (fp : List Addr), QTs (X.blk s H scope (compEnvC scope cl C X.env) fp) ifs t)
    (he : ∀ (s : Shared) (H : Hp) (C : Addr) (cl : List (Str × Addr)) (fp : List Addr), QE (X.blk s H scope (compEnvC scope cl C X.env) fp) elt f) (his : own.map (·.2) = is := by rfl) (hs : ∀ x, foldedSetIterable iter X.env x = pure x := by intro _; rfl) :
    QE X (.ListComp elt [⟨tg, iter, ifs, 0⟩] scope pos) (eLc is it g t f) := by
  subst his
  exact (pe_lc hc hN hi ok hg ht he hs).imp fun _ _ _ q => tLc_of q
theorem q_asgLc {i : Nat} {y : Str} {py : Pos} {elt tg iter : Expr} {ifs : List Expr} {scope : Scope} (own : List (Str × Nat)) {is : List Nat} {it : IF} {g : GF} {t : BF} {f : EF} {pos spos : Pos} (hc : X.calm = true) (hN : X.N.Nodup)
    (hsw : swapsWith (.ListComp elt [⟨tg, iter, ifs, 0⟩] scope pos) (some (.Name y py)) spos.line X.env = pure true) (hi : QI X tg iter it) (ok : BlkOk X.N X.env.scope scope own)
    (hg : ∀ (s : Shared) (H : Hp) (C : Addr) (cl : List (Str × Addr)) (fp : List Addr), QGc (X.blk s H scope (compEnvC scope cl C X.env) fp) is tg g) (ht : ∀ (s : Shared) (H : Hp) (C : Addr) (cl : List (Str × Addr)) (fp : List Addr), QTs (X.blk s H scope (compEnvC scope cl C X.env) fp) ifs t)
    (he : ∀ (s : Shared) (H : Hp) (C : Addr) (cl : List (Str × Addr)) (fp : List Addr), QE (X.blk s H scope (compEnvC scope cl C X.env) fp) elt f) (hy : X.N[i]? = some y := by rfl) (hyl : X.env.scope.names.lookup y = some .local := by rfl) (his : own.map (·.2) = is := by rfl) (hs : ∀ x, foldedSetIterable iter X.env x = pure x := by intro _; rfl) :
    QS X (.Assign [.Name y py] (.ListComp elt [⟨tg, iter, ifs, 0⟩] scope pos) spos) (sAsg i (eLc is it g t f)) := by
  subst his
  exact q_asgT (ps_setLc hc hN hy hyl hsw hi ok hg ht he hs) fun _ _ _ q => tLc_of q
end
end MP
namespace MP
open PySem PySem.Spec PyProof.Rows L2

/-! ### defs -/
/-- an argument: a datum, or an object lent -/
inductive Arg where
  | im (d : D) | bo (d : D)
def Arg.cell : Arg → C
  | .im d => .im d
  | .bo d => .bo d
def Arg.isBo : Arg → Bool
  | .bo _ => true
  | _ => false
abbrev Fn := List Arg → Option (R × List Arg)
def ArgOk (K : PySem.W.Frag) (F H : Hp) (v : V) : Arg → Prop
  | .im d => Dn K F v d
  | .bo d => ∃ p, v = .ref p ∧ OwnO K F H p d ∧ F p = none
def ArgBk (K : PySem.W.Frag) (F H : Hp) (v : V) : Arg → Prop
  | .im d => Dn K F v d ∧ ∃ p o, v = .ref p ∧ F p = some o
  | .bo d => ∃ p, v = .ref p ∧ OwnO K F H p d ∧ F p = none
def Bor (vs : List V) (args : List Arg) (i : Nat) (p : Addr) : Prop := (∃ d, args[i]? = some (.bo d)) ∧ vs[i]? = some (.ref p)
structure ArgsOk (K : PySem.W.Frag) (F H : Hp) (vs : List V) (args : List Arg) : Prop where
  len : vs.length = args.length
  each : ∀ (i : Nat) (v : V) (a : Arg), vs[i]? = some v → args[i]? = some a → ArgOk K F H v a
  dis : ∀ (i j : Nat) (p : Addr), Bor vs args i p → Bor vs args j p → i = j
/-- what a def promises: Φ of its arguments -/
def spOf (K : PySem.W.Frag) (n : Nat) (Φ : Fn) : Sp := fun vs H Q _ => ∃ F args r args', vs.length = n ∧ ArgsOk K F H vs args ∧ Ag F H ∧ Φ args = some (r, args') ∧
  ∀ v H' F', Same F F' → Ag F' H' → (∀ a o, F' a = some o → F a = some o ∨ H a = none ∨ ∃ i, Bor vs args i a) → (∀ a o, H a = some o → (∀ i, ¬ Bor vs args i a) → H' a = some o) →
    args'.length = args.length → (∀ (i : Nat) (w : V) (d : D) (a : Arg), vs[i]? = some w → args[i]? = some (.bo d) → args'[i]? = some a → ArgBk K F' H' w a) → RF K H F' H' v r → Q v H'
def env0 (n : Nat) (args : List Arg) : Ev := args.map Arg.cell ++ List.replicate (n - args.length) .un
/-- how the arguments' cells stand behind the body -/
def outs : List Arg → Ev → Option (List Arg)
  | [], _ => some []
  | .im d :: as, c :: e => match outs as e with
    | some r => some (.im d :: r)
    | none => none
  | .bo _ :: as, .bo d :: e => match outs as e with
    | some r => some (.bo d :: r)
    | none => none
  | .bo _ :: as, .bf d :: e => match outs as e with
    | some r => some (.im d :: r)
    | none => none
  | _, _ => none
theorem outs_get : ∀ {as as' : List Arg} {e : Ev}, outs as e = some as' → as'.length = as.length ∧ ∀ (i : Nat) (d : D) (a : Arg), as[i]? = some (.bo d) → as'[i]? = some a → (∃ d', a = .bo d' ∧ e[i]? = some (.bo d')) ∨ ∃ d', a = .im d' ∧ e[i]? = some (.bf d')
  | [], as', e, h => by cases h; exact ⟨rfl, fun i d a h => by simp at h⟩
  | .im d :: as, as', [], h => by cases h
  | .im d :: as, as', c :: e, h => by
    unfold outs at h
    split at h
    · rename_i r q
      cases h
      obtain ⟨l, k⟩ := outs_get q
      refine ⟨by simp [l], fun i d2 a h1 h2 => ?_⟩
      cases i with
      | zero => simp at h1
      | succ i => simpa using k i d2 a (by simpa using h1) (by simpa using h2)
    · cases h
  | .bo d :: as, as', [], h => by cases h
  | .bo d :: as, as', .un :: e, h => by cases h
  | .bo d :: as, as', .im _ :: e, h => by cases h
  | .bo d :: as, as', .ow _ :: e, h => by cases h
  | .bo d :: as, as', .bo d3 :: e, h => by
    unfold outs at h
    split at h
    · rename_i r q
      cases h
      obtain ⟨l, k⟩ := outs_get q
      refine ⟨by simp [l], fun i d2 a h1 h2 => ?_⟩
      cases i with
      | zero => simp at h2; exact .inl ⟨d3, h2.symm, rfl⟩
      | succ i => simpa using k i d2 a (by simpa using h1) (by simpa using h2)
    · cases h
  | .bo d :: as, as', .bf d3 :: e, h => by
    unfold outs at h
    split at h
    · rename_i r q
      cases h
      obtain ⟨l, k⟩ := outs_get q
      refine ⟨by simp [l], fun i d2 a h1 h2 => ?_⟩
      cases i with
      | zero => simp at h2; exact .inr ⟨d3, h2.symm, rfl⟩
      | succ i => simpa using k i d2 a (by simpa using h1) (by simpa using h2)
    · cases h
/-- a body run on arguments: n names -/
def runF (f : SF) (n : Nat) : Fn := fun args => match f (env0 n args) with
  | some (.nx, e) => match outs args e with
    | some r => some (.im .non, r)
    | none => none
  | some (.rt v, e) => match outs args e with
    | some r => some (v, r)
    | none => none
  | _ => none

section
variable {K : PySem.W.Frag}
theorem start_get {N : List Str} {vs : List V} {i : Nat} {v : V} (h : vs[i]? = some v) : (start N vs)[i]? = some (some v) := by
  have hl := lt_of_get h
  unfold L2.start
  rw [List.getElem?_append_left (by simpa using hl), List.getElem?_map, h]; rfl
noncomputable def baseOf (F H : Hp) (N : List Str) (vs : List V) (args : List Arg) : Base :=
  { F0 := F, H0 := fun a => by classical exact if ∃ i, Bor vs args i a then none else H a, σ0 := start N vs }
theorem baseOf_bor {F H : Hp} {N : List Str} {vs : List V} {args : List Arg} {i : Nat} {a : Addr} (h : Bor vs args i a) : (baseOf F H N vs args).H0 a = none := by
  unfold baseOf; simp only; rw [if_pos ⟨i, h⟩]
theorem baseOf_cases (F H : Hp) (N : List Str) (vs : List V) (args : List Arg) (a : Addr) : (∃ i, Bor vs args i a) ∨ ((∀ i, ¬ Bor vs args i a) ∧ (baseOf F H N vs args).H0 a = H a) := by
  by_cases h : ∃ i, Bor vs args i a
  · exact .inl h
  · refine .inr ⟨fun i q => h ⟨i, q⟩, ?_⟩
    unfold baseOf; simp only; rw [if_neg h]
theorem gd_start {F H : Hp} {N : List Str} {vs : List V} {args : List Arg} (ok : ArgsOk K F H vs args) (ag : Ag F H) (hn : vs.length ≤ N.length) : Gd K (baseOf F H N vs args) F (start N vs) H (env0 N.length args) := by
  have cellAt : ∀ (i : Nat) (c : C), (env0 N.length args)[i]? = some c → (∃ a, args[i]? = some a ∧ c = a.cell) ∨ c = .un := fun i c h => by
    unfold env0 at h
    by_cases hl : i < args.length
    · rw [List.getElem?_append_left (by simpa using hl), List.getElem?_map, List.getElem?_eq_getElem hl] at h
      exact .inl ⟨args[i], List.getElem?_eq_getElem hl, by simpa using h.symm⟩
    · rw [List.getElem?_append_right (by simpa using Nat.le_of_not_lt hl), List.getElem?_replicate] at h
      split at h
      · exact .inr (by simpa using h.symm)
      · cases h
  have bor : ∀ i p, OwnAt (env0 N.length args) (start N vs) i p → Bor vs args i p := fun i p ⟨⟨c, c1, c2⟩, c3⟩ => by
    rcases cellAt i c c1 with ⟨a, a1, rfl⟩ | rfl
    · cases a with
      | im d => cases c2
      | bo d =>
        have hl : i < vs.length := by rw [ok.len]; exact lt_of_get a1
        rw [start_get (List.getElem?_eq_getElem hl)] at c3
        refine ⟨⟨d, a1⟩, ?_⟩
        rw [List.getElem?_eq_getElem hl]; simpa using c3
    · cases c2
  refine ⟨?_, ag, fun i c h => ?_, fun i j p h1 h2 => ok.dis i j p (bor i p h1) (bor j p h2), fun a o h => ?_, fun a o h => .inl h⟩
  · have := ok.len
    unfold env0 L2.start; simp; omega
  · rcases cellAt i c h with ⟨a, a1, rfl⟩ | rfl
    · have hl : i < vs.length := by rw [ok.len]; exact lt_of_get a1
      have hv := List.getElem?_eq_getElem hl
      have e := ok.each i _ a hv a1
      have st : ((start N vs)[i]?).join = some vs[i] := by rw [start_get hv]; rfl
      cases a with
      | im d => exact ⟨_, st, e⟩
      | bo d =>
        obtain ⟨p, e1, e2, e3⟩ := e
        refine ⟨p, by rw [st, e1], e2, e3, baseOf_bor (i := i) ⟨⟨d, a1⟩, by rw [hv, e1]⟩, rfl⟩
    · trivial
  · rcases baseOf_cases F H N vs args a with ⟨i, q⟩ | ⟨_, q⟩
    · rw [baseOf_bor q] at h; cases h
    · rw [q] at h; exact h
/-- a def's promise, where no repr is under way and nothing is raised -/
structure FnG (P : Program) (w : World) (K : PySem.W.Frag) (mg : Str → Option Value) (base : Heap) (k : Nat) (f : Addr) (fd : FuncData) (ps : List Str) (sp : Sp) : Prop where
  len : ∀ vs H Q E, sp vs H Q E → vs.length = ps.length
  run : ∀ (A : Around) (outer : List Env) (s : Shared) (H : Hp) (args : Args) (us : List Value) (vs : List V) (Q : VK), Room k A → A.guards = some [] → Env0 P w K mg base A outer s H → BindsTo s fd args (ps.zip us) → Vals vs us → sp vs H Q E0 →
    codeAny (model P w) A (.call (.ref f) args) (CR CX0 outer P w H s Q E0) s
theorem FnG.mono {P : Program} {w : World} {mg : Str → Option Value} {base : Heap} {j k : Nat} {f : Addr} {fd : FuncData} {ps : List Str} {sp : Sp} (F : FnG P w K mg base j f fd ps sp) (h : j ≤ k) : FnG P w K mg base k f fd ps sp :=
  ⟨F.len, fun A outer s H args us vs Q hr => F.run A outer s H args us vs Q (hr.mono h)⟩
/-- what is around a body of ours -/
structure RG (k : Nat) (A : Around) : Prop where
  r : Room k A
  g : A.guards = some []
theorem RG.mono {j k : Nat} {A : Around} (r : RG k A) (h : j ≤ k) : RG j A := ⟨r.r.mono h, r.g⟩
/-- THE RULE: a def by its body's combinator -/
theorem fn_ok {P : Program} {w : World} {mg : Str → Option Value} {base : Heap} {x qual : Str} {st : Stmt} {f : Addr} {fd : FuncData} {N ps : List Str} {k : Nat} {code : SF} (Fu : Fun K x qual st f fd) (S : FnScope N ps (defScope st))
    (hb : ∀ (cdv : Value) (A : Around) (outer : List Env) (s : Shared) (H : Hp), RG k (A.deeper (envOfC qual (defScope st) s.heap.objs.size f cdv)) →
      QB (cxOf CX0 P w K mg base N qual (defScope st) f cdv A outer s H E0).nox (defBody st) code) : FnG P w K mg base (k + 1) f fd ps (spOf K ps.length (runF code N.length)) := by
  have hlen : ∀ vs H Q E, spOf K ps.length (runF code N.length) vs H Q E → vs.length = ps.length := fun vs H Q E ⟨_, _, _, _, h, _⟩ => h
  refine ⟨hlen, fun A outer s H ags us vs Q hr hgd e0 hbd rv hsp => ?_⟩
  obtain ⟨oc, od, kV, doc, pm, an, cdv, ct, osl, rfl, lk, hcd⟩ := Fu.ex
  have hl0 := hlen _ _ _ _ hsp
  have KX : K.In s.heap := e0.mod.kin.keeps fun b o e => (e0.bs b o e).1
  have lim : s.heap.NoLimit := e0.mod.nolimit.keeps fun b o e => (e0.bs b o e).1
  refine Att.call_fn KX lim lk hcd hr.depth hbd ?_ (fun s1 x => ?_) S.co S.gen S.kind
  · rw [List.all_eq_true]
    intro y hy
    rcases S.par y.1 (List.of_mem_zip hy).1 with q | q
    · rw [q]; rfl
    · rw [q]; rfl
  have I : Inv (cxOf CX0 P w K mg base N qual (defScope st) f cdv A outer s H E0).nox [] (start N vs) H s1 := (inv_start S hr.hd e0 hl0 rv x).wish _
  have main : tSv K code { nx := fun _ H' => Q .non H', rt := Q } (start N vs) H := by
    clear I
    have h := hsp
    obtain ⟨F, args, r, args', hl, ok, ag, hΦ, k⟩ := h
    have hpl : ps.length ≤ N.length := by have := congrArg List.length S.pre; rw [List.length_take] at this; omega
    have g0 := gd_start ok ag (N := N) (by omega)
    have fin : ∀ {v : V} {σ' : L2.St} {H' F' : Hp} {env' : Ev} {r : R} {args' : List Arg}, Gd K (baseOf F H N vs args) F' σ' H' env' → Same F F' → RV K (baseOf F H N vs args) F' H' σ' env' v r → outs args env' = some args' →
        (∀ v H' F', Same F F' → Ag F' H' → (∀ a o, F' a = some o → F a = some o ∨ H a = none ∨ ∃ i, Bor vs args i a) → (∀ a o, H a = some o → (∀ i, ¬ Bor vs args i a) → H' a = some o) →
          args'.length = args.length → (∀ (i : Nat) (w : V) (d : D) (a : Arg), vs[i]? = some w → args[i]? = some (.bo d) → args'[i]? = some a → ArgBk K F' H' w a) → RF K H F' H' v r → Q v H') → Q v H' := by
      intro v σ' H' F' env' r args' g s rv ho k
      obtain ⟨l1, l2⟩ := outs_get ho
      refine k v H' F' s g.same (fun a o h => ?_) (fun a o h nb => ?_) l1 (fun i w d a h1 h2 h3 => ?_) ?_
      · rcases g.new a o h with q | q
        · exact .inl q
        · rcases baseOf_cases F H N vs args a with ⟨i, z⟩ | ⟨_, z⟩
          · exact .inr (.inr ⟨i, z⟩)
          · rw [z] at q; exact .inr (.inl q)
      · rcases baseOf_cases F H N vs args a with ⟨i, z⟩ | ⟨_, z⟩
        · exact absurd z (nb i)
        · exact g.keep a o (by rw [z]; exact h)
      · have s0 : ((baseOf F H N vs args).σ0[i]?).join = some w := by
          show ((start N vs)[i]?).join = some w
          rw [start_get h1]; rfl
        rcases l2 i d a h2 h3 with ⟨d', rfl, hc⟩ | ⟨d', rfl, hc⟩
        · obtain ⟨p, q1, q2, q3, q4, q5⟩ := g.cells i _ hc
          rw [q1, s0] at q5
          exact ⟨p, Option.some.inj q5, q2, q3⟩
        · obtain ⟨v', q1, q2, q3, q4⟩ := g.cells i _ hc
          rw [q1, s0] at q3
          cases q3
          exact ⟨q2, q4⟩
      · cases r with
        | im d => exact rv
        | fr d =>
          obtain ⟨p, e, h1, h2, h3, h4⟩ := rv
          refine ⟨p, e, ?_, h2, h1⟩
          rcases baseOf_cases F H N vs args p with ⟨i, z⟩ | ⟨_, z⟩
          · exfalso
            obtain ⟨⟨d0, z1⟩, z2⟩ := id z
            have hl : i < args'.length := by rw [l1]; exact lt_of_get z1
            have s0 : ((baseOf F H N vs args).σ0[i]?).join = some (.ref p) := by
              show ((start N vs)[i]?).join = some (.ref p)
              rw [start_get z2]; rfl
            rcases l2 i d0 _ z1 (List.getElem?_eq_getElem hl) with ⟨d', _, hc⟩ | ⟨d', _, hc⟩
            · obtain ⟨p', q1, _, _, _, q5⟩ := g.cells i _ hc
              rw [q1, s0] at q5
              cases q5
              exact h4 i (OwnAt.of hc rfl q1)
            · obtain ⟨v', q1, q2, q3, p2, o2, q4, q5⟩ := g.cells i _ hc
              rw [q1, s0] at q3
              cases q3
              cases q4
              rw [h2] at q5; cases q5
          · rw [z] at h3; exact h3
    unfold runF at hΦ
    split at hΦ
    · rename_i e1 h1
      split at hΦ
      · rename_i rr h2
        cases hΦ
        exact ⟨baseOf F H N vs args, F, _, _, _, g0, h1, fun σ' H' F' g s => fin (r := .im .non) g s .non h2 k⟩
      · cases hΦ
    · rename_i v1 e1 h1
      split at hΦ
      · rename_i rr h2
        cases hΦ
        exact ⟨baseOf F H N vs args, F, _, _, _, g0, h1, fun v σ' H' F' g s rv => fin g s rv h2 k⟩
      · cases hΦ
    · cases hΦ
  refine wpAny_mono ((hb cdv A outer s H ⟨hr.deeper _, hgd⟩).run [] s1 (start N vs) H _ I main) (fun fl s' hs => ?_) fun e s' hs => hs.elim
  have fin : ∀ {σ' : L2.St} {H' : Hp} {v : V} {u : Value}, Inv (cxOf CX0 P w K mg base N qual (defScope st) f cdv A outer s H E0).nox [] σ' H' s' → RelV v u → Q v H' → CE outer P w H s Q u s' :=
    fun {σ' H' v u} J rv q => ⟨v, H', J.os, J.bare, J.base, J.hok, rv, q⟩
  cases fl with
  | ret u =>
    obtain ⟨v, σ', H', J, rv, q⟩ := hs
    exact fin J rv q
  | next =>
    obtain ⟨σ', H', J, q⟩ := hs
    exact fin (v := V.non) (u := Value.none) J rfl q
  | brk =>
    obtain ⟨_, _, _, q⟩ := hs
    exact False.elim q
  | cont =>
    obtain ⟨_, _, _, q⟩ := hs
    exact False.elim q
end

/-! ### the call of a def -/
def toArg (env : Ev) : P → Option Arg
  | .val d => some (.im d)
  | .slot i => match env[i]? with
    | some (.im d) => some (.im d)
    | some (.bf d) => some (.im d)
    | some (.ow d) => some (.bo d)
    | some (.bo d) => some (.bo d)
    | _ => none
def toArgs (env : Ev) : List P → Option (List Arg)
  | [] => some []
  | p :: ps => match toArg env p with
    | none => none
    | some a => match toArgs env ps with
      | none => none
      | some as => some (a :: as)
def C.back : C → Arg → C
  | .ow _, .bo d => .ow d
  | .ow _, .im d => .im d
  | .bo _, .bo d => .bo d
  | .bo _, .im d => .bf d
  | c, _ => c
/-- the lent objects come back -/
def writeB (env : Ev) : List P → List Arg → List Arg → Ev
  | .slot i :: ps, .bo _ :: as, b :: bs => match env[i]? with
    | some c => writeB (env.set i (c.back b)) ps as bs
    | none => writeB env ps as bs
  | _ :: ps, _ :: as, _ :: bs => writeB env ps as bs
  | _, _, _ => env
def lent : List P → List Arg → List Nat
  | .slot i :: ps, .bo _ :: as => i :: lent ps as
  | _ :: ps, _ :: as => lent ps as
  | _, _ => []
def apart : List Nat → Bool
  | [] => true
  | i :: is => !is.contains i && apart is
def eFn (Φ : Fn) (a : AF) : EF := fun env => match a env with
  | none => none
  | some (ps, e) => match toArgs e ps with
    | none => none
    | some args => if apart (lent ps args) then match Φ args with
      | none => none
      | some (r, args') => some (r, writeB e ps args args')
      else none

def wbAt (j : Nat) : List P → List Arg → List Arg → Option Arg
  | .slot i :: ps, .bo _ :: as, b :: bs => if i = j then some b else wbAt j ps as bs
  | .slot _ :: ps, .im _ :: as, _ :: bs => wbAt j ps as bs
  | .val _ :: ps, _ :: as, _ :: bs => wbAt j ps as bs
  | _, _, _ => none
theorem wb_none {j : Nat} : ∀ {ps : List P} {as bs : List Arg}, j ∉ lent ps as → wbAt j ps as bs = none
  | [], _, _, _ => by simp [wbAt]
  | .slot i :: ps, [], _, _ => by simp [wbAt]
  | .slot i :: ps, .im d :: as, [], _ => by simp [wbAt]
  | .slot i :: ps, .im d :: as, b :: bs, h => by
    simp only [wbAt]; exact wb_none (by simpa [lent] using h)
  | .slot i :: ps, .bo d :: as, [], _ => by simp [wbAt]
  | .slot i :: ps, .bo d :: as, b :: bs, h => by
    simp only [lent, List.mem_cons, not_or] at h
    simp only [wbAt]
    rw [if_neg (Ne.symm h.1)]
    exact wb_none h.2
  | .val d :: ps, [], _, _ => by simp [wbAt]
  | .val d :: ps, a :: as, [], _ => by simp [wbAt]
  | .val d :: ps, a :: as, b :: bs, h => by
    simp only [wbAt]; exact wb_none (by simpa [lent] using h)
theorem wb_get {j : Nat} : ∀ {ps : List P} {as bs : List Arg} {env : Ev}, apart (lent ps as) = true → (writeB env ps as bs)[j]? = match wbAt j ps as bs with
    | some b => (env[j]?).map (·.back b)
    | none => env[j]?
  | [], _, _, _, _ => by simp [wbAt, writeB]
  | .slot i :: ps, [], _, _, _ => by simp [wbAt, writeB]
  | .slot i :: ps, .im d :: as, [], _, _ => by simp [wbAt, writeB]
  | .slot i :: ps, .im d :: as, b :: bs, env, h => by
    simp only [wbAt, writeB]; exact wb_get (by simpa [lent] using h)
  | .slot i :: ps, .bo d :: as, [], _, _ => by simp [wbAt, writeB]
  | .slot i :: ps, .bo d :: as, b :: bs, env, h => by
    simp only [lent, apart, Bool.and_eq_true, Bool.not_eq_true'] at h
    have hn : i ∉ lent ps as := by
      intro q
      have := List.contains_iff_mem.mpr q
      rw [h.1] at this; cases this
    simp only [wbAt, writeB]
    cases q : env[i]? with
    | none =>
      simp only
      rw [wb_get h.2]
      by_cases e : i = j
      · subst e; rw [if_pos rfl, wb_none hn, q]; rfl
      · rw [if_neg e]
    | some c =>
      simp only
      rw [wb_get h.2]
      have hl := lt_of_get q
      by_cases e : i = j
      · subst e; rw [if_pos rfl, wb_none hn, List.getElem?_set_self hl, q]; rfl
      · rw [if_neg e, List.getElem?_set_ne e]
  | .val d :: ps, [], _, _, _ => by simp [wbAt, writeB]
  | .val d :: ps, a :: as, [], _, _ => by simp [wbAt, writeB]
  | .val d :: ps, a :: as, b :: bs, env, h => by
    simp only [wbAt, writeB]; exact wb_get (by simpa [lent] using h)
theorem wb_some {j : Nat} {b : Arg} : ∀ {ps : List P} {as bs : List Arg}, wbAt j ps as bs = some b → ∃ (i : Nat), ps[i]? = some (P.slot j) ∧ (∃ d, as[i]? = some (Arg.bo d)) ∧ bs[i]? = some b
  | [], _, _, h => by simp [wbAt] at h
  | .slot i :: ps, [], _, h => by simp [wbAt] at h
  | .slot i :: ps, .im d :: as, [], h => by simp [wbAt] at h
  | .slot i :: ps, .im d :: as, c :: bs, h => by
    simp only [wbAt] at h
    obtain ⟨k, a1, a2, a3⟩ := wb_some h
    exact ⟨k + 1, by simpa using a1, by simpa using a2, by simpa using a3⟩
  | .slot i :: ps, .bo d :: as, [], h => by simp [wbAt] at h
  | .slot i :: ps, .bo d :: as, c :: bs, h => by
    simp only [wbAt] at h
    by_cases e : i = j
    · subst e
      rw [if_pos rfl] at h
      cases h
      exact ⟨0, rfl, ⟨d, rfl⟩, rfl⟩
    · rw [if_neg e] at h
      obtain ⟨k, a1, a2, a3⟩ := wb_some h
      exact ⟨k + 1, by simpa using a1, by simpa using a2, by simpa using a3⟩
  | .val d :: ps, [], _, h => by simp [wbAt] at h
  | .val d :: ps, a :: as, [], h => by simp [wbAt] at h
  | .val d :: ps, a :: as, c :: bs, h => by
    simp only [wbAt] at h
    obtain ⟨k, a1, a2, a3⟩ := wb_some h
    exact ⟨k + 1, by simpa using a1, by simpa using a2, by simpa using a3⟩
theorem wb_lent {j : Nat} {d : D} : ∀ {i : Nat} {ps : List P} {as bs : List Arg}, ps[i]? = some (.slot j) → as[i]? = some (.bo d) → bs.length = as.length → wbAt j ps as bs ≠ none
  | _, [], _, _, h, _, _ => by simp at h
  | _, _ :: _, [], _, _, h, _ => by simp at h
  | _, _ :: _, _ :: _, [], _, _, h => by simp at h
  | 0, p :: ps, a :: as, b :: bs, h1, h2, _ => by
    simp at h1 h2; subst h1; subst h2
    simp [wbAt]
  | i + 1, .slot k :: ps, .bo _ :: as, b :: bs, h1, h2, h3 => by
    simp only [wbAt]
    by_cases e : k = j
    · rw [if_pos e]; exact fun h => nomatch h
    · rw [if_neg e]; exact wb_lent (i := i) (by simpa using h1) (by simpa using h2) (by simpa using h3)
  | i + 1, .slot k :: ps, .im _ :: as, b :: bs, h1, h2, h3 => by
    simp only [wbAt]; exact wb_lent (i := i) (by simpa using h1) (by simpa using h2) (by simpa using h3)
  | i + 1, .val _ :: ps, _ :: as, b :: bs, h1, h2, h3 => by
    simp only [wbAt]; exact wb_lent (i := i) (by simpa using h1) (by simpa using h2) (by simpa using h3)
theorem writeB_length : ∀ {ps : List P} {as bs : List Arg} {env : Ev}, (writeB env ps as bs).length = env.length
  | [], _, _, _ => by simp [writeB]
  | .slot i :: ps, [], _, _ => by simp [writeB]
  | .slot i :: ps, .im d :: as, [], _ => by simp [writeB]
  | .slot i :: ps, .im d :: as, b :: bs, env => by simp only [writeB]; exact writeB_length
  | .slot i :: ps, .bo d :: as, [], _ => by simp [writeB]
  | .slot i :: ps, .bo d :: as, b :: bs, env => by
    simp only [writeB]
    split
    · rw [writeB_length, List.length_set]
    · exact writeB_length
  | .val d :: ps, [], _, _ => by simp [writeB]
  | .val d :: ps, a :: as, [], _ => by simp [writeB]
  | .val d :: ps, a :: as, b :: bs, env => by simp only [writeB]; exact writeB_length
theorem toArgs_get {env : Ev} : ∀ {ps : List P} {as : List Arg}, toArgs env ps = some as → as.length = ps.length ∧ ∀ (i : Nat) (p : P) (a : Arg), ps[i]? = some p → as[i]? = some a → toArg env p = some a
  | [], as, h => by cases h; exact ⟨rfl, fun i p a h => by simp at h⟩
  | p :: ps, as, h => by
    unfold toArgs at h
    split at h
    · cases h
    rename_i a h1
    split at h
    · cases h
    rename_i as2 h2
    cases h
    obtain ⟨l, k⟩ := toArgs_get h2
    refine ⟨by simp [l], fun i q b e1 e2 => ?_⟩
    cases i with
    | zero => simp at e1 e2; subst e1; subst e2; exact h1
    | succ i => exact k i q b (by simpa using e1) (by simpa using e2)
theorem PVals.get {K : PySem.W.Frag} {F : Hp} {σ : L2.St} : ∀ {vs : List V} {ps : List P} {i : Nat} {v : V} {p : P}, PVals K F σ vs ps → vs[i]? = some v → ps[i]? = some p → PVal K F σ v p
  | _, _, _, _, _, .nil, h, _ => by simp at h
  | _, _, 0, _, _, .cons h _, e1, e2 => by simp at e1 e2; subst e1; subst e2; exact h
  | _, _, i + 1, _, _, .cons _ t, e1, e2 => PVals.get t (i := i) (by simpa using e1) (by simpa using e2)
theorem PVals.length {K : PySem.W.Frag} {F : Hp} {σ : L2.St} : ∀ {vs : List V} {ps : List P}, PVals K F σ vs ps → vs.length = ps.length
  | _, _, .nil => rfl
  | _, _, .cons _ t => by simp [PVals.length t]
/-- an own cell that was lent -/
theorem toArg_bo {env : Ev} {p : P} {d : D} (h : toArg env p = some (.bo d)) : ∃ i c, p = .slot i ∧ env[i]? = some c ∧ c.own = true ∧ (c = .ow d ∨ c = .bo d) := by
  cases p with
  | val d => cases h
  | slot i =>
    unfold toArg at h
    simp only at h
    split at h
    · cases h
    · cases h
    · rename_i d' q; cases h; exact ⟨i, _, rfl, q, rfl, .inl rfl⟩
    · rename_i d' q; cases h; exact ⟨i, _, rfl, q, rfl, .inr rfl⟩
    · cases h
section
variable {X : Cx}
theorem call_of {n : Nat} {Φ : Fn} {a : AF} {σ : L2.St} {H : Hp} {Q : VK} {E : XK} (q : tEv X.K (eFn Φ a) σ H Q) (hn : ∀ env ps env', a env = some (ps, env') → ps.length = n) : tCall (spOf X.K n Φ) [] E (tAv X.K a) σ H Q := by
  obtain ⟨b, F, env, res, env', g, hf, k⟩ := q
  unfold eFn at hf
  split at hf
  · cases hf
  rename_i ps e1 h1
  split at hf
  · cases hf
  rename_i args h2
  split at hf
  · rename_i hap
    split at hf
    · cases hf
    rename_i r args' h3
    cases hf
    refine ⟨b, F, env, ps, e1, g, h1, fun vs H1 F1 g1 s1 pv => ?_⟩
    show spOf X.K n Φ (vs ++ []) H1 Q E
    rw [List.append_nil]
    obtain ⟨la, ga⟩ := toArgs_get h2
    have lp := pv.length
    have bor : ∀ i p, Bor vs args i p → ∃ j, ps[i]? = some (P.slot j) ∧ OwnAt e1 σ j p := fun i p ⟨⟨d, b1⟩, b2⟩ => by
      have hl : i < ps.length := by rw [← la]; exact lt_of_get b1
      have hp := List.getElem?_eq_getElem hl
      obtain ⟨j, c, e, c1, c2, _⟩ := toArg_bo (ga i _ _ hp b1)
      refine ⟨j, by rw [hp, e], OwnAt.of c1 c2 ?_⟩
      have := pv.get b2 hp
      rw [e] at this; exact this
    have slot_dis : ∀ (i j m : Nat), ps[i]? = some (P.slot m) → ps[j]? = some (P.slot m) → (∃ d, args[i]? = some (Arg.bo d)) → (∃ d, args[j]? = some (Arg.bo d)) → i = j := by
      have gen : ∀ (ps : List P) (args : List Arg), apart (lent ps args) = true → ∀ (i m : Nat), ps[i]? = some (P.slot m) → (∃ d, args[i]? = some (Arg.bo d)) → m ∈ lent ps args := by
        intro ps
        induction ps with
        | nil => intro _ _ i m h; simp at h
        | cons p ps ih =>
          intro args hap i m hi hd
          cases args with
          | nil => obtain ⟨d, h⟩ := hd; simp at h
          | cons a args =>
            cases i with
            | zero =>
              simp at hi hd; subst hi
              obtain ⟨d, rfl⟩ := hd
              simp [lent]
            | succ i =>
              have ih2 : apart (lent ps args) = true → m ∈ lent ps args := fun h => ih args h i m (by simpa using hi) (by simpa using hd)
              cases p with
              | val _ => cases a <;> exact ih2 (by simpa [lent] using hap)
              | slot k =>
                cases a with
                | im _ => exact ih2 (by simpa [lent] using hap)
                | bo _ =>
                  simp only [lent, apart, Bool.and_eq_true] at hap
                  exact List.mem_cons_of_mem _ (ih2 hap.2)
      have main : ∀ (ps : List P) (args : List Arg), apart (lent ps args) = true → ∀ (i j m : Nat), ps[i]? = some (P.slot m) → ps[j]? = some (P.slot m) → (∃ d, args[i]? = some (Arg.bo d)) → (∃ d, args[j]? = some (Arg.bo d)) → i = j := by
        intro ps
        induction ps with
        | nil => intro _ _ i j m h; simp at h
        | cons p ps ih =>
          intro args hap i j m hi hj di dj
          cases args with
          | nil => obtain ⟨d, h⟩ := di; simp at h
          | cons a args =>
            have tl : apart (lent ps args) = true := by
              cases p with
              | val _ => cases a <;> simpa [lent] using hap
              | slot k =>
                cases a with
                | im _ => simpa [lent] using hap
                | bo _ => simp only [lent, apart, Bool.and_eq_true] at hap; exact hap.2
            have hd : ∀ (j m : Nat), (p :: ps)[0]? = some (P.slot m) → (∃ d, (a :: args)[0]? = some (Arg.bo d)) → ps[j]? = some (P.slot m) → (∃ d, args[j]? = some (Arg.bo d)) → False := fun j' m' h0 d0 hj' dj' => by
              simp at h0 d0; subst h0
              obtain ⟨d, rfl⟩ := d0
              simp only [lent, apart, Bool.and_eq_true, Bool.not_eq_true'] at hap
              have := List.contains_iff_mem.mpr (gen ps args hap.2 j' m' hj' dj')
              rw [hap.1] at this; cases this
            cases i with
            | zero =>
              cases j with
              | zero => rfl
              | succ j => exact (hd j m hi di (by simpa using hj) (by simpa using dj)).elim
            | succ i =>
              cases j with
              | zero => exact (hd i m hj dj (by simpa using hi) (by simpa using di)).elim
              | succ j => rw [ih args tl i j m (by simpa using hi) (by simpa using hj) (by simpa using di) (by simpa using dj)]
      exact main ps args hap
    refine ⟨F1, args, res, args', lp.trans (hn _ _ _ h1), ⟨by rw [la, lp], fun i v x hv hx => ?_, fun i j p h h' => ?_⟩, g1.same, h3, fun v H' F' sF ag nw kp len' each rf => ?_⟩
    · have hl : i < ps.length := by rw [← la]; exact lt_of_get hx
      have hp := List.getElem?_eq_getElem hl
      have ta := ga i _ _ hp hx
      have pvi := pv.get hv hp
      cases hpi : ps[i] with
      | val d => rw [hpi] at ta pvi; cases ta; exact pvi
      | slot j =>
        rw [hpi] at ta pvi
        unfold toArg at ta
        simp only at ta
        have pj : σ[j]?.join = some v := pvi
        split at ta
        · rename_i d q; cases ta; obtain ⟨w, e, k⟩ := g1.cells j _ q; rw [pj] at e; cases e; exact k
        · rename_i d q; cases ta; obtain ⟨w, e, k, _⟩ := g1.cells j _ q; rw [pj] at e; cases e; exact k
        · rename_i d q; cases ta; obtain ⟨w, e, k, k2, _⟩ := g1.cells j _ q; rw [pj] at e; cases e; exact ⟨w, rfl, k, k2⟩
        · rename_i d q; cases ta; obtain ⟨w, e, k, k2, _⟩ := g1.cells j _ q; rw [pj] at e; cases e; exact ⟨w, rfl, k, k2⟩
        · cases ta
    · obtain ⟨m1, p1, o1⟩ := bor i p h
      obtain ⟨m2, p2, o2⟩ := bor j p h'
      have := g1.dis m1 m2 p o1 o2
      subst this
      exact slot_dis i j m1 p1 p2 h.1 h'.1
    · have len2 : (writeB e1 ps args args').length = e1.length := writeB_length
      have own2 : ∀ j p, OwnAt (writeB e1 ps args args') σ j p → OwnAt e1 σ j p := fun j p ⟨⟨c, c1, c2⟩, c3⟩ => by
        rw [wb_get hap] at c1
        split at c1
        · rename_i bb hb
          cases q : e1[j]? with
          | none => rw [q] at c1; cases c1
          | some c0 =>
            rw [q] at c1
            cases c1
            refine ⟨⟨c0, q, ?_⟩, c3⟩
            cases c0 <;> cases bb <;> first | rfl | (exact c2)
        · exact ⟨⟨c, c1, c2⟩, c3⟩
      have g2 : Gd X.K b F' σ H' (writeB e1 ps args args') := by
        refine ⟨len2.trans g1.len, ag, fun j c hc => ?_, fun i j p h1 h2 => g1.dis i j p (own2 i p h1) (own2 j p h2), fun a o h => ?_, fun a o h => ?_⟩
        · rw [wb_get hap] at hc
          split at hc
          · rename_i bb hb
            obtain ⟨i, i1, ⟨d0, i2⟩, i3⟩ := wb_some hb
            have hvl : i < vs.length := by rw [lp]; exact lt_of_get i1
            have hv := List.getElem?_eq_getElem hvl
            have pj : σ[j]?.join = some vs[i] := pv.get hv i1
            have ao := each i _ d0 bb hv i2 i3
            obtain ⟨j', c0, e, q, c0o, c0d⟩ := toArg_bo (ga i _ _ i1 i2)
            cases e
            rw [q] at hc
            cases hc
            have ck := g1.cells j _ q
            rcases c0d with rfl | rfl
            · obtain ⟨p, e1', e2', e3', e4'⟩ := ck
              rw [pj] at e1'
              cases bb with
              | im d =>
                exact ⟨_, pj, ao.1⟩
              | bo d =>
                obtain ⟨p2, f1, f2, f3⟩ := ao
                refine ⟨p2, by rw [pj, f1], f2, f3, ?_⟩
                rw [f1] at e1'; cases e1'; exact e4'
            · obtain ⟨p, e1', e2', e3', e4', e5'⟩ := ck
              have pj' := pj
              rw [pj] at e1'
              cases bb with
              | im d =>
                exact ⟨_, pj, ao.1, e5', ao.2⟩
              | bo d =>
                obtain ⟨p2, f1, f2, f3⟩ := ao
                refine ⟨p2, by rw [pj, f1], f2, f3, ?_, e5'⟩
                rw [f1] at e1'; cases e1'; exact e4'
          · rename_i hb
            refine (g1.cells j c hc).mono sF fun p hw ho => ?_
            obtain ⟨p', w, ⟨o, ho1⟩, hF, hB⟩ := (g1.cells j c hc).ownSome ho
            rw [hw] at w; cases w
            have nb : ∀ i, ¬ Bor vs args i p := fun i bi => by
              obtain ⟨m, m1, m2⟩ := bor i p bi
              have : m = j := g1.dis m j p m2 (OwnAt.of hc ho hw)
              subst this
              obtain ⟨⟨d0, z1⟩, _⟩ := bi
              exact wb_lent m1 z1 len' hb
            refine ⟨ho1.trans (kp p o ho1 nb).symm, fun _ => ?_⟩
            cases z : F' p with
            | none => rfl
            | some x =>
              rcases nw p x z with y | y | ⟨i, y⟩
              · rw [hF] at y; cases y
              · rw [ho1] at y; cases y
              · exact absurd y (nb i)
        · refine kp a o (g1.keep a o h) fun i bi => ?_
          obtain ⟨m, _, m2⟩ := bor i a bi
          rw [(g1.own0 m2).1] at h; cases h
        · rcases nw a o h with y | y | ⟨i, y⟩
          · exact g1.new a o y
          · exact .inr (g1.h0 y)
          · obtain ⟨m, _, m2⟩ := bor i a y
            exact .inr (g1.own0 m2).1
      refine k v H' F' g2 (s1.trans sF) ?_
      cases res with
      | im d => exact rf
      | fr d =>
        obtain ⟨p, e, f1, f2, f3⟩ := rf
        refine ⟨p, e, f3, f2, g1.h0 f1, fun j o => ?_⟩
        obtain ⟨⟨c, c1, c2⟩, _⟩ := own2 j p o
        obtain ⟨q, w, ⟨x, hx⟩, _⟩ := (g1.cells j c c1).ownSome c2
        rw [o.join] at w; cases w
        rw [f1] at hx; cases hx
  · cases hf
end
end MP
namespace MP
open PySem PySem.Spec PyProof.Rows L2
theorem al_nil : ∀ (env : Ev) (ps : List P) (env' : Ev), aNil env = some (ps, env') → ps.length = 0 := fun env ps env' h => by cases h; rfl
theorem al_cons {p : PF} {a : AF} {n : Nat} (h : ∀ (env : Ev) (ps : List P) (env' : Ev), a env = some (ps, env') → ps.length = n) : ∀ (env : Ev) (ps : List P) (env' : Ev), aCons p a env = some (ps, env') → ps.length = n + 1 := fun env ps env' q => by
  unfold aCons at q
  split at q
  · cases q
  split at q
  · cases q
  rename_i xs e2 h2
  cases q
  rw [List.length_cons, h _ _ _ h2]
/-- a def of the module that keeps its promise -/
structure DefOk (P : Program) (w : World) (K : PySem.W.Frag) (mg : Str → Option Value) (base : Heap) (x : Str) (ps : List Str) (k : Nat) (Φ : Fn) : Prop where
  ex : ∃ (f : Addr) (fd : FuncData), mg x = some (.ref f) ∧ PySem.W.keepIn K (.ref f) = true ∧ Binds K fd ps [] ∧ FnG P w K mg base k f fd ps (spOf K ps.length Φ)
theorem DefOk.mono {P : Program} {w : World} {K : PySem.W.Frag} {mg : Str → Option Value} {base : Heap} {x : Str} {ps : List Str} {j k : Nat} {Φ : Fn} (h : DefOk P w K mg base x ps j Φ) (hk : j ≤ k) : DefOk P w K mg base x ps k Φ := by
  obtain ⟨f, fd, h1, h2, h3, h4⟩ := h.ex
  exact ⟨f, fd, h1, h2, h3, h4.mono hk⟩
section
variable {X : Cx}
theorem q_fn {x : Str} {ps : List Str} {k n : Nat} {Φ : Fn} {a : AF} {e : Expr} {es : List Expr} {p pos : Pos} (h : DefOk X.prog X.w X.K X.mg X.base x ps k Φ) (hr : RG k X.A) (ha : QA X (e :: es) a)
    (hn : ∀ (env : Ev) (ps : List P) (env' : Ev), a env = some (ps, env') → ps.length = n) (hl : n = ps.length := by rfl) (hg : Gl X x := by rfl) (hdb : (x == ("__debug__" : Str)) = false := by decide)
    (he : starEach (e :: es) X.env = (false, eval e X.env) :: starEach es X.env := by rfl) (hpl : (backTo pos (starEach es X.env)).any (·.1) = false := by rfl) : QE X (.Call (.Name x p) (e :: es) [] pos) (eFn Φ a) := by
  obtain ⟨f, fd, h1, h2, h3, h4⟩ := h.ex
  refine PE.imp (t := tCall (spOf X.K ps.length Φ) [] E0 (tAv X.K a)) ⟨fun pins s σ H Q I q => ?_⟩ fun σ H Q q => call_of q (fun env ps env' z => by rw [hn env ps env' z, hl])
  refine wpAny_Call_Name_kw (ld_glob I hg h1 (PySem.W.callWith_K (h₀ := X.base) I.ok.mod.kin h2 (thn (ha.run pos pins s σ H _ I q) fun us s1 ⟨vs, H1, I1, r, q1⟩ => ⟨I1.kIn, ?_⟩) he hpl) hdb)
  have q1 : spOf X.K ps.length Φ (vs ++ []) H1 Q E0 := q1
  rw [List.append_nil] at q1
  have r2 : Vals vs us := r
  have hlu : (us ++ ([] : List Value)).length = ps.length := by rw [List.append_nil, ← r2.length]; exact h4.len _ _ _ _ q1
  have bd := h3 s1 us I1.kIn hlu
  rw [List.append_nil] at bd
  show wpAny _ _ (call (.ref f) ([] ++ us)) _ _ s1
  rw [List.nil_append]
  refine wpAny_call (codeAny_mono (h4.run X.A X.stack s1 H1 ⟨us, []⟩ us vs Q hr.r hr.g I1.env0 bd r2 q1) fun rs s' hq => ?_)
  cases rs with
  | error e => exact False.elim hq
  | ok fl =>
    cases fl with
    | ret u => exact I1.after hq
    | next => exact False.elim hq
    | brk => exact False.elim hq
    | cont => exact False.elim hq

/-! ### values that are known to be ints, texts, .. -/
theorem RdD.str_inv {K : PySem.W.Frag} {F H : Hp} {v : V} {x : Tx} (h : RdD K F H v (.str x)) : v = .str (S x) := by
  rcases h with h | ⟨p, _, h⟩
  · cases h; rfl
  · exact h.elim
theorem RdD.bl_inv {K : PySem.W.Frag} {F H : Hp} {v : V} {x : Bool} (h : RdD K F H v (.bl x)) : v = .bl x := by
  rcases h with h | ⟨p, _, h⟩
  · cases h; rfl
  · exact h.elim
theorem RdD.ty_inv {K : PySem.W.Frag} {F H : Hp} {v : V} {x : String} (h : RdD K F H v (.ty x)) : v = .ty x := by
  rcases h with h | ⟨p, _, h⟩
  · cases h; rfl
  · exact h.elim
theorem RdD.non_inv {K : PySem.W.Frag} {F H : Hp} {v : V} (h : RdD K F H v .non) : v = .non := by
  rcases h with h | ⟨p, _, h⟩
  · cases h; rfl
  · exact h.elim
theorem RdD.tup_inv {K : PySem.W.Frag} {F H : Hp} {v : V} {ds : List D} (g : Ag F H) (h : RdD K F H v (.tup ds)) : ∃ a vs, v = .ref a ∧ SqT K F a vs ∧ SqT K H a vs ∧ DnAll K F vs ds := by
  rcases h with h | ⟨p, _, h⟩
  · cases h with
    | tup h1 h2 => exact ⟨_, _, rfl, h1, g.t h1, h2⟩
  · exact h.elim
theorem RdD.lst_inv {K : PySem.W.Frag} {F H : Hp} {v : V} {ds : List D} (g : Ag F H) (h : RdD K F H v (.lst ds)) : ∃ a vs, v = .ref a ∧ H a = some (.lst vs) ∧ DnAll K F vs ds := by
  rcases h with h | ⟨p, rfl, vs, h1, h2⟩
  · cases h with
    | lst h1 h2 => exact ⟨_, _, rfl, g.lst h1, h2⟩
  · exact ⟨_, _, rfl, h1, h2⟩
theorem RdD.fz_inv {K : PySem.W.Frag} {F H : Hp} {v : V} {ds : List D} (g : Ag F H) (h : RdD K F H v (.fz ds)) : ∃ a vs, v = .ref a ∧ SqL K H a vs ∧ DnAll K F vs ds := by
  rcases h with h | ⟨p, _, h⟩
  · cases h with
    | fz h1 h2 => exact ⟨_, _, rfl, g.l h1, h2⟩
  · exact h.elim
theorem RdD.dk_inv {K : PySem.W.Frag} {F H : Hp} {v : V} {kvs : List (Ky × D)} (g : Ag F H) (h : RdD K F H v (.dk kvs)) : ∃ a ks, v = .ref a ∧ Rd H a (.dK ks) ∧ KvAll K F ks kvs := by
  rcases h with h | ⟨p, rfl, vs, h1, h2⟩
  · cases h with
    | dk h1 h2 => exact ⟨_, _, rfl, g.rd h1, h2⟩
  · exact ⟨_, _, rfl, .inl h1, h2⟩
/-- sequences -/
def D.seq : D → Option (List D)
  | .lst ds => some ds
  | .tup ds => some ds
  | .fz ds => some ds
  | _ => none
theorem RdD.seq_inv {K : PySem.W.Frag} {F H : Hp} {v : V} {d : D} {ds : List D} (g : Ag F H) (h : RdD K F H v d) (e : d.seq = some ds) : ∃ a vs, v = .ref a ∧ (SqL K H a vs ∨ SqT K H a vs) ∧ DnAll K F vs ds := by
  cases d <;> cases e
  · obtain ⟨a, vs, h1, _, h2, h3⟩ := h.tup_inv g; exact ⟨a, vs, h1, .inr h2, h3⟩
  · obtain ⟨a, vs, h1, h2, h3⟩ := h.lst_inv g; exact ⟨a, vs, h1, .inl (.of h2), h3⟩
  · obtain ⟨a, vs, h1, h2, h3⟩ := h.fz_inv g; exact ⟨a, vs, h1, .inl h2, h3⟩

/-! ### whole numbers -/
def fInt (f : Int → Int → Option D) : D → D → Option R := fun x y => match x, y with
  | .int i, .int j => match f i j with
    | some d => some (.im d)
    | none => none
  | _, _ => none
theorem ok_int {K : PySem.W.Frag} {C : Int → Int → Prop} {g : Int → Int → V} {f : Int → Int → Option D} (h : ∀ i j d, f i j = some d → C i j ∧ d.flat = true ∧ g i j = d.v) :
    OpOk K (fun x y H Q => ∃ i j, x = .int i ∧ y = .int j ∧ C i j ∧ Q (g i j) H) (fInt f) := fun F H x y dx dy res Q ag hx hy e k => by
  unfold fInt at e
  split at e
  · rename_i i j
    split at e
    · rename_i d q
      cases e
      obtain ⟨h1, h2, h3⟩ := h i j d q
      refine ⟨i, j, hx.int_inv, hy.int_inv, h1, ?_⟩
      rw [h3]
      exact k _ H F (Xt.refl ag) (Dn.flat h2)
    · cases e
  · cases e
theorem ok_int0 {K : PySem.W.Frag} {g : Int → Int → V} {f : Int → Int → D} (h : ∀ i j, (f i j).flat = true ∧ g i j = (f i j).v) :
    OpOk K (rI0 g) (fInt fun i j => some (f i j)) := fun F H x y dx dy res Q ag hx hy e k => by
  obtain ⟨i, j, h1, h2, _, h3⟩ := ok_int (K := K) (C := fun _ _ => True) (g := g) (f := fun i j => some (f i j)) (fun i j d q => by cases q; exact ⟨trivial, (h i j).1, (h i j).2⟩) F H x y dx dy res Q ag hx hy e k
  exact ⟨i, j, h1, h2, h3⟩
abbrev fSub := fInt fun i j => some (.int (i - j))
abbrev fMul := fInt fun i j => if i.natAbs < 18446744073709551616 ∨ j.natAbs < 18446744073709551616 then some (.int (i * j)) else none
abbrev fDiv := fInt fun i j => if 0 < j ∧ j < 1073741824 then some (.int (i / j)) else none
abbrev fMod := fInt fun i j => if 0 < j then some (.int (i % j)) else none
abbrev fPow := fInt fun i j => if 0 ≤ j ∧ j ≤ 1000000 ∧ i.natAbs < 18446744073709551616 then some (.int (i ^ j.toNat)) else none
abbrev fXor := fInt fun i j => some (.int (Builtin.bitXor i j))
theorem ok_sub {K : PySem.W.Frag} : OpOk K (rI0 fun i j => .int (i - j)) fSub := ok_int0 fun _ _ => ⟨rfl, rfl⟩
theorem ok_xor {K : PySem.W.Frag} : OpOk K (rI0 fun i j => .int (Builtin.bitXor i j)) fXor := ok_int0 fun _ _ => ⟨rfl, rfl⟩
theorem ok_mul {K : PySem.W.Frag} : OpOk K (rI CMul fun i j => .int (i * j)) fMul := ok_int fun i j d h => by
  split at h
  · rename_i c
    cases h
    refine ⟨?_, rfl, rfl⟩
    rcases c with c | c
    · exact .inl ⟨by omega, by omega⟩
    · exact .inr ⟨by omega, by omega⟩
  · cases h
theorem ok_div {K : PySem.W.Frag} : OpOk K (rI CDiv fun i j => .int (i / j)) fDiv := ok_int fun i j d h => by
  split at h
  · rename_i c; cases h; exact ⟨c, rfl, rfl⟩
  · cases h
theorem ok_mod {K : PySem.W.Frag} : OpOk K (rI (fun _ j => 0 < j) fun i j => .int (i % j)) fMod := ok_int fun i j d h => by
  split at h
  · rename_i c; cases h; exact ⟨c, rfl, rfl⟩
  · cases h
theorem ok_pow {K : PySem.W.Frag} : OpOk K (rI CPow fun i j => .int (i ^ j.toNat)) fPow := ok_int fun i j d h => by
  split at h
  · rename_i c; cases h; exact ⟨⟨c.1, c.2.1, by have := c.2.2; omega⟩, rfl, rfl⟩
  · cases h
/-- + of ints, texts, lists, tuples -/
def fAdd : D → D → Option R := fun x y => match x, y with
  | .int i, .int j => some (.im (.int (i + j)))
  | .str a, .str b => if a.length + b.length ≤ SL then some (.im (.str (a ++ b))) else none
  | .lst a, .lst b => if a.length + b.length ≤ SL then some (.fr (.lst (a ++ b))) else none
  | .tup a, .tup b => if a.length + b.length ≤ SL then some (.im (.tup (a ++ b))) else none
  | _, _ => none
def rAdd (K : PySem.W.Frag) : R2 := fun x y H Q => (((rI0 fun i j => .int (i + j)) x y H Q ∨ (∃ i j, x = .str i ∧ y = .str j ∧ i.length + j.length ≤ sizeLine ∧ Q (.str (i ++ j)) H)) ∨ rCat x y H Q) ∨ rCatA K x y H Q
theorem op_addA : OpR X (binaryOp .Add) (rAdd X.K) := ((op_add.or op_add_str).or op_cat).or op_catA
theorem ok_add {K : PySem.W.Frag} : OpOk K (rAdd K) fAdd := fun F H x y dx dy res Q ag hx hy e k => by
  unfold fAdd at e
  split at e
  · rename_i i j
    cases e
    exact .inl (.inl (.inl ⟨i, j, hx.int_inv, hy.int_inv, k _ H F (Xt.refl ag) (.int _)⟩))
  · rename_i a b
    split at e
    · rename_i c
      cases e
      refine .inl (.inl (.inr ⟨S a, S b, hx.str_inv, hy.str_inv, by rw [S_length, S_length, SL_eq]; exact c, ?_⟩))
      rw [S_append]
      exact k _ H F (Xt.refl ag) (.str _)
    · cases e
  · rename_i a b
    split at e
    · rename_i c
      cases e
      obtain ⟨p, vs, rfl, h1, h2⟩ := hx.lst_inv ag
      obtain ⟨q, ws, rfl, h3, h4⟩ := hy.lst_inv ag
      refine .inl (.inr ⟨p, q, vs, ws, rfl, rfl, h1, h3, by rw [h2.length, h4.length, SL_eq]; exact c, fun r hr => ?_⟩)
      exact k _ _ F (Xt.fresh ag hr) ⟨r, rfl, hr, ag.free hr, vs ++ ws, upd_same, h2.append h4⟩
    · cases e
  · rename_i a b
    split at e
    · rename_i c
      cases e
      obtain ⟨p, vs, rfl, h0, h1, h2⟩ := hx.tup_inv ag
      obtain ⟨q, ws, rfl, h00, h3, h4⟩ := hy.tup_inv ag
      refine .inr ⟨p, q, vs, ws, rfl, rfl, h1, h3, by rw [h2.length, h4.length, SL_eq]; exact c, fun z => ?_, fun z1 z2 => ?_, fun z1 z2 r hr => ?_⟩
      · subst z
        cases h2
        exact k _ H F (Xt.refl ag) (.tup h00 h4)
      · subst z2
        cases h4
        rw [List.append_nil] at k
        exact k _ H F (Xt.refl ag) (.tup h0 h2)
      · have xt := Xt.laid (o := .tup (vs ++ ws)) ag hr
        exact k _ _ _ xt (.tup (.of upd_same) ((h2.append h4).mono xt.ff))
    · cases e
  · cases e
/-- * also of a text, a list by a number -/
def fRep : D → D → Option R := fun x y => match x, y with
  | .lst xs, .int k => if small k = true ∧ xs.length * k.toNat ≤ SL then some (.fr (.lst (List.replicate k.toNat xs).flatten)) else none
  | _, _ => none
theorem DnAll.flatRep {K : PySem.W.Frag} {F : Hp} {vs : List V} {ds : List D} (h : DnAll K F vs ds) : ∀ n : Nat, DnAll K F (List.replicate n vs).flatten (List.replicate n ds).flatten
  | 0 => .nil
  | n + 1 => by
    rw [List.replicate_succ, List.replicate_succ, List.flatten_cons, List.flatten_cons]
    exact h.append (DnAll.flatRep h n)
theorem ok_rep {K : PySem.W.Frag} : OpOk K rRep fRep := fun F H x y dx dy res Q ag hx hy e k => by
  unfold fRep at e
  split at e
  · rename_i xs j
    split at e
    · rename_i c
      cases e
      obtain ⟨p, vs, rfl, h1, h2⟩ := hx.lst_inv ag
      obtain ⟨c1, c2⟩ := small_iff c.1
      refine ⟨p, j, vs, rfl, hy.int_inv, h1, by omega, by omega, by rw [h2.length, SL_eq]; exact c.2, fun r hr => ?_⟩
      exact k _ _ F (Xt.fresh ag hr) ⟨r, rfl, hr, ag.free hr, _, upd_same, h2.flatRep _⟩
    · cases e
  · cases e

/-! ### comparisons -/
abbrev bI (f : Int → Int → Bool) : Int → Int → Option D := fun i j => some (.bl (f i j))
def ltT (a b : Tx) : Bool := decide (a < b)
def fLt : D → D → Option R := fun x y => match x, y with
  | .int i, .int j => some (.im (.bl (decide (i < j))))
  | .str a, .str b => some (.im (.bl (ltT a b)))
  | _, _ => none
def fGt : D → D → Option R := fun x y => match x, y with
  | .int i, .int j => some (.im (.bl (decide (j < i))))
  | .str a, .str b => some (.im (.bl (ltT b a)))
  | _, _ => none
def fLe : D → D → Option R := fun x y => match x, y with
  | .int i, .int j => some (.im (.bl (decide (i ≤ j))))
  | .str a, .str b => some (.im (.bl (!ltT b a)))
  | _, _ => none
def fGe : D → D → Option R := fun x y => match x, y with
  | .int i, .int j => some (.im (.bl (decide (j ≤ i))))
  | .str a, .str b => some (.im (.bl (!ltT a b)))
  | _, _ => none
def rOr (r r' : R2) : R2 := fun x y H Q => r x y H Q ∨ r' x y H Q
theorem op_ltA : OpR X (compareOp .Lt) (rOr (rI0 fun i j => .bl (decide (i < j))) (fun x y H Q => ∃ i j, x = .str i ∧ y = .str j ∧ Q (.bl (decide (i.cps.toList < j.cps.toList))) H)) := op_lt.or op_lt_str
theorem op_gtA : OpR X (compareOp .Gt) (rOr (rI0 fun i j => .bl (decide (j < i))) (fun x y H Q => ∃ i j, x = .str i ∧ y = .str j ∧ Q (.bl (decide (j.cps.toList < i.cps.toList))) H)) := op_gt.or op_gt_str
theorem op_leA : OpR X (compareOp .LtE) (rOr (rI0 fun i j => .bl (decide (i ≤ j))) (fun x y H Q => ∃ i j, x = .str i ∧ y = .str j ∧ Q (.bl (!decide (j.cps.toList < i.cps.toList))) H)) := op_le.or op_le_str
theorem op_geA : OpR X (compareOp .GtE) (rOr (rI0 fun i j => .bl (decide (j ≤ i))) (fun x y H Q => ∃ i j, x = .str i ∧ y = .str j ∧ Q (.bl (!decide (i.cps.toList < j.cps.toList))) H)) := op_ge.or op_ge_str
theorem ok_ord {K : PySem.W.Frag} {f : Int → Int → Bool} {g : List Nat → List Nat → Bool} {h : D → D → Option R} (hh : ∀ x y r, h x y = some r → (∃ i j, x = .int i ∧ y = .int j ∧ r = .im (.bl (f i j))) ∨ ∃ a b, x = .str a ∧ y = .str b ∧ r = .im (.bl (g a b))) :
    OpOk K (rOr (rI0 fun i j => .bl (f i j)) (fun x y H Q => ∃ i j, x = .str i ∧ y = .str j ∧ Q (.bl (g i.cps.toList j.cps.toList)) H)) h := fun F H x y dx dy res Q ag hx hy e k => by
  rcases hh dx dy res e with ⟨i, j, rfl, rfl, rfl⟩ | ⟨a, b, rfl, rfl, rfl⟩
  · exact .inl ⟨i, j, hx.int_inv, hy.int_inv, k _ H F (Xt.refl ag) (.bl _)⟩
  · refine .inr ⟨S a, S b, hx.str_inv, hy.str_inv, ?_⟩
    rw [S_cps, S_cps]
    exact k _ H F (Xt.refl ag) (.bl _)
theorem ok_lt {K : PySem.W.Frag} : OpOk K (rOr (rI0 fun i j => .bl (decide (i < j))) (fun x y H Q => ∃ i j, x = .str i ∧ y = .str j ∧ Q (.bl (decide (i.cps.toList < j.cps.toList))) H)) fLt :=
  ok_ord (f := fun i j => decide (i < j)) (g := fun i j => decide (i < j)) fun x y r e => by
    unfold fLt at e
    split at e
    · cases e; exact .inl ⟨_, _, rfl, rfl, rfl⟩
    · cases e; exact .inr ⟨_, _, rfl, rfl, rfl⟩
    · cases e
theorem ok_gt {K : PySem.W.Frag} : OpOk K (rOr (rI0 fun i j => .bl (decide (j < i))) (fun x y H Q => ∃ i j, x = .str i ∧ y = .str j ∧ Q (.bl (decide (j.cps.toList < i.cps.toList))) H)) fGt :=
  ok_ord (f := fun i j => decide (j < i)) (g := fun i j => decide (j < i)) fun x y r e => by
    unfold fGt at e
    split at e
    · cases e; exact .inl ⟨_, _, rfl, rfl, rfl⟩
    · cases e; exact .inr ⟨_, _, rfl, rfl, rfl⟩
    · cases e
theorem ok_le {K : PySem.W.Frag} : OpOk K (rOr (rI0 fun i j => .bl (decide (i ≤ j))) (fun x y H Q => ∃ i j, x = .str i ∧ y = .str j ∧ Q (.bl (!decide (j.cps.toList < i.cps.toList))) H)) fLe :=
  ok_ord (f := fun i j => decide (i ≤ j)) (g := fun i j => !decide (j < i)) fun x y r e => by
    unfold fLe at e
    split at e
    · cases e; exact .inl ⟨_, _, rfl, rfl, rfl⟩
    · cases e; exact .inr ⟨_, _, rfl, rfl, rfl⟩
    · cases e
theorem ok_ge {K : PySem.W.Frag} : OpOk K (rOr (rI0 fun i j => .bl (decide (j ≤ i))) (fun x y H Q => ∃ i j, x = .str i ∧ y = .str j ∧ Q (.bl (!decide (i.cps.toList < j.cps.toList))) H)) fGe :=
  ok_ord (f := fun i j => decide (j ≤ i)) (g := fun i j => !decide (i < j)) fun x y r e => by
    unfold fGe at e
    split at e
    · cases e; exact .inl ⟨_, _, rfl, rfl, rfl⟩
    · cases e; exact .inr ⟨_, _, rfl, rfl, rfl⟩
    · cases e
/-- is None, is not None -/
def D.isNon : D → Bool
  | .non => true
  | _ => false
def fIs : D → D → Option R := fun x y => match y with
  | .non => some (.im (.bl x.isNon))
  | _ => none
def fIsN : D → D → Option R := fun x y => match y with
  | .non => some (.im (.bl (!x.isNon)))
  | _ => none
theorem RdD.isNon {K : PySem.W.Frag} {F H : Hp} {v : V} {d : D} (h : RdD K F H v d) : decide (v = .non) = d.isNon := by
  rcases h with h | ⟨p, rfl, h⟩
  · cases h <;> simp [D.isNon]
  · cases d <;> first | exact h.elim | simp [D.isNon]
theorem ok_is {K : PySem.W.Frag} : OpOk K (fun x y H Q => y = .non ∧ Q (.bl (decide (x = .non))) H) fIs := fun F H x y dx dy res Q ag hx hy e k => by
  unfold fIs at e
  split at e
  · cases e
    refine ⟨hy.non_inv, ?_⟩
    rw [hx.isNon]
    exact k _ H F (Xt.refl ag) (.bl _)
  · cases e
theorem ok_isN {K : PySem.W.Frag} : OpOk K (fun x y H Q => y = .non ∧ Q (.bl (!decide (x = .non))) H) fIsN := fun F H x y dx dy res Q ag hx hy e k => by
  unfold fIsN at e
  split at e
  · cases e
    refine ⟨hy.non_inv, ?_⟩
    rw [hx.isNon]
    exact k _ H F (Xt.refl ag) (.bl _)
  · cases e
/-! ### equality of data -/
mutual
def eqP : D → D → Bool
  | .non, .non => true
  | .bl a, .bl b => a == b
  | .bl a, .int b => (if a then 1 else 0) == b
  | .int a, .bl b => a == (if b then 1 else 0)
  | .int a, .int b => a == b
  | .str a, .str b => a == b
  | .tup a, .tup b => eqPs a b
  | .lst a, .lst b => eqPs a b
  | _, _ => false
def eqPs : List D → List D → Bool
  | [], [] => true
  | x :: xs, y :: ys => eqP x y && eqPs xs ys
  | _, _ => false
end
mutual
/-- data that == may compare -/
def D.plain : D → Bool
  | .non => true
  | .bl _ => true
  | .int _ => true
  | .str x => x.all (· < 1114112)
  | .tup ds => D.plains ds
  | .lst ds => D.plains ds
  | _ => false
def D.plains : List D → Bool
  | [] => true
  | d :: ds => d.plain && D.plains ds
end
mutual
def D.dep : D → Nat
  | .tup ds => D.deps ds + 1
  | .lst ds => D.deps ds + 1
  | _ => 0
def D.deps : List D → Nat
  | [] => 0
  | d :: ds => max d.dep (D.deps ds)
end
mutual
def D.py : D → PyData
  | .bl b => .bool b
  | .int i => .int i
  | .str x => .str (S x)
  | .tup ds => .tuple (D.pys ds)
  | .lst ds => .list (D.pys ds)
  | _ => .none
def D.pys : List D → List PyData
  | [] => []
  | d :: ds => d.py :: D.pys ds
end

mutual
theorem py_dp {K : PySem.W.Frag} {F H : Hp} (ag : Ag F H) : ∀ (d : D) (v : V), Dn K F v d → d.plain = true → Dp K H v d.py
  | .non, v, h, _ => by cases h; exact .non
  | .bl b, v, h, _ => by cases h; exact .bl b
  | .int i, v, h, _ => by cases h; exact .int i
  | .str x, v, h, _ => by cases h; exact .str (S x)
  | .tup ds, v, h, p => by
    cases h with
    | tup h t =>
      rw [D.py]
      exact .tup (ag.t h) (pys_dp ag ds _ t (by rw [D.plain] at p; exact p))
  | .lst ds, v, h, p => by
    cases h with
    | lst h t =>
      rw [D.py]
      exact .lst (.of (ag.lst h)) (pys_dp ag ds _ t (by rw [D.plain] at p; exact p))
  | .dk _, _, _, p => by cases p
  | .dt _, _, _, p => by cases p
  | .st _, _, _, p => by cases p
  | .fz _, _, _, p => by cases p
  | .ty _, _, _, p => by cases p
theorem pys_dp {K : PySem.W.Frag} {F H : Hp} (ag : Ag F H) : ∀ (ds : List D) (vs : List V), DnAll K F vs ds → D.plains ds = true → DpAll K H vs (D.pys ds)
  | [], vs, h, _ => by cases h; exact .nil
  | d :: ds, vs, h, p => by
    cases h with
    | cons h t =>
      rw [D.plains, Bool.and_eq_true] at p
      rw [D.pys]
      exact .cons (py_dp ag d _ h p.1) (pys_dp ag ds _ t p.2)
end
theorem RdD.dp {K : PySem.W.Frag} {F H : Hp} {v : V} {d : D} (ag : Ag F H) (h : RdD K F H v d) (p : d.plain = true) : Dp K H v d.py := by
  rcases h with h | ⟨q, rfl, h⟩
  · exact py_dp ag d v h p
  · cases d <;> simp only [OwnO] at h
    · obtain ⟨vs, h1, h2⟩ := h
      rw [D.py]; exact .lst (.of h1) (pys_dp ag _ _ h2 (by rw [D.plain] at p; exact p))
    · cases p
mutual
theorem py_lay : ∀ d : D, d.plain = true → d.py.canLay0 = true
  | .non, _ => rfl
  | .bl _, _ => rfl
  | .int _, _ => rfl
  | .str x, p => by
    have p : x.all (· < 1114112) = true := p
    rw [D.py, PyData.canLay0]
    unfold PyData.strOk S
    simpa using p
  | .tup ds, p => by rw [D.py, PyData.canLay0]; exact pys_lay ds (by simpa [D.plain] using p)
  | .lst ds, p => by rw [D.py, PyData.canLay0]; exact pys_lay ds (by simpa [D.plain] using p)
theorem pys_lay : ∀ ds : List D, D.plains ds = true → PyData.canLayAll0 (D.pys ds) = true
  | [], _ => rfl
  | d :: ds, p => by
    rw [D.plains, Bool.and_eq_true] at p
    rw [D.pys, PyData.canLayAll0, py_lay d p.1, pys_lay ds p.2]; rfl
end
mutual
theorem py_dep : ∀ d : D, d.py.depth = d.dep
  | .non => rfl
  | .bl _ => rfl
  | .int _ => rfl
  | .str _ => rfl
  | .tup ds => by rw [D.py, PyData.depth, D.dep, pys_dep ds]
  | .lst ds => by rw [D.py, PyData.depth, D.dep, pys_dep ds]
  | .dk _ => rfl
  | .dt _ => rfl
  | .st _ => rfl
  | .fz _ => rfl
  | .ty _ => rfl
theorem pys_dep : ∀ ds : List D, PyData.depthAll (D.pys ds) = D.deps ds
  | [] => rfl
  | d :: ds => by rw [D.pys, PyData.depthAll, D.deps, py_dep d, pys_dep ds]
end
theorem S_beq (a b : Tx) : (S a == S b) = (a == b) := by
  by_cases h : a = b
  · subst h; simp
  · have : S a ≠ S b := fun q => h (S_inj q)
    rw [beq_eq_false_iff_ne.mpr h, beq_eq_false_iff_ne.mpr this]
mutual
theorem py_eq : ∀ a b : D, a.plain = true → b.plain = true → PyData.eqv a.py b.py = eqP a b
  | .non, b, _, q => by cases b <;> first | rfl | cases q
  | .bl a, b, _, q => by cases b <;> first | rfl | cases q
  | .int a, b, _, q => by cases b <;> first | rfl | cases q
  | .str a, b, _, q => by
    cases b with
    | str b => exact S_beq a b
    | _ => first | rfl | cases q
  | .tup a, b, p, q => by
    cases b with
    | tup b => rw [D.py, D.py, PyData.eqv, eqP]; exact pys_eq a b (by simpa [D.plain] using p) (by simpa [D.plain] using q)
    | _ => first | rfl | cases q
  | .lst a, b, p, q => by
    cases b with
    | lst b => rw [D.py, D.py, PyData.eqv, eqP]; exact pys_eq a b (by simpa [D.plain] using p) (by simpa [D.plain] using q)
    | _ => first | rfl | cases q
theorem pys_eq : ∀ a b : List D, D.plains a = true → D.plains b = true → PyData.eqvAll (D.pys a) (D.pys b) = eqPs a b
  | [], [], _, _ => rfl
  | [], _ :: _, _, _ => rfl
  | _ :: _, [], _, _ => rfl
  | x :: xs, y :: ys, p, q => by
    rw [D.plains, Bool.and_eq_true] at p q
    rw [D.pys, D.pys, PyData.eqvAll, eqPs, py_eq x y p.1 q.1, pys_eq xs ys p.2 q.2]
end
def D.okE (d : D) : Bool := d.plain && decide (d.dep ≤ 64)
theorem okE_shaped {d : D} (h : d.okE = true) : SeqAt.shaped d.py = true := by
  unfold D.okE at h
  rw [Bool.and_eq_true, decide_eq_true_eq] at h
  unfold SeqAt.shaped
  rw [py_lay d h.1, py_dep d, decide_eq_true h.2]; rfl
/-- plain values compared at once -/
def scalD : D → D → Option Bool
  | .non, .non => some true
  | .non, .int _ => some false
  | .int _, .non => some false
  | .non, .bl _ => some false
  | .bl _, .non => some false
  | .non, .str _ => some false
  | .str _, .non => some false
  | .int a, .int b => some (a == b)
  | .bl a, .bl b => some (a == b)
  | .str a, .str b => some (a == b)
  | .int _, .str _ => some false
  | .str _, .int _ => some false
  | .bl _, .str _ => some false
  | .str _, .bl _ => some false
  | _, _ => none
def eqD (x y : D) : Option Bool := match scalD x y with
  | some k => some k
  | none => if (x.okE && y.okE) = true then some (eqP x y) else none
def fEq : D → D → Option R := fun x y => match eqD x y with
  | some k => some (.im (.bl k))
  | none => none
def fNe : D → D → Option R := fun x y => match eqD x y with
  | some k => some (.im (.bl (!k)))
  | none => none
theorem okE_plain {d : D} (h : d.okE = true) : d.plain = true := by
  unfold D.okE at h
  rw [Bool.and_eq_true] at h; exact h.1
theorem dec_int (a b : Int) : decide (V.int a = V.int b) = (a == b) := by
  by_cases h : a = b
  · subst h; simp
  · rw [beq_eq_false_iff_ne.mpr h]; exact decide_eq_false fun q => h (V.int.inj q)
theorem dec_bl (a b : Bool) : decide (V.bl a = V.bl b) = (a == b) := by cases a <;> cases b <;> rfl
theorem dec_str (a b : Tx) : decide (V.str (S a) = V.str (S b)) = (a == b) := by
  by_cases h : a = b
  · subst h; simp
  · rw [beq_eq_false_iff_ne.mpr h]; exact decide_eq_false fun q => h (S_inj (V.str.inj q))
theorem scalD_ok {K : PySem.W.Frag} {F H : Hp} {x y : V} {dx dy : D} {k : Bool} (hx : RdD K F H x dx) (hy : RdD K F H y dy) (e : scalD dx dy = some k) : scal x y = true ∧ decide (x = y) = k := by
  unfold scalD at e
  split at e <;> cases e
  · rw [hx.non_inv, hy.non_inv]; exact ⟨rfl, by simp⟩
  · rw [hx.non_inv, hy.int_inv]; exact ⟨rfl, by simp⟩
  · rw [hx.int_inv, hy.non_inv]; exact ⟨rfl, by simp⟩
  · rw [hx.non_inv, hy.bl_inv]; exact ⟨rfl, by simp⟩
  · rw [hx.bl_inv, hy.non_inv]; exact ⟨rfl, by simp⟩
  · rw [hx.non_inv, hy.str_inv]; exact ⟨rfl, by simp⟩
  · rw [hx.str_inv, hy.non_inv]; exact ⟨rfl, by simp⟩
  · rw [hx.int_inv, hy.int_inv]; exact ⟨rfl, dec_int _ _⟩
  · rw [hx.bl_inv, hy.bl_inv]; exact ⟨rfl, dec_bl _ _⟩
  · rw [hx.str_inv, hy.str_inv]; exact ⟨rfl, dec_str _ _⟩
  · rw [hx.int_inv, hy.str_inv]; exact ⟨rfl, by simp⟩
  · rw [hx.str_inv, hy.int_inv]; exact ⟨rfl, by simp⟩
  · rw [hx.bl_inv, hy.str_inv]; exact ⟨rfl, by simp⟩
  · rw [hx.str_inv, hy.bl_inv]; exact ⟨rfl, by simp⟩
theorem eqD_ok {K : PySem.W.Frag} {F H : Hp} {x y : V} {dx dy : D} {k : Bool} (ag : Ag F H) (hx : RdD K F H x dx) (hy : RdD K F H y dy) (e : eqD dx dy = some k) : (scal x y = true ∧ decide (x = y) = k) ∨ (Dp K H x dx.py ∧ Dp K H y dy.py ∧ SeqAt.shaped dx.py = true ∧ SeqAt.shaped dy.py = true ∧ PyData.eqv dx.py dy.py = k) := by
  unfold eqD at e
  split at e
  · rename_i k' q
    cases e
    exact .inl (scalD_ok hx hy q)
  · split at e
    · rename_i c
      cases e
      rw [Bool.and_eq_true] at c
      exact .inr ⟨hx.dp ag (okE_plain c.1), hy.dp ag (okE_plain c.2), okE_shaped c.1, okE_shaped c.2, py_eq dx dy (okE_plain c.1) (okE_plain c.2)⟩
    · cases e
theorem op_eqA (hu : X.A.units + 64 < cLine) : OpR X (compareOp .Eq) (rOr rEq (rEqD X.K)) := op_eq.or (op_eqD hu)
theorem op_neA (hu : X.A.units + 64 < cLine) : OpR X (compareOp .NotEq) (rOr rNe (rNeD X.K)) := op_ne.or (op_neD hu)
theorem ok_eq {K : PySem.W.Frag} : OpOk K (rOr rEq (rEqD K)) fEq := fun F H x y dx dy res Q ag hx hy e k => by
  unfold fEq at e
  split at e
  · rename_i kk q
    cases e
    have fin := k _ H F (Xt.refl ag) (Dn.bl kk)
    rcases eqD_ok ag hx hy q with ⟨h1, h2⟩ | ⟨h1, h2, h3, h4, h5⟩
    · exact .inl ⟨h1, by rw [h2]; exact fin⟩
    · exact .inr ⟨_, _, h1, h2, h3, h4, by rw [h5]; exact fin⟩
  · cases e
theorem ok_ne {K : PySem.W.Frag} : OpOk K (rOr rNe (rNeD K)) fNe := fun F H x y dx dy res Q ag hx hy e k => by
  unfold fNe at e
  split at e
  · rename_i kk q
    cases e
    have fin := k _ H F (Xt.refl ag) (Dn.bl (!kk))
    rcases eqD_ok ag hx hy q with ⟨h1, h2⟩ | ⟨h1, h2, h3, h4, h5⟩
    · exact .inl ⟨h1, by rw [h2]; exact fin⟩
    · exact .inr ⟨_, _, h1, h2, h3, h4, by rw [h5]; exact fin⟩
  · cases e

/-! ### dicts as lists of pairs -/
def lkD (kvs : List (Ky × D)) (k : Ky) : Option D := (kvs.find? fun kv => decide (kv.1 = k)).map (·.2)
def putD (kvs : List (Ky × D)) (k : Ky) (d : D) : List (Ky × D) :=
  if (kvs.any fun kv => decide (kv.1 = k)) = true then kvs.map (fun kv => if kv.1 = k then (kv.1, d) else kv) else kvs ++ [(k, d)]
theorem kK_dec (a b : Ky) : decide (kK a = kK b) = decide (a = b) := by
  by_cases h : a = b
  · subst h; simp
  · rw [decide_eq_false h, decide_eq_false fun q => h (kK_inj q)]
theorem KvAll.val {K : PySem.W.Frag} {F : Hp} (k : Ky) : ∀ {ks : List (Key × V)} {kvs : List (Ky × D)}, KvAll K F ks kvs → (∀ d, lkD kvs k = some d → ∃ v, valV ks (kK k) = some v ∧ Dn K F v d) ∧ (lkD kvs k = none → valV ks (kK k) = none)
  | _, _, .nil => ⟨fun d h => (by cases h), fun _ => rfl⟩
  | _, _, .cons (k := k0) (v := v) (ks := ks) (d := d) (kvs := kvs) h t => by
    obtain ⟨i1, i2⟩ := KvAll.val k t
    unfold lkD at i1 i2 ⊢
    unfold valV at i1 i2 ⊢
    rw [List.find?_cons, List.find?_cons, kK_dec]
    by_cases e : k0 = k
    · rw [decide_eq_true e]
      exact ⟨fun d' q => ⟨v, rfl, by cases q; exact h⟩, fun q => by cases q⟩
    · rw [decide_eq_false e]
      exact ⟨i1, i2⟩
theorem KvAll.any {K : PySem.W.Frag} {F : Hp} (k : Ky) : ∀ {ks : List (Key × V)} {kvs : List (Ky × D)}, KvAll K F ks kvs → (ks.any fun kv => decide (kv.1 = kK k)) = (kvs.any fun kv => decide (kv.1 = k))
  | _, _, .nil => rfl
  | _, _, .cons h t => by rw [List.any_cons, List.any_cons, kK_dec, KvAll.any k t]
theorem KvAll.map {K : PySem.W.Frag} {F : Hp} {w : V} {e : D} (k : Ky) (hw : Dn K F w e) : ∀ {ks : List (Key × V)} {kvs : List (Ky × D)}, KvAll K F ks kvs → KvAll K F (ks.map fun kv => if kv.1 = kK k then (kv.1, w) else kv) (kvs.map fun kv => if kv.1 = k then (kv.1, e) else kv)
  | _, _, .nil => .nil
  | _, _, .cons (k := k0) h t => by
    rw [List.map_cons, List.map_cons]
    by_cases q : k0 = k
    · simp only [q, if_true]
      exact .cons hw (KvAll.map k hw t)
    · have : ¬ kK k0 = kK k := fun z => q (kK_inj z)
      simp only [q, this, if_false]
      exact .cons h (KvAll.map k hw t)
theorem KvAll.append {K : PySem.W.Frag} {F : Hp} : ∀ {ks ls : List (Key × V)} {kvs lvs : List (Ky × D)}, KvAll K F ks kvs → KvAll K F ls lvs → KvAll K F (ks ++ ls) (kvs ++ lvs)
  | _, _, _, _, .nil, h => h
  | _, _, _, _, .cons h t, u => .cons h (KvAll.append t u)
theorem KvAll.put {K : PySem.W.Frag} {F : Hp} {w : V} {e : D} {k : Ky} {ks : List (Key × V)} {kvs : List (Ky × D)} (h : KvAll K F ks kvs) (hw : Dn K F w e) : KvAll K F (putK ks (kK k) w) (putD kvs k e) := by
  unfold putK putD
  rw [h.any k]
  split
  · exact h.map k hw
  · exact h.append (.cons hw .nil)
def D.ky : D → Option Ky
  | .int i => some (.inl i)
  | .str x => some (.inr x)
  | _ => none
theorem RdD.ky {K : PySem.W.Frag} {F H : Hp} {v : V} {d : D} {k : Ky} (h : RdD K F H v d) (e : d.ky = some k) : v = kV (kK k) := by
  cases d <;> cases e
  · exact h.int_inv
  · exact h.str_inv

/-! ### subscripts -/
def fIx : D → D → Option R := fun x y => match x, y with
  | .lst xs, .int i => match atI xs i with
    | some d => some (.im d)
    | none => none
  | .fz xs, .int i => match atI xs i with
    | some d => some (.im d)
    | none => none
  | .tup xs, .int i => match atI xs i with
    | some d => some (.im d)
    | none => none
  | .str x, .int i => if x.length ≤ SL then match atI x i with
    | some c => some (.im (.str [c]))
    | none => none
    else none
  | .dk kvs, y => match y.ky with
    | none => none
    | some k => match lkD kvs k with
      | none => none
      | some d => some (.im d)
  | _, _ => none
def rIxD : R2 := fun x y H Q => ∃ a v, x = .ref a ∧ DGet H a y (some v) ∧ Q v H
theorem ix_dict (hu : X.A.units + 1 < cLine) : IxR X rIxD := by
  intro value slice pins s σ H x y v u Q I rx ry h hs
  obtain ⟨a, w, rfl, g, q⟩ := h
  cases rx
  exact tail_any (dict_typeIs I g) PySem.F.slot_dict_getitem.lookup (d_getItem hu I g ry fun w' s' I' r' => ⟨w, H, I', r', q⟩) hs
def rIxA (K : PySem.W.Frag) : R2 := fun x y H Q => rIx K x y H Q ∨ rIxD x y H Q
theorem ix_all (hu : X.A.units + 1 < cLine) : IxR X (rIxA X.K) := ix_seq.or (ix_dict hu)
theorem DnAll.atI {K : PySem.W.Frag} {F : Hp} {vs : List V} {ds : List D} {i : Int} {d : D} (h : DnAll K F vs ds) (e : L2.atI ds i = some d) : ∃ v, L2.atI vs i = some v ∧ Dn K F v d := by
  unfold L2.atI at e ⊢
  rw [h.length]
  cases q : ixN ds.length i with
  | none => rw [q] at e; cases e
  | some j =>
    rw [q] at e
    exact h.get (i := j) e
theorem ok_ix {K : PySem.W.Frag} : OpOk K (rIxA K) fIx := fun F H x y dx dy res Q ag hx hy e k => by
  unfold fIx at e
  split at e
  · rename_i xs i
    split at e
    · rename_i d q
      cases e
      obtain ⟨p, vs, rfl, h1, h2⟩ := hx.lst_inv ag
      obtain ⟨v, e1, e2⟩ := h2.atI q
      exact .inl (.inl ⟨p, vs, i, v, rfl, hy.int_inv, .of h1, e1, k _ H F (Xt.refl ag) e2⟩)
    · cases e
  · rename_i xs i
    split at e
    · rename_i d q
      cases e
      obtain ⟨p, vs, rfl, h1, h2⟩ := hx.fz_inv ag
      obtain ⟨v, e1, e2⟩ := h2.atI q
      exact .inl (.inl ⟨p, vs, i, v, rfl, hy.int_inv, h1, e1, k _ H F (Xt.refl ag) e2⟩)
    · cases e
  · rename_i xs i
    split at e
    · rename_i d q
      cases e
      obtain ⟨p, vs, rfl, _, h1, h2⟩ := hx.tup_inv ag
      obtain ⟨v, e1, e2⟩ := h2.atI q
      exact .inl (.inr (.inl ⟨p, vs, i, v, rfl, hy.int_inv, h1, e1, k _ H F (Xt.refl ag) e2⟩))
    · cases e
  · rename_i z i
    split at e
    · rename_i c
      split at e
      · rename_i d q
        cases e
        refine .inl (.inr (.inr ⟨S z, i, d, hx.str_inv, hy.int_inv, by rw [S_length, SL_eq]; exact c, by rw [S_cps]; exact q, ?_⟩))
        exact k _ H F (Xt.refl ag) (Dn.str [d])
      · cases e
    · cases e
  · rename_i kvs
    split at e
    · cases e
    rename_i kk q1
    split at e
    · cases e
    rename_i d q2
    cases e
    obtain ⟨p, ks, rfl, h1, h2⟩ := hx.dk_inv ag
    obtain ⟨v, e1, e2⟩ := (h2.val kk).1 d q2
    exact .inr ⟨p, v, rfl, .inl ⟨ks, kK kk, h1, hy.ky q1, e1.symm⟩, k _ H F (Xt.refl ag) e2⟩
  · cases e
theorem q_sub {a c : Expr} {pa pb : PF} {pos : Pos} (hu : X.A.units + 1 < cLine) (ha : QP X a pa) (hb : QP X c pb) (hs : PlainIx c := by exact fun _ _ => rfl) : QE X (.Subscript a c pos) (eOp fIx pa pb) := q_ix ok_ix (ix_all hu) ha hb hs

/-! ### slices -/
def cutT {α : Type} (xs : List α) (lo hi : Option Int) : List α := (xs.drop (HT.sIx xs.length 0 lo)).take (HT.sIx xs.length xs.length hi - HT.sIx xs.length 0 lo)
theorem DnAll.cut {K : PySem.W.Frag} {F : Hp} {vs : List V} {ds : List D} (h : DnAll K F vs ds) (lo hi : Option Int) : DnAll K F (cutV vs lo hi) (cutT ds lo hi) := by
  unfold cutV cutT
  rw [h.length]
  exact (h.drop _).take _
def fSl : D → Option Int → Option Int → Option R := fun x lo hi => match x with
  | .str z => if z.length ≤ SL then some (.im (.str (cutT z lo hi))) else none
  | .lst xs => some (.fr (.lst (cutT xs lo hi)))
  | .fz xs => some (.fr (.lst (cutT xs lo hi)))
  | .tup xs => some (.im (.tup (cutT xs lo hi)))
  | _ => none
/-- an end of a slice -/
abbrev OF := Ev → Option (Option Int × Ev)
def oNo : OF := fun env => some (none, env)
def oI (p : PF) : OF := fun env => match p env with
  | none => none
  | some (q, e) => match rdP e q with
    | some (.int i) => some (some i, e)
    | _ => none
def tOv (K : PySem.W.Frag) (f : OF) : TO := fun σ H Q => ∃ b F env o env', Gd K b F σ H env ∧ f env = some (o, env') ∧ ∀ H' F', Gd K b F' σ H' env' → Same F F' → Q o H'
abbrev QO (X : Cx) (e : Option Expr) (f : OF) : Prop := PO X e (tOv X.K f)
theorem _root_.L2.PO.imp {e : Option Expr} {t t' : TO} (h : PO X e t) (k : ∀ σ H Q, t' σ H Q → t σ H Q) : PO X e t' := ⟨fun pins s σ H Q I q => h.run pins s σ H Q I (k σ H Q q)⟩
theorem q_ono : QO X none oNo := po_none.imp fun σ H Q q => by
  obtain ⟨b, F, env, o, env', g, hf, k⟩ := q
  cases hf
  exact k H F g (Same.refl F)
theorem q_oi {e : Expr} {p : PF} (h : QP X e p) : QO X (some e) (oI p) := (po_some h).imp fun σ H Q q => by
  obtain ⟨b, F, env, o, env', g, hf, k⟩ := q
  unfold oI at hf
  split at hf
  · cases hf
  rename_i q1 e1 h1
  split at hf
  · rename_i i h2
    cases hf
    exact ⟨b, F, env, q1, env', g, h1, fun v H' F' g' s pv => ⟨i, (g'.rd pv h2).int_inv, k H' F' g' s⟩⟩
  · cases hf
def eSl (p : PF) (lo hi : OF) : EF := fun env => match p env with
  | none => none
  | some (q, e1) => match lo e1 with
    | none => none
    | some (l, e2) => match hi e2 with
      | none => none
      | some (h, e3) => match rdP e3 q with
        | none => none
        | some d => match fSl d l h with
          | none => none
          | some r => some (r, e3)
def rSl (K : PySem.W.Frag) : V → Option Int → Option Int → Hp → VK → Prop := fun x lo hi H Q => (rSlS x lo hi H Q ∨ rSlL K x lo hi H Q) ∨ rSlA K x lo hi H Q
theorem sl_all : SlR X (rSl X.K) := (sl_str.or sl_list).or sl_tupA
theorem q_sl {a : Expr} {lo hi : Option Expr} {p : PF} {l h : OF} {p2 pos : Pos} (ha : QP X a p) (hl : QO X lo l) (hh : QO X hi h) : QE X (.Subscript a (.Slice lo hi none p2) pos) (eSl p l h) := (pe_slice sl_all ha hl hh).imp fun σ H Q q => by
  obtain ⟨b, F, env, r, env', g, hf, k⟩ := q
  unfold eSl at hf
  split at hf
  · cases hf
  rename_i q1 e1 h1
  split at hf
  · cases hf
  rename_i lo e2 h2
  split at hf
  · cases hf
  rename_i hi e3 h3
  split at hf
  · cases hf
  rename_i d h4
  split at hf
  · cases hf
  rename_i r h5
  cases hf
  refine ⟨b, F, env, q1, e1, g, h1, fun v H1 F1 g1 s1 pv => ⟨b, F1, e1, lo, e2, g1, h2, fun H2 F2 g2 s2 => ⟨b, F2, e2, hi, env', g2, h3, fun H3 F3 g3 s3 => ?_⟩⟩⟩
  have sm := (s1.trans s2).trans s3
  have rd := g3.rd (pv.mono (s2.trans s3)) h4
  have ag := g3.same
  unfold fSl at h5
  split at h5
  · rename_i z
    split at h5
    · rename_i c
      cases h5
      refine .inl (.inl ⟨S z, rd.str_inv, by rw [S_length, SL_eq]; exact c, ?_⟩)
      have : cutS (S z) lo hi = S (cutT z lo hi) := by
        unfold cutS cutT
        rw [S_cps, S_length]; rfl
      rw [this]
      exact k _ H3 F3 g3 sm (Dn.str _)
    · cases h5
  · rename_i xs
    cases h5
    obtain ⟨p, vs, rfl, a1, a2⟩ := rd.lst_inv ag
    refine .inl (.inr ⟨p, vs, rfl, .of a1, fun q hq => ?_⟩)
    exact k _ _ F3 (g3.ext (Xt.fresh ag hq)) sm (RF.rv (H := H3) g3 ⟨q, rfl, hq, ag.free hq, _, upd_same, a2.cut lo hi⟩)
  · rename_i xs
    cases h5
    obtain ⟨p, vs, rfl, a1, a2⟩ := rd.fz_inv ag
    refine .inl (.inr ⟨p, vs, rfl, a1, fun q hq => ?_⟩)
    exact k _ _ F3 (g3.ext (Xt.fresh ag hq)) sm (RF.rv (H := H3) g3 ⟨q, rfl, hq, ag.free hq, _, upd_same, a2.cut lo hi⟩)
  · rename_i xs
    cases h5
    obtain ⟨p, vs, rfl, a0, a1, a2⟩ := rd.tup_inv ag
    refine .inr ⟨p, vs, rfl, a1, fun w => ?_, fun _ q hq => ?_⟩
    · have : cutT xs lo hi = xs := by
        unfold cutT
        rw [← a2.length, w.1, w.2, a2.length]
        simp
      rw [this] at k
      exact k _ H3 F3 g3 sm (Dn.tup a0 a2)
    · have xt := Xt.laid (o := .tup (cutV vs lo hi)) ag hq
      exact k _ _ _ (g3.ext xt) (sm.trans xt.ff) (Dn.tup (.of upd_same) ((a2.cut lo hi).mono xt.ff))
  · cases h5
end
end MP
namespace MP
open PySem PySem.Spec PyProof.Rows L2

/-! ### where a text stands in another -/
def occL (s sub : Tx) (hi lim : Nat) : List Nat → List Nat → Nat → List Nat
  | [], acc, _ => acc
  | i :: is, acc, free => if acc.length < lim ∧ free ≤ i ∧ i + sub.length ≤ hi ∧ (s.drop i).take sub.length = sub then occL s sub hi lim is (acc ++ [i]) (i + sub.length) else occL s sub hi lim is acc free
theorem subAt_S (s sub : Tx) (i : Nat) : Builtin.Str.subAt (S s) (S sub) i = decide ((s.drop i).take sub.length = sub) := by
  rw [StrLaws.subAt_eq, S_cps, S_cps, S_length]
  by_cases h : (s.drop i).take sub.length = sub
  · rw [decide_eq_true h]; simp [h]
  · rw [decide_eq_false h]; exact beq_eq_false_iff_ne.mpr h
theorem occ_run (s sub : Tx) (hi lim : Nat) : ∀ (l : List Nat) (st : Array Nat × Nat), (forIn l st (StrLaws.occBody (S s) (S sub) hi lim)).run.fst.toList = occL s sub hi lim l st.1.toList st.2
  | [], st => rfl
  | i :: l, st => by
    have e : StrLaws.occBody (S s) (S sub) hi lim i st = if ((st.1.size < lim ∧ st.2 ≤ i) ∧ i + (S sub).length ≤ hi) ∧ Builtin.Str.subAt (S s) (S sub) i = true then pure (ForInStep.yield (st.1.push i, i + (S sub).length)) else pure (ForInStep.yield (st.1, st.2)) := rfl
    rw [List.forIn_cons, e, subAt_S, S_length]
    unfold occL
    by_cases h : (((st.1.size < lim ∧ st.2 ≤ i) ∧ i + sub.length ≤ hi) ∧ decide ((s.drop i).take sub.length = sub) = true)
    · rw [if_pos h, if_pos ⟨by simpa using h.1.1.1, h.1.1.2, h.1.2, of_decide_eq_true h.2⟩]
      have := occ_run s sub hi lim l (st.1.push i, i + sub.length)
      simpa using this
    · rw [if_neg h, if_neg (fun z => h ⟨⟨⟨by simpa using z.1, z.2.1⟩, z.2.2.1⟩, decide_eq_true z.2.2.2⟩)]
      have := occ_run s sub hi lim l (st.1, st.2)
      simpa using this
theorem occ_S (s sub : Tx) (lo hi lim : Nat) : Builtin.Str.occurrences (S s) (S sub) lo hi lim = occL s sub hi lim (List.range' lo (hi + 1 - lo)) [] lo := by
  rw [StrLaws.occ_eq, occ_run]
/-- does b stand in a -/
def subIn (b a : Tx) : Bool := !(occL a b a.length 1 (List.range' 0 (a.length + 1)) [] 0).isEmpty
def cntIn (b a : Tx) : Nat := (occL a b a.length (a.length + 1) (List.range' 0 (a.length + 1)) [] 0).length
theorem occL_acc (s sub : Tx) (hi : Nat) : ∀ (l acc : List Nat) (free : Nat), acc ≠ [] → (occL s sub hi 1 l acc free) ≠ []
  | [], acc, free, h => h
  | i :: l, acc, free, h => by
    unfold occL
    split
    · exact occL_acc s sub hi l _ _ (by simp)
    · exact occL_acc s sub hi l acc free h
theorem occL_one (s sub : Tx) (hi : Nat) : ∀ (l : List Nat), (!(occL s sub hi 1 l [] 0).isEmpty) = l.any fun i => decide (i + sub.length ≤ hi ∧ (s.drop i).take sub.length = sub)
  | [] => rfl
  | i :: l => by
    unfold occL
    rw [List.any_cons]
    by_cases h : i + sub.length ≤ hi ∧ (s.drop i).take sub.length = sub
    · rw [if_pos ⟨by simp, Nat.zero_le _, h⟩, decide_eq_true h, Bool.true_or]
      have := occL_acc s sub hi l ([] ++ [i]) (i + sub.length) (by simp)
      cases q : occL s sub hi 1 l ([] ++ [i]) (i + sub.length) with
      | nil => exact absurd q this
      | cons a b => rfl
    · rw [if_neg (fun z => h z.2.2), decide_eq_false h, Bool.false_or, occL_one s sub hi l]
theorem subIn_iff (b a : Tx) : subIn b a = true ↔ ∃ i, i + b.length ≤ a.length ∧ (a.drop i).take b.length = b := by
  unfold subIn
  rw [occL_one, List.any_eq_true]
  constructor
  · rintro ⟨i, _, h⟩
    exact ⟨i, of_decide_eq_true h⟩
  · rintro ⟨i, h⟩
    refine ⟨i, ?_, decide_eq_true h⟩
    rw [List.mem_range'_1]
    omega

section
variable {X : Cx}
/-! ### in -/
def D.isFlat : D → Bool
  | .non => true
  | .bl _ => true
  | .int _ => true
  | .str _ => true
  | _ => false
def fInS (x : D) (ds : List D) : Option Bool := if (x.isFlat && ds.all D.isFlat) = true then some (ds.any fun y => eqP y x) else none
def fInB : D → D → Option Bool := fun x y => match y with
  | .str b => match x with
    | .str a => some (subIn a b)
    | _ => none
  | .tup ds => fInS x ds
  | .fz ds => fInS x ds
  | .lst ds => match fInS x ds with
    | some k => some k
    | none => if (x.okE && (D.lst ds).okE) = true then some (ds.any fun y => eqP y x) else none
  | .dk kvs => match x.ky with
    | some k => some (lkD kvs k).isSome
    | none => none
  | _ => none
def fIn : D → D → Option R := fun x y => match fInB x y with
  | some k => some (.im (.bl k))
  | none => none
def fNotIn : D → D → Option R := fun x y => match fInB x y with
  | some k => some (.im (.bl (!k)))
  | none => none
theorem flat_dn {K : PySem.W.Frag} {F : Hp} {v : V} {d : D} (h : Dn K F v d) (f : d.isFlat = true) : flatV v = true := by
  cases h with
  | non => rfl
  | bl _ => rfl
  | int _ => rfl
  | str _ => rfl
  | _ => exact nomatch f
theorem flat_eq {K : PySem.W.Frag} {F : Hp} {v w : V} {d e : D} (h : Dn K F v d) (h2 : Dn K F w e) (f : d.isFlat = true) (g : e.isFlat = true) : eqV v w = eqP d e := by
  cases h with
  | non =>
    cases h2 with
    | non => rfl
    | bl _ => rfl
    | int _ => rfl
    | str _ => rfl
    | _ => exact nomatch g
  | bl _ =>
    cases h2 with
    | non => rfl
    | bl _ => rfl
    | int _ => rfl
    | str _ => rfl
    | _ => exact nomatch g
  | int _ =>
    cases h2 with
    | non => rfl
    | bl _ => rfl
    | int _ => rfl
    | str _ => rfl
    | _ => exact nomatch g
  | str _ =>
    cases h2 with
    | non => rfl
    | bl _ => rfl
    | int _ => rfl
    | str _ => exact S_beq _ _
    | _ => exact nomatch g
  | _ => exact nomatch f
theorem rd_flat {K : PySem.W.Frag} {F H : Hp} {v : V} {d : D} (h : RdD K F H v d) (f : d.isFlat = true) : Dn K F v d := by
  rcases h with h | ⟨p, _, h⟩
  · exact h
  · cases d with
    | lst _ => exact nomatch f
    | dk _ => exact nomatch f
    | _ => exact h.elim
theorem flats_dn {K : PySem.W.Frag} {F : Hp} : ∀ {vs : List V} {ds : List D}, DnAll K F vs ds → ds.all D.isFlat = true → vs.all flatV = true
  | _, _, .nil, _ => rfl
  | _, _, .cons h t, f => by
    rw [List.all_cons, Bool.and_eq_true] at f ⊢
    exact ⟨flat_dn h f.1, flats_dn t f.2⟩
theorem flats_any {K : PySem.W.Frag} {F : Hp} {w : V} {e : D} (he : Dn K F w e) (fe : e.isFlat = true) : ∀ {vs : List V} {ds : List D}, DnAll K F vs ds → ds.all D.isFlat = true → inV w vs = ds.any fun y => eqP y e
  | _, _, .nil, _ => rfl
  | _, _, .cons h t, f => by
    rw [List.all_cons, Bool.and_eq_true] at f
    have := flats_any he fe t f.2
    unfold inV at this ⊢
    rw [List.any_cons, List.any_cons, this, flat_eq h he f.1 fe]
theorem pys_any {e : D} (he : e.plain = true) : ∀ (ds : List D), D.plains ds = true → ((D.pys ds).any fun z => PyData.eqv z e.py) = ds.any fun y => eqP y e
  | [], _ => rfl
  | d :: ds, p => by
    rw [D.plains, Bool.and_eq_true] at p
    rw [D.pys, List.any_cons, List.any_cons, pys_any he ds p.2, py_eq d e p.1 he]
def rDIn (neg : Bool) : R2 := fun x y H Q => ∃ a o, y = .ref a ∧ DGet H a x o ∧ Q (.bl (if neg then !o.isSome else o.isSome)) H
theorem op_din (hu : X.A.units + 1 < cLine) : OpR X (compareOp .In) (rDIn false) := fun pins s σ H x y v u Q I rx ry ⟨a, o, e, g, q⟩ => by
  subst e
  cases ry
  exact d_in hu I g rx fun s' I' => ⟨.bl o.isSome, H, I', rfl, q⟩
theorem op_dnotin (hu : X.A.units + 1 < cLine) : OpR X (compareOp .NotIn) (rDIn true) := fun pins s σ H x y v u Q I rx ry ⟨a, o, e, g, q⟩ => by
  subst e
  cases ry
  exact d_notIn hu I g rx fun s' I' => ⟨.bl (!o.isSome), H, I', rfl, q⟩
def rInA (K : PySem.W.Frag) (neg : Bool) : R2 := fun x y H Q => (((∃ i j, x = .str i ∧ y = .str j ∧ Q (.bl (if neg then !(!(Builtin.Str.occurrences j i 0 j.length 1).isEmpty) else !(Builtin.Str.occurrences j i 0 j.length 1).isEmpty)) H) ∨ rIn K neg x y H Q) ∨ rDIn neg x y H Q) ∨
  ∃ d ds, Dp K H x d ∧ Dp K H y (.list ds) ∧ SeqAt.shaped d = true ∧ SeqAt.shaped (.list ds) = true ∧ Q (.bl (if neg then !ds.any fun z => PyData.eqv z d else ds.any fun z => PyData.eqv z d)) H
theorem op_inA (hu : X.A.units + 65 < cLine) : OpR X (compareOp .In) (rInA X.K false) := ((op_in_str.or op_in_seq).or (op_din (by omega))).or (op_inD hu)
theorem op_notInA (hu : X.A.units + 65 < cLine) : OpR X (compareOp .NotIn) (rInA X.K true) := ((op_notin_str.or op_notIn_seq).or (op_dnotin (by omega))).or (op_notInD hu)
theorem in_ok {K : PySem.W.Frag} (neg : Bool) {F H : Hp} {x y : V} {dx dy : D} {k : Bool} {Q : VK} (ag : Ag F H) (hx : RdD K F H x dx) (hy : RdD K F H y dy) (e : fInB dx dy = some k) (q : Q (.bl (if neg then !k else k)) H) : rInA K neg x y H Q := by
  have seqq : ∀ ds p vs, fInS dx ds = some k → y = .ref p → (SqL K H p vs ∨ SqT K H p vs) → DnAll K F vs ds → rInA K neg x y H Q := fun ds p vs e ey hs hd => by
    unfold fInS at e
    split at e
    · rename_i c
      cases e
      rw [Bool.and_eq_true] at c
      have dx' := rd_flat hx c.1
      refine .inl (.inl (.inr ⟨p, vs, ey, hs, flat_dn dx' c.1, flats_dn hd c.2, ?_⟩))
      rw [flats_any dx' c.1 hd c.2]; exact q
    · cases e
  unfold fInB at e
  split at e
  · rename_i b
    split at e
    · rename_i a
      cases e
      refine .inl (.inl (.inl ⟨S a, S b, hx.str_inv, hy.str_inv, ?_⟩))
      rw [occ_S, S_length]; exact q
    · cases e
  · rename_i ds
    obtain ⟨p, vs, ey, _, h1, h2⟩ := hy.tup_inv ag
    exact seqq ds p vs e ey (.inr h1) h2
  · rename_i ds
    obtain ⟨p, vs, ey, h1, h2⟩ := hy.fz_inv ag
    exact seqq ds p vs e ey (.inl h1) h2
  · rename_i ds
    split at e
    · rename_i k' hk
      cases e
      obtain ⟨p, vs, ey, h1, h2⟩ := hy.lst_inv ag
      exact seqq ds p vs hk ey (.inl (.of h1)) h2
    · split at e
      · rename_i c
        cases e
        rw [Bool.and_eq_true] at c
        have pl : D.plains ds = true := by have := okE_plain c.2; rw [D.plain] at this; exact this
        refine .inr ⟨dx.py, D.pys ds, hx.dp ag (okE_plain c.1), by have := hy.dp ag (okE_plain c.2); rw [D.py] at this; exact this, okE_shaped c.1, by have := okE_shaped c.2; rw [D.py] at this; exact this, ?_⟩
        rw [pys_any (okE_plain c.1) ds pl]; exact q
      · cases e
  · rename_i kvs
    split at e
    · rename_i kk hk
      cases e
      obtain ⟨p, ks, rfl, h1, h2⟩ := hy.dk_inv ag
      refine .inl (.inr ⟨p, valV ks (kK kk), rfl, .inl ⟨ks, kK kk, h1, hx.ky hk, rfl⟩, ?_⟩)
      have : (valV ks (kK kk)).isSome = (lkD kvs kk).isSome := by
        obtain ⟨i1, i2⟩ := h2.val kk
        cases z : lkD kvs kk with
        | none => rw [i2 z]; rfl
        | some d => obtain ⟨v, e1, _⟩ := i1 d z; rw [e1]; rfl
      rw [this]; exact q
    · cases e
  · cases e
theorem ok_in {K : PySem.W.Frag} : OpOk K (rInA K false) fIn := fun F H x y dx dy res Q ag hx hy e k => by
  unfold fIn at e
  split at e
  · rename_i kk q
    cases e
    exact in_ok false ag hx hy q (k _ H F (Xt.refl ag) (Dn.bl kk))
  · cases e
theorem ok_notIn {K : PySem.W.Frag} : OpOk K (rInA K true) fNotIn := fun F H x y dx dy res Q ag hx hy e k => by
  unfold fNotIn at e
  split at e
  · rename_i kk q
    cases e
    exact in_ok true ag hx hy q (k _ H F (Xt.refl ag) (Dn.bl (!kk)))
  · cases e

/-! ### changing one's own objects -/
def C.with : C → D → C
  | .ow _, d => .ow d
  | .bo _, d => .bo d
  | c, _ => c
theorem Gd.chg {K : PySem.W.Frag} {b : Base} {F H : Hp} {σ : L2.St} {env : Ev} {i : Nat} {c : C} {p : Addr} {o : HO} {d : D} (g : Gd K b F σ H env) (h : env[i]? = some c) (ho : c.own = true) (hp : σ[i]?.join = some (.ref p)) (n : OwnO K F (upd H p o) p d) :
    Gd K b F σ (upd H p o) (env.set i (c.with d)) := by
  have at_ := OwnAt.of h ho hp
  obtain ⟨n0, nF⟩ := g.own0 at_
  have hi := lt_of_get h
  have ow : (c.with d).own = true := by cases c <;> first | rfl | cases ho
  have own2 : ∀ j q, OwnAt (env.set i (c.with d)) σ j q → OwnAt env σ j q := fun j q ⟨⟨c', c1, c2⟩, c3⟩ => by
    rcases set_get c1 with ⟨rfl, rfl, _⟩ | ⟨_, c1⟩
    · exact ⟨⟨c, h, ho⟩, c3⟩
    · exact ⟨⟨c', c1, c2⟩, c3⟩
  refine ⟨by simpa using g.len, same_upd2 g.same nF, fun j c' hj => ?_, fun j k q hj hk => g.dis j k q (own2 j q hj) (own2 k q hk), fun a x q => ?_, g.new⟩
  · rcases set_get hj with ⟨rfl, rfl, _⟩ | ⟨ne, hj⟩
    · have k := g.cells j c h
      cases c with
      | un => cases ho
      | im _ => cases ho
      | bf _ => cases ho
      | ow d0 =>
        obtain ⟨q, e1, e2, e3, e4⟩ := k
        rw [hp] at e1; cases e1
        exact ⟨p, hp, n, e3, e4⟩
      | bo d0 =>
        obtain ⟨q, e1, e2, e3, e4, e5⟩ := k
        rw [hp] at e1; cases e1
        exact ⟨p, hp, n, e3, e4, e5⟩
    · refine (g.cells j c' hj).mono (Same.refl F) fun q hw hq => ⟨?_, fun z => z⟩
      rw [upd_ne]
      rintro rfl
      exact ne (g.dis j i q (OwnAt.of hj hq hw) at_)
  · rw [upd_ne (ne_of_none q n0)]; exact g.keep _ _ q
/-- what an object becomes by x[i] = d -/
def putIx : D → D → D → Option D := fun x i d => match x, i with
  | .lst xs, .int k => match ixN xs.length k with
    | some j => some (.lst (xs.set j d))
    | none => none
  | .dk kvs, k => match k.ky with
    | some k => if kvs.length < SL then some (.dk (putD kvs k d)) else none
    | none => none
  | _, _ => none
def rSetA : TSet := fun o i v H Q => rSetL o i v H Q ∨ ∃ a H', o = .ref a ∧ DPut H a i v H' ∧ Q H'
theorem set_all (hu : X.A.units + 1 < cLine) : PSet X rSetA := fun pins s σ H o i v ov iv u Q I ro ri rv h => by
  rcases h with h | ⟨a, H', rfl, g, q⟩
  · exact set_list pins s σ H o i v ov iv u Q I ro ri rv h
  · cases ro
    exact d_setItem hu I g ri rv fun s' I' => ⟨H', I', q⟩
def gSub (j : Nat) (pi : PF) : GF := fun d env => match (env[j]?).bind C.rd with
  | none => none
  | some _ => match pi env with
    | none => none
    | some (q, e1) => match rdP e1 q with
      | none => none
      | some i => match e1[j]? with
        | some c => if c.own = true then match c.rd with
          | some x => match putIx x i d with
            | some x' => some (e1.set j (c.with x'))
            | none => none
          | none => none
          else none
        | none => none
theorem own_read {K : PySem.W.Frag} {b : Base} {F H : Hp} {σ : L2.St} {env : Ev} {i : Nat} {c : C} {x : D} {v : V} (g : Gd K b F σ H env) (h : env[i]? = some c) (ho : c.own = true) (hr : c.rd = some x) (hv : σ[i]?.join = some v) : ∃ p, v = .ref p ∧ OwnO K F H p x ∧ F p = none := by
  have k := g.cells i c h
  cases c with
  | un => cases ho
  | im _ => cases ho
  | bf _ => cases ho
  | ow d0 => obtain ⟨p, e1, e2, e3, e4⟩ := k; cases hr; rw [hv] at e1; cases e1; exact ⟨p, rfl, e2, e3⟩
  | bo d0 => obtain ⟨p, e1, e2, e3, e4, e5⟩ := k; cases hr; rw [hv] at e1; cases e1; exact ⟨p, rfl, e2, e3⟩
theorem q_gsub {o i : Expr} {j : Nat} {pi : PF} {pos : Pos} (hu : X.A.units + 1 < cLine) (ho : PE X o (tVar j)) (hi : QP X i pi)
    (ha : ∀ v, assign (.Subscript o i pos) X.env v = (do
      let ov ← holding [v] (eval o X.env)
      let iv ← holding [v, ov] (eval i X.env)
      standAt pos
      holding [v, ov, iv] (setItem ov iv v)
      release [v, ov, iv] []) := by intro _; rfl) : QG X (.Subscript o i pos) (gSub j pi) :=
  (pg_sub ho hi (set_all hu) ha).imp fun v σ H Q q => by
    obtain ⟨b, F, env, d, env', g, hd, hg, k⟩ := q
    unfold gSub at hg
    split at hg
    · cases hg
    rename_i x0 h0
    split at hg
    · cases hg
    rename_i q1 e1 h1
    split at hg
    · cases hg
    rename_i ix h2
    split at hg
    · rename_i c h3
      split at hg
      · rename_i how
        split at hg
        · rename_i x h4
          split at hg
          · rename_i x' h5
            cases hg
            obtain ⟨c0, c1, c2⟩ := Option.bind_eq_some_iff.mp h0
            obtain ⟨w, hw⟩ := g.there c1 c2
            refine ⟨w, hw, b, F, env, q1, e1, g, h1, fun iv H1 F1 g1 s1 pv => ?_⟩
            have hj : σ[j]?.join = some w := by rw [hw]; rfl
            obtain ⟨p, rfl, oo, nF⟩ := own_read g1 h3 how h4 hj
            have rdi := g1.rd pv h2
            have dd := hd.mono s1
            unfold putIx at h5
            split at h5
            · rename_i xs kk
              split at h5
              · rename_i m hm
                cases h5
                obtain ⟨vs, a1, a2⟩ := oo
                refine .inl ⟨p, vs, kk, m, rfl, rdi.int_inv, a1, by rw [a2.length]; exact hm, ?_⟩
                exact k σ _ F1 (g1.chg h3 how hj ⟨vs.set m v, upd_same, a2.set dd m⟩) s1
              · cases h5
            · rename_i kvs kd
              split at h5
              · rename_i kk hk
                split at h5
                · rename_i hz
                  cases h5
                  obtain ⟨ks, a1, a2⟩ := oo
                  refine .inr ⟨p, _, rfl, ?_, k σ _ F1 (g1.chg (o := .dK (putK ks (kK kk) v)) h3 how hj ⟨_, upd_same, a2.put dd⟩) s1⟩
                  rw [rdi.ky hk]
                  exact DPut.k a1 (by rw [a2.length, SL_eq]; exact hz)
                · cases h5
              · cases h5
            · cases h5
          · cases hg
        · cases hg
      · cases hg
    · cases hg

/-! ### methods that change an object of one's own -/
def MutOk (K : PySem.W.Frag) (r : V → List V → Hp → VK → Prop) (f : D → List D → Option (D × D)) : Prop := ∀ F H p x vs ds res x' Q, Ag F H → OwnO K F H p x → F p = none → DnAll K F vs ds → f x ds = some (res, x') →
  (∀ v o, OwnO K F (upd H p o) p x' → Dn K F v res → Q v (upd H p o)) → r (.ref p) vs H Q
def eMut (f : D → List D → Option (D × D)) (i : Nat) (a : AF) : EF := fun env => match env[i]? with
  | some c0 => if c0.own = true then match a env with
    | none => none
    | some (ps, e) => match vals ps with
      | none => none
      | some ds => match e[i]? with
        | some c => if c.own = true then match c.rd with
          | some x => match f x ds with
            | some (r, x') => some (.im r, e.set i (c.with x'))
            | none => none
          | none => none
          else none
        | none => none
    else none
  | none => none
/-- the receiver's kind -/
def tyB : String → D → Bool
  | "list", .lst _ => true
  | "dict", .dk _ => true
  | _, _ => false
theorem tyB_ok {K : PySem.W.Frag} {F H : Hp} {p : Addr} {T : String} {x : D} (h : OwnO K F H p x) (t : tyB T x = true) : tyV K T (.ref p) H := by
  unfold tyB at t
  split at t
  · obtain ⟨vs, h1, _⟩ := h; exact .inl ⟨rfl, vs, .of h1⟩
  · obtain ⟨ks, h1, _⟩ := h; exact .inr (.inr (.inl ⟨rfl, .inl ⟨ks, h1⟩⟩))
  · cases t
theorem OwnO.ty {K : PySem.W.Frag} {F H : Hp} {p : Addr} {T : String} {x : D} (h : OwnO K F H p x) (t : tyB T x = true) : tyV K T (.ref p) H := tyB_ok h t
/-- a method with arguments that changes its receiver, a name's own object -/
def eMutT (T : String) (f : D → List D → Option (D × D)) (i : Nat) (a : AF) : EF := fun env => match env[i]? with
  | some c0 => match c0.rd with
    | some x0 => if (c0.own && tyB T x0) = true then eMut f i a env else none
    | none => none
  | none => none
theorem q_mut {o e : Expr} {es : List Expr} {T id : String} {nm : Str} {i : Nat} {r : V → List V → Hp → VK → Prop} {f : D → List D → Option (D × D)} {a : AF} {apos cpos : Pos} (ok : MutOk X.K r f) (pa : PlainAttrs T) (slot : Slot T nm id) (hty : typeOf (.builtin id) = pure (.type "method_descriptor")) (hm : MtR X id r) (ho : PE X o (tVar i)) (ha : QA X (e :: es) a)
    (hbase : attributeBase o nm X.env (eval o X.env) = eval o X.env := by rfl)
    (hfew : ((backTo cpos (starEach (e :: es) X.env)).all (fun x => !x.1) && (backToKw cpos (keywordEach [] X.env)).all (fun x => x.1.isSome)
      && decide ((e :: es).length + ([] : List Keyword).length + (if ([] : List Keyword).isEmpty then 0 else 1) < 30)) = true := by rfl)
    (hline : (apos.endLine == cpos.line) = true := by rfl) (hs : starEach (e :: es) X.env = (false, eval e X.env) :: starEach es X.env := by rfl) (hplain : (backTo cpos (starEach es X.env)).any (·.1) = false := by rfl) :
    QE X (.Call (.Attribute o nm apos) (e :: es) [] cpos) (eMutT T f i a) := (pe_bm pa slot hty hm ho ha hbase hfew hline hs hplain).imp fun σ H Q q => by
  obtain ⟨b, F, env, res, env', g, hf, k⟩ := q
  unfold eMutT at hf
  split at hf
  · rename_i c0 h0
    split at hf
    · rename_i x0 h00
      split at hf
      · rename_i hc
        rw [Bool.and_eq_true] at hc
        unfold eMut at hf
        rw [h0] at hf
        simp only [hc.1, if_true] at hf
        split at hf
        · cases hf
        rename_i ps e1 h1
        split at hf
        · cases hf
        rename_i ds h2
        split at hf
        · rename_i c h3
          split at hf
          · rename_i how
            split at hf
            · rename_i x h4
              split at hf
              · rename_i rr x' h5
                cases hf
                obtain ⟨w, hw⟩ := g.there h0 h00
                have hj : σ[i]?.join = some w := by rw [hw]; rfl
                obtain ⟨p, rfl, oo, nF⟩ := own_read g h0 hc.1 h00 hj
                refine ⟨.ref p, hw, oo.ty hc.2, b, F, env, ps, e1, g, h1, fun vs H1 F1 g1 s1 pv => ?_⟩
                obtain ⟨p1, e1', oo1, nF1⟩ := own_read g1 h3 how h4 hj
                cases e1'
                exact ok F1 H1 p x vs ds rr x' Q g1.same oo1 nF1 (vals_dn pv h2) h5 fun v o ow dn => k v _ F1 (g1.chg h3 how hj ow) s1 dn
              · cases hf
            · cases hf
          · cases hf
        · cases hf
      · cases hf
    · cases hf
  · cases hf
/-- without arguments -/
def eMut0 (T : String) (f : D → List D → Option (D × D)) (i : Nat) : EF := eMutT T f i aNil
theorem q_mut0 {o : Expr} {T id : String} {nm : Str} {i : Nat} {r : V → List V → Hp → VK → Prop} {f : D → List D → Option (D × D)} {apos cpos : Pos} (ok : MutOk X.K r f) (pa : PlainAttrs T) (slot : Slot T nm id) (hty : typeOf (.builtin id) = pure (.type "method_descriptor")) (hm : MtR X id r) (ho : PE X o (tVar i))
    (hbase : attributeBase o nm X.env (eval o X.env) = eval o X.env := by rfl) (hline : (apos.endLine == cpos.line) = true := by rfl) : QE X (.Call (.Attribute o nm apos) [] [] cpos) (eMut0 T f i) := (pe_bm0 pa slot hty hm ho hbase hline).imp fun σ H Q q => by
  obtain ⟨b, F, env, res, env', g, hf, k⟩ := q
  unfold eMut0 eMutT at hf
  split at hf
  · rename_i c0 h0
    split at hf
    · rename_i x0 h00
      split at hf
      · rename_i hc
        rw [Bool.and_eq_true] at hc
        unfold eMut aNil at hf
        rw [h0] at hf
        simp only [hc.1, if_true, vals, h0, h00] at hf
        split at hf
        · rename_i rr x' h5
          cases hf
          obtain ⟨w, hw⟩ := g.there h0 h00
          have hj : σ[i]?.join = some w := by rw [hw]; rfl
          obtain ⟨p, rfl, oo, nF⟩ := own_read g h0 hc.1 h00 hj
          refine ⟨.ref p, hw, oo.ty hc.2, ?_⟩
          exact ok F H p x0 [] [] rr x' Q g.same oo nF .nil h5 fun v o ow dn => k v _ F (g.chg h0 hc.1 hj ow) (Same.refl F) dn
        · cases hf
      · cases hf
    · cases hf
  · cases hf
def mAppend : D → List D → Option (D × D) := fun x ds => match x, ds with
  | .lst xs, [d] => if xs.length < SL then some (.non, .lst (xs ++ [d])) else none
  | _, _ => none
theorem ok_append {K : PySem.W.Frag} : MutOk K rAppend mAppend := fun F H p x vs ds res x' Q ag oo nF hd e k => by
  unfold mAppend at e
  split at e
  · rename_i xs d
    split at e
    · rename_i hz
      cases e
      obtain ⟨ws, a1, a2⟩ := oo
      cases hd with
      | cons h t =>
        cases t
        exact ⟨p, ws, _, rfl, rfl, a1, by rw [a2.length, SL_eq]; exact hz, k _ _ ⟨_, upd_same, a2.append (.cons h .nil)⟩ .non⟩
    · cases e
  · cases e
def mExtend : D → List D → Option (D × D) := fun x ds => match x, ds with
  | .lst xs, [.lst ys] => if xs.length + ys.length ≤ SL then some (.non, .lst (xs ++ ys)) else none
  | _, _ => none
def mPop : D → List D → Option (D × D) := fun x ds => match x, ds with
  | .lst xs, [] => match xs[xs.length - 1]? with
    | some d => some (d, .lst xs.dropLast)
    | none => none
  | _, _ => none
theorem DnAll.dropLast {K : PySem.W.Frag} {F : Hp} {vs : List V} {ds : List D} (h : DnAll K F vs ds) : DnAll K F vs.dropLast ds.dropLast := by
  rw [List.dropLast_eq_take, List.dropLast_eq_take, h.length]; exact h.take _
theorem ok_pop {K : PySem.W.Frag} : MutOk K rPop mPop := fun F H p x vs ds res x' Q ag oo nF hd e k => by
  unfold mPop at e
  split at e
  · rename_i xs
    split at e
    · rename_i d hg
      cases e
      obtain ⟨ws, a1, a2⟩ := oo
      cases hd
      obtain ⟨v, e1, e2⟩ := a2.get hg
      exact ⟨p, ws, v, rfl, rfl, a1, by rw [a2.length]; exact e1, k _ _ ⟨_, upd_same, a2.dropLast⟩ e2⟩
    · cases e
  · cases e
def mPopAt : D → List D → Option (D × D) := fun x ds => match x, ds with
  | .lst xs, [.int i] => if 0 ≤ i ∧ i < xs.length ∧ small i = true then match xs[i.toNat]? with
    | some d => some (d, .lst (xs.eraseIdx i.toNat))
    | none => none
    else none
  | _, _ => none
theorem ok_popAt {K : PySem.W.Frag} : MutOk K rPopAt mPopAt := fun F H p x vs ds res x' Q ag oo nF hd e k => by
  unfold mPopAt at e
  split at e
  · rename_i xs i
    split at e
    · rename_i hc
      split at e
      · rename_i d hg
        cases e
        obtain ⟨ws, a1, a2⟩ := oo
        cases hd with
        | cons h t =>
          cases t
          cases h
          obtain ⟨v, e1, e2⟩ := a2.get hg
          have hb : i < 4611686018427387904 := (small_iff hc.2.2).2
          exact ⟨p, ws, i, i.toNat, v, rfl, rfl, a1, by omega, by omega, by rw [a2.length]; exact PySem.StrLaws.seqIndex_nonneg hc.1 hc.2.1, e1, k _ _ ⟨_, upd_same, a2.eraseIdx _⟩ e2⟩
      · cases e
    · cases e
  · cases e
end
end MP
namespace MP
open PySem PySem.Spec PyProof.Rows L2
section
variable {X : Cx}
/-! ### dicts made -/
def eDk : EF := fun env => some (.fr (.dk []), env)
theorem q_dk {pos : Pos} : QE X (.Dict [] [] pos) eDk := pe_dnewK.imp fun σ H Q q => by
  obtain ⟨b, F, env, r, env', g, hf, k⟩ := q
  cases hf
  intro p hp
  exact k _ _ F (g.ext (Xt.fresh g.same hp)) (Same.refl F) (RF.rv (H := H) g ⟨p, rfl, hp, g.same.free hp, [], upd_same, .nil⟩)
def dcF (is : List Nat) (g : GF) (t : BF) (f h : EF) : List D → Ev → List (Ky × D) → Option (List (Ky × D) × Ev)
  | [], env, acc => some (acc, env)
  | d :: ds, env, acc => match g d (blank env is) with
    | none => none
    | some e1 => match t e1 with
      | none => none
      | some (false, e2) => dcF is g t f h ds e2 acc
      | some (true, e2) => match f e2 with
        | none => none
        | some (r, e3) => match r.d.ky with
          | none => none
          | some kk => match h e3 with
            | none => none
            | some (w, e4) => if acc.length < SL then dcF is g t f h ds e4 (putD acc kk w.d) else none
def eDc (is : List Nat) (it : IF) (g : GF) (t : BF) (f h : EF) : EF := fun env => match it env with
  | none => none
  | some (ds, e) => match dcF is g t f h ds (fzs e is) [] with
    | none => none
    | some (acc, e2) => some (.fr (.dk acc), back (fzs e is) e2 is)
structure DcAt (K : PySem.W.Frag) (b : Base) (F1 : Hp) (σ : L2.St) (is : List Nat) (D : Addr) (F H : Hp) (env : Ev) (acc : List (Ky × MP.D)) : Prop where
  gd : Gd K b F (wipe σ is) H (blank env is)
  sm : Same F1 F
  ln : env.length = σ.length
  at_ : ∃ vs, H D = some (.dK vs) ∧ KvAll K F vs acc
  nf : F D = none
  no : ∀ i, ¬ OwnAt (blank env is) (wipe σ is) i D
theorem wipe2 (σ : L2.St) (is : List Nat) : wipe (wipe σ is) is = wipe σ is := by
  apply List.ext_getElem?
  intro j
  rw [wipe_get, wipe_get]
  by_cases e : j ∈ is
  · rw [if_pos e, if_pos e]
    cases σ[j]? <;> rfl
  · rw [if_neg e, if_neg e]
theorem tDc_of {is : List Nat} {it : IF} {g : GF} {t : BF} {f h : EF} {σ : L2.St} {H : Hp} {Q : VK} (q : tEv X.K (eDc is it g t f h) σ H Q) : tDc (tIv X.K it) (tGc X.K is g) (tBv X.K t) (tEv X.K f) (tEv X.K h) is σ H Q := by
  obtain ⟨b, F, env, r, env', gd, hf, k⟩ := q
  unfold eDc at hf
  split at hf
  · cases hf
  rename_i ds e1 h1
  split at hf
  · cases hf
  rename_i acc0 e2 h2
  cases hf
  refine ⟨b, F, env, ds, e1, gd, h1, fun J H1 F1 g1 s1 ok D hD => ?_⟩
  obtain ⟨F2, s2, g2, no2⟩ := g1.fzs is
  have h0D : b.H0 D = none := g1.h0 hD
  refine ⟨fun i m H => ∃ F3 env3 acc, m = ds.length - i ∧ DcAt X.K b F2 σ is D F3 H env3 acc ∧ dcF is g t f h (ds.drop i) env3 acc = some (acc0, e2), ⟨ds.length, F2, fzs e1 is, [], rfl, ?_, h2⟩, ?_⟩
  · have gb := (g2.ext (Xt.fresh (o := .dK []) g2.same hD)).blank is
    refine ⟨gb, Same.refl _, g2.len, ⟨[], upd_same, .nil⟩, g2.same.free hD, fun i o => ?_⟩
    obtain ⟨⟨c, c1, c2⟩, _⟩ := id o
    obtain ⟨q, w, ⟨x, hx⟩, _⟩ := ((g2.blank is).cells i c c1).ownSome c2
    rw [o.join] at w; cases w
    rw [hD] at hx; cases hx
  · rintro i m H3 ⟨F3, env3, acc, rfl, at3, hw⟩
    obtain ⟨okS, okG⟩ := ok F3 H3 (s2.trans at3.sm) at3.gd.same
    cases q : ds[i]? with
    | none =>
      have hl := List.getElem?_eq_none_iff.mp q
      rw [List.drop_of_length_le hl] at hw
      cases hw
      refine .inl ⟨okS i hl, ?_⟩
      obtain ⟨vs, v1, v2⟩ := at3.at_
      have gk := at3.gd.back g2 at3.sm no2
      refine k _ H3 F3 gk ((s1.trans s2).trans at3.sm) ⟨D, rfl, ⟨vs, v1, v2⟩, at3.nf, h0D, fun j o => ?_⟩
      obtain ⟨⟨c, c1, c2⟩, c3⟩ := o
      rw [back_get] at c1
      by_cases e : j ∈ is
      · rw [if_pos e] at c1
        cases q3 : e2[j]? with
        | none => rw [q3] at c1; cases c1
        | some w =>
          rw [q3] at c1
          cases q4 : (fzs e1 is)[j]? with
          | none => rw [q4] at c1; cases c1; cases c2
          | some w4 => rw [q4] at c1; cases c1; rw [show (some w4).getD .un = w4 from rfl, no2 j e _ q4] at c2; cases c2
      · rw [if_neg e] at c1
        exact at3.no j ⟨⟨c, by rw [blank_get, if_neg e]; exact c1, c2⟩, by rw [wipe_get, if_neg e]; exact c3⟩
    | some d =>
      have hl := lt_of_get q
      rw [List.drop_eq_getElem_cons hl] at hw
      have hd : ds[i] = d := by rw [List.getElem?_eq_getElem hl] at q; exact Option.some.inj q
      rw [hd] at hw
      obtain ⟨go, yl⟩ := okG i d q
      refine .inr ⟨go, fun H => ∃ F3 env3 acc, DcAt X.K b F2 σ is D F3 H env3 acc ∧ dcF is g t f h (ds.drop (i + 1)) env3 acc = some (acc0, e2), fun H' ⟨F4, e4, a4, l4, w4⟩ => ⟨ds.length - (i + 1), by omega, F4, e4, a4, rfl, l4, w4⟩, fun x H4 hy => ?_⟩
      obtain ⟨F4, xt, dn⟩ := yl x H4 hy
      have g4 := at3.gd.ext xt
      obtain ⟨vs, v1, v2⟩ := at3.at_
      have D4 : H4 D = some (.dK vs) := xt.hh _ _ v1
      have nf4 : F4 D = none := by
        cases w : F4 D with
        | none => rfl
        | some y =>
          rcases xt.nw D y w with z | z
          · rw [at3.nf] at z; cases z
          · rw [v1] at z; cases z
      unfold dcF at hw
      split at hw
      · cases hw
      rename_i e5 h5
      refine ⟨b.re F4 (wipe σ is) H4 (blank env3 is), F4, blank env3 is, d, e5, g4.re, dn, h5, fun σ5 H5 F5 g5 s5 w5 => ⟨w5.trans (wipe2 σ is), ?_⟩⟩
      have ww : wipe σ5 is = wipe σ is := w5.trans (wipe2 σ is)
      have next : ∀ {F6 H6 : Hp} {e6 : Ev} {ac : List (Ky × MP.D)} {ws : List (Key × V)}, Gd X.K (b.re F4 (wipe σ is) H4 (blank env3 is)) F6 σ5 H6 e6 → Same F4 F6 → (H6 D = some (.dK vs) → F6 D = none → KvAll X.K F6 ws ac → DcAt X.K b F2 σ is D F6 (upd H6 D (.dK ws)) e6 ac) ∧ H6 D = some (.dK vs) ∧ F6 D = none ∧ DcAt X.K b F2 σ is D F6 H6 e6 acc := fun {F6 H6 e6 ac ws} g6 s6 => by
        obtain ⟨k1, k2, k3⟩ := g4.kept g6 D4 at3.no
        have g7 := (g4.unre g6).blank is
        rw [ww] at g7
        have ln6 : e6.length = σ.length := by
          have := g7.len
          rw [blank_length, wipe_length] at this; exact this
        have no7 : ∀ j, ¬ OwnAt (blank e6 is) (wipe σ is) j D := fun j ⟨⟨c, c1, c2⟩, c3⟩ => by
          rw [blank_get] at c1
          by_cases e : j ∈ is
          · rw [if_pos e] at c1
            cases q6 : e6[j]? with
            | none => rw [q6] at c1; cases c1
            | some w => rw [q6] at c1; cases c1; cases c2
          · rw [if_neg e] at c1
            refine k3 j ⟨⟨c, c1, c2⟩, ?_⟩
            rw [← ww, wipe_get, if_neg e] at c3; exact c3
        have sm6 := (at3.sm.trans xt.ff).trans s6
        refine ⟨fun hD6 nF hA => ⟨g7.other nF h0D no7, sm6, ln6, ⟨ws, upd_same, hA⟩, nF, no7⟩, k1, k2 nf4, g7, sm6, ln6, ⟨vs, k1, (v2.mono xt.ff).mono s6⟩, k2 nf4, no7⟩
      cases q2 : t e5 with
      | none => rw [q2] at hw; cases hw
      | some re =>
        obtain ⟨kk, e6⟩ := re
        rw [q2] at hw
        refine ⟨_, F5, e5, kk, e6, g5, q2, fun H6 F6 g6 s6 => ?_⟩
        cases kk with
        | false => exact iteF ⟨F6, e6, acc, (next (ac := acc) (ws := vs) g6 (s5.trans s6)).2.2.2, hw⟩
        | true =>
          simp only at hw
          split at hw
          · cases hw
          rename_i r7 e7 q3
          split at hw
          · cases hw
          rename_i ky hky
          split at hw
          · cases hw
          rename_i r9 e9 q9
          split at hw
          · rename_i hz
            refine iteT ⟨_, F6, e6, r7, e7, g6, q3, fun v H7 F7 g7 s7 rv => ?_⟩
            obtain ⟨F8, s8, g8, d8⟩ := rv.freeze g7
            refine ⟨_, F8, e7, r9, e9, g8, q9, fun w H9 F9 g9 s9 rv9 => ?_⟩
            obtain ⟨Fa, sa, ga, da⟩ := rv9.freeze g9
            have s48 := (((((s5.trans s6).trans s7).trans s8).trans s9).trans sa)
            obtain ⟨n1, n2, n3, n4⟩ := next (ac := putD acc ky r9.d) (ws := putK vs (kK ky) w) ga s48
            have a8 := (v2.mono xt.ff).mono s48
            refine ⟨vs, kK ky, ?_, n2, by rw [a8.length, SL_eq]; exact hz, Fa, e9, _, n1 n2 n3 (a8.put da), hw⟩
            exact RdD.ky (F := F8) (H := H7) (.inl d8) hky
          · cases hw
theorem q_dc {kx vx tg iter : Expr} {ifs : List Expr} {scope : Scope} (own : List (Str × Nat)) {is : List Nat} {it : IF} {g : GF} {t : BF} {f h : EF} {pos : Pos} (hc : X.calm = true) (hN : X.N.Nodup) (hi : QI X tg iter it) (ok : BlkOk X.N X.env.scope scope own)
    (hg : ∀ (s : Shared) (H : Hp) (C : Addr) (cl : List (Str × Addr)) (fp : List Addr), QGc (X.blk s H scope (compEnvC scope cl C X.env) fp) is tg g) (ht : ∀ (s : Shared) (H : Hp) (C : Addr) (cl : List (Str × Addr)) (fp : List Addr), QTs (X.blk s H scope (compEnvC scope cl C X.env) fp) ifs t)
    (hk : ∀ (s : Shared) (H : Hp) (C : Addr) (cl : List (Str × Addr)) (fp : List Addr), QE (X.blk s H scope (compEnvC scope cl C X.env) fp) kx f)
    (he : ∀ (s : Shared) (H : Hp) (C : Addr) (cl : List (Str × Addr)) (fp : List Addr), QE (X.blk s H scope (compEnvC scope cl C X.env) fp) vx h) (his : own.map (·.2) = is := by rfl) (hs : ∀ x, foldedSetIterable iter X.env x = pure x := by intro _; rfl) :
    QE X (.DictComp kx vx [⟨tg, iter, ifs, 0⟩] scope pos) (eDc is it g t f h) := by
  subst his
  exact (pe_dc hc hN hi ok hg ht hk he hs).imp fun _ _ _ q => tDc_of q
theorem sw_dict {kx vx : Expr} {gs : List Comprehension} {scope : Scope} {pos py : Pos} {y : Str} {l : Nat} {env : Env} (hk : env.scope.kind = .function) (hy : env.scope.names.lookup y = some .local) (hl : (py.line == pos.line) = true)
    (ha : (scope.names.any fun (n, k) => n == y && (k == .local || k == .cell)) = false) : swapsWith (.DictComp kx vx gs scope pos) (some (.Name y py)) l env = pure true := by
  have kf : env.kindOf y = some .local := hy
  have bk : env.blockKind = .function := by unfold Env.blockKind; rw [hk]; rfl
  unfold swapsWith
  simp only [bk, kf, ha, Expr.pos, hl]
  rfl
theorem q_asgDc {i : Nat} {y : Str} {py : Pos} {kx vx tg iter : Expr} {ifs : List Expr} {scope : Scope} (own : List (Str × Nat)) {is : List Nat} {it : IF} {g : GF} {t : BF} {f h : EF} {pos spos : Pos} (hc : X.calm = true) (hN : X.N.Nodup)
    (hsw : swapsWith (.DictComp kx vx [⟨tg, iter, ifs, 0⟩] scope pos) (some (.Name y py)) spos.line X.env = pure true) (hi : QI X tg iter it) (ok : BlkOk X.N X.env.scope scope own)
    (hg : ∀ (s : Shared) (H : Hp) (C : Addr) (cl : List (Str × Addr)) (fp : List Addr), QGc (X.blk s H scope (compEnvC scope cl C X.env) fp) is tg g) (ht : ∀ (s : Shared) (H : Hp) (C : Addr) (cl : List (Str × Addr)) (fp : List Addr), QTs (X.blk s H scope (compEnvC scope cl C X.env) fp) ifs t)
    (hk : ∀ (s : Shared) (H : Hp) (C : Addr) (cl : List (Str × Addr)) (fp : List Addr), QE (X.blk s H scope (compEnvC scope cl C X.env) fp) kx f)
    (he : ∀ (s : Shared) (H : Hp) (C : Addr) (cl : List (Str × Addr)) (fp : List Addr), QE (X.blk s H scope (compEnvC scope cl C X.env) fp) vx h) (hy : X.N[i]? = some y := by rfl) (hyl : X.env.scope.names.lookup y = some .local := by rfl) (his : own.map (·.2) = is := by rfl) (hs : ∀ x, foldedSetIterable iter X.env x = pure x := by intro _; rfl) :
    QS X (.Assign [.Name y py] (.DictComp kx vx [⟨tg, iter, ifs, 0⟩] scope pos) spos) (sAsg i (eDc is it g t f h)) := by
  subst his
  refine q_asgT (t := tDc (tIv X.K it) (tGc X.K _ g) (tBv X.K t) (tEv X.K f) (tEv X.K h) (own.map (·.2))) ⟨fun pins s σ H DD I hw => ?_⟩ fun _ _ _ q => tDc_of q
  rw [exec_Assign_Name_used _ _ _ _ hsw]
  refine wpAny_bind (wpAny_standAt (wpAny_bind ?_))
  have hw : tDc (tIv X.K it) (tGc X.K _ g) (tBv X.K t) (tEv X.K f) (tEv X.K h) (own.map (·.2)) σ H (fun x H1 => gName i x σ H1 DD.nx) := hw
  show wpAny _ X.A (do let _ ← comprehension (.DictComp kx vx [⟨tg, iter, ifs, 0⟩] scope pos) scope X.env (firstIterPos [⟨tg, iter, ifs, 0⟩] pos) newDict false (eval iter X.env) (some (assign (.Name y py) X.env))) _ _ s
  refine wpAny_bind (thn (dc_core (Qf := fun _ s' => SP X pins DD .next s') hc hN I hi ok hg ht hk he hs hw fun L C s' m H' I' q hn fp => ?_) fun _ s' hq => wpAny_pure (wpAny_pure hq))
  show wpAny _ _ (assign (.Name y py) X.env (.ref L)) _ _ _
  refine wpAny_assign_Name (store_ok2 (v := V.ref L) I' hN hy (.inl hyl) rfl (fun s2 I2 ⟨a, sb, ha⟩ => ?_) (.inr hyl))
  obtain ⟨f0, f1, f2, f3, f4, f5⟩ := fp
  have haC : C ≠ a := by
    rcases ha with z | z
    · rw [z]; exact f1
    · exact fun e => f4 y a z e.symm
  exact ⟨m, hn.sameBut sb haC, fun h3 sb3 => ⟨_, H', I2.turned (t' := s2.toks) (fun b o hb e => (sb3.2 b hb).trans e) f0 f1 f3 f4 f5, q⟩⟩
/-- d.get(k), d.get(k, x): the default frozen -/
def eGet2 (p q : PF) (f : EF) : EF := fun env => match p env with
  | none => none
  | some (x, e1) => match rdP e1 x with
    | some (.dk _) => match q e1 with
      | none => none
      | some (y, e2) => match f e2 with
        | none => none
        | some (r, e3) => match rdP e3 x with
          | some (.dk kvs) => match rdP e3 y with
            | none => none
            | some yd => match yd.ky with
              | none => none
              | some kk => some (.im ((lkD kvs kk).getD r.d), e3)
          | _ => none
    | _ => none
theorem isD_of {F H : Hp} {v : V} {kvs : List (Ky × D)} (ag : Ag F H) (h : RdD X.K F H v (.dk kvs)) : ∃ a, v = .ref a ∧ IsD H a := by
  obtain ⟨a, ks, e, h1, _⟩ := h.dk_inv ag
  exact ⟨a, e, .inl ⟨ks, h1⟩⟩
theorem KvAll.getD {K : PySem.W.Frag} {F : Hp} {ks : List (Key × V)} {kvs : List (Ky × D)} {k : Ky} {w : V} {d : D} (h : KvAll K F ks kvs) (hw : Dn K F w d) : Dn K F ((valV ks (kK k)).getD w) ((lkD kvs k).getD d) := by
  obtain ⟨i1, i2⟩ := h.val k
  cases z : lkD kvs k with
  | none => rw [i2 z]; exact hw
  | some e => obtain ⟨v, e1, e2⟩ := i1 e z; rw [e1]; exact e2
theorem q_get2 {o e f : Expr} {p q : PF} {ff : EF} {apos cpos : Pos} (hu : X.A.units + 1 < cLine) (ho : QP X o p) (he : QP X e q) (hf : QE X f ff) (m : M2 X o "get" apos e f cpos := by exact ⟨rfl, rfl, rfl, rfl⟩) : QE X (.Call (.Attribute o "get" apos) [e, f] [] cpos) (eGet2 p q ff) :=
  (pe_dget2 hu ho he hf m).imp fun σ H Q qq => by
    obtain ⟨b, F, env, r, env', g, hh, k⟩ := qq
    unfold eGet2 at hh
    split at hh
    · cases hh
    rename_i x e1 h1
    split at hh
    · rename_i kv0 h2
      split at hh
      · cases hh
      rename_i y e2 h3
      split at hh
      · cases hh
      rename_i rr e3 h4
      split at hh
      · rename_i kvs h5
        split at hh
        · cases hh
        rename_i yd h6
        split at hh
        · cases hh
        rename_i kk h7
        cases hh
        refine ⟨b, F, env, x, e1, g, h1, fun v H1 F1 g1 s1 pv => ?_⟩
        obtain ⟨a, rfl, hD⟩ := isD_of g1.same (g1.rd pv h2)
        refine ⟨a, rfl, hD, b, F1, e1, y, e2, g1, h3, fun w H2 F2 g2 s2 pw => ⟨b, F2, e2, rr, env', g2, h4, fun z H3 F3 g3 s3 rv => ?_⟩⟩
        obtain ⟨F4, s4, g4, d4⟩ := rv.freeze g3
        obtain ⟨a', ks, ea, hd, hk⟩ := (g4.rd (pv.mono (s2.trans (s3.trans s4))) h5).dk_inv g4.same
        cases ea
        refine ⟨valV ks (kK kk), .inl ⟨ks, kK kk, hd, (g4.rd (pw.mono (s3.trans s4)) h6).ky h7, rfl⟩, k _ H3 F4 g4 (((s1.trans s2).trans s3).trans s4) ?_⟩
        exact hk.getD d4
      · cases hh
    · cases hh
def eGet1 (p q : PF) : EF := fun env => match p env with
  | none => none
  | some (x, e1) => match rdP e1 x with
    | some (.dk _) => match q e1 with
      | none => none
      | some (y, e2) => match rdP e2 x with
          | some (.dk kvs) => match rdP e2 y with
            | none => none
            | some yd => match yd.ky with
              | none => none
              | some kk => some (.im ((lkD kvs kk).getD .non), e2)
          | _ => none
    | _ => none
theorem q_get1 {o e : Expr} {p q : PF} {apos cpos : Pos} (hu : X.A.units + 1 < cLine) (ho : QP X o p) (he : QP X e q) (m : M1 X o "get" apos e cpos := by exact ⟨rfl, rfl, rfl, rfl⟩) : QE X (.Call (.Attribute o "get" apos) [e] [] cpos) (eGet1 p q) :=
  (pe_dget1 hu ho he m).imp fun σ H Q qq => by
    obtain ⟨b, F, env, r, env', g, hh, k⟩ := qq
    unfold eGet1 at hh
    split at hh
    · cases hh
    rename_i x e1 h1
    split at hh
    · rename_i kv0 h2
      split at hh
      · cases hh
      rename_i y e2 h3
      split at hh
      · rename_i kvs h5
        split at hh
        · cases hh
        rename_i yd h6
        split at hh
        · cases hh
        rename_i kk h7
        cases hh
        refine ⟨b, F, env, x, e1, g, h1, fun v H1 F1 g1 s1 pv => ?_⟩
        obtain ⟨a, rfl, hD⟩ := isD_of g1.same (g1.rd pv h2)
        refine ⟨a, rfl, hD, b, F1, e1, y, env', g1, h3, fun w H2 F2 g2 s2 pw => ?_⟩
        obtain ⟨a', ks, ea, hd, hk⟩ := (g2.rd (pv.mono s2) h5).dk_inv g2.same
        cases ea
        refine ⟨valV ks (kK kk), .inl ⟨ks, kK kk, hd, (g2.rd pw h6).ky h7, rfl⟩, k _ H2 F2 g2 (s1.trans s2) ?_⟩
        exact hk.getD .non
      · cases hh
    · cases hh
/-- d.setdefault(k, x) of a name's own dict -/
def eSetd (i : Nat) (q : PF) (f : EF) : EF := fun env => match env[i]? with
  | some c0 => match c0.own, c0.rd with
    | true, some (.dk _) => match q env with
      | none => none
      | some (y, e2) => match f e2 with
        | none => none
        | some (r, e3) => match e3[i]? with
          | some c => match c.own, c.rd with
            | true, some (.dk kvs) => match rdP e3 y with
              | none => none
              | some yd => match yd.ky with
                | none => none
                | some kk => if kvs.length < SL then match lkD kvs kk with
                  | some d => some (.im d, e3)
                  | none => some (.im r.d, e3.set i (c.with (.dk (putD kvs kk r.d))))
                  else none
            | _, _ => none
          | none => none
    | _, _ => none
  | none => none
theorem own_pres {K : PySem.W.Frag} {b : Base} {F H F' H' : Hp} {σ σ' : L2.St} {env env' : Ev} {i : Nat} {c : C} {r : R} {v : V} (g : Gd K b F σ H env) (rv : RV K b F H σ env v r) (h : env[i]? = some c) : True := trivial
theorem q_setd {o e f : Expr} {i : Nat} {q : PF} {ff : EF} {apos cpos : Pos} (ho : PE X o (tVar i)) (he : QP X e q) (hf : QE X f ff) (m : M2 X o "setdefault" apos e f cpos := by exact ⟨rfl, rfl, rfl, rfl⟩) : QE X (.Call (.Attribute o "setdefault" apos) [e, f] [] cpos) (eSetd i q ff) :=
  (pe_dsetd ho he hf m).imp fun σ H Q qq => by
    obtain ⟨b, F, env, r, env', g, hh, k⟩ := qq
    unfold eSetd at hh
    split at hh
    · rename_i c0 h0
      split at hh
      · rename_i kv0 ho0 hr0
        split at hh
        · cases hh
        rename_i y e2 h3
        split at hh
        · cases hh
        rename_i rr e3 h4
        split at hh
        · rename_i c h5
          split at hh
          · rename_i kvs ho5 hr5
            split at hh
            · cases hh
            rename_i yd h6
            split at hh
            · cases hh
            rename_i kk h7
            split at hh
            · rename_i hz
              obtain ⟨w, hw⟩ := g.there h0 hr0
              have hj : σ[i]?.join = some w := by rw [hw]; rfl
              obtain ⟨p, rfl, oo, nF⟩ := own_read g h0 ho0 hr0 hj
              obtain ⟨ks0, o1, _⟩ := oo
              refine ⟨.ref p, hw, p, rfl, .inl ⟨ks0, .inl o1⟩, b, F, env, y, e2, g, h3, fun v H1 F1 g1 s1 pv => ⟨b, F1, e2, rr, e3, g1, h4, fun z H2 F2 g2 s2 rv => ?_⟩⟩
              obtain ⟨F3, s3, g3, d3⟩ := rv.freeze g2
              obtain ⟨p', ep, ⟨ks, a1, a2⟩, nF3⟩ := own_read g3 h5 ho5 hr5 hj
              cases ep
              have sm := (s1.trans s2).trans s3
              refine ⟨ks, kK kk, a1, (g3.rd (pv.mono (s2.trans s3)) h6).ky h7, by rw [a2.length, SL_eq]; exact hz, fun v' hv' => ?_, fun hv' => ?_⟩
              · obtain ⟨i1, i2⟩ := a2.val kk
                cases zz : lkD kvs kk with
                | none => rw [i2 zz] at hv'; cases hv'
                | some d =>
                  rw [zz] at hh
                  cases hh
                  obtain ⟨v2, e1, e2'⟩ := i1 d zz
                  rw [e1] at hv'; cases hv'
                  exact k _ H2 F3 g3 sm e2'
              · obtain ⟨i1, i2⟩ := a2.val kk
                cases zz : lkD kvs kk with
                | some d => obtain ⟨v2, e1, e2'⟩ := i1 d zz; rw [e1] at hv'; cases hv'
                | none =>
                  rw [zz] at hh
                  cases hh
                  exact k _ _ F3 (g3.chg h5 ho5 hj ⟨_, upd_same, a2.put d3⟩) sm d3
            · cases hh
          · cases hh
        · cases hh
      · cases hh
    · cases hh

/-! ### methods that change nothing -/
def D.isStr : D → Bool
  | .str _ => true
  | _ => false
def D.isLst : D → Bool
  | .lst _ => true
  | .fz _ => true
  | _ => false
def eMeth (ty : D → Bool) (f : D → List D → Option R) (p : PF) (a : AF) : EF := fun env => match p env with
  | none => none
  | some (q, e1) => match rdP e1 q with
    | none => none
    | some d1 => if ty d1 = true then match a e1 with
      | none => none
      | some (ps, e2) => match rdP e2 q with
        | none => none
        | some d => match rdPs e2 ps with
          | none => none
          | some ds => match f d ds with
            | none => none
            | some r => some (r, e2)
      else none
theorem tBM_of {T : String} {ty : D → Bool} {r : V → List V → Hp → VK → Prop} {f : D → List D → Option R} {p : PF} {a : AF} (ok : MtOk X.K r f) (ht : ∀ F H v d, Ag F H → RdD X.K F H v d → ty d = true → tyV X.K T v H) {σ : L2.St} {H : Hp} {Q : VK} (q : tEv X.K (eMeth ty f p a) σ H Q) : tBM X.K T r (tPv X.K p) (tAv X.K a) σ H Q := by
  obtain ⟨b, F, env, res, env', g, hf, k⟩ := q
  unfold eMeth at hf
  split at hf
  · cases hf
  rename_i q e1 h1
  split at hf
  · cases hf
  rename_i d1 h2
  split at hf
  · rename_i hty
    split at hf
    · cases hf
    rename_i ps e2 h3
    split at hf
    · cases hf
    rename_i d h4
    split at hf
    · cases hf
    rename_i ds h5
    split at hf
    · cases hf
    rename_i r1 h6
    cases hf
    refine ⟨b, F, env, q, e1, g, h1, fun v H1 F1 g1 s1 pv => ⟨ht F1 H1 v d1 g1.same (g1.rd pv h2) hty, b, F1, e1, ps, env', g1, h3, fun vs H2 F2 g2 s2 pvs => ?_⟩⟩
    exact ok F2 H2 v vs d ds res Q g2.same (g2.rd (pv.mono s2) h4) (g2.rds pvs h5) h6 fun u H3 F3 xt rf => k u H3 F3 (g2.ext xt) ((s1.trans s2).trans xt.ff) (rf.rv g2)
  · cases hf
theorem q_meth {o e : Expr} {es : List Expr} {T id : String} {nm : Str} {ty : D → Bool} {r : V → List V → Hp → VK → Prop} {f : D → List D → Option R} {p : PF} {a : AF} {apos cpos : Pos} (ok : MtOk X.K r f) (ht : ∀ F H v d, Ag F H → RdD X.K F H v d → ty d = true → tyV X.K T v H) (pa : PlainAttrs T) (slot : Slot T nm id) (hty : typeOf (.builtin id) = pure (.type "method_descriptor")) (hm : MtR X id r) (ho : QP X o p) (ha : QA X (e :: es) a)
    (hbase : attributeBase o nm X.env (eval o X.env) = eval o X.env := by rfl)
    (hfew : ((backTo cpos (starEach (e :: es) X.env)).all (fun x => !x.1) && (backToKw cpos (keywordEach [] X.env)).all (fun x => x.1.isSome)
      && decide ((e :: es).length + ([] : List Keyword).length + (if ([] : List Keyword).isEmpty then 0 else 1) < 30)) = true := by rfl)
    (hline : (apos.endLine == cpos.line) = true := by rfl) (hs : starEach (e :: es) X.env = (false, eval e X.env) :: starEach es X.env := by rfl) (hplain : (backTo cpos (starEach es X.env)).any (·.1) = false := by rfl) :
    QE X (.Call (.Attribute o nm apos) (e :: es) [] cpos) (eMeth ty f p a) := (pe_bm pa slot hty hm ho ha hbase hfew hline hs hplain).imp fun _ _ _ q => tBM_of ok ht q
theorem ty_str {K : PySem.W.Frag} : ∀ F H v d, Ag F H → RdD K F H v d → d.isStr = true → tyV K "str" v H := fun F H v d ag h t => by
  cases d with
  | str x => rw [h.str_inv]; rfl
  | _ => cases t
theorem ty_lst {K : PySem.W.Frag} : ∀ F H v d, Ag F H → RdD K F H v d → d.isLst = true → tyV K "list" v H := fun F H v d ag h t => by
  cases d with
  | lst x => obtain ⟨a, vs, rfl, h1, _⟩ := h.lst_inv ag; exact .inl ⟨rfl, vs, .of h1⟩
  | fz x => obtain ⟨a, vs, rfl, h1, _⟩ := h.fz_inv ag; exact .inl ⟨rfl, vs, h1⟩
  | _ => cases t
/-- texts of a sequence -/
def texts : List D → Option (List Tx)
  | [] => some []
  | .str x :: ds => match texts ds with
    | some xs => some (x :: xs)
    | none => none
  | _ => none
theorem texts_dn {K : PySem.W.Frag} {F : Hp} : ∀ {vs : List V} {ds : List D} {xs : List Tx}, DnAll K F vs ds → texts ds = some xs → vs = (xs.map S).map V.str
  | _, _, _, .nil, h => by cases h; rfl
  | _, _, xs, .cons (d := d) h t, e => by
    cases h with
    | str x =>
      unfold texts at e
      split at e
      · rename_i ys q; cases e; rw [List.map_cons, List.map_cons, texts_dn t q]
      · cases e
    | _ => cases e
def joinT (a : Tx) : List Tx → Tx
  | [] => []
  | [x] => x
  | x :: y :: r => x ++ a ++ joinT a (y :: r)
theorem join_S (a : Tx) : ∀ xs : List Tx, Txt.join (S a) (xs.map S) = S (joinT a xs) := by
  intro xs
  rw [show Txt.join (S a) (xs.map S) = PySem.Str.join (S a) (xs.map S) from StrLaws.glued_eq_join _ _]
  induction xs with
  | nil => rfl
  | cons x r ih =>
    cases r with
    | nil => rfl
    | cons y r =>
      have e : PySem.Str.join (S a) ((x :: y :: r).map S) = S x ++ S a ++ PySem.Str.join (S a) ((y :: r).map S) := rfl
      rw [e, ih, S_append, S_append]; rfl
def fJoin : D → List D → Option R := fun x ds => match x, ds with
  | .str a, [d] => match d.seq with
    | none => none
    | some es => match texts es with
      | none => none
      | some xs => if (xs.map List.length).sum + xs.length * a.length ≤ SL then some (.im (.str (joinT a xs))) else none
  | _, _ => none
theorem ok_join {K : PySem.W.Frag} : MtOk K (fun x xs H Q => ∃ a p, ∃ ys : List Str, x = .str a ∧ xs = [.ref p] ∧ (SqL K H p (ys.map V.str) ∨ SqT K H p (ys.map V.str)) ∧ (ys.map (·.length)).sum + ys.length * a.length ≤ 16777216 ∧ Q (.str (Txt.join a ys)) H) fJoin := fun F H x vs dx ds res Q ag hx hd e k => by
  unfold fJoin at e
  split at e
  · rename_i a d
    split at e
    · cases e
    rename_i es h1
    split at e
    · cases e
    rename_i xs h2
    split at e
    · rename_i hz
      cases e
      cases hd with
      | cons h t =>
        cases t
        obtain ⟨p, ws, rfl, hs, hw⟩ := h.seq_inv ag h1
        rw [texts_dn hw h2] at hs
        refine ⟨S a, p, xs.map S, hx.str_inv, rfl, hs, ?_, ?_⟩
        · rw [List.map_map, List.length_map, S_length]
          have : (Str.length ∘ S) = List.length := by funext z; exact S_length z
          rw [this]; exact hz
        · rw [join_S]
          exact k _ H F (Xt.refl ag) (Dn.str _)
    · cases e
  · cases e
def fCount : D → List D → Option R := fun x ds => match x, ds with
  | .str a, [.str b] => some (.im (.int (cntIn b a : Nat)))
  | _, _ => none
theorem ok_count {K : PySem.W.Frag} : MtOk K (fun x xs H Q => ∃ a b, x = .str a ∧ xs = [.str b] ∧ Q (.int (Txt.count a b)) H) fCount := fun F H x vs dx ds res Q ag hx hd e k => by
  unfold fCount at e
  split at e
  · rename_i a b
    cases e
    cases hd with
    | cons h t =>
      cases t
      refine ⟨S a, S b, hx.str_inv, by rw [h.str_inv], ?_⟩
      have : Txt.count (S a) (S b) = (cntIn b a : Nat) := by
        unfold Txt.count cntIn
        rw [occ_S, S_length, Nat.sub_zero]
      rw [this]
      exact k _ H F (Xt.refl ag) (Dn.int _)
  · cases e
end
end MP
namespace MP
open PySem PySem.Spec PyProof.Rows L2

/-! ### order of texts -/
theorem tlt_irrefl (a : Tx) : ¬ a < a := List.lt_irrefl a
theorem tlt_trans {a b c : Tx} (h : a < b) (h' : b < c) : a < c := List.lt_trans h h'
theorem tle_antisymm {a b : Tx} (h : ¬ a < b) (h' : ¬ b < a) : a = b := List.le_antisymm (List.not_lt.mp h') (List.not_lt.mp h)
def insT (x : Tx) : List Tx → List Tx
  | [] => [x]
  | y :: r => if y < x then y :: insT x r else x :: y :: r
def sortT : List Tx → List Tx
  | [] => []
  | x :: r => insT x (sortT r)
theorem insT_perm (x : Tx) : ∀ l : List Tx, (insT x l).Perm (x :: l)
  | [] => .refl _
  | y :: r => by
    unfold insT
    split
    · exact ((insT_perm x r).cons y).trans (.swap x y r)
    · exact .refl _
theorem sortT_perm : ∀ l : List Tx, (sortT l).Perm l
  | [] => .refl _
  | x :: r => (insT_perm x (sortT r)).trans ((sortT_perm r).cons x)
theorem insT_sorted (x : Tx) : ∀ l : List Tx, l.Pairwise (fun a b => ¬ b < a) → (insT x l).Pairwise fun a b => ¬ b < a
  | [], _ => by simp [insT]
  | y :: r, h => by
    rw [List.pairwise_cons] at h
    unfold insT
    split
    · rename_i hy
      rw [List.pairwise_cons]
      refine ⟨fun z hz => ?_, insT_sorted x r h.2⟩
      rcases List.mem_cons.mp ((insT_perm x r).mem_iff.mp hz) with rfl | hz
      · exact fun q => tlt_irrefl _ (tlt_trans hy q)
      · exact h.1 z hz
    · rename_i hy
      rw [List.pairwise_cons, List.pairwise_cons]
      refine ⟨fun z hz => ?_, h⟩
      rcases List.mem_cons.mp hz with rfl | hz2
      · exact hy
      · intro q
        by_cases w : x < y
        · exact h.1 z hz2 (tlt_trans q w)
        · exact h.1 z hz2 (tle_antisymm w hy ▸ q)
theorem sortT_sorted : ∀ l : List Tx, (sortT l).Pairwise fun a b => ¬ b < a
  | [] => .nil
  | x :: r => insT_sorted x _ (sortT_sorted r)
theorem sorted_unique : ∀ {l m : List Tx}, l.Perm m → (l.Pairwise fun a b => ¬ b < a) → (m.Pairwise fun a b => ¬ b < a) → l = m
  | [], m, p, _, _ => by have := p.length_eq; cases m with
    | nil => rfl
    | cons _ _ => cases this
  | x :: l, [], p, _, _ => by have := p.length_eq; cases this
  | x :: l, y :: m, p, h1, h2 => by
    rw [List.pairwise_cons] at h1 h2
    have e : x = y := by
      have hx := p.mem_iff.mp (List.mem_cons_self (a := x) (l := l))
      have hy := p.mem_iff.mpr (List.mem_cons_self (a := y) (l := m))
      rcases List.mem_cons.mp hx with e | hx
      · exact e
      · rcases List.mem_cons.mp hy with e | hy
        · exact e.symm
        · exact tle_antisymm (h2.1 x hx) (h1.1 y hy)
    subst e
    rw [sorted_unique (p.cons_inv) h1.2 h2.2]
theorem rising_pair : ∀ (ys : List Tx) (p : Tx), risingS (S p) (ys.map S) = true → (p :: ys).Pairwise fun a b => ¬ b < a
  | [], p, _ => by simp
  | y :: r, p, h => by
    rw [List.map_cons, risingS, Bool.and_eq_true, S_cps, S_cps, ltCps_eq, Bool.not_eq_true', decide_eq_false_iff_not] at h
    have ih := rising_pair r y h.2
    rw [List.pairwise_cons] at ih ⊢
    refine ⟨fun z hz => ?_, List.pairwise_cons.mpr ih⟩
    rcases List.mem_cons.mp hz with rfl | hz
    · exact h.1
    · intro q
      by_cases e : y = p
      · subst e; exact ih.1 z hz q
      · by_cases w : p < y
        · exact ih.1 z hz (tlt_trans q w)
        · exact e (tle_antisymm h.1 w)
theorem sortedS_pair : ∀ {ys : List Tx}, sortedS (ys.map S) = true → ys.Pairwise fun a b => ¬ b < a
  | [], _ => .nil
  | y :: r, h => rising_pair r y h
theorem perm_map_S {zs : List Str} {xs : List Tx} (h : zs.Perm (xs.map S)) : ∃ ys : List Tx, zs = ys.map S ∧ ys.Perm xs := by
  refine ⟨zs.map fun z => z.cps.toList, ?_, ?_⟩
  · rw [List.map_map]
    have : (S ∘ fun z : Str => z.cps.toList) = id := by funext z; exact (S_of z).symm
    rw [this, List.map_id]
  · have := h.map fun z : Str => z.cps.toList
    rw [List.map_map] at this
    have e : ((fun z : Str => z.cps.toList) ∘ S) = id := by funext z; exact S_cps z
    rw [e, List.map_id] at this
    exact this

/-! ### lists of one kind -/
def intsL : List D → Option (List Int)
  | [] => some []
  | .int i :: ds => match intsL ds with
    | some xs => some (i :: xs)
    | none => none
  | _ => none
theorem ints_dn {K : PySem.W.Frag} {F : Hp} : ∀ {vs : List V} {ds : List D} {xs : List Int}, DnAll K F vs ds → intsL ds = some xs → vs = xs.map V.int
  | _, _, _, .nil, h => by cases h; rfl
  | _, _, xs, .cons (d := d) h t, e => by
    cases h with
    | int x =>
      unfold intsL at e
      split at e
      · rename_i ys q; cases e; rw [List.map_cons, ints_dn t q]
      · cases e
    | _ => cases e
def bools : List D → Option (List Bool)
  | [] => some []
  | .bl i :: ds => match bools ds with
    | some xs => some (i :: xs)
    | none => none
  | _ => none
theorem bools_dn {K : PySem.W.Frag} {F : Hp} : ∀ {vs : List V} {ds : List D} {xs : List Bool}, DnAll K F vs ds → bools ds = some xs → vs = xs.map V.bl
  | _, _, _, .nil, h => by cases h; rfl
  | _, _, xs, .cons (d := d) h t, e => by
    cases h with
    | bl x =>
      unfold bools at e
      split at e
      · rename_i ys q; cases e; rw [List.map_cons, bools_dn t q]
      · cases e
    | _ => cases e
theorem dn_texts {K : PySem.W.Frag} {F : Hp} : ∀ xs : List Tx, DnAll K F ((xs.map S).map V.str) (xs.map D.str)
  | [] => .nil
  | x :: r => .cons (.str x) (dn_texts r)
theorem dn_ints {K : PySem.W.Frag} {F : Hp} : ∀ xs : List Int, DnAll K F (xs.map V.int) (xs.map D.int)
  | [] => .nil
  | x :: r => .cons (.int x) (dn_ints r)
def keysD (kvs : List (Ky × D)) : List D := kvs.map fun kv => match kv.1 with
  | .inl i => .int i
  | .inr x => .str x
theorem dn_keys {K : PySem.W.Frag} {F F' : Hp} : ∀ {ks : List (Key × V)} {kvs : List (Ky × D)}, KvAll K F ks kvs → DnAll K F' (ks.map fun kv => kV kv.1) (keysD kvs)
  | _, _, .nil => .nil
  | _, _, .cons (k := k) h t => by
    cases k with
    | inl i => exact .cons (.int i) (dn_keys t)
    | inr x => exact .cons (.str x) (dn_keys t)

section
variable {X : Cx}
/-! ### builtins -/
def fLen : List D → Option R := fun ds => match ds with
  | [.str x] => if x.length ≤ SL then some (.im (.int (x.length : Nat))) else none
  | [.dk kvs] => some (.im (.int (kvs.length : Nat)))
  | [d] => match d.seq with
    | some es => some (.im (.int (es.length : Nat)))
    | none => none
  | _ => none
def rLenA (K : PySem.W.Frag) : List V → Hp → VK → Prop := fun xs H Q => (∃ x n, xs = [x] ∧ LenV K x H n ∧ Q (.int n) H) ∨ ∃ a kvs, xs = [.ref a] ∧ Rd H a (.dK kvs) ∧ Q (.int (kvs.length : Nat)) H
theorem call_lenA : CallR X (.builtin "len") (rLenA X.K) := by
  refine call_len.or fun pins s σ H xs us Q I r h => ?_
  obtain ⟨a, kvs, rfl, hd, q⟩ := h
  obtain ⟨u, rfl, rx⟩ := vals1 r
  cases rx
  exact d_len I hd fun t s' I' => ⟨.int kvs.length, H, I', ⟨t, rfl⟩, q⟩
theorem ok_len {K : PySem.W.Frag} : CallOk K (rLenA K) fLen := fun F H vs ds res Q ag hd e k => by
  unfold fLen at e
  split at e
  · rename_i x
    split at e
    · rename_i c
      cases e
      cases hd with
      | cons h t =>
        cases t
        refine .inl ⟨_, x.length, rfl, ?_, k _ H F (Xt.refl ag) (Dn.int _)⟩
        rw [h.str_inv]
        exact ⟨by rw [S_length, SL_eq]; exact c, (S_length x).symm⟩
    · cases e
  · rename_i kvs
    cases e
    cases hd with
    | cons h t =>
      cases t
      obtain ⟨a, ks, rfl, h1, h2⟩ := h.dk_inv ag
      refine .inr ⟨a, ks, rfl, h1, ?_⟩
      rw [h2.length]
      exact k _ H F (Xt.refl ag) (Dn.int _)
  · rename_i d _ _
    split at e
    · rename_i es he
      cases e
      cases hd with
      | cons h t =>
        cases t
        obtain ⟨a, ws, rfl, hs, hw⟩ := h.seq_inv ag he
        refine .inl ⟨_, es.length, rfl, ?_, k _ H F (Xt.refl ag) (Dn.int _)⟩
        rcases hs with hs | hs
        · exact .inl ⟨ws, hs, hw.length.symm⟩
        · exact .inr ⟨ws, hs, hw.length.symm⟩
    · cases e
  · cases e
def fList : List D → Option R := fun ds => match ds with
  | [.dk kvs] => some (.fr (.lst (keysD kvs)))
  | [d] => match d.seq with
    | some es => some (.fr (.lst es))
    | none => none
  | _ => none
def rListA (K : PySem.W.Frag) : List V → Hp → VK → Prop := fun xs H Q => (∃ p ys, xs = [.ref p] ∧ (SqL K H p ys ∨ SqT K H p ys) ∧ ∀ l, H l = none → Q (.ref l) (upd H l (.lst ys))) ∨
  ∃ (a : Addr) (kvs : List (Key × V)), xs = [.ref a] ∧ Rd H a (.dK kvs) ∧ ∀ p, H p = none → Q (.ref p) (upd H p (.lst (kvs.map fun kv => kV kv.1)))
theorem DnAll.toRF {K : PySem.W.Frag} {F H : Hp} {p : Addr} {vs : List V} {ds : List D} (ag : Ag F H) (n : H p = none) (h : DnAll K F vs ds) : RF K H F (upd H p (.lst vs)) (.ref p) (.fr (.lst ds)) := ⟨p, rfl, n, ag.free n, vs, upd_same, h⟩
theorem ok_list {K : PySem.W.Frag} : CallOk K (rListA K) fList := fun F H vs ds res Q ag hd e k => by
  unfold fList at e
  split at e
  · rename_i kvs
    cases e
    cases hd with
    | cons h t =>
      cases t
      obtain ⟨a, ks, rfl, h1, h2⟩ := h.dk_inv ag
      exact .inr ⟨a, ks, rfl, h1, fun p hp => k _ _ F (Xt.fresh ag hp) ((dn_keys h2).toRF ag hp)⟩
  · rename_i d _
    split at e
    · rename_i es he
      cases e
      cases hd with
      | cons h t =>
        cases t
        obtain ⟨a, ws, rfl, hs, hw⟩ := h.seq_inv ag he
        exact .inl ⟨a, ws, rfl, hs, fun p hp => k _ _ F (Xt.fresh ag hp) (hw.toRF ag hp)⟩
    · cases e
  · cases e
def fTuple : List D → Option R := fun ds => match ds with
  | [.tup es] => some (.im (.tup es))
  | [.lst es] => some (.im (.tup es))
  | [.fz es] => some (.im (.tup es))
  | _ => none
theorem ok_tuple {K : PySem.W.Frag} : CallOk K (fun xs H Q => ∃ p ys, xs = [.ref p] ∧ ((SqL K H p ys ∧ ∀ l, H l = none → Q (.ref l) (upd H l (.tup ys))) ∨ (SqT K H p ys ∧ Q (.ref p) H))) fTuple := fun F H vs ds res Q ag hd e k => by
  have lst : ∀ {es : List D} {a : Addr} {ws : List V}, res = .im (.tup es) → SqL K H a ws → DnAll K F ws es → ∀ l, H l = none → Q (.ref l) (upd H l (.tup ws)) := fun {es a ws} er hs hw l hl => by
    subst er
    have xt := Xt.laid (o := .tup ws) ag hl
    exact k _ _ _ xt (Dn.tup (.of upd_same) (hw.mono xt.ff))
  unfold fTuple at e
  split at e
  · cases e
    cases hd with
    | cons h t =>
      cases t
      obtain ⟨a, ws, rfl, h0, h1, h2⟩ := h.tup_inv ag
      exact ⟨a, ws, rfl, .inr ⟨h1, k _ H F (Xt.refl ag) (Dn.tup h0 h2)⟩⟩
  · cases e
    cases hd with
    | cons h t =>
      cases t
      obtain ⟨a, ws, rfl, h1, h2⟩ := h.lst_inv ag
      exact ⟨a, ws, rfl, .inl ⟨.of h1, lst rfl (.of h1) h2⟩⟩
  · cases e
    cases hd with
    | cons h t =>
      cases t
      obtain ⟨a, ws, rfl, h1, h2⟩ := h.fz_inv ag
      exact ⟨a, ws, rfl, .inl ⟨h1, lst rfl h1 h2⟩⟩
  · cases e
def fMax2 : List D → Option R := fun ds => match ds with
  | [.int i, .int j] => some (.im (.int (if j > i then j else i)))
  | _ => none
def fMin2 : List D → Option R := fun ds => match ds with
  | [.int i, .int j] => some (.im (.int (if j < i then j else i)))
  | _ => none
theorem ok_max2 {K : PySem.W.Frag} : CallOk K (fun xs H Q => ∃ i j, xs = [.int i, .int j] ∧ Q (.int (if j > i then j else i)) H) fMax2 := fun F H vs ds res Q ag hd e k => by
  unfold fMax2 at e
  split at e
  · rename_i i j
    cases e
    cases hd with
    | cons h t =>
      cases t with
      | cons h2 t2 =>
        cases t2
        exact ⟨i, j, by rw [h.int_inv, h2.int_inv], k _ H F (Xt.refl ag) (Dn.int _)⟩
  · cases e
theorem ok_min2 {K : PySem.W.Frag} : CallOk K (fun xs H Q => ∃ i j, xs = [.int i, .int j] ∧ Q (.int (if j < i then j else i)) H) fMin2 := fun F H vs ds res Q ag hd e k => by
  unfold fMin2 at e
  split at e
  · rename_i i j
    cases e
    cases hd with
    | cons h t =>
      cases t with
      | cons h2 t2 =>
        cases t2
        exact ⟨i, j, by rw [h.int_inv, h2.int_inv], k _ H F (Xt.refl ag) (Dn.int _)⟩
  · cases e
def maxI : List Int → Option Int
  | [] => none
  | x :: r => some (r.foldl max x)
def minI : List Int → Option Int
  | [] => none
  | x :: r => some (r.foldl min x)
theorem foldl_max (r : List Int) : ∀ x : Int, (r.foldl max x ∈ x :: r) ∧ ∀ y ∈ x :: r, y ≤ r.foldl max x := by
  induction r with
  | nil => intro x; simp
  | cons a r ih =>
    intro x
    obtain ⟨h1, h2⟩ := ih (max x a)
    rw [List.foldl_cons]
    refine ⟨?_, fun y hy => ?_⟩
    · rcases List.mem_cons.mp h1 with e | h1
      · rw [e]
        by_cases c : x ≤ a
        · rw [Int.max_eq_right c]; simp
        · rw [Int.max_eq_left (by omega)]; simp
      · exact List.mem_cons_of_mem _ (List.mem_cons_of_mem _ h1)
    · have h3 := h2 (max x a) List.mem_cons_self
      rcases List.mem_cons.mp hy with rfl | hy
      · omega
      · rcases List.mem_cons.mp hy with rfl | hy
        · omega
        · exact h2 y (List.mem_cons_of_mem _ hy)
theorem foldl_min (r : List Int) : ∀ x : Int, (r.foldl min x ∈ x :: r) ∧ ∀ y ∈ x :: r, r.foldl min x ≤ y := by
  induction r with
  | nil => intro x; simp
  | cons a r ih =>
    intro x
    obtain ⟨h1, h2⟩ := ih (min x a)
    rw [List.foldl_cons]
    refine ⟨?_, fun y hy => ?_⟩
    · rcases List.mem_cons.mp h1 with e | h1
      · rw [e]
        by_cases c : x ≤ a
        · rw [Int.min_eq_left c]; simp
        · rw [Int.min_eq_right (by omega)]; simp
      · exact List.mem_cons_of_mem _ (List.mem_cons_of_mem _ h1)
    · have h3 := h2 (min x a) List.mem_cons_self
      rcases List.mem_cons.mp hy with rfl | hy
      · omega
      · rcases List.mem_cons.mp hy with rfl | hy
        · omega
        · exact h2 y (List.mem_cons_of_mem _ hy)
def fIntsL (f : List Int → Option D) : List D → Option R := fun ds => match ds with
  | [.lst es] => match intsL es with
    | some xs => match f xs with
      | some d => some (.im d)
      | none => none
    | none => none
  | _ => none
theorem fIntsL_inv {K : PySem.W.Frag} {F H : Hp} {f : List Int → Option D} {vs : List V} {ds : List D} {res : R} (ag : Ag F H) (hd : RdAll K F H vs ds) (e : fIntsL f ds = some res) : ∃ a xs d, vs = [.ref a] ∧ SqL K H a (xs.map V.int) ∧ f xs = some d ∧ res = .im d := by
  unfold fIntsL at e
  split at e
  · rename_i es
    split at e
    · rename_i xs h1
      split at e
      · rename_i d h2
        cases e
        cases hd with
        | cons h t =>
          cases t
          obtain ⟨a, ws, rfl, h3, h4⟩ := h.lst_inv ag
          rw [ints_dn h4 h1] at h3
          exact ⟨a, xs, d, rfl, .of h3, h2, rfl⟩
      · cases e
    · cases e
  · cases e
def fMax1 : List D → Option R := fIntsL fun xs => (maxI xs).map D.int
def fMin1 : List D → Option R := fIntsL fun xs => (minI xs).map D.int
def fSum : List D → Option R := fIntsL fun xs => some (.int xs.sum)
theorem ok_max1 {K : PySem.W.Frag} : CallOk K (rMax K) fMax1 := fun F H vs ds res Q ag hd e k => by
  obtain ⟨a, xs, d, rfl, h1, h2, rfl⟩ := fIntsL_inv ag hd e
  cases xs with
  | nil => cases h2
  | cons x r =>
    cases h2
    obtain ⟨m1, m2⟩ := foldl_max r x
    refine ⟨a, _, rfl, h1, by simp, fun m hm hle => ?_⟩
    have : m = r.foldl max x := by
      have := m2 m hm
      have := hle _ m1
      omega
    rw [this]
    exact k _ H F (Xt.refl ag) (Dn.int _)
theorem ok_min1 {K : PySem.W.Frag} : CallOk K (rMin K) fMin1 := fun F H vs ds res Q ag hd e k => by
  obtain ⟨a, xs, d, rfl, h1, h2, rfl⟩ := fIntsL_inv ag hd e
  cases xs with
  | nil => cases h2
  | cons x r =>
    cases h2
    obtain ⟨m1, m2⟩ := foldl_min r x
    refine ⟨a, _, rfl, h1, by simp, fun m hm hle => ?_⟩
    have : m = r.foldl min x := by
      have := m2 m hm
      have := hle _ m1
      omega
    rw [this]
    exact k _ H F (Xt.refl ag) (Dn.int _)
theorem ok_sum {K : PySem.W.Frag} : CallOk K (rSum K) fSum := fun F H vs ds res Q ag hd e k => by
  obtain ⟨a, xs, d, rfl, h1, h2, rfl⟩ := fIntsL_inv ag hd e
  cases h2
  exact ⟨a, xs, rfl, h1, k _ H F (Xt.refl ag) (Dn.int _)⟩
def fBoolsL (f : List Bool → Bool) : List D → Option R := fun ds => match ds with
  | [.lst es] => match bools es with
    | some xs => some (.im (.bl (f xs)))
    | none => none
  | _ => none
theorem fBoolsL_inv {K : PySem.W.Frag} {F H : Hp} {f : List Bool → Bool} {vs : List V} {ds : List D} {res : R} (ag : Ag F H) (hd : RdAll K F H vs ds) (e : fBoolsL f ds = some res) : ∃ a xs, vs = [.ref a] ∧ SqL K H a (xs.map V.bl) ∧ res = .im (.bl (f xs)) := by
  unfold fBoolsL at e
  split at e
  · rename_i es
    split at e
    · rename_i xs h1
      cases e
      cases hd with
      | cons h t =>
        cases t
        obtain ⟨a, ws, rfl, h3, h4⟩ := h.lst_inv ag
        rw [bools_dn h4 h1] at h3
        exact ⟨a, xs, rfl, .of h3, rfl⟩
    · cases e
  · cases e
def fAll : List D → Option R := fBoolsL fun bs => bs.all id
def fAny : List D → Option R := fBoolsL fun bs => bs.any id
theorem ok_all {K : PySem.W.Frag} : CallOk K (rAll K) fAll := fun F H vs ds res Q ag hd e k => by
  obtain ⟨a, xs, rfl, h1, rfl⟩ := fBoolsL_inv ag hd e
  exact ⟨a, xs, rfl, h1, k _ H F (Xt.refl ag) (Dn.bl _)⟩
theorem ok_any {K : PySem.W.Frag} : CallOk K (rAny K) fAny := fun F H vs ds res Q ag hd e k => by
  obtain ⟨a, xs, rfl, h1, rfl⟩ := fBoolsL_inv ag hd e
  exact ⟨a, xs, rfl, h1, k _ H F (Xt.refl ag) (Dn.bl _)⟩
def fAbs : List D → Option R := fun ds => match ds with
  | [.int i] => some (.im (.int (if i < 0 then -i else i)))
  | _ => none
theorem ok_abs {K : PySem.W.Frag} : CallOk K (fun xs H Q => ∃ i, xs = [.int i] ∧ Q (.int (if i < 0 then -i else i)) H) fAbs := fun F H vs ds res Q ag hd e k => by
  unfold fAbs at e
  split at e
  · rename_i i
    cases e
    cases hd with
    | cons h t => cases t; exact ⟨i, by rw [h.int_inv], k _ H F (Xt.refl ag) (Dn.int _)⟩
  · cases e
def fInt1 : List D → Option R := fun ds => match ds with
  | [.int i] => some (.im (.int i))
  | [.bl b] => some (.im (.int (if b then 1 else 0)))
  | _ => none
theorem ok_int1 {K : PySem.W.Frag} : CallOk K (fun xs H Q => (∃ i, xs = [.int i] ∧ Q (.int i) H) ∨ ∃ k, xs = [.bl k] ∧ Q (.int (if k then 1 else 0)) H) fInt1 := fun F H vs ds res Q ag hd e k => by
  unfold fInt1 at e
  split at e
  · rename_i i
    cases e
    cases hd with
    | cons h t => cases t; exact .inl ⟨i, by rw [h.int_inv], k _ H F (Xt.refl ag) (Dn.int _)⟩
  · rename_i i
    cases e
    cases hd with
    | cons h t => cases t; exact .inr ⟨i, by rw [h.bl_inv], k _ H F (Xt.refl ag) (Dn.int _)⟩
  · cases e
/-- isinstance(x, T) -/
def D.tyName : D → Option String
  | .non => some "NoneType"
  | .bl _ => some "bool"
  | .int _ => some "int"
  | .str _ => some "str"
  | .tup _ => some "tuple"
  | .lst _ => some "list"
  | .fz _ => some "list"
  | .dk _ => some "dict"
  | _ => none
def isiB (a b : String) : Option Bool := if a = b then some true else if a = "bool" ∧ b = "int" then some true else if b = "int" ∨ b = "str" ∨ b = "tuple" ∨ b = "list" ∨ b = "bool" ∨ b = "dict" then some false else none
theorem isiB_ok {d : D} {a b : String} {k : Bool} (ha : d.tyName = some a) (h : isiB a b = some k) : kitB a b = some k := by
  unfold isiB at h
  by_cases e : a = b
  · rw [if_pos e] at h
    cases h
    subst e
    cases d <;> cases ha <;> decide +kernel
  · rw [if_neg e] at h
    by_cases e2 : a = "bool" ∧ b = "int"
    · rw [if_pos e2] at h
      cases h
      obtain ⟨rfl, rfl⟩ := e2
      decide +kernel
    · rw [if_neg e2] at h
      split at h
      · rename_i c
        cases h
        rcases c with rfl | rfl | rfl | rfl | rfl | rfl <;> (cases d <;> cases ha <;> first | exact absurd rfl e | exact absurd ⟨rfl, rfl⟩ e2 | decide +kernel)
      · cases h
theorem tyX_of {K : PySem.W.Frag} {F H : Hp} {v : V} {d : D} {a : String} (ag : Ag F H) (h : RdD K F H v d) (e : d.tyName = some a) : TyX K H v (.type a) := by
  cases d <;> cases e
  · rw [h.non_inv]; exact .base .non
  · rw [h.bl_inv]; exact .base (.bl _)
  · rw [h.int_inv]; exact .base (.int _)
  · rw [h.str_inv]; exact .base (.str _)
  · obtain ⟨p, vs, rfl, _, h1, _⟩ := h.tup_inv ag
    rcases h1 with (h1 | ⟨o, h1⟩) | ⟨o, _, _, h1, h2, _⟩
    · exact .base (.tup h1)
    · exact .fTuple h1
    · exact .kTuple h1 h2
  · obtain ⟨p, vs, rfl, h1, _⟩ := h.lst_inv ag
    exact .base (.lst h1)
  · obtain ⟨p, ks, rfl, h1, _⟩ := h.dk_inv ag
    rcases h1 with h1 | ⟨o, h1⟩
    · exact .base (.dK h1)
    · exact .fDict h1
  · obtain ⟨p, vs, rfl, h1, _⟩ := h.fz_inv ag
    rcases h1 with (h1 | ⟨o, h1⟩) | ⟨o, _, _, h1, h2, _⟩
    · exact .base (.lst h1)
    · exact .base (.frz h1)
    · exact .kList h1 h2
def fIsi : List D → Option R := fun ds => match ds with
  | [x, .ty n] => match x.tyName with
    | some a => match isiB a n with
      | some k => some (.im (.bl k))
      | none => none
    | none => none
  | _ => none
theorem ok_isi {K : PySem.W.Frag} : CallOk K (rIsi K) fIsi := fun F H vs ds res Q ag hd e k => by
  unfold fIsi at e
  split at e
  · rename_i x n
    split at e
    · rename_i a ha
      split at e
      · rename_i kk hk
        cases e
        cases hd with
        | cons h t =>
          cases t with
          | cons h2 t2 =>
            cases t2
            exact ⟨_, .ty n, .type a, .type n, kk, by rw [h2.ty_inv], .ty n, tyX_of ag h ha, kit_ty (isiB_ok ha hk), k _ H F (Xt.refl ag) (Dn.bl _)⟩
      · cases e
    · cases e
  · cases e
theorem q_ty {x : Str} {n : String} {pos : Pos} (hm : X.mg x = none) (hg : Gl X x := by rfl) (hv : bootBuiltins x = some (.type n) := by decide +kernel) (hn : x ≠ "__name__" := by decide) (hdb : (x == ("__debug__" : Str)) = false := by decide) : QE X (.Name x pos) (eC (.ty n)) :=
  q_c (pe_bltn (v := .ty n) hg hm hv rfl hn hdb)
/-- sorted(..) of intsL, of texts, of a dict's text keys -/
def insI (x : Int) : List Int → List Int
  | [] => [x]
  | y :: r => if y < x then y :: insI x r else x :: y :: r
def sortI : List Int → List Int
  | [] => []
  | x :: r => insI x (sortI r)
theorem insI_perm (x : Int) : ∀ l : List Int, (insI x l).Perm (x :: l)
  | [] => .refl _
  | y :: r => by
    unfold insI
    split
    · exact ((insI_perm x r).cons y).trans (.swap x y r)
    · exact .refl _
theorem sortI_perm : ∀ l : List Int, (sortI l).Perm l
  | [] => .refl _
  | x :: r => (insI_perm x (sortI r)).trans ((sortI_perm r).cons x)
theorem insI_sorted (x : Int) : ∀ l : List Int, l.Pairwise (· ≤ ·) → (insI x l).Pairwise (· ≤ ·)
  | [], _ => by simp [insI]
  | y :: r, h => by
    rw [List.pairwise_cons] at h
    unfold insI
    split
    · rename_i hy
      rw [List.pairwise_cons]
      refine ⟨fun z hz => ?_, insI_sorted x r h.2⟩
      rcases List.mem_cons.mp ((insI_perm x r).mem_iff.mp hz) with rfl | hz
      · omega
      · exact h.1 z hz
    · rename_i hy
      rw [List.pairwise_cons, List.pairwise_cons]
      refine ⟨fun z hz => ?_, h⟩
      rcases List.mem_cons.mp hz with rfl | hz
      · omega
      · have := h.1 z hz; omega
theorem sortI_sorted : ∀ l : List Int, (sortI l).Pairwise (· ≤ ·)
  | [] => .nil
  | x :: r => insI_sorted x _ (sortI_sorted r)
theorem sortedI_unique : ∀ {l m : List Int}, l.Perm m → l.Pairwise (· ≤ ·) → m.Pairwise (· ≤ ·) → l = m
  | [], m, p, _, _ => by have := p.length_eq; cases m with
    | nil => rfl
    | cons _ _ => cases this
  | x :: l, [], p, _, _ => by have := p.length_eq; cases this
  | x :: l, y :: m, p, h1, h2 => by
    rw [List.pairwise_cons] at h1 h2
    have e : x = y := by
      have hx := p.mem_iff.mp (List.mem_cons_self (a := x) (l := l))
      have hy := p.mem_iff.mpr (List.mem_cons_self (a := y) (l := m))
      rcases List.mem_cons.mp hx with e | hx
      · exact e
      · rcases List.mem_cons.mp hy with e | hy
        · exact e.symm
        · have := h2.1 x hx; have := h1.1 y hy; omega
    subst e
    rw [sortedI_unique p.cons_inv h1.2 h2.2]
def rSortedSA (K : PySem.W.Frag) : List V → Hp → VK → Prop := fun vs H Q => ∃ (a : Addr) (xs : List Str), vs = [V.ref a] ∧ SqL K H a (xs.map V.str) ∧
  ∀ (ys : List Str) (p : Addr), ys.Perm xs → sortedS ys = true → H p = none → Q (.ref p) (upd H p (.lst (ys.map V.str)))
theorem cr_sortedSA : CallR X (.builtin "sorted") (rSortedSA X.K) := by
  intro pins s σ H vs us Q I r h
  obtain ⟨a, xs, rfl, hs, q⟩ := h
  obtain ⟨its, rv, hl, hz⟩ := I.list hs
  obtain ⟨u, rfl, rx⟩ := vals1 r
  cases rx
  have hlen0 := rv.length
  refine PyProof.Rows.sorted_strsAny hl.isList rv.strs (by rw [← hlen0]; exact hz) fun out ys h1 h2 h3 => ?_
  obtain ⟨ep, he'⟩ := PyProof.Rows.sortedAll_at s.heap its out
  have hlen : (ys.map V.str).length ≤ sizeLine := by rw [List.length_map, h2.length_eq]; rw [List.length_map] at hz; exact hz
  exact ⟨.ref _, upd H (s.heap.objs.size + 1) (.lst (ys.map V.str)), I.laid (t' := s.toks) (fun _ _ => PyProof.Rows.sortedAll_old) (Nat.le_succ _) ⟨hlen, out.toList, ep, vals_of_strs h1, he'⟩, rfl, q ys _ h2 h3 (I.hok.fresh (Nat.le_succ _))⟩
def keyTexts : List (Ky × D) → Option (List Tx)
  | [] => some []
  | (.inr x, _) :: r => match keyTexts r with
    | some xs => some (x :: xs)
    | none => none
  | _ => none
theorem keyTexts_ok {K : PySem.W.Frag} {F : Hp} : ∀ {ks : List (Key × V)} {kvs : List (Ky × D)} {xs : List Tx}, KvAll K F ks kvs → keyTexts kvs = some xs → ks.map (·.1) = (xs.map S).map Sum.inr
  | _, _, _, .nil, h => by cases h; rfl
  | _, _, xs, .cons (k := k) h t, e => by
    cases k with
    | inl _ => cases e
    | inr x =>
      unfold keyTexts at e
      split at e
      · rename_i ys q
        cases e
        rw [List.map_cons, List.map_cons, List.map_cons, keyTexts_ok t q]; rfl
      · cases e
def fSorted : List D → Option R := fun ds => match ds with
  | [.lst es] => match intsL es with
    | some xs => some (.fr (.lst ((sortI xs).map D.int)))
    | none => match texts es with
      | some xs => some (.fr (.lst ((sortT xs).map D.str)))
      | none => none
  | [.dk kvs] => match keyTexts kvs with
    | some xs => if xs.length < 64 then some (.fr (.lst ((sortT xs).map D.str))) else none
    | none => none
  | _ => none
def rSortedA (K : PySem.W.Frag) : List V → Hp → VK → Prop := fun vs H Q => (rSortedSA K vs H Q ∨ rSortedI K vs H Q) ∨ ∃ (a : Addr) (kvs : List (Key × V)) (ks : List Str), vs = [.ref a] ∧ Rd H a (.dK kvs) ∧ kvs.map (·.1) = ks.map Sum.inr ∧ ks.length < 64 ∧ ∀ ys p, ys.Perm ks → sortedS ys = true → H p = none → Q (.ref p) (upd H p (.lst (ys.map V.str)))
theorem sort_fin {ys : List Str} {xs : List Tx} (h1 : ys.Perm (xs.map S)) (h2 : sortedS ys = true) : ys = (sortT xs).map S := by
  obtain ⟨zs, rfl, hz⟩ := perm_map_S h1
  rw [sorted_unique (hz.trans (sortT_perm xs).symm) (sortedS_pair h2) (sortT_sorted xs)]
theorem ok_sorted {K : PySem.W.Frag} : CallOk K (rSortedA K) fSorted := fun F H vs ds res Q ag hd e k => by
  unfold fSorted at e
  split at e
  · rename_i es
    split at e
    · rename_i xs h1
      cases e
      cases hd with
      | cons h t =>
        cases t
        obtain ⟨a, ws, rfl, h3, h4⟩ := h.lst_inv ag
        rw [ints_dn h4 h1] at h3
        refine .inl (.inr ⟨a, xs, rfl, .of h3, fun ns p hp hs hn => ?_⟩)
        have : ns = sortI xs := sortedI_unique (hp.trans (sortI_perm xs).symm) hs (sortI_sorted xs)
        rw [this]
        exact k _ _ F (Xt.fresh ag hn) ((dn_ints _).toRF ag hn)
    · split at e
      · rename_i xs h1
        cases e
        cases hd with
        | cons h t =>
          cases t
          obtain ⟨a, ws, rfl, h3, h4⟩ := h.lst_inv ag
          rw [texts_dn h4 h1] at h3
          refine .inl (.inl ⟨a, xs.map S, rfl, .of h3, fun ys p hp hs hn => ?_⟩)
          rw [sort_fin hp hs]
          exact k _ _ F (Xt.fresh ag hn) ((dn_texts _).toRF ag hn)
      · cases e
  · rename_i kvs
    split at e
    · rename_i xs h1
      split at e
      · rename_i hz
        cases e
        cases hd with
        | cons h t =>
          cases t
          obtain ⟨a, ks, rfl, h3, h4⟩ := h.dk_inv ag
          refine .inr ⟨a, ks, xs.map S, rfl, h3, keyTexts_ok h4 h1, by rw [List.length_map]; exact hz, fun ys p hp hs hn => ?_⟩
          rw [sort_fin hp hs]
          exact k _ _ F (Xt.fresh ag hn) ((dn_texts _).toRF ag hn)
      · cases e
    · cases e
  · cases e
theorem cr_sortedA (hc : X.calm = true) : CallR X (.builtin "sorted") (rSortedA X.K) := (cr_sortedSA.or cr_sortedI).or (call_sortedD hc)
/-! ### repr -/
def D.okR (d : D) : Bool := d.plain && decide (d.dep ≤ 100) && d.py.showable && decide (d.py.shown.length ≤ SL)
def fRepr : List D → Option R := fun ds => match ds with
  | [d] => if d.okR = true then some (.im (.str d.py.shown.cps.toList)) else none
  | _ => none
mutual
theorem py_nodict : ∀ d : D, d.py.hasDict = false
  | .non => rfl
  | .bl _ => rfl
  | .int _ => rfl
  | .str _ => rfl
  | .tup ds => by rw [D.py, PyData.hasDict]; exact pys_nodict ds
  | .lst ds => by rw [D.py, PyData.hasDict]; exact pys_nodict ds
  | .dk _ => rfl
  | .dt _ => rfl
  | .st _ => rfl
  | .fz _ => rfl
  | .ty _ => rfl
theorem pys_nodict : ∀ ds : List D, PyData.hasDictAll (D.pys ds) = false
  | [] => rfl
  | d :: ds => by rw [D.pys, PyData.hasDictAll, py_nodict d, pys_nodict ds]; rfl
end
def rRepr (K : PySem.W.Frag) : List V → Hp → VK → Prop := fun vs H Q => ∃ v d, vs = [v] ∧ Dp K H v d ∧ d.showable = true ∧ d.hasDict = false ∧ d.depth ≤ 100 ∧ d.shown.length ≤ sizeLine ∧ Q (.str d.shown) H
theorem cr_repr {k : Nat} (hr : RG k X.A) : CallR X (.builtin "repr") (rRepr X.K) := by
  intro pins s σ H vs us Q I r h
  obtain ⟨v, d, rfl, hd, h1, h2, h3, h4, q⟩ := h
  obtain ⟨u, rfl, rx⟩ := vals1 r
  have hun := hr.r.un
  cases hd with
  | non => cases rx; exact PySem.P.repr_of_none ⟨.str _, H, I.tok _, ⟨_, rfl⟩, q⟩
  | bl b => cases rx; exact PySem.P.repr_of_bool ⟨.str _, H, I.tok _, ⟨_, by cases b <;> rfl⟩, q⟩
  | int i =>
    obtain ⟨t, rfl⟩ := rx
    exact PySem.P.repr_of_int (by simpa [PyData.showable] using h1) ⟨.str _, H, I.tok _, ⟨_, rfl⟩, q⟩
  | str x =>
    obtain ⟨t, rfl⟩ := rx
    exact PySem.P.repr_of_str ⟨.str _, H, I.tok _, ⟨_, rfl⟩, q⟩ h4
  | lst a1 a2 =>
    cases rx
    obtain ⟨as, rd⟩ := Dp.reads I _ _ _ (.lst a1 a2) rfl
    exact repr_of_reads' rd h1 (fun z => by rw [h2] at z; cases z) hr.g (by omega) (fun _ _ e => e) (fun h' u tk hk => ⟨.str _, H, I.kept hk, ⟨_, rfl⟩, q⟩) h4
  | tup a1 a2 =>
    cases rx
    obtain ⟨as, rd⟩ := Dp.reads I _ _ _ (.tup a1 a2) rfl
    exact repr_of_reads' rd h1 (fun z => by rw [h2] at z; cases z) hr.g (by omega) (fun _ _ e => e) (fun h' u tk hk => ⟨.str _, H, I.kept hk, ⟨_, rfl⟩, q⟩) h4
theorem ok_repr {K : PySem.W.Frag} : CallOk K (rRepr K) fRepr := fun F H vs ds res Q ag hd e k => by
  unfold fRepr at e
  split at e
  · rename_i d
    split at e
    · rename_i c
      cases e
      cases hd with
      | cons h t =>
        cases t
        unfold D.okR at c
        rw [Bool.and_eq_true, Bool.and_eq_true, Bool.and_eq_true, decide_eq_true_eq, decide_eq_true_eq] at c
        refine ⟨_, d.py, rfl, h.dp ag c.1.1.1, c.1.2, py_nodict d, by rw [py_dep]; exact c.1.1.2, by rw [SL_eq]; exact c.2, ?_⟩
        have := k (.str (S d.py.shown.cps.toList)) H F (Xt.refl ag) (Dn.str _)
        rw [← S_of] at this
        exact this
    · cases e
  · cases e
end
end MP
namespace MP
open PySem PySem.Spec PyProof.Rows L2
/-! ### sets of keys, with their tables (after the ints' ones of the library) -/
def keyM (e : Int × Value) : Key := match e.2 with
  | .int k _ => .inl k
  | .str x _ => .inr x
  | _ => .inl 0
theorem keyM_eq {e : Int × Value} {k : Key} (r : RelV (kV k) e.2) : keyM e = k := by
  unfold keyM
  cases k with
  | inl i => obtain ⟨t, h⟩ := (show ∃ t, e.2 = Value.int i t from r); rw [h]
  | inr x => obtain ⟨t, h⟩ := (show ∃ t, e.2 = Value.str x t from r); rw [h]
def memK (ks : List Key) (j : Key) : Bool := ks.any fun i => decide (j = i)
theorem memK_iff {ks : List Key} {j : Key} : memK ks j = true ↔ j ∈ ks := by
  unfold memK
  rw [List.any_eq_true]
  exact ⟨fun ⟨x, h1, h2⟩ => of_decide_eq_true h2 ▸ h1, fun h => ⟨j, h, decide_eq_true rfl⟩⟩
theorem memK_append (ks : List Key) (z j : Key) : memK (ks ++ (some z).toList) j = (memK ks j || decide (j = z)) := by
  unfold memK
  rw [List.any_append]
  simp
def GoodM (w : World) (e : Int × Value) : Prop := ∃ k : Key, RelV (kV k) e.2 ∧ e.1 = keyH w k
def SetM (w : World) (h : Heap) (a : Addr) (S : Key → Bool) (n : Nat) : Prop :=
  ∃ o es ep t, h.get? a = some o ∧ o.ExactSet ∧ o.data = .set es ep t ∧ (∀ e ∈ es.toList, GoodM w e) ∧ (es.toList.map keyM).Nodup ∧ (∀ k, S k = true ↔ k ∈ es.toList.map keyM) ∧
    es.size < scanBound ∧ t.fits es.size = true ∧ es.size = n ∧ Ris t.place.toList ∧ (w.params.followText "set-order" = true ∨ t.led = true)

section
variable {P : Program} {w : World} {h h' : Heap} {a : Addr} {S : Key → Bool} {n : Nat}

theorem SetM.at (R : SetM w h a S n) (k : ∀ o, h.get? a = some o → h'.get? a = some o) : SetM w h' a S n := by
  obtain ⟨o, es, ep, t, ho, r⟩ := R
  exact ⟨o, es, ep, t, k o ho, r⟩
theorem SetM.lt (R : SetM w h a S n) : a < h.objs.size := by
  obtain ⟨o, es, ep, t, ho, r⟩ := R
  exact Heap.lt_size ho
theorem SetM.congr {S' : Key → Bool} (R : SetM w h a S n) (e : ∀ k, S' k = S k) : SetM w h a S' n := by
  have q : S' = S := funext e
  rw [q]; exact R
theorem gm_elems {l : List (Int × Value)} (g : ∀ e ∈ l, GoodM w e) : ElemsOf (mixKind P w) l := fun e he => by
  obtain ⟨k, h1, h2⟩ := g e he
  exact ⟨⟨k, kV_is h1, h2⟩, key_scan h1⟩
theorem gm_is {e : Int × Value} (g : GoodM w e) (k : Key) : (mixKind P w).is k e.2 = true ↔ keyM e = k := by
  obtain ⟨k0, h1, _⟩ := g
  rw [keyM_eq h1]
  constructor
  · intro h
    exact (mixKind P w).inj _ _ _ (kV_is h1) h
  · rintro rfl
    exact kV_is h1
theorem gm_mem {l : List (Int × Value)} (g : ∀ e ∈ l, GoodM w e) (k : Key) : k ∈ l.map keyM ↔ ∃ e ∈ l, (mixKind P w).is k e.2 = true := by
  rw [List.mem_map]
  constructor
  · rintro ⟨e, he, q⟩
    exact ⟨e, he, (gm_is (g e he) k).2 q⟩
  · rintro ⟨e, he, q⟩
    exact ⟨e, he, (gm_is (g e he) k).1 q⟩
theorem SetM.setOf (R : SetM w h a S n) : h.SetOf (mixKind P w) a S n := by
  obtain ⟨o, es, ep, t, ho, hx, hd, g, nd, hm, hb, hf, hn, _⟩ := R
  exact ⟨o, es, ep, t, ho, hx, hd, gm_elems g, fun k => (hm k).trans (gm_mem g k), hb, hf, hn⟩
end

section
variable {P : Program} {w : World} {A : Around} {E : Value → Shared → Prop} {s : Shared} {a : Addr} {S : Key → Bool} {n : Nat}

theorem setM_add_tail {g : Bool → Sem Unit} (hg : ∀ (b : Bool) (s₁ : Shared) (Q' : Unit → Shared → Prop), Q' () s₁ → wpAny (model P w) A (g b) Q' E s₁)
    {o : Obj} {es : Array (Int × Value)} {ep : Nat} {t : SetTable} (ho : s.heap.get? a = some o) (hex : o.ExactSet) (hd : o.data = .set es ep t)
    {es1 : Array (Int × Value)} {t2 : SetTable} {S' : Key → Bool} (g1 : ∀ e ∈ es1.toList, GoodM w e) (nd1 : (es1.toList.map keyM).Nodup) (m1 : ∀ k, S' k = true ↔ k ∈ es1.toList.map keyM)
    (hb1 : es1.size < scanBound) (hf2 : t2.fits es1.size = true) (hr : Ris t2.place.toList) (hl : w.params.followText "set-order" = true ∨ t2.led = true) {wasDummy : Bool} {R : Option Bool → Shared → Prop}
    (hR : ∀ h', Heap.SameBut a s.heap h' → SetM w h' a S' es1.size → R (some true) { s with heap := h' }) :
    wpAny (model P w) A (do
        storeSet a es1 t2
        if (!wasDummy && t2.tooFull) = true then do
            g (relayAll t2 es1 (SetTable.grown es1.size)).2.2
            storeSet a (relayAll t2 es1 (SetTable.grown es1.size)).1 (relayAll t2 es1 (SetTable.grown es1.size)).2.1
            pure (some true)
          else pure (some true)) R E s := by
  refine wpAny_bind (wpAny_storeSet_of ho hd ?_ (fits_of_scanBound hb1))
  have ho1 := store_at (es' := es1) (t' := t2) ho hd
  have sb1 := Heap.SameBut.update s.heap a (Obj.putSet es1 t2)
  split
  · have pm := relayAll_perm t2 es1 (SetTable.grown es1.size)
    have hf3 := relayAll_fits t2 es1 (SetTable.grown es1.size)
    have hr3 := relayAll_ris t2 es1 (SetTable.grown es1.size)
    have hl3 := relayAll_led t2 es1 (SetTable.grown es1.size)
    generalize relayAll t2 es1 (SetTable.grown es1.size) = Z at pm hf3 hr3 hl3 ⊢
    obtain ⟨es2, t3, gave⟩ := Z
    dsimp only at pm hf3 hr3 hl3 ⊢
    have hsz : es2.size = es1.size := by rw [← Array.length_toList, pm.length_eq, Array.length_toList]
    have hb2 : es2.size < scanBound := by rw [hsz]; exact hb1
    refine wpAny_bind (hg _ _ _ ?_)
    refine wpAny_bind (wpAny_storeSet_of ho1 rfl ?_ (fits_of_scanBound hb2))
    have ho2 := store_at (es' := es2) (t' := t3) ho1 rfl
    refine wpAny_pure (hR _ (sb1.trans (Heap.SameBut.update _ a _)) ?_)
    exact ⟨_, es2, _, t3, ho2, hex, rfl, fun e he => g1 e (pm.mem_iff.mp he), (pm.map keyM).nodup_iff.mpr nd1, fun k => (m1 k).trans (pm.map keyM).mem_iff.symm, hb2, hf3, hsz, hr3,
      hl.imp id fun z => by rw [hl3]; exact z⟩
  · exact wpAny_pure (hR _ sb1 ⟨_, es1, _, t2, ho1, hex, rfl, g1, nd1, m1, hb1, hf2, rfl, hr, hl⟩)

theorem setM_add_hashed {k : Key} {u : Value} {Q : Bool → Shared → Prop} (ru : RelV (kV k) u) (R : SetM w s.heap a S n) (room : n + 1 < scanBound)
    (hQ : ∀ h', Heap.SameBut a s.heap h' → SetM w h' a (fun j => S j || decide (j = k)) (if S k = true then n else n + 1) → Q (!S k) { s with heap := h' }) :
    wpAny (model P w) A (setAddHashed a u ((mixKind P w).hash k)) Q E s := by
  obtain ⟨o, es, ep, t, ho, hex, hd, g, nd, hm, hb, hf, hn, hr, hl⟩ := R
  have hkey : (mixKind P w).is k u = true := kV_is ru
  have hsc : u.scannable = true := key_scan ru
  have hel : ElemsOf (mixKind P w) es.toList := gm_elems g
  unfold setAddHashed setAddHashedIn
  refine wpAny_holding (wpAny_bind (wpAny_setState_of ho hd hf ?_))
  dsimp only
  rw [byScan_of hsc hb hel]
  simp only [↓reduceIte]
  unfold setAddByScan
  refine wpAny_bind ?_
  refine wpAny_bind (wpAny_rule ?_)
  refine wpAny_bind (wpAny_setScan_of hkey ho hd hf hel ?_)
  cases hfi : List.findIdx? (fun e => (mixKind P w).is k e.2) es.toList with
  | some j =>
    dsimp only
    obtain ⟨hj, pj, _⟩ := List.findIdx?_eq_some_iff_getElem.mp hfi
    have hSk : S k = true := (hm k).2 ((gm_mem (P := P) (w := w) g k).2 ⟨es.toList[j], List.getElem_mem hj, pj⟩)
    refine wpAny_pure (wpAny_pure ?_)
    have q := hQ s.heap (Heap.SameBut.refl a s.heap) ⟨o, es, ep, t, ho, hex, hd, g, nd, fun i => by
      rw [Bool.or_eq_true, decide_eq_true_eq, ← hm i]
      exact ⟨fun z => z.elim id (fun e => e ▸ hSk), .inl⟩, hb, hf, by rw [if_pos hSk]; exact hn, hr, hl⟩
    rw [hSk] at q
    exact q
  | none =>
    dsimp only
    have hnk : k ∉ es.toList.map keyM := fun z => by
      obtain ⟨e, he, q⟩ := (gm_mem (P := P) (w := w) g k).1 z
      have c := List.findIdx?_eq_none_iff.mp hfi e he
      rw [q] at c
      cases c
    have hSk : S k = false := by
      cases q : S k with
      | false => rfl
      | true => exact absurd ((hm k).1 q) hnk
    have hgw : ∀ (b : Bool) {s₁ : Shared} {Q' : Unit → Shared → Prop}, Q' () s₁ → wpAny (model P w) A (match b with | true => rule "set.scan.the-table-gave-way" | false => pure ()) Q' E s₁ :=
      fun b s₁ Q' q => by cases b <;> first | exact wpAny_pure q | exact wpAny_rule q
    have pm := layNew_perm t es ((mixKind P w).hash k) u
    have hf1 := layNew_fits t es ((mixKind P w).hash k) u
    have hr1 := layNew_ris t es ((mixKind P w).hash k) u hr
    have hl1 := layNew_led t es ((mixKind P w).hash k) u
    generalize layNew t es ((mixKind P w).hash k) u = Z at pm hf1 hr1 hl1 ⊢
    obtain ⟨es1, t1, wasDummy, gave⟩ := Z
    dsimp only at pm hf1 hr1 hl1 ⊢
    rw [Array.toList_push] at pm
    have pc : es1.toList.Perm (((mixKind P w).hash k, u) :: es.toList) := pm.trans (List.perm_append_singleton _ _)
    have pk : (es1.toList.map keyM).Perm (k :: es.toList.map keyM) := by
      have q := pc.map keyM
      rw [List.map_cons, keyM_eq (e := ((mixKind P w).hash k, u)) ru] at q
      exact q
    have g1 : ∀ e ∈ es1.toList, GoodM w e := fun e he => by
      rcases List.mem_cons.mp (pc.mem_iff.mp he) with z | z
      · rw [z]; exact ⟨k, ru, rfl⟩
      · exact g e z
    have nd1 : (es1.toList.map keyM).Nodup := pk.nodup_iff.mpr (List.nodup_cons.mpr ⟨hnk, nd⟩)
    have m1 : ∀ i, (S i || decide (i = k)) = true ↔ i ∈ es1.toList.map keyM := fun i => by
      rw [Bool.or_eq_true, decide_eq_true_eq, hm i, pk.mem_iff, List.mem_cons]
      exact Or.comm
    have hsz : es1.size = n + 1 := by rw [← Array.length_toList, pc.length_eq, List.length_cons, Array.length_toList, hn]
    have hb1 : es1.size < scanBound := by rw [hsz]; exact room
    have hled : w.params.followText "set-order" = true ∨ t1.led = true := hl.imp id fun z => by rw [hl1]; exact z
    have fin : ∀ h', Heap.SameBut a s.heap h' → SetM w h' a (fun j => S j || decide (j = k)) es1.size → Q true { s with heap := h' } := fun h' sb r => by
      have q := hQ h' sb
      rw [hSk] at q
      rw [hsz] at r
      exact q r
    refine wpAny_bind (hgw _ ?_)
    split
    · refine wpAny_bind ?_
      rw [hashByValue_scannable 8 hsc]
      refine wpAny_pure ?_
      refine setM_add_tail ?_ ho hex hd g1 nd1 m1 hb1 ?_ ?_ ?_ ?_
      · intro b s₁ Q' q; cases b <;> first | exact wpAny_pure q | exact wpAny_rule q
      · first | (split <;> first | exact hf1 | exact SetTable.fits_plain_off hf1) | exact hf1
      · first | (split <;> exact hr1) | exact hr1
      · first | (split <;> exact hled) | exact hled
      · intro h' sb r; dsimp only; exact wpAny_pure (fin h' sb r)
    · refine wpAny_bind (wpAny_pure ?_)
      simp only [↓reduceIte]
      refine setM_add_tail ?_ ho hex hd g1 nd1 m1 hb1 hf1 hr1 hled ?_
      · intro b s₁ Q' q; cases b <;> first | exact wpAny_pure q | exact wpAny_rule q
      · intro h' sb r; dsimp only; exact wpAny_pure (fin h' sb r)

end
theorem setM_new_at {w : World} {h : Heap} {a : Addr} {ns : List Key} (ho : h.get? a = some { cls := .type "set", dict := none, data := .set #[] 0 (.fresh 0 0 (!w.params.followText "set-order")) }) : SetM w h a (fun j => memK (ns.take 0) j) 0 :=
  ⟨_, #[], 0, _, ho, ⟨rfl, rfl, rfl⟩, rfl, (fun e he => by simp at he), (by simp), (fun k => by simp [memK]), (by decide), (by rfl), rfl, List.Pairwise.nil, by
    show _ ∨ (!w.params.followText "set-order") = true
    cases w.params.followText "set-order"
    · exact .inr rfl
    · exact .inl rfl⟩
section
variable {P : Program} {w : World} {A : Around} {E : Value → Shared → Prop} {s : Shared}
theorem set_update_keys {I : Addr} {fp wr : List Addr} {G : Array GenState → Array GenState → Prop} {n : Nat} {Pv : Nat → Value → Prop} {St : Nat → Shared → Prop} {R : Result → Shared → Prop}
    (W : WalksS P w A.in1 I fp wr G n Pv St) (S : Addr) (hSf : S ∉ fp) (ns : List Key) (hn : n = ns.length) (hb : ns.length + 1 < scanBound) (hval : ∀ i v, Pv i v → ∃ k, ns[i]? = some k ∧ RelV (kV k) v) :
    ∀ (k i : Nat) (s : Shared), n - i = k → i ≤ n → St i s → (∃ c, c ≤ i ∧ SetM w s.heap S (fun j => memK (ns.take i) j) c) →
      (∀ s' c, Moved (S :: wr) G s s' → c ≤ n → SetM w s'.heap S (fun j => memK ns j) c → R (.ok (.ret .none)) s') →
      codeAny (model P w) A (.builtin "set.update.loop" ⟨[.ref S, .ref I], []⟩) R s := by
  have hSw : S ∉ wr := fun h => hSf (W.sub _ h)
  have hsub : ∀ b ∈ wr, b ∈ S :: wr := fun b hb => List.mem_cons_of_mem _ hb
  intro k
  induction k with
  | zero =>
    intro i s hk' hi hst ⟨c, hc, hS⟩ hR
    have hin : i = n := by omega
    subst hin
    refine codeAny_builtin F.entry_set_update_loop ?_
    rw [Around.under_plainId F.plain_set_update_loop _]
    show wpAny _ A.in1 (pyNext (.ref I) >>= _) _ _ s
    refine wpAny_bind (W.done s _ _ hst fun s' hm => ?_)
    show wpAny _ A.in1 (ret Value.none) _ _ s'
    have e : ns.take i = ns := List.take_of_length_le (by omega)
    rw [e] at hS
    exact wpAny_pure (hR s' c (hm.mono hsub) hc (hS.at fun o e => hm.heap S o hSw e))
  | succ k ih =>
    intro i s hk' hi hst ⟨c, hc, hS⟩ hR
    have hlt : i < n := by omega
    refine codeAny_builtin F.entry_set_update_loop ?_
    rw [Around.under_plainId F.plain_set_update_loop _]
    show wpAny _ A.in1 (pyNext (.ref I) >>= _) _ _ s
    refine wpAny_bind (W.item i s _ _ hlt hst fun v s' hP hst' hm => ?_)
    obtain ⟨z, hz, rz⟩ := hval i v hP
    have hS' : SetM w s'.heap S (fun j => memK (ns.take i) j) c := hS.at fun o e => hm.heap S o hSw e
    show wpAny _ A.in1 (holding [v] (setAdd S v) >>= _) _ _ s'
    refine wpAny_bind (wpAny_holding ?_)
    unfold setAdd
    refine wpAny_holding ?_
    refine wpAny_bind ((mixKind P w).pyHash (k := z) (kV_is rz) ?_)
    refine setM_add_hashed rz (s := { s' with toks := s'.toks + 1 }) hS' (by omega) fun h' hsb hS2 => ?_
    have hS3 : SetM w h' S (fun j => memK (ns.take (i + 1)) j) (if memK (ns.take i) z = true then c else c + 1) := hS2.congr fun j => by
      rw [List.take_add_one, hz, memK_append]
    have hc3 : (if memK (ns.take i) z = true then c else c + 1) ≤ i + 1 := by
      split <;> omega
    refine wpAny_pure ⟨plainId_quiet F.plain_set_update_loop _, ih (i + 1) _ (by omega) hlt (W.frame _ s' _ _ hst' (Nat.le_succ _) fun b hb o e => ?_) ⟨_, hc3, hS3⟩ fun s'' c2 hm'' hc'' hS'' => ?_⟩
    · rw [hsb.2 b (fun h : b = S => hSf (by rw [← h]; exact hb))]; exact e
    · refine hR s'' c2 (Moved.trans W.gtrans ((hm.mono hsub).then_heap (Nat.le_succ _) fun b o hb e => ?_) hm'') hc'' hS''
      rw [hsb.2 b (fun h : b = S => hb (by rw [h]; exact List.mem_cons_self))]; exact e


set_option maxRecDepth 100000 in
set_option maxHeartbeats 3200000 in
/-- set(xs) -/
theorem call_set_keys {l : Addr} {items : Array Value} (ks : List Key) {Q : Value → Shared → Prop} (hh : A.handled = none) (hl : s.heap.IsList l items) (hit : Vals (ks.map kV) items.toList) (hb : ks.length + 1 < scanBound)
    (h : ∀ (h' : Heap) (tk : Nat) c, SetM w h' s.heap.objs.size (fun j => memK ks j) c → c ≤ ks.length → (∀ b o, s.heap.get? b = some o → h'.get? b = some o) → Q (.ref s.heap.objs.size) { s with heap := h', toks := tk }) :
    wpAny (model P w) A (call (.type "set") [.ref l]) Q E s := by
  have hisz : items.size = ks.length := by
    have q := Vals.length hit
    rw [List.length_map, Array.length_toList] at q
    exact q.symm
  obtain ⟨c, tl, hmro⟩ := F.called_set.mro
  have hmade := F.called_set.made
  have hsub := F.called_set.sub
  refine wpAny_call (codeAny_of_tree ?_)
  show wpAny _ _ (callAny (.type "set") _) _ _ _
  refine wpAny_pure ⟨Code.quiet_builtin _ (by decide +kernel), codeAny_builtin F.entry_type_call ?_⟩
  rw [Around.under_plain (weight_type_call_type "set" [.ref l] []) rfl]
  have h1 := F.called_set.notType
  have h2 := F.called_set.canCreate
  have hct := F.typeCall_set_1 (.ref l)
  repeat (any_goals (first | assumption | wp_step))

  refine codeAny_mono (code_set_led1 (.ref l) (E := E) (Q₁ := fun obj s₁ => obj = .ref s.heap.objs.size ∧ s₁ = { s with heap := s.heap.push { cls := .type "set", dict := none, data := .set #[] 0 (.fresh 0 0 (!w.params.followText "set-order")) } }) ⟨rfl, rfl⟩) fun r s₁ hr => ?_
  cases r with
  | error e => exact hr
  | ok fl =>
    cases fl with
    | ret obj =>
      obtain ⟨rfl, rfl⟩ := hr
      have hS : (s.heap.push { cls := .type "set", dict := none, data := .set #[] 0 (.fresh 0 0 (!w.params.followText "set-order")) }).get? s.heap.objs.size = some { cls := .type "set", dict := none, data := .set #[] 0 (.fresh 0 0 (!w.params.followText "set-order")) } := Heap.get?_push_size _ rfl
      have hT : Shared.TypeIs { s with heap := s.heap.push { cls := .type "set", dict := none, data := .set #[] 0 (.fresh 0 0 (!w.params.followText "set-order")) } } (.ref s.heap.objs.size) "set" := ⟨_, hS, rfl⟩
      have hli := F.called_set.init.lookup
      have hbi := F.called_set.init.bind (.ref s.heap.objs.size)
      repeat (any_goals (first | assumption | wp_step))

      refine codeAny_mono (codeAny_call_builtin (R := wants (fun r s₂ => r = .none ∧ ∃ h' tk c, s₂ = { s with heap := h', toks := tk } ∧ SetM w h' s.heap.objs.size (fun j => memK ks j) c ∧ c ≤ ks.length ∧
          (∀ b o, s.heap.get? b = some o → h'.get? b = some o)) E) F.called_set.init.plain F.entry_set_init (check_set_init_1 hT ?_)) fun r₂ s₂ hr₂ => ?_
      · obtain ⟨ol, hol, hcl, nl, hdl⟩ := hl
        obtain ⟨ocls, odict, odata, oslots⟩ := ol
        simp only at hcl hdl
        subst hcl; subst hdl
        have hol' : (s.heap.push { cls := .type "set", dict := none, data := .set #[] 0 (.fresh 0 0 (!w.params.followText "set-order")) }).get? l = some { cls := .type "list", dict := odict, data := .seq items nl, slots := oslots } := Heap.get?_push_of_some _ hol
        have hsls := F.sub_list_set
        have hslf := F.sub_list_frozenset
        have hne : (Value.type "list" == Value.type "dict") = false := by decide
        have hl1 : (s.heap.push { cls := .type "set", dict := none, data := .set #[] 0 (.fresh 0 0 (!w.params.followText "set-order")) }).IsList l items := ⟨_, hol', rfl, nl, rfl⟩
        unfold Builtin.«set.__init__» noKeywords Builtin.Frozenset.updateFrom
        generalize hPI : pyIter = PI
        wp_walk
        subst hPI

        refine wpAny_pyIter_list hl1 ?_
        refine wpAny_bind (wpAny_runValue ?_)
        have hlS : l < s.heap.objs.size := Heap.lt_size hol
        have hh3 : A.in1.in1.in1.handled = none := by simp [hh]
        have hneI : l ≠ (s.heap.push { cls := .type "set", dict := none, data := .set #[] 0 (.fresh 0 0 (!w.params.followText "set-order")) }).objs.size := by
          rw [Heap.size_push]; exact Nat.ne_of_lt (Nat.lt_succ_of_lt hlS)
        have hSf : s.heap.objs.size ∉ [(s.heap.push { cls := .type "set", dict := none, data := .set #[] 0 (.fresh 0 0 (!w.params.followText "set-order")) }).objs.size, l] := by
          rw [Heap.size_push]; simp only [List.mem_cons, List.mem_singleton, List.not_mem_nil, or_false, not_or]
          exact ⟨Nat.ne_of_lt (Nat.lt_succ_self _), Nat.ne_of_gt hlS⟩
        have hval : ∀ (i : Nat) (v : Value), items[i]? = some v → ∃ k, ks[i]? = some k ∧ RelV (kV k) v := fun i v hv => by
          have q : items.toList[i]? = some v := by rw [Array.getElem?_toList]; exact hv
          have hlt : i < ks.length := by
            have := (List.getElem?_eq_some_iff.mp q).1
            rw [Array.length_toList, hisz] at this
            exact this
          refine ⟨ks[i], List.getElem?_eq_getElem hlt, ?_⟩
          obtain ⟨u, hu, ru⟩ := hit.get (i := i) (x := kV ks[i]) (by rw [List.getElem?_map, List.getElem?_eq_getElem hlt]; rfl)
          rw [q] at hu
          cases hu
          exact ru
        refine set_update_keys ((Walks.list hh3 _ l hneI items).toS) s.heap.objs.size
          hSf ks hisz hb hval (items.size - 0) 0 _ (by omega) (Nat.zero_le _)
          ⟨⟨_, Heap.get?_push_size _ rfl, rfl, rfl⟩, (hl1.push _)⟩ ?hS0 ?hR
        case hS0 =>
          have hget : ((s.heap.push { cls := .type "set", dict := none, data := .set #[] 0 (.fresh 0 0 (!w.params.followText "set-order")) }).push { cls := .type "list_iterator", data := .fields #[.ref l, .int 0 0] }).get? s.heap.objs.size
              = some { cls := .type "set", dict := none, data := .set #[] 0 (.fresh 0 0 (!w.params.followText "set-order")) } := Heap.get?_push_of_some _ hS
          exact ⟨0, Nat.le_refl _, setM_new_at hget⟩
        case hR =>
          intro s' c' hm hc' hS'
          obtain ⟨h', g2, d', tk', os'⟩ := s'
          have eg : g2 = s.gens := hm.gens
          have ed : d' = s.drawn := hm.drawn
          have eo : os' = s.os := hm.os
          subst eg; subst ed; subst eo
          show wpAny _ _ _ _ _ _
          refine wpAny_pure ?_
          show wpAny _ _ (ret Value.none) _ _ _
          rw [hisz] at hc'
          refine wpAny_pure ⟨rfl, h', tk', c', rfl, hS', hc', fun b o e => ?_⟩
          have hb0 : b < s.heap.objs.size := Heap.lt_size e
          have hb1 : b ≠ s.heap.objs.size := Nat.ne_of_lt hb0
          have hb2 : b ≠ (s.heap.push { cls := .type "set", dict := none, data := .set #[] 0 (.fresh 0 0 (!w.params.followText "set-order")) }).objs.size := by
            rw [Heap.size_push]; exact Nat.ne_of_lt (Nat.lt_succ_of_lt hb0)
          exact hm.heap b o (by simp only [List.mem_cons, List.mem_singleton, List.not_mem_nil, or_false, not_or]; exact ⟨hb1, hb2⟩) (Heap.get?_push_of_some _ (Heap.get?_push_of_some _ e))

      · cases r₂ with
        | error e => exact hr₂
        | ok fl₂ =>
          cases fl₂ with
          | ret r =>
            obtain ⟨rfl, h', tk, c', rfl, hS', hc', hk'⟩ := hr₂
            repeat (any_goals (first | assumption | wp_step))
            exact h _ _ _ hS' hc' hk'
          | _ => exact hr₂.elim
    | _ => exact hr.elim


end
end MP
namespace MP
open PySem PySem.Spec PyProof.Rows L2
section
variable {P : Program} {w : World} {A : Around} {E : Value → Shared → Prop} {s : Shared} {a : Addr} {S : Key → Bool} {n : Nat}
def strK : Key → Str
  | .inl _ => ⟨#[]⟩
  | .inr x => x
theorem sorted_setM {Q : Value → Shared → Prop} (R : SetM w s.heap a S n) (hh : A.handled = none) (ht : ∀ k, S k = true → ∃ x, k = Sum.inr x)
    (hQ : ∀ s' p (out : Array Value) (c : Nat) (ys : List Str), (∀ b o, s.heap.get? b = some o → s'.heap.get? b = some o) → s'.gens = s.gens → s'.os = s.os → s.heap.objs.size ≤ p →
      s'.heap.get? p = some (seqObj "list" out c) → StrsAre out.toList ys → sortedS ys = true → ys.Nodup → (∀ x, x ∈ ys ↔ S (.inr x) = true) → ys.length = n → ys.length ≤ sizeLine → Q (.ref p) s') :
    wpAny (model P w) A (call (.builtin "sorted") [.ref a]) Q E s := by
  obtain ⟨o, es, ep, t, ho, hex, hd, g, nd, hm, hb, hf, hn, hr, hl⟩ := R
  refine Calls.call_function_entry kind_sorted plain_sorted entry_sorted (args_sorted1 _) ?_
  unfold Builtin.«sorted»
  refine wpAny_bind (m := checkCount "sorted" 1 1 _) (wpAny_pure ?_)
  refine wpAny_bind (collect_set (A := A.in1) hh ⟨o, ho, hex.1, hd⟩ hf hb hr hl fun s1 vs k1 hz g1 o1 pm => ?_)
  have hvl : vs.length = n := by rw [pm.length_eq, List.length_map, Array.length_toList]; exact hn
  have hsl : vs.length ≤ sizeLine := by
    rw [hvl, ← hn, sizeLine_eq]
    unfold scanBound at hb
    omega
  -- the values are texts
  have hall : ∀ v ∈ vs, ∃ x tk, v = Value.str x tk ∧ S (.inr x) = true := fun v hv => by
    obtain ⟨e, he, q⟩ := List.mem_map.mp (pm.mem_iff.mp hv)
    obtain ⟨k, r, _⟩ := g e he
    have hk : S k = true := (hm k).2 (List.mem_map.mpr ⟨e, he, keyM_eq r⟩)
    obtain ⟨x, rfl⟩ := ht k hk
    obtain ⟨tk, e2⟩ := (show ∃ t, e.2 = Value.str x t from r)
    exact ⟨x, tk, by rw [← q, e2], hk⟩
  have hkey : ∀ v ∈ vs, RelV (kV (keyM (0, v))) v := fun v hv => by
    obtain ⟨x, tk, rfl, _⟩ := hall v hv
    exact ⟨tk, rfl⟩
  have hI : StrsAre vs (vs.map fun v => strK (keyM (0, v))) := by
    have go : ∀ l : List Value, (∀ v ∈ l, ∃ x tk, v = Value.str x tk) → StrsAre l (l.map fun v => strK (keyM (0, v))) := by
      intro l
      induction l with
      | nil => intro _; exact .nil
      | cons v l ih =>
        intro h
        obtain ⟨x, tk, rfl⟩ := h v List.mem_cons_self
        exact .cons x tk (ih fun u hu => h u (List.mem_cons_of_mem _ hu))
    exact go vs fun v hv => let ⟨x, tk, e, _⟩ := hall v hv; ⟨x, tk, e⟩
  have pk : (vs.map fun v => keyM (0, v)).Perm (es.toList.map keyM) := by
    have q := pm.map fun v => keyM (0, v)
    rw [List.map_map] at q
    exact q
  have nk : (vs.map fun v => keyM (0, v)).Nodup := pk.nodup_iff.mpr nd
  have ek : (vs.map fun v => keyM (0, v)) = (vs.map fun v => strK (keyM (0, v))).map Sum.inr := by
    rw [List.map_map]
    refine List.map_congr_left fun v hv => ?_
    obtain ⟨x, tk, rfl, _⟩ := hall v hv
    rfl
  refine wpAny_bind (wpAny_newList ?_ (by rw [sizeLine_eq] at *; omega))
  have hoL : (s1.heap.push (seqObj "list" vs.toArray 0)).get? s1.heap.objs.size = some (seqObj "list" vs.toArray 0) := Heap.get?_push_size _ rfl
  refine wpAny_bind (wpAny_holding (wpAny_call_entry slot_list_sort ⟨_, hoL, rfl⟩ entry_list_sort (list_sort_treeKAny strKind_oneLt hoL hI.keysOf (fun v₁ v₂ rest e => keyKind_strs (by rw [← e]; exact hI)) hsl fun st' hp hs => ⟨_, rfl, ?_⟩) (args_list_sort _)))
  obtain ⟨ys, h1, h2, h3⟩ := sorted_out_str hI hp hs
  obtain ⟨c, hc⟩ := sortedHeap_at (vs := vs) (out := (arrOf st').map (·.2)) hoL
  have nys : ys.Nodup := by
    rw [h2.nodup_iff]
    rw [ek] at nk
    exact List.Pairwise.of_map Sum.inr (fun _ _ hne e => hne (congrArg Sum.inr e)) nk
  refine wpAny_pure ⟨_, rfl, hQ _ s1.heap.objs.size _ c ys (fun b u e => ?_) g1 o1 hz hc h1 h3 nys (fun x => ?_) ?_ ?_⟩
  · have q := k1 b u e
    have hlt := Heap.lt_size q
    show (sortedHeap (s1.heap.push (seqObj "list" vs.toArray 0)) s1.heap.objs.size vs _).get? b = some u
    rw [sortedHeap_old (Nat.ne_of_lt hlt) (by rw [size_push']; exact Nat.lt_succ_of_lt hlt)]
    exact Heap.get?_push_of_some _ q
  · rw [h2.mem_iff, hm, ← pk.mem_iff, ek]
    constructor
    · intro h
      exact List.mem_map.mpr ⟨x, h, rfl⟩
    · intro h
      obtain ⟨y, hy, e⟩ := List.mem_map.mp h
      cases e
      exact hy
  · rw [h2.length_eq, List.length_map]; exact hvl
  · rw [h2.length_eq, List.length_map]; exact hsl
end
/-- sorted(set(xs)), texts -/
def nubT : List Tx → List Tx
  | [] => []
  | x :: r => if x ∈ r then nubT r else x :: nubT r
theorem mem_nubT {x : Tx} : ∀ {l : List Tx}, x ∈ nubT l ↔ x ∈ l
  | [] => by simp [nubT]
  | y :: r => by
    unfold nubT
    split
    · rename_i h
      rw [mem_nubT, List.mem_cons]
      exact ⟨.inr, fun q => q.elim (fun e => e ▸ h) id⟩
    · rw [List.mem_cons, List.mem_cons, mem_nubT]
theorem nodup_nubT : ∀ l : List Tx, (nubT l).Nodup
  | [] => .nil
  | y :: r => by
    unfold nubT
    split
    · exact nodup_nubT r
    · rename_i h
      exact List.nodup_cons.mpr ⟨fun q => h (mem_nubT.mp q), nodup_nubT r⟩
def setT (l : List Tx) : List Tx := sortT (nubT l)
def fSortSet : List D → Option R := fun ds => match ds with
  | [.lst es] => match texts es with
    | some xs => if xs.length < 4000 then some (.fr (.lst ((setT xs).map D.str))) else none
    | none => none
  | _ => none
section
variable {X : Cx}
def rSortSet (K : PySem.W.Frag) : V → Hp → VK → Prop := fun x H Q => ∃ (l : Addr) (xs : List Tx), x = V.ref l ∧ SqL K H l ((xs.map MP.S).map V.str) ∧ xs.length < 4000 ∧ ∀ p, H p = none → Q (.ref p) (upd H p (.lst (((setT xs).map MP.S).map V.str)))
theorem pe_sortset {a : Expr} {ta : TE} {p p2 q pos : Pos} (hc : X.calm = true) (hg : Gl X "sorted") (hm : X.mg "sorted" = none) (hg2 : Gl X "set") (hm2 : X.mg "set" = none) (ha : PE X a ta)
    (na : starEach [a] X.env = (false, eval a X.env) :: starEach [] X.env := by rfl) : PE X (.Call (.Name "sorted" p) [.Call (.Name "set" p2) [a] [] q] [] pos) (fun σ H Q => ta σ H fun x H1 => rSortSet X.K x H1 Q) := by
  refine ⟨fun pins s σ H Q I h => ?_⟩
  refine Call_ (ld_blt I hg hm (show bootBuiltins "sorted" = some (.builtin "sorted") by decide +kernel) ?_)
  refine PyProof.Rows.callWith_builtin1 (PyProof.Rows.args_cons ?_ rfl) rfl rfl
  refine Call_ (ld_blt I hg2 hm2 PyProof.Rows.boot_set ?_)
  refine PyProof.Rows.callWith_type1 (PyProof.Rows.args_cons (thn (ha.run pins s σ H _ I h) fun v s1 ⟨x, H1, I1, r1, q1⟩ => PyProof.Rows.args_nil ?_) na) na rfl
  obtain ⟨l, xs, rfl, hq, h1, q1⟩ := q1
  cases r1
  obtain ⟨its, r, pl, hz⟩ := I1.list hq
  have rk : Vals (((xs.map MP.S).map Sum.inr).map kV) its.toArray.toList := by
    rw [List.map_map]
    exact r
  refine call_set_keys ((xs.map MP.S).map Sum.inr) (I1.ok.hd hc) pl.isList rk (by rw [List.length_map, List.length_map]; unfold scanBound; omega) fun h' tk c hS hc' hk => ?_
  have I2 : Inv X pins σ H1 { s1 with heap := h', toks := tk } := I1.kept hk
  refine PyProof.Rows.args_nil ?_
  refine sorted_setM (s := { s1 with heap := h', toks := tk }) hS (I2.ok.hd hc) (fun k hkk => ?_) fun s' p out cc ys k g o hp hgp hi hs hnd hmem hlen hsl => ?_
  · obtain ⟨x, _, e⟩ := List.mem_map.mp (memK_iff.mp hkk)
    exact ⟨x, e.symm⟩
  · have hn : H1 p = none := I2.hok.fresh hp
    have ey : ys = (setT xs).map MP.S := by
      have hp2 : ys.Perm ((nubT xs).map MP.S) := by
        refine (List.perm_ext_iff_of_nodup hnd ?_).mpr fun x => ?_
        · have := nodup_nubT xs
          unfold List.Nodup at this ⊢
          rw [List.pairwise_map]
          exact this.imp fun h e => h (S_inj e)
        · rw [hmem, memK_iff]
          constructor
          · intro h
            obtain ⟨y, hy, e⟩ := List.mem_map.mp h
            cases e
            obtain ⟨z, hz, rfl⟩ := List.mem_map.mp hy
            exact List.mem_map.mpr ⟨z, mem_nubT.mpr hz, rfl⟩
          · intro h
            obtain ⟨z, hz, rfl⟩ := List.mem_map.mp h
            exact List.mem_map.mpr ⟨_, List.mem_map.mpr ⟨z, mem_nubT.mp hz, rfl⟩, rfl⟩
      exact sort_fin hp2 hs
    have J : Inv X pins σ (upd H1 p (.lst (ys.map V.str))) { s1 with heap := s'.heap, gens := s'.gens, drawn := s'.drawn, toks := s'.toks } :=
      Inv.call (s := { s1 with heap := h', toks := tk }) I2 (ch := []) (Un.laid k hp hn) (I2.hok.laid k hp ⟨by rw [List.length_map]; exact hsl, out.toList, cc, vals_of_strs hi, hgp⟩) (by rw [g]; exact I2.bare) (fun _ z => nomatch z)
    have e : s' = { s1 with heap := s'.heap, gens := s'.gens, drawn := s'.drawn, toks := s'.toks } := by
      cases s'
      cases s1
      cases o
      rfl
    rw [e]
    refine ⟨.ref p, _, J, rfl, ?_⟩
    rw [ey]
    exact q1 p hn
/-- one operand -/
def eU (f : D → Option R) (pa : PF) : EF := fun env => match pa env with
  | none => none
  | some (p, e1) => match rdP e1 p with
    | none => none
    | some x => match f x with
      | none => none
      | some r => some (r, e1)
def UnOk (K : PySem.W.Frag) (r : V → Hp → VK → Prop) (f : D → Option R) : Prop := ∀ F H x dx res Q, Ag F H → RdD K F H x dx → f dx = some res →
  (∀ v H' F', Xt F H F' H' → RF K H F' H' v res → Q v H') → r x H Q
theorem tUn_of {r : V → Hp → VK → Prop} {f : D → Option R} {pa : PF} (ok : UnOk X.K r f) {σ : L2.St} {H : Hp} {Q : VK} (q : tEv X.K (eU f pa) σ H Q) : tPv X.K pa σ H fun x H1 => r x H1 Q := by
  obtain ⟨b, F, env, res, env', g, hf, k⟩ := q
  unfold eU at hf
  split at hf
  · cases hf
  rename_i p e1 h1
  split at hf
  · cases hf
  rename_i x h3
  split at hf
  · cases hf
  rename_i r h5
  cases hf
  refine ⟨b, F, env, p, env', g, h1, fun v H1 F1 g1 s1 r1 => ?_⟩
  refine ok F1 H1 v x res Q g1.same (g1.rd r1 h3) h5 fun u H3 F3 xt rf => ?_
  exact k u H3 F3 (g1.ext xt) (s1.trans xt.ff) (rf.rv g1)
def fNeg : D → Option R := fun d => match d with
  | .int i => some (.im (.int (-i)))
  | _ => none
theorem ok_neg {K : PySem.W.Frag} : UnOk K (rU fun i => .int (-i)) fNeg := fun F H x dx res Q ag hd e k => by
  unfold fNeg at e
  split at e
  · rename_i i
    cases e
    exact ⟨i, hd.int_inv, k _ H F (Xt.refl ag) (Dn.int _)⟩
  · cases e
def eNeg (p : PF) : EF := eU fNeg p
theorem q_neg {a : Expr} {pa : PF} {pos : Pos} (ha : QP X a pa) : QE X (.UnaryOp .USub a pos) (eNeg pa) :=
  (pe_un un_neg ha).imp fun _ _ _ q => tUn_of ok_neg q
def fSS : D → Option R := fun d => fSortSet [d]
theorem ok_ss {K : PySem.W.Frag} : UnOk K (rSortSet K) fSS := fun F H x dx res Q ag hd e k => by
  unfold fSS fSortSet at e
  split at e
  · rename_i es he
    cases he
    split at e
    · rename_i xs h1
      split at e
      · rename_i hz
        cases e
        obtain ⟨a, ws, rfl, h3, h4⟩ := hd.lst_inv ag
        rw [texts_dn h4 h1] at h3
        exact ⟨a, xs, rfl, .of h3, hz, fun p hp => k _ _ F (Xt.fresh ag hp) ((dn_texts _).toRF ag hp)⟩
      · cases e
    · cases e
  · cases e
def eSS (p : PF) : EF := eU fSS p
theorem q_sortset {a : Expr} {pa : PF} {p p2 q pos : Pos} (hm : X.mg "sorted" = none) (hm2 : X.mg "set" = none) (ha : QP X a pa) (hc : X.calm = true := by rfl) (hg : Gl X "sorted" := by rfl) (hg2 : Gl X "set" := by rfl)
    (na : starEach [a] X.env = (false, eval a X.env) :: starEach [] X.env := by rfl) : QE X (.Call (.Name "sorted" p) [.Call (.Name "set" p2) [a] [] q] [] pos) (eSS pa) :=
  (pe_sortset hc hg hm hg2 hm2 ha na).imp fun _ _ _ q => tUn_of ok_ss q
theorem call_listA' (hc : X.calm = true) : CallR X (.type "list") (rListA X.K) := call_list_of.or (call_listD hc)
/-! ### min of a dict's text keys -/
def minT : List Tx → Option Tx
  | [] => none
  | x :: r => match minT r with
    | none => some x
    | some y => if y < x then some y else some x
theorem minT_spec : ∀ {l : List Tx} {m : Tx}, minT l = some m → m ∈ l ∧ ∀ y ∈ l, ¬ y < m
  | [], _, h => by cases h
  | x :: r, m, h => by
    unfold minT at h
    split at h
    · rename_i h0
      cases h
      refine ⟨List.mem_cons_self, fun y hy => ?_⟩
      rcases List.mem_cons.mp hy with rfl | hy
      · exact tlt_irrefl _
      · cases r with
        | nil => cases hy
        | cons z r =>
          unfold minT at h0
          split at h0
          · cases h0
          · split at h0 <;> cases h0
    · rename_i y h0
      obtain ⟨h1, h2⟩ := minT_spec h0
      split at h
      · rename_i hl
        cases h
        refine ⟨List.mem_cons_of_mem _ h1, fun z hz => ?_⟩
        rcases List.mem_cons.mp hz with rfl | hz
        · exact fun q => tlt_irrefl _ (tlt_trans hl q)
        · exact h2 z hz
      · rename_i hl
        cases h
        refine ⟨List.mem_cons_self, fun z hz => ?_⟩
        rcases List.mem_cons.mp hz with rfl | hz
        · exact tlt_irrefl _
        · intro q
          by_cases c : x < y
          · exact h2 z hz (tlt_trans q c)
          · have e : x = y := tle_antisymm c hl
            subst e
            exact h2 z hz q
theorem minT_uniq {l : List Tx} {m m' : Tx} (h : minT l = some m) (h1 : m' ∈ l) (h2 : ∀ y ∈ l, ¬ y < m') : m' = m := by
  obtain ⟨a, b⟩ := minT_spec h
  exact tle_antisymm (fun q => b m' h1 q) (fun q => h2 m a q)
theorem cmp_strs_lt {prog : Program} {w : World} {A : Around} {P : Nat → Value → Prop} (val : Nat → Str) (hval : ∀ i v, P i v → ∃ t, v = .str (val i) t) :
    CmpOf prog w A .Lt P (fun i j => decide ((val i).cps.toList < (val j).cps.toList)) := fun i j vi vj s Q E hi hj h => by
  obtain ⟨t, rfl⟩ := hval i vi hi
  obtain ⟨u, rfl⟩ := hval j vj hj
  exact richCompare_gives (op := .Lt) rfl rfl F.slot_str_lt F.entry_str_lt (F.args_str_lt_2 _ _) (gives_str_lt _ _ t u) (fun x => nomatch x) h
theorem argBest_ltT (f : Nat → Tx) : ∀ n, argBest (fun i j => decide (f i < f j)) n ≤ n ∧ ∀ i ≤ n, ¬ f i < f (argBest (fun i j => decide (f i < f j)) n)
  | 0 => ⟨Nat.le_refl _, fun i hi => by
      have : i = 0 := by omega
      subst this
      exact tlt_irrefl _⟩
  | n + 1 => by
    obtain ⟨h1, h2⟩ := argBest_ltT f n
    unfold argBest
    split
    · rename_i c
      have c := of_decide_eq_true c
      refine ⟨Nat.le_refl _, fun i hi q => ?_⟩
      by_cases e : i = n + 1
      · subst e; exact tlt_irrefl _ q
      · exact h2 i (by omega) (tlt_trans q c)
    · rename_i c
      have c := fun q => c (decide_eq_true q)
      refine ⟨by omega, fun i hi => ?_⟩
      by_cases e : i = n + 1
      · subst e; exact c
      · exact h2 i (by omega)
def rMinKS : List V → Hp → VK → Prop := fun vs H Q => ∃ (a : Addr) (kvs : List (Key × V)) (is : List Tx), vs = [V.ref a] ∧ Rd H a (.dK kvs) ∧ kvs.map (·.1) = (is.map MP.S).map Sum.inr ∧ is ≠ [] ∧ ∀ m, m ∈ is → (∀ j ∈ is, ¬ j < m) → Q (.str (MP.S m)) H
theorem cr_minKS (hc : X.calm = true) : CallR X (.builtin "min") rMinKS := by
  intro pins s σ H vs us Q I r h
  obtain ⟨a, kvs, is, rfl, ha, hv, hne, q⟩ := h
  rw [Vals.ref1 r]
  obtain ⟨_, hsys, vs, rel, dof⟩ := dk_rd I.hok ha
  obtain ⟨ep, dat⟩ := dof.dictAt
  obtain ⟨ob, es, ho, hex, hdat, hko, hpr, hnd⟩ := id dat
  have hlt : a < s.heap.objs.size := Heap.lt_size ho
  have hkeys : vs.map (·.1) = (is.map MP.S).map Sum.inr := (KV.keys rel).symm.trans hv
  have hlv : vs.length = is.length := by
    have e1 := congrArg List.length hkeys
    rw [List.length_map, List.length_map, List.length_map] at e1
    exact e1
  have hlen : 0 < vs.length := by
    rw [hlv]
    exact List.length_pos_iff.mpr hne
  have hval : ∀ (i : Nat) (v : Value), (∃ k x, vs[i]? = some (k, x) ∧ (mixKind X.prog X.w).is k v = true) → ∃ t, v = Value.str (MP.S (is.getD i [])) t := fun i v ⟨k, x, hk, hkey⟩ => by
    have e1 : (vs.map (·.1))[i]? = some k := by rw [List.getElem?_map, hk] <;> rfl
    rw [hkeys, List.getElem?_map] at e1
    obtain ⟨j, hj, e2⟩ := Option.map_eq_some_iff.mp e1
    subst e2
    rw [List.getElem?_map] at hj
    obtain ⟨z, hz, e4⟩ := Option.map_eq_some_iff.mp hj
    subst e4
    have hi : Value.isStrOf (MP.S z) v = true := hkey
    obtain ⟨t, e3⟩ := Value.isStrOf_shape (x := MP.S z) (v := v) hi
    refine ⟨t, ?_⟩
    rw [e3, List.getD_eq_getElem?_getD, hz] <;> rfl
  refine call_min_walk (wpAny_pyIter_dict (knd := mixKind X.prog X.w) hsys dat ?_)
  refine ⟨_, _, _, _, _, _, _, rfl, Walks.dictKeys (knd := mixKind X.prog X.w) (A := X.A.in1) (I.ok.hd hc) s.heap.objs.size a (Nat.ne_of_lt hlt) vs ep,
    ⟨⟨_, Heap.get?_push_size _ rfl, rfl, rfl⟩, dat.keep fun b u e => Heap.get?_push_of_some _ e⟩, fun b hb => ?_, hlen, cmp_strs_lt (fun i => MP.S (is.getD i [])) hval, fun v h' tk hP hk => ?_⟩
  · show b < (s.heap.push _).objs.size
    rw [Heap.size_push]
    rcases List.mem_cons.mp hb with e | hb
    · rw [e]
      exact Nat.lt_succ_self _
    · rw [List.mem_singleton.mp hb]
      exact Nat.lt_succ_of_lt hlt
  · obtain ⟨t, rfl⟩ := hval _ v hP
    have ef : (fun i j => decide ((MP.S (is.getD i [])).cps.toList < (MP.S (is.getD j [])).cps.toList)) = fun i j => decide (is.getD i [] < is.getD j []) := by
      funext i j
      rw [S_cps, S_cps]
    rw [ef]
    obtain ⟨b1, b2⟩ := argBest_ltT (fun i => is.getD i []) (vs.length - 1)
    refine ⟨.str _, H, I.kept (t' := tk) fun b u e => hk b u (fun hmem => ?_) (Heap.get?_push_of_some _ e), ⟨t, rfl⟩, q _ ?_ fun j hj => ?_⟩
    · have e1 : b = s.heap.objs.size := List.mem_singleton.mp hmem
      have e2 := Heap.lt_size e
      rw [e1] at e2
      exact absurd e2 (Nat.lt_irrefl _)
    · have hb : argBest (fun i j => decide (is.getD i [] < is.getD j [])) (vs.length - 1) < is.length := by omega
      rw [List.getD_eq_getElem?_getD, List.getElem?_eq_getElem hb]
      exact List.getElem_mem hb
    · obtain ⟨i, hi, e⟩ := List.mem_iff_getElem.mp hj
      have e2 : is.getD i [] = j := by rw [List.getD_eq_getElem?_getD, List.getElem?_eq_getElem hi, ← e] <;> rfl
      rw [← e2]
      exact b2 i (by omega)
def fMinD : List D → Option R := fun ds => match ds with
  | [.dk kvs] => match keyTexts kvs with
    | some xs => match minT xs with
      | some m => some (.im (.str m))
      | none => none
    | none => none
  | _ => none
theorem ok_minD {K : PySem.W.Frag} : CallOk K rMinKS fMinD := fun F H vs ds res Q ag hd e k => by
  unfold fMinD at e
  split at e
  · rename_i kvs
    split at e
    · rename_i xs h1
      split at e
      · rename_i m h2
        cases e
        cases hd with
        | cons h t =>
          cases t
          obtain ⟨a, ks, rfl, h3, h4⟩ := h.dk_inv ag
          refine ⟨a, ks, xs, rfl, h3, keyTexts_ok h4 h1, fun z => (by subst z; cases h2), fun m' hm hle => ?_⟩
          rw [minT_uniq h2 hm hle]
          exact k _ H F (Xt.refl ag) (Dn.str _)
      · cases e
    · cases e
  · cases e
end
end MP
namespace MP
open PySem PySem.Spec PyProof.Rows L2
theorem RG.u1 {k : Nat} {A : Around} (h : RG k A) : A.units + 1 < cLine := by have := h.r.un; omega
theorem RG.u65 {k : Nat} {A : Around} (h : RG k A) : A.units + 65 < cLine := by have := h.r.un; omega
end MP
namespace MP
open PySem PySem.Spec PyProof.Rows L2
theorem no_exc {P : Program} {w : World} {H : Hp} {s s' : Shared} {Q : VK} {e : Value} (h : CR CX0 [] P w H s Q E0 (.error e) s') : False := by
  first | exact h | exact h.elim | (obtain ⟨_, h⟩ := h; exact h)
theorem law_callG {P : Program} {w : World} {K : PySem.W.Frag} {mg mb : Str → Option Value} {k : Nat} {fa a : Addr} {fd : FuncData} {x : Str} {sp : Sp} {s₁ : Shared} {vs : List Value} {ns : List Int}
    (KX : K.In s₁.heap) (hns : s₁.heap.Ns mainGlobals mg) (hb : s₁.heap.Ns builtinsNs mb) (hbb : ∀ x : Str, x ≠ "__name__" → mb x = bootBuiltins x) (hlim : s₁.heap.NoLimit) (hg : s₁.gens = #[])
    (ha : s₁.heap.get? a = some { cls := .type "list", data := .seq vs.toArray }) (hi : IntsAre vs ns) (hl : ns.length ≤ sizeLine) (hr : Room k callerA)
    (F : ∀ base : Heap, K.In base → base.Ns mainGlobals mg → FnG P w K mg base k fa fd [x] sp) (hbind : ∀ (s : Shared) (u : Value), BindsTo s fd ⟨[u], []⟩ [(x, u)])
    (hsp : ∀ H : Hp, Only H → SqL K H a (ns.map V.int) → sp [.ref a] H (fun v _ => v = .bl true) E0) :
    codeAny (model P w) callerA (.call (.ref fa) ⟨[.ref a], []⟩) (fun r s' => r = .ok (.ret (.bool true)) ∧ OldK s₁.heap s'.heap ∧ s'.os = s₁.os ∧ AllBare s'.gens) s₁ := by
  have rv := vals_ints hi
  have lenV := hi.length
  -- from an abstract heap in which nothing but the script may be tracked
  have core : ∀ H : Hp, Only H → SqL K H a (ns.map V.int) → HOk P w H s₁.heap → (∀ b, H b ≠ none → b = a) → (H a ≠ none → K.lookup a = none) →
      codeAny (model P w) callerA (.call (.ref fa) ⟨[.ref a], []⟩) (fun r s' => r = .ok (.ret (.bool true)) ∧ OldK s₁.heap s'.heap ∧ s'.os = s₁.os ∧ AllBare s'.gens) s₁ := by
    intro H hO hS hok hA hK
    have base_of : ∀ {b : Addr} {o : Obj}, s₁.heap.get? b = some o → H b = none → (hidT s₁.heap H).get? b = some o := fun e n => hidT_get e n
    have noA : ∀ {b : Addr} {o : Obj} {es : Array DictEntry} {ep : Nat}, s₁.heap.get? b = some o → o.data = .dict es ep → H b = none := fun {b o es ep} e d => by
      cases q : H b with
      | none => rfl
      | some u =>
        have e' : b = a := hA b (by rw [q]; simp)
        subst e'
        rw [ha] at e; cases e
        have d' : Data.seq vs.toArray _ = Data.dict es ep := d
        cases d'
    have nsK : ∀ {b : Addr} {m : Str → Option Value}, s₁.heap.Ns b m → (hidT s₁.heap H).Ns b m := fun {b m} ⟨o, es, ep, e, d, r⟩ => ⟨o, es, ep, base_of e (noA e d), d, r⟩
    have hKb : K.In (hidT s₁.heap H) := fun b o e => base_of (KX b o e) (by
      cases q : H b with
      | none => rfl
      | some u =>
        have e' : b = a := hA b (by rw [q]; simp)
        subst e'
        rw [hK (by rw [q]; simp)] at e; cases e)
    have hM : Mod K mg (hidT s₁.heap H) := ⟨hKb, nsK hns, ⟨mb, nsK hb, hbb⟩, let ⟨mc, h1, h2⟩ := hlim; ⟨mc, nsK h1, h2⟩⟩
    have e0 : Env0 P w K mg (hidT s₁.heap H) callerA [] s₁ H := ⟨rfl, hM, fun b o e => of_hidT e, Nat.le_of_eq (hidT_size _ _), trivial, fun b hb => absurd (show b ∈ ([] : List Addr) from hb) (by simp), hok, .of_eq hg⟩
    refine codeAny_mono ((F _ hKb (nsK hns)).run callerA [] s₁ H ⟨[.ref a], []⟩ [.ref a] [.ref a] _ hr rfl e0 (hbind s₁ (.ref a)) (.cons rfl .nil) (hsp H hO hS)) fun r s' h => ?_
    cases r with
    | error e => exact (no_exc h).elim
    | ok fl =>
      cases fl with
      | next => exact False.elim h
      | brk => exact False.elim h
      | cont => exact False.elim h
      | ret u =>
        obtain ⟨v, H', os, bare, un, hok', r', q⟩ := h
        have q' : v = .bl true := q
        subst q'
        obtain rfl : u = Value.bool true := r'
        refine ⟨rfl, OldK.of_keep fun b o e => ?_, os, bare⟩
        cases q : H b with
        | none => exact un.keep b o e q (by intro z; exact absurd (show b ∈ ([] : List Addr) from z) (by simp)) (by simp)
        | some u =>
          rcases hO b with z | ⟨ob, xs, z⟩
          · rw [q] at z; cases z
          · have z2 := un.frzs b ob _ z
            obtain ⟨e1, _⟩ := hok b _ z
            obtain ⟨e2, _⟩ := hok' b _ z2
            rw [e] at e1; cases e1
            exact e2
  cases hk : K.lookup a with
  | some o =>
    -- the script is one of the module's own objects
    have e := KX a o hk
    rw [ha] at e
    cases e
    refine core (fun _ => none) (fun _ => .inl rfl) (.inr ⟨_, vs.toArray, _, hk, rfl, rfl, rfl, by rw [List.size_toArray, lenV]; exact hl, by simpa using rv⟩) (fun b u z => by have z' : (none : Option HO) = some u := z; cases z') (fun b z => absurd rfl z) fun z => absurd rfl z
  | none =>
    refine core (fun b => if b = a then some (.frz { cls := .type "list", data := .seq vs.toArray } (.lst (ns.map V.int))) else none) (fun b => ?_) (.inl (.inr ⟨{ cls := .type "list", data := .seq vs.toArray }, if_pos rfl⟩)) (fun b u z => ?_) (fun b z => ?_) fun _ => hk
    · by_cases hb : b = a
      · exact .inr ⟨_, _, if_pos hb⟩
      · exact .inl (if_neg hb)
    · by_cases hb : b = a
      · have z' := (if_pos hb).symm.trans z
        cases z'
        subst hb
        exact ⟨ha, by rw [List.length_map]; exact hl, vs, _, rv, ha⟩
      · have z' := (if_neg hb).symm.trans z
        cases z'
    · by_cases hb : b = a
      · exact hb
      · exact absurd (if_neg hb) z
theorem walk_ofG {l : PySem.W.OpenLaw} {n k : Nat} {q : Program} {loose : List Str} {XP : (Str → Option Value) → Heap → Prop} {YP : World → Heap → Prop} {d : DefRec} {K : Params → PySem.W.Frag} {sp : World → Sp} {x : Str}
    (hn : l.most = some n) (hn2 : n ≤ sizeLine) (hdf : d.params.defaults = []) (hr : Room k callerA)
    (hY : ∀ (w : World) (h : Heap), YP w h → (K w.params).In h)
    (F : ∀ (w : World) (mg : Str → Option Value) (fa : Addr) (h : Heap), (K w.params).In h → h.Ns mainGlobals mg → mg d.name = some (.ref fa) →
      ∃ fd : FuncData, (∀ (s : Shared) (u : Value), BindsTo s fd ⟨[u], []⟩ [(x, u)]) ∧
        ∀ base : Heap, (K w.params).In base → base.Ns mainGlobals mg → FnG l.prog w (K w.params) mg base k fa fd [x] (sp w))
    (hsp : ∀ (w : World) (H : Hp) (a : Addr) (ns : List Int), ns.length ≤ n → Only H → SqL (K w.params) H a (ns.map V.int) → sp w [.ref a] H (fun v _ => v = .bl true) E0) :
    PySem.W.WalkO q loose XP YP l.row.toRowW d [] (fun f vs => PySem.call f vs) := by
  refine Att.attach_call hn hdf fun w s₀ s₁ mg mb fa o pm cd doc a vs ns G Y ho hd hcd hmg hobj hints hlen hg => ?_
  have KX := hY w _ Y
  obtain ⟨fd, hb, hF⟩ := F w mg fa _ KX G.T.g hmg
  exact law_callG KX G.T.g G.T.b G.T.builtins G.T.nolimit hg hobj hints (Nat.le_trans hlen hn2) hr hF hb (fun H hO hS => hsp w H a ns hlen hO hS)

/-- the law's promise, of its combinator: at any script it gives True -/
theorem law_sp {K : PySem.W.Frag} {Φ : Fn} (hΦ : ∀ ns : List Int, ns.length ≤ 63 → ∃ args', Φ [.im (.fz (ns.map D.int))] = some (.im (.bl true), args')) (H : Hp) (a : Addr) (ns : List Int) (hl : ns.length ≤ 63) (hO : Only H) (hS : SqL K H a (ns.map V.int)) :
    spOf K 1 Φ [.ref a] H (fun v _ => v = .bl true) E0 := by
  obtain ⟨args', h⟩ := hΦ ns hl
  have ag : Ag H H := fun b o e => .inl e
  refine ⟨H, [.im (.fz (ns.map D.int))], _, args', rfl, ⟨rfl, fun i v x h1 h2 => ?_, fun i j p h1 h2 => ?_⟩, ag, h, fun v H' F' s1 a1 _ _ _ _ rf => ?_⟩
  · match i with
    | 0 =>
      cases h1
      cases h2
      exact Dn.fz hS (dn_ints ns)
    | i + 1 => simp at h1
  · obtain ⟨⟨d, h1⟩, _⟩ := h1
    match i with
    | 0 => cases h1
    | i + 1 => simp at h1
  · exact RdD.bl_inv (H := H') (.inl rf)
end MP
namespace MP
open PySem PySem.Spec PyProof.Rows L2
@[simp] theorem x_pE (f : EF) (env : Ev) : pE f env = match f env with
  | none => none
  | some (r, e) => some (.val r.d, e) := id rfl
@[simp] theorem x_pV (i : Nat) (env : Ev) : pV i env = match (env[i]?).bind C.rd with
  | some _ => some (.slot i, env)
  | none => none := id rfl
@[simp] theorem x_eC (d : D) (env : Ev) : eC d env = some (.im d, env) := id rfl
@[simp] theorem x_eV (i : Nat) (env : Ev) : eV i env = match env[i]? with
  | some c => match c.rd with
    | none => none
    | some d => some (.im d, env.set i c.fz)
  | none => none := id rfl
@[simp] theorem x_eOp (f : D → D → Option R) (pa pb : PF) (env : Ev) : eOp f pa pb env = match pa env with
  | none => none
  | some (p, e1) => match pb e1 with
    | none => none
    | some (q, e2) => match rdP e2 p with
      | none => none
      | some x => match rdP e2 q with
        | none => none
        | some y => match f x y with
          | none => none
          | some r => some (r, e2) := id rfl
@[simp] theorem x_bE (f : EF) (env : Ev) : bE f env = match f env with
  | some (.im (.bl k), e) => some (k, e)
  | _ => none := id rfl
@[simp] theorem x_bAnd (f g : BF) (env : Ev) : bAnd f g env = match f env with
  | none => none
  | some (true, e) => g e
  | some (false, e) => some (false, e) := id rfl
@[simp] theorem x_bOr (f g : BF) (env : Ev) : bOr f g env = match f env with
  | none => none
  | some (true, e) => some (true, e)
  | some (false, e) => g e := id rfl
@[simp] theorem x_bNot (f : BF) (env : Ev) : bNot f env = match f env with
  | none => none
  | some (k, e) => some (!k, e) := id rfl
@[simp] theorem x_bP (p : PF) (env : Ev) : bP p env = match p env with
  | none => none
  | some (q, e) => match rdP e q with
    | none => none
    | some d => match d.truth with
      | none => none
      | some k => some (k, e) := id rfl
@[simp] theorem x_eIf (t : BF) (f g : EF) (env : Ev) : eIf t f g env = match t env with
  | none => none
  | some (true, e) => f e
  | some (false, e) => g e := id rfl
@[simp] theorem x_eOr (f g : EF) (env : Ev) : eOr f g env = match f env with
  | none => none
  | some (r, e) => match r.d.truthN with
    | none => none
    | some true => some (.im r.d, e)
    | some false => g e := id rfl
@[simp] theorem x_eAnd (f g : EF) (env : Ev) : eAnd f g env = match f env with
  | none => none
  | some (r, e) => match r.d.truthN with
    | none => none
    | some false => some (.im r.d, e)
    | some true => g e := id rfl
@[simp] theorem x_eNot (f : EF) (env : Ev) : eNot f env = match f env with
  | none => none
  | some (r, e) => match r.d.truthN with
    | none => none
    | some k => some (.im (.bl (!k)), e) := id rfl
@[simp] theorem x_aNil (env : Ev) : aNil  env = some ([], env) := id rfl
@[simp] theorem x_aCons (p : PF) (a : AF) (env : Ev) : aCons p a env = match p env with
  | none => none
  | some (x, e1) => match a e1 with
    | none => none
    | some (xs, e2) => some (x :: xs, e2) := id rfl
@[simp] theorem x_eCall (f : List D → Option R) (a : AF) (env : Ev) : eCall f a env = match a env with
  | none => none
  | some (ps, e) => match rdPs e ps with
    | none => none
    | some ds => match f ds with
      | none => none
      | some r => some (r, e) := id rfl
@[simp] theorem x_eTup (a : AF) (env : Ev) : eTup a env = match a env with
  | none => none
  | some (ps, e) => match vals ps with
    | none => none
    | some ds => if ds.length ≤ SL then some (.im (.tup ds), e) else none := id rfl
@[simp] theorem x_eLst (a : AF) (env : Ev) : eLst a env = match a env with
  | none => none
  | some (ps, e) => match vals ps with
    | none => none
    | some ds => if ds.length ≤ SL then some (.fr (.lst ds), e) else none := id rfl
@[simp] theorem x_sNil (env : Ev) : sNil  env = some (.nx, env) := id rfl
@[simp] theorem x_sSeq (f g : SF) (env : Ev) : sSeq f g env = match f env with
  | none => none
  | some (.nx, e) => g e
  | some (fl, e) => some (fl, e) := id rfl
@[simp] theorem x_sAsg (i : Nat) (f : EF) (env : Ev) : sAsg i f env = match f env with
  | none => none
  | some (r, e) => match put e i r.cell with
    | none => none
    | some e2 => some (.nx, e2) := id rfl
@[simp] theorem x_sAsgG (f : EF) (g : GF) (env : Ev) : sAsgG f g env = match f env with
  | none => none
  | some (r, e) => match g r.d e with
    | none => none
    | some e2 => some (.nx, e2) := id rfl
@[simp] theorem x_sPar (i j : Nat) (f h : EF) (env : Ev) : sPar i j f h env = match f env with
  | none => none
  | some (r, e1) => match h e1 with
    | none => none
    | some (q, e2) => match put e2 i (.im r.d) with
      | none => none
      | some e3 => match put e3 j (.im q.d) with
        | none => none
        | some e4 => some (.nx, e4) := id rfl
@[simp] theorem x_sExpr (f : EF) (env : Ev) : sExpr f env = match f env with
  | none => none
  | some (_, e) => some (.nx, e) := id rfl
@[simp] theorem x_sRet (f : EF) (env : Ev) : sRet f env = match f env with
  | none => none
  | some (r, e) => some (.rt r, e) := id rfl
@[simp] theorem x_sRetN (env : Ev) : sRetN  env = some (.rt (.im .non), env) := id rfl
@[simp] theorem x_sRetV (i : Nat) (env : Ev) : sRetV i env = match env[i]? with
  | some (.ow d) => some (.rt (.fr d), env.set i .un)
  | some c => match c.rd with
    | none => none
    | some d => some (.rt (.im d), env.set i c.fz)
  | none => none := id rfl
@[simp] theorem x_sPass (env : Ev) : sPass  env = some (.nx, env) := id rfl
@[simp] theorem x_sBreak (env : Ev) : sBreak  env = some (.bk, env) := id rfl
@[simp] theorem x_sCont (env : Ev) : sCont  env = some (.ct, env) := id rfl
@[simp] theorem x_sIf (t : BF) (f g : SF) (env : Ev) : sIf t f g env = match t env with
  | none => none
  | some (true, e) => f e
  | some (false, e) => g e := id rfl
@[simp] theorem x_sAug (i : Nat) (f : D → D → Option R) (p : PF) (env : Ev) : sAug i f p env = match (env[i]?).bind C.rd with
  | none => none
  | some _ => match p env with
    | none => none
    | some (q, e) => match (e[i]?).bind C.rd with
      | none => none
      | some x => match rdP e q with
        | none => none
        | some y => match f x y with
          | none => none
          | some r => match put e i r.cell with
            | none => none
            | some e2 => some (.nx, e2) := id rfl
@[simp] theorem x_sFor (it : IF) (g : GF) (f : SF) (env : Ev) : sFor it g f env = match it env with
  | none => none
  | some (ds, e) => forF g f ds e := id rfl
@[simp] theorem x_gN (i : Nat) (d : D) (env : Ev) : gN i d env = put env i (.im d) := id rfl
@[simp] theorem x_gsNil (ds : List D) (env : Ev) : gsNil  ds env = match ds with
  | [] => some env
  | _ => none := id rfl
@[simp] theorem x_gsCons (g : GF) (gs : GFs) (ds : List D) (env : Ev) : gsCons g gs ds env = match ds with
  | [] => none
  | d :: r => match g d env with
    | none => none
    | some e => gs r e := id rfl
@[simp] theorem x_gT (gs : GFs) (d : D) (env : Ev) : gT gs d env = match d with
  | .tup ds => gs ds env
  | _ => none := id rfl
@[simp] theorem x_gSub (j : Nat) (pi : PF) (d : D) (env : Ev) : gSub j pi d env = match (env[j]?).bind C.rd with
  | none => none
  | some _ => match pi env with
    | none => none
    | some (q, e1) => match rdP e1 q with
      | none => none
      | some i => match e1[j]? with
        | some c => if c.own = true then match c.rd with
          | some x => match putIx x i d with
            | some x' => some (e1.set j (c.with x'))
            | none => none
          | none => none
          else none
        | none => none := id rfl
@[simp] theorem x_iE (f : EF) (env : Ev) : iE f env = match f env with
  | none => none
  | some (r, e) => match r.d.items with
    | none => none
    | some ds => some (ds, e) := id rfl
@[simp] theorem x_iR (w : List D → Option (List D)) (a : AF) (env : Ev) : iR w a env = match a env with
  | none => none
  | some (ps, e) => match rdPs e ps with
    | none => none
    | some xs => match w xs with
      | none => none
      | some ds => some (ds, e) := id rfl
@[simp] theorem x_iEn (a : AF) (env : Ev) : iEn a env = match a env with
  | none => none
  | some (ps, e) => match valLst ps with
    | none => none
    | some ds => some (pairsF 0 ds, e) := id rfl
@[simp] theorem x_iZp (a : AF) (env : Ev) : iZp a env = match a env with
  | none => none
  | some (ps, e) => match valZip ps with
    | none => none
    | some ds => some (ds, e) := id rfl
@[simp] theorem x_bTrue (env : Ev) : bTrue  env = some (true, env) := id rfl
theorem x_eLc (is : List Nat) (it : IF) (g : GF) (t : BF) (f : EF) (env : Ev) : eLc is it g t f env = match it env with
  | none => none
  | some (ds, e) => match lcF is g t f ds (fzs e is) [] with
    | none => none
    | some (acc, e2) => some (.fr (.lst acc), back (fzs e is) e2 is) := id rfl
theorem x_eDc (is : List Nat) (it : IF) (g : GF) (t : BF) (f h : EF) (env : Ev) : eDc is it g t f h env = match it env with
  | none => none
  | some (ds, e) => match dcF is g t f h ds (fzs e is) [] with
    | none => none
    | some (acc, e2) => some (.fr (.dk acc), back (fzs e is) e2 is) := id rfl
@[simp] theorem x_eFn (Φ : Fn) (a : AF) (env : Ev) : eFn Φ a env = match a env with
  | none => none
  | some (ps, e) => match toArgs e ps with
    | none => none
    | some args => if apart (lent ps args) then match Φ args with
      | none => none
      | some (r, args') => some (r, writeB e ps args args')
      else none := id rfl
@[simp] theorem x_eU (f : D → Option R) (pa : PF) (env : Ev) : eU f pa env = match pa env with
  | none => none
  | some (p, e1) => match rdP e1 p with
    | none => none
    | some x => match f x with
      | none => none
      | some r => some (r, e1) := id rfl
@[simp] theorem x_eSl (p : PF) (lo hi : OF) (env : Ev) : eSl p lo hi env = match p env with
  | none => none
  | some (q, e1) => match lo e1 with
    | none => none
    | some (l, e2) => match hi e2 with
      | none => none
      | some (h, e3) => match rdP e3 q with
        | none => none
        | some d => match fSl d l h with
          | none => none
          | some r => some (r, e3) := id rfl
@[simp] theorem x_oNo (env : Ev) : oNo  env = some (none, env) := id rfl
@[simp] theorem x_oI (p : PF) (env : Ev) : oI p env = match p env with
  | none => none
  | some (q, e) => match rdP e q with
    | some (.int i) => some (some i, e)
    | _ => none := id rfl
@[simp] theorem x_eSetd (i : Nat) (q : PF) (f : EF) (env : Ev) : eSetd i q f env = match env[i]? with
  | some c0 => match c0.own, c0.rd with
    | true, some (.dk _) => match q env with
      | none => none
      | some (y, e2) => match f e2 with
        | none => none
        | some (r, e3) => match e3[i]? with
          | some c => match c.own, c.rd with
            | true, some (.dk kvs) => match rdP e3 y with
              | none => none
              | some yd => match yd.ky with
                | none => none
                | some kk => if kvs.length < SL then match lkD kvs kk with
                  | some d => some (.im d, e3)
                  | none => some (.im r.d, e3.set i (c.with (.dk (putD kvs kk r.d))))
                  else none
            | _, _ => none
          | none => none
    | _, _ => none
  | none => none := id rfl
@[simp] theorem x_eGet2 (p q : PF) (f : EF) (env : Ev) : eGet2 p q f env = match p env with
  | none => none
  | some (x, e1) => match rdP e1 x with
    | some (.dk _) => match q e1 with
      | none => none
      | some (y, e2) => match f e2 with
        | none => none
        | some (r, e3) => match rdP e3 x with
          | some (.dk kvs) => match rdP e3 y with
            | none => none
            | some yd => match yd.ky with
              | none => none
              | some kk => some (.im ((lkD kvs kk).getD r.d), e3)
          | _ => none
    | _ => none := id rfl
@[simp] theorem x_eGet1 (p q : PF) (env : Ev) : eGet1 p q env = match p env with
  | none => none
  | some (x, e1) => match rdP e1 x with
    | some (.dk _) => match q e1 with
      | none => none
      | some (y, e2) => match rdP e2 x with
          | some (.dk kvs) => match rdP e2 y with
            | none => none
            | some yd => match yd.ky with
              | none => none
              | some kk => some (.im ((lkD kvs kk).getD .non), e2)
          | _ => none
    | _ => none := id rfl
@[simp] theorem x_eMutT (T : String) (f : D → List D → Option (D × D)) (i : Nat) (a : AF) (env : Ev) : eMutT T f i a env = match env[i]? with
  | some c0 => match c0.rd with
    | some x0 => if (c0.own && tyB T x0) = true then eMut f i a env else none
    | none => none
  | none => none := id rfl
@[simp] theorem x_eMut (f : D → List D → Option (D × D)) (i : Nat) (a : AF) (env : Ev) : eMut f i a env = match env[i]? with
  | some c0 => if c0.own = true then match a env with
    | none => none
    | some (ps, e) => match vals ps with
      | none => none
      | some ds => match e[i]? with
        | some c => if c.own = true then match c.rd with
          | some x => match f x ds with
            | some (r, x') => some (.im r, e.set i (c.with x'))
            | none => none
          | none => none
          else none
        | none => none
    else none
  | none => none := id rfl
@[simp] theorem x_eMeth (ty : D → Bool) (f : D → List D → Option R) (p : PF) (a : AF) (env : Ev) : eMeth ty f p a env = match p env with
  | none => none
  | some (q, e1) => match rdP e1 q with
    | none => none
    | some d1 => if ty d1 = true then match a e1 with
      | none => none
      | some (ps, e2) => match rdP e2 q with
        | none => none
        | some d => match rdPs e2 ps with
          | none => none
          | some ds => match f d ds with
            | none => none
            | some r => some (r, e2)
      else none := id rfl
@[simp] theorem x_eDk (env : Ev) : eDk  env = some (.fr (.dk []), env) := id rfl
end MP
namespace MP
open PySem PySem.Spec PyProof.Rows L2
@[simp] theorem y_0  : C.rd .un = none := id rfl
@[simp] theorem y_1 (d : D) : C.rd (.im d) = some d := id rfl
@[simp] theorem y_2 (d : D) : C.rd (.ow d) = some d := id rfl
@[simp] theorem y_3 (d : D) : C.rd (.bo d) = some d := id rfl
@[simp] theorem y_4 (d : D) : C.rd (.bf d) = some d := id rfl
@[simp] theorem y_5  : C.free .un = true := id rfl
@[simp] theorem y_6 (d : D) : C.free (.im d) = true := id rfl
@[simp] theorem y_7 (d : D) : C.free (.ow d) = true := id rfl
@[simp] theorem y_8 (d : D) : C.own (.ow d) = true := id rfl
@[simp] theorem y_9 (d : D) : C.own (.bo d) = true := id rfl
@[simp] theorem y_10 (d : D) : C.own (.im d) = false := id rfl
@[simp] theorem y_11  : C.own .un = false := id rfl
@[simp] theorem y_12 (d x : D) : C.with (.ow d) x = C.ow x := id rfl
@[simp] theorem y_13 (d x : D) : C.with (.bo d) x = C.bo x := id rfl
@[simp] theorem y_14 (d : D) : R.cell (.im d) = C.im d := id rfl
@[simp] theorem y_15 (d : D) : R.cell (.fr d) = C.ow d := id rfl
@[simp] theorem y_16 (d : D) : R.d (.im d) = d := id rfl
@[simp] theorem y_17 (d : D) : R.d (.fr d) = d := id rfl
@[simp] theorem y_18 (env : Ev) (d : D) : rdP env (.val d) = some d := id rfl
@[simp] theorem y_19 (env : Ev) (i : Nat) : rdP env (.slot i) = (env[i]?).bind C.rd := id rfl
@[simp] theorem y_20 (env : Ev) : rdPs env [] = some [] := id rfl
@[simp] theorem y_21 (env : Ev) (p : P) (ps : List P) : rdPs env (p :: ps) = (match rdP env p with | none => none | some d => match rdPs env ps with | none => none | some ds => some (d :: ds)) := id rfl
@[simp] theorem y_22  : vals [] = some [] := id rfl
@[simp] theorem y_23 (d : D) (ps : List P) : vals (.val d :: ps) = (match vals ps with | some ds => some (d :: ds) | none => none) := id rfl
@[simp] theorem y_24 (env : Ev) (i : Nat) (c : C) : put env i c = (match env[i]? with | none => none | some c0 => if c0.free then some (env.set i c) else none) := id rfl
@[simp] theorem y_25 (env : Ev) : toArgs env [] = some [] := id rfl
@[simp] theorem y_26 (env : Ev) (p : P) (ps : List P) : toArgs env (p :: ps) = (match toArg env p with | none => none | some a => match toArgs env ps with | none => none | some as => some (a :: as)) := id rfl
@[simp] theorem y_27 (env : Ev) (d : D) : toArg env (.val d) = some (.im d) := id rfl
@[simp] theorem y_28 (env : Ev) (i : Nat) : toArg env (.slot i) = (match env[i]? with | some (.im d) => some (.im d) | some (.bf d) => some (.im d) | some (.ow d) => some (.bo d) | some (.bo d) => some (.bo d) | _ => none) := id rfl
@[simp] theorem y_29 (d x : D) : C.back (.ow d) (.bo x) = C.ow x := id rfl
@[simp] theorem y_30 (d x : D) : C.back (.ow d) (.im x) = C.im x := id rfl
@[simp] theorem y_31 (d x : D) : C.back (.bo d) (.bo x) = C.bo x := id rfl
@[simp] theorem y_32 (d x : D) : C.back (.bo d) (.im x) = C.bf x := id rfl
@[simp] theorem y_33 (as : List Arg) : lent [] as = [] := id rfl
@[simp] theorem y_34 (i : Nat) (ps : List P) (d : D) (as : List Arg) : lent (.slot i :: ps) (.bo d :: as) = i :: lent ps as := id rfl
@[simp] theorem y_35 (i : Nat) (ps : List P) (d : D) (as : List Arg) : lent (.slot i :: ps) (.im d :: as) = lent ps as := id rfl
@[simp] theorem y_36 (x : D) (ps : List P) (d : D) (as : List Arg) : lent (.val x :: ps) (.im d :: as) = lent ps as := id rfl
@[simp] theorem y_37  : apart [] = true := id rfl
@[simp] theorem y_38 (i : Nat) (is : List Nat) : apart (i :: is) = (!is.contains i && apart is) := id rfl
@[simp] theorem y_39 (env : Ev) (as bs : List Arg) : writeB env [] as bs = env := id rfl
@[simp] theorem y_40 (env : Ev) (i : Nat) (ps : List P) (d : D) (as : List Arg) (b : Arg) (bs : List Arg) : writeB env (.slot i :: ps) (.bo d :: as) (b :: bs) = (match env[i]? with | some c => writeB (env.set i (c.back b)) ps as bs | none => writeB env ps as bs) := id rfl
@[simp] theorem y_41 (env : Ev) (i : Nat) (ps : List P) (d : D) (as : List Arg) (b : Arg) (bs : List Arg) : writeB env (.slot i :: ps) (.im d :: as) (b :: bs) = writeB env ps as bs := id rfl
@[simp] theorem y_42 (env : Ev) (x : D) (ps : List P) (d : D) (as : List Arg) (b : Arg) (bs : List Arg) : writeB env (.val x :: ps) (.im d :: as) (b :: bs) = writeB env ps as bs := id rfl
@[simp] theorem y_43 (env : Ev) : outs [] env = some [] := id rfl
@[simp] theorem y_44 (d : D) (as : List Arg) (c : C) (e : Ev) : outs (.im d :: as) (c :: e) = (match outs as e with | some r => some (.im d :: r) | none => none) := id rfl
@[simp] theorem y_45 (d x : D) (as : List Arg) (e : Ev) : outs (.bo d :: as) (.bo x :: e) = (match outs as e with | some r => some (.bo x :: r) | none => none) := id rfl
@[simp] theorem y_46 (d x : D) (as : List Arg) (e : Ev) : outs (.bo d :: as) (.bf x :: e) = (match outs as e with | some r => some (.im x :: r) | none => none) := id rfl
@[simp] theorem y_47 (d : D) : Arg.cell (.im d) = C.im d := id rfl
@[simp] theorem y_48 (d : D) : Arg.cell (.bo d) = C.bo d := id rfl
@[simp] theorem y_49 (n : Nat) (args : List Arg) : env0 n args = args.map Arg.cell ++ List.replicate (n - args.length) .un := id rfl
@[simp] theorem y_50  : C.fz .un = C.un := id rfl
@[simp] theorem y_51 (d : D) : C.fz (.im d) = C.im d := id rfl
@[simp] theorem y_52 (d : D) : C.fz (.ow d) = C.im d := id rfl
@[simp] theorem y_53 (d : D) : C.fz (.bo d) = C.bf d := id rfl
@[simp] theorem y_54 (d : D) : C.fz (.bf d) = C.bf d := id rfl
@[simp] theorem y_55 (i : Int) : D.ky (.int i) = some (.inl i) := id rfl
@[simp] theorem y_56 (i : Tx) : D.ky (.str i) = some (.inr i) := id rfl
@[simp] theorem y_57  : D.truth .non = some false := id rfl
@[simp] theorem y_58 (b : Bool) : D.truth (.bl b) = some b := id rfl
@[simp] theorem y_59 (i : Int) : D.truth (.int i) = some (i != 0) := id rfl
@[simp] theorem y_60 (xs : List D) : D.truth (.tup xs) = some (!xs.isEmpty) := id rfl
@[simp] theorem y_61 (xs : List D) : D.truth (.lst xs) = some (!xs.isEmpty) := id rfl
@[simp] theorem y_62 (xs : List D) : D.truth (.fz xs) = some (!xs.isEmpty) := id rfl
@[simp] theorem y_63 (xs : List (Ky × D)) : D.truth (.dk xs) = some (!xs.isEmpty) := id rfl
@[simp] theorem y_64 (x : Tx) : D.truth (.str x) = (if x.length ≤ SL then some (!x.isEmpty) else none) := id rfl
@[simp] theorem y_65  : D.truthN .non = some false := id rfl
@[simp] theorem y_66 (b : Bool) : D.truthN (.bl b) = some b := id rfl
@[simp] theorem y_67 (i : Int) : D.truthN (.int i) = some (i != 0) := id rfl
@[simp] theorem y_68 (x : Tx) : D.truthN (.str x) = (if x.length ≤ SL then some (!x.isEmpty) else none) := id rfl
@[simp] theorem y_69 (xs : List D) : D.truthN (.tup xs) = some (!xs.isEmpty) := id rfl
@[simp] theorem y_70 (xs : List D) : D.truthN (.lst xs) = some (!xs.isEmpty) := id rfl
@[simp] theorem y_71 (xs : List D) : D.truthN (.fz xs) = some (!xs.isEmpty) := id rfl
@[simp] theorem y_72 (xs : List D) : D.items (.tup xs) = some xs := id rfl
@[simp] theorem y_73 (xs : List D) : D.seq (.tup xs) = some xs := id rfl
@[simp] theorem y_74 (xs : List D) : D.items (.lst xs) = some xs := id rfl
@[simp] theorem y_75 (xs : List D) : D.seq (.lst xs) = some xs := id rfl
@[simp] theorem y_76 (xs : List D) : D.items (.fz xs) = some xs := id rfl
@[simp] theorem y_77 (xs : List D) : D.seq (.fz xs) = some xs := id rfl
@[simp] theorem y_78 (x : Tx) : D.items (.str x) = some (x.map fun c => D.str [c]) := id rfl
@[simp] theorem y_79 (i j : Int) : fAdd (.int i) (.int j) = some (.im (.int (i + j))) := id rfl
@[simp] theorem y_80 (g : Int → Int → Option D) (i j : Int) : fInt g (.int i) (.int j) = (match g i j with | some d => some (.im d) | none => none) := id rfl
@[simp] theorem y_81 (i j : Int) : fLt (.int i) (.int j) = some (.im (.bl (decide (i < j)))) := id rfl
@[simp] theorem y_82 (i j : Int) : fGt (.int i) (.int j) = some (.im (.bl (decide (j < i)))) := id rfl
@[simp] theorem y_83 (i j : Int) : fLe (.int i) (.int j) = some (.im (.bl (decide (i ≤ j)))) := id rfl
@[simp] theorem y_84 (i j : Int) : fGe (.int i) (.int j) = some (.im (.bl (decide (j ≤ i)))) := id rfl
@[simp] theorem y_85 (a b : Tx) : fAdd (.str a) (.str b) = (if a.length + b.length ≤ SL then some (.im (.str (a ++ b))) else none) := id rfl
@[simp] theorem y_86 (a b : List D) : fAdd (.tup a) (.tup b) = (if a.length + b.length ≤ SL then some (.im (.tup (a ++ b))) else none) := id rfl
@[simp] theorem y_87 (a b : List D) : fAdd (.lst a) (.lst b) = (if a.length + b.length ≤ SL then some (.fr (.lst (a ++ b))) else none) := id rfl
@[simp] theorem y_88 (i : Int) : fNeg (.int i) = some (.im (.int (-i))) := id rfl
@[simp] theorem y_89 (xs : List D) (i : Int) : fIx (.lst xs) (.int i) = (match atI xs i with | some d => some (.im d) | none => none) := id rfl
@[simp] theorem y_90 (xs : List D) (i : Int) : fIx (.fz xs) (.int i) = (match atI xs i with | some d => some (.im d) | none => none) := id rfl
@[simp] theorem y_91 (xs : List D) (i : Int) : fIx (.tup xs) (.int i) = (match atI xs i with | some d => some (.im d) | none => none) := id rfl
@[simp] theorem y_92 (x : Tx) (i : Int) : fIx (.str x) (.int i) = (if x.length ≤ SL then match atI x i with | some c => some (.im (.str [c])) | none => none else none) := id rfl
@[simp] theorem y_93 (kvs : List (Ky × D)) (y : D) : fIx (.dk kvs) y = (match y.ky with | none => none | some k => match lkD kvs k with | none => none | some d => some (.im d)) := id rfl
@[simp] theorem y_94 (z : Tx) (lo hi : Option Int) : fSl (.str z) lo hi = (if z.length ≤ SL then some (.im (.str (cutT z lo hi))) else none) := id rfl
@[simp] theorem y_95 (z : List D) (lo hi : Option Int) : fSl (.lst z) lo hi = some (.fr (.lst (cutT z lo hi))) := id rfl
@[simp] theorem y_96 (z : List D) (lo hi : Option Int) : fSl (.fz z) lo hi = some (.fr (.lst (cutT z lo hi))) := id rfl
@[simp] theorem y_97 (z : List D) (lo hi : Option Int) : fSl (.tup z) lo hi = some (.im (.tup (cutT z lo hi))) := id rfl
@[simp] theorem y_98 (xs : List D) (k : Int) (d : D) : putIx (.lst xs) (.int k) d = (match ixN xs.length k with | some j => some (.lst (xs.set j d)) | none => none) := id rfl
@[simp] theorem y_99 (x y : D) : fEq x y = (match eqD x y with | some k => some (.im (.bl k)) | none => none) := id rfl
@[simp] theorem y_100 (x y : D) : fNe x y = (match eqD x y with | some k => some (.im (.bl (!k))) | none => none) := id rfl
@[simp] theorem y_101 (x y : D) : fIn x y = (match fInB x y with | some k => some (.im (.bl k)) | none => none) := id rfl
@[simp] theorem y_102 (x y : D) : fNotIn x y = (match fInB x y with | some k => some (.im (.bl (!k))) | none => none) := id rfl
@[simp] theorem y_103 (a b : Tx) : fInB (.str a) (.str b) = some (subIn a b) := id rfl
@[simp] theorem y_104 (a : Tx) (b : List (Ky × D)) : fInB (.str a) (.dk b) = some (lkD b (.inr a)).isSome := id rfl
@[simp] theorem y_105 (a : Int) (b : List (Ky × D)) : fInB (.int a) (.dk b) = some (lkD b (.inl a)).isSome := id rfl
@[simp] theorem y_106 (x : D) : fIs x .non = some (.im (.bl x.isNon)) := id rfl
@[simp] theorem y_107 (x : D) : fIsN x .non = some (.im (.bl (!x.isNon))) := id rfl
@[simp] theorem y_108  : D.isNon .non = true := id rfl
@[simp] theorem y_109 (i : Int) : D.isNon (.int i) = false := id rfl
@[simp] theorem y_110 (i : Tx) : D.isNon (.str i) = false := id rfl
@[simp] theorem y_111 (i : Bool) : D.isNon (.bl i) = false := id rfl
@[simp] theorem y_112 (i : List D) : D.isNon (.tup i) = false := id rfl
@[simp] theorem y_113 (i : List D) : D.isNon (.lst i) = false := id rfl
@[simp] theorem y_114 (i j : Int) : fMax2 [.int i, .int j] = some (.im (.int (if j > i then j else i))) := id rfl
@[simp] theorem y_115 (i j : Int) : fMin2 [.int i, .int j] = some (.im (.int (if j < i then j else i))) := id rfl
@[simp] theorem y_116 (i : Int) : fInt1 [.int i] = some (.im (.int i)) := id rfl
@[simp] theorem y_117 (b : Bool) : fInt1 [.bl b] = some (.im (.int (if b then 1 else 0))) := id rfl
@[simp] theorem y_118 (i : Int) : fAbs [.int i] = some (.im (.int (if i < 0 then -i else i))) := id rfl
@[simp] theorem y_119 (x : Tx) : fLen [.str x] = (if x.length ≤ SL then some (.im (.int (x.length : Nat))) else none) := id rfl
@[simp] theorem y_120 (x : List D) : fLen [.lst x] = some (.im (.int (x.length : Nat))) := id rfl
@[simp] theorem y_121 (x : List D) : fLen [.fz x] = some (.im (.int (x.length : Nat))) := id rfl
@[simp] theorem y_122 (x : List D) : fLen [.tup x] = some (.im (.int (x.length : Nat))) := id rfl
@[simp] theorem y_123 (x : List (Ky × D)) : fLen [.dk x] = some (.im (.int (x.length : Nat))) := id rfl
@[simp] theorem y_124 (x : List D) : fList [.lst x] = some (.fr (.lst x)) := id rfl
@[simp] theorem y_125 (x : List D) : fTuple [.lst x] = some (.im (.tup x)) := id rfl
@[simp] theorem y_126 (x : List D) : fList [.fz x] = some (.fr (.lst x)) := id rfl
@[simp] theorem y_127 (x : List D) : fTuple [.fz x] = some (.im (.tup x)) := id rfl
@[simp] theorem y_128 (x : List D) : fList [.tup x] = some (.fr (.lst x)) := id rfl
@[simp] theorem y_129 (x : List D) : fTuple [.tup x] = some (.im (.tup x)) := id rfl
@[simp] theorem y_130 (x : List (Ky × D)) : fList [.dk x] = some (.fr (.lst (keysD x))) := id rfl
@[simp] theorem y_131 (a b : Tx) : fCount (.str a) [.str b] = some (.im (.int (cntIn b a : Nat))) := id rfl
@[simp] theorem y_132 (a : Tx) (x : List D) : fJoin (.str a) [.lst x] = (match texts x with | none => none | some xs => if (xs.map List.length).sum + xs.length * a.length ≤ SL then some (.im (.str (joinT a xs))) else none) := id rfl
@[simp] theorem y_133 (a : Tx) (x : List D) : fJoin (.str a) [.fz x] = (match texts x with | none => none | some xs => if (xs.map List.length).sum + xs.length * a.length ≤ SL then some (.im (.str (joinT a xs))) else none) := id rfl
@[simp] theorem y_134 (a : Tx) (x : List D) : fJoin (.str a) [.tup x] = (match texts x with | none => none | some xs => if (xs.map List.length).sum + xs.length * a.length ≤ SL then some (.im (.str (joinT a xs))) else none) := id rfl
@[simp] theorem y_rng1 {j : Int} (h : small j = true) : rng1 [.int j] = some (rng 0 j.toNat 1) := by
  simp only [rng1, h, if_true]
@[simp] theorem y_rng2 {i j : Int} (h : small i = true) (h2 : small j = true) : rng2 [.int i, .int j] = some (rng i (j - i).toNat 1) := by
  simp only [rng2, h, h2, Bool.and_self, if_true]
@[simp] theorem y_rng3 {i j : Int} (h : small i = true) (h2 : small j = true) : rng3 [.int i, .int j, .int (-1)] = some (rng i (i - j).toNat (-1)) := by
  simp only [rng3, h, h2, Bool.and_self, beq_self_eq_true, if_true]
@[simp] theorem small_0 : small 0 = true := by decide +kernel
@[simp] theorem small_1 : small 1 = true := by decide +kernel
@[simp] theorem small_2 : small 2 = true := by decide +kernel
@[simp] theorem small_3 : small 3 = true := by decide +kernel
@[simp] theorem small_4 : small 4 = true := by decide +kernel
@[simp] theorem small_5 : small 5 = true := by decide +kernel
@[simp] theorem small_6 : small 6 = true := by decide +kernel
@[simp] theorem small_7 : small 7 = true := by decide +kernel
@[simp] theorem small_8 : small 8 = true := by decide +kernel
@[simp] theorem small_9 : small 9 = true := by decide +kernel
@[simp] theorem small_10 : small 10 = true := by decide +kernel

@[simp] theorem y_136 (xs : List D) (d : D) : mAppend (.lst xs) [d] = (if xs.length < SL then some (.non, .lst (xs ++ [d])) else none) := id rfl
@[simp] theorem y_137 (xs : List D) (i : Int) : mPopAt (.lst xs) [.int i] = (if 0 ≤ i ∧ i < xs.length ∧ small i = true then match xs[i.toNat]? with | some d => some (d, .lst (xs.eraseIdx i.toNat)) | none => none else none) := id rfl
@[simp] theorem y_138 (xs : List D) : tyB "list" (.lst xs) = true := id rfl
@[simp] theorem y_139 (xs : List (Ky × D)) : tyB "dict" (.dk xs) = true := id rfl
@[simp] theorem y_140 (x : Tx) : D.isStr (.str x) = true := id rfl
@[simp] theorem y_141 (a b : Int) : scalD (.int a) (.int b) = some (a == b) := id rfl
@[simp] theorem y_142 (env : Ev) : blank env [] = env := id rfl
@[simp] theorem y_143 (env : Ev) (i : Nat) (is : List Nat) : blank env (i :: is) = (blank env is).set i .un := id rfl
@[simp] theorem y_144 (o env : Ev) : back o env [] = env := id rfl
@[simp] theorem y_145 (o env : Ev) (i : Nat) (is : List Nat) : back o env (i :: is) = (back o env is).set i (o[i]?.getD .un) := id rfl
@[simp] theorem y_146 (env : Ev) : fzs env [] = env := id rfl
@[simp] theorem y_147 (env : Ev) (i : Nat) (is : List Nat) : fzs env (i :: is) = (match (fzs env is)[i]? with | some c => (fzs env is).set i c.fz | none => fzs env is) := id rfl
@[simp] theorem y_148 (g : GF) (f : SF) (env : Ev) : forF g f [] env = some (.nx, env) := id rfl
@[simp] theorem y_149 (T : String) (f : D → List D → Option (D × D)) (i : Nat) : eMut0 T f i = eMutT T f i aNil := id rfl
@[simp] theorem y_150 (p : PF) : eNeg p = eU fNeg p := id rfl
@[simp] theorem y_151 (p : PF) : eSS p = eU fSS p := id rfl
end MP
namespace MP
open PySem PySem.Spec PyProof.Rows L2
/-! ### the drawing of cases: the helpers that the laws share -/
def fuel : Nat := 1000000000
def ce_law_start_0 : EF := (eCall fInt1 (aCons (pV 1) aNil))
def st_law_start_0 : SF := (sRet (eLst (aCons (pE (eLc [1] (iE (eSl (pV 0) oNo (oI (pE (eC (.int 63)))))) (gN 1) bTrue ce_law_start_0)) (aCons (pE (eC (.int 0))) (aCons (pE (eC (.int 0))) (aCons (pE (eC (.int 0))) (aCons (pE (eC (.int 20))) aNil)))))))
def code_law_start : SF := (sSeq st_law_start_0 sNil)
def fn_law_start : Fn := runF code_law_start 2
def st_law_fill_0 : SF := (sRetV 1)
def bk_law_fill_0 : SF := (sSeq st_law_fill_0 sNil)
def st_law_fill_1 : SF := (sAsg 1 (eCall fMax2 (aCons (pE (eOp fIx (pE (eOp fIx (pV 0) (pE (eC (.int 0))))) (pE (eOp fIx (pV 0) (pE (eC (.int 1))))))) (aCons (pE (eOp fSub (pE (eOp fSub (pE (eC (.int 0))) (pE (eC (.int 1))))) (pE (eOp fIx (pE (eOp fIx (pV 0) (pE (eC (.int 0))))) (pE (eOp fIx (pV 0) (pE (eC (.int 1))))))))) aNil))))
def st_law_fill_2 : SF := (sAsgG (eOp fAdd (pE (eOp fIx (pV 0) (pE (eC (.int 1))))) (pE (eC (.int 1)))) (gSub 0 (pE (eC (.int 1)))))
def st_law_fill_3 : SF := (sIf (bE (eOp fGe (pV 1) (pE (eOp fPow (pE (eC (.int 10))) (pE (eC (.int 18))))))) bk_law_fill_0 sNil)
def bk_law_fill_1 : SF := (sSeq st_law_fill_1 (sSeq st_law_fill_2 (sSeq st_law_fill_3 sNil)))
def st_law_fill_4 : SF := (sAsg 1 (eOp fAdd (pV 1) (pE (eOp fMod (pE (eCall fInt1 (aCons (pE (eOp fIx (pE (eOp fIx (pV 0) (pE (eC (.int 0))))) (pE (eNeg (pE (eC (.int 1))))))) aNil))) (pE (eC (.int 1000003)))))))
def bk_law_fill_2 : SF := (sSeq st_law_fill_4 sNil)
def st_law_fill_5 : SF := (sAsgG (eOp fAdd (pE (eOp fIx (pV 0) (pE (eC (.int 3))))) (pE (eC (.int 1)))) (gSub 0 (pE (eC (.int 3)))))
def st_law_fill_6 : SF := (sAsg 1 (eOp fAdd (pE (eOp fMul (pE (eOp fIx (pV 0) (pE (eC (.int 3))))) (pE (eC (.int 69621))))) (pE (eC (.int 12345)))))
def st_law_fill_7 : SF := (sIf (bE (eOp fLt (pE (eOp fIx (pV 0) (pE (eC (.int 1))))) (pE (eCall fLen (aCons (pE (eOp fIx (pV 0) (pE (eC (.int 0))))) aNil))))) bk_law_fill_1 sNil)
def st_law_fill_8 : SF := (sIf (bAnd (bP (pE (eOp fIx (pV 0) (pE (eC (.int 0)))))) (bE (eOp fGe (pE (eOp fIx (pV 0) (pE (eC (.int 1))))) (pE (eCall fLen (aCons (pE (eOp fIx (pV 0) (pE (eC (.int 0))))) aNil)))))) bk_law_fill_2 sNil)
def st_law_fill_9 : SF := (sAsg 1 (eOp fMod (pE (eCall fInt1 (aCons (pE (eOp fAdd (pE (eOp fMul (pV 1) (pE (eC (.int 48271))))) (pE (eOp fMul (pE (eOp fIx (pV 0) (pE (eC (.int 3))))) (pE (eC (.int 69621))))))) aNil))) (pE (eC (.int 2147483647)))))
def st_law_fill_10 : SF := (sRet (eOp fAdd (pE (eOp fDiv (pE (eCall fInt1 (aCons (pE (eOp fAdd (pE (eOp fAdd (pE (eOp fMul (pV 1) (pV 1))) (pE (eOp fMul (pE (eOp fIx (pV 0) (pE (eC (.int 3))))) (pE (eC (.int 7919))))))) (pE (eC (.int 11))))) aNil))) (pE (eC (.int 64))))) (pE (eC (.int 36028797018963968)))))
def code_law_fill : SF := (sSeq st_law_fill_5 (sSeq st_law_fill_6 (sSeq st_law_fill_7 (sSeq st_law_fill_8 (sSeq st_law_fill_9 (sSeq st_law_fill_10 sNil))))))
def fn_law_fill : Fn := runF code_law_fill 2
def st_law_take_0 : SF := (sAsgG (eFn fn_law_fill (aCons (pV 0) aNil)) (gSub 0 (pE (eC (.int 2)))))
def bk_law_take_0 : SF := (sSeq st_law_take_0 sNil)
def st_law_take_1 : SF := (sIf (bE (eOp fLt (pE (eOp fIx (pV 0) (pE (eC (.int 2))))) (pV 1))) bk_law_take_0 sNil)
def st_law_take_2 : SF := (sAsg 2 (eOp fMod (pE (eCall fInt1 (aCons (pE (eOp fIx (pV 0) (pE (eC (.int 2))))) aNil))) (pV 1)))
def st_law_take_3 : SF := (sAsgG (eOp fDiv (pE (eOp fIx (pV 0) (pE (eC (.int 2))))) (pV 1)) (gSub 0 (pE (eC (.int 2)))))
def st_law_take_4 : SF := (sRetV 2)
def code_law_take : SF := (sSeq st_law_take_1 (sSeq st_law_take_2 (sSeq st_law_take_3 (sSeq st_law_take_4 sNil))))
def fn_law_take : Fn := runF code_law_take 3
def st_law_shuffled_0 : SF := (sExpr (eMutT "list" mAppend 3 (aCons (pE (eMutT "list" mPopAt 2 (aCons (pE (eFn fn_law_take (aCons (pV 0) (aCons (pE (eCall fLen (aCons (pV 2) aNil))) aNil)))) aNil))) aNil)))
def bk_law_shuffled_0 : SF := (sSeq st_law_shuffled_0 sNil)
def st_law_shuffled_1 : SF := (sAsg 2 (eCall fList (aCons (pV 1) aNil)))
def st_law_shuffled_2 : SF := (sAsg 3 (eLst aNil))
def st_law_shuffled_3 : SF := (sWhile fuel (bP (pV 2)) bk_law_shuffled_0)
def st_law_shuffled_4 : SF := (sRetV 3)
def code_law_shuffled : SF := (sSeq st_law_shuffled_1 (sSeq st_law_shuffled_2 (sSeq st_law_shuffled_3 (sSeq st_law_shuffled_4 sNil))))
def fn_law_shuffled : Fn := runF code_law_shuffled 4
def ce_law_word_0 : EF := (eOp fIx (pV 1) (pE (eFn fn_law_take (aCons (pV 0) (aCons (pE (eCall fLen (aCons (pV 1) aNil))) aNil)))))
def st_law_word_0 : SF := (sRet (eMeth D.isStr fJoin (pE (eC (.str []))) (aCons (pE (eLc [3] (iR rng1 (aCons (pE (eFn fn_law_take (aCons (pV 0) (aCons (pE (eOp fAdd (pV 2) (pE (eC (.int 1))))) aNil)))) aNil)) (gN 3) bTrue ce_law_word_0)) aNil)))
def code_law_word : SF := (sSeq st_law_word_0 sNil)
def fn_law_word : Fn := runF code_law_word 4

def cD (ns : List Int) (i p k : Int) : D := .lst [.lst (ns.map D.int), .int i, .int p, .int k, .int 20]
theorem atI_of_nat {α : Type} (xs : List α) (j : Nat) : atI xs (j : Int) = xs[j]? := by
  unfold atI ixN
  rw [if_pos (by omega)]
  by_cases h : (j : Int) < xs.length
  · rw [if_pos h]; simp
  · rw [if_neg h, List.getElem?_eq_none (by omega)]; rfl
theorem ixN_nat (n j : Nat) : ixN n (j : Int) = if j < n then some j else none := by
  unfold ixN
  rw [if_pos (by omega)]
  by_cases h : j < n
  · rw [if_pos h, if_pos (by omega)]; simp
  · rw [if_neg h, if_neg (by omega)]
@[simp] theorem atI_0 {α : Type} (xs : List α) : atI xs 0 = xs[0]? := atI_of_nat xs 0
@[simp] theorem ixN_0 (n : Nat) : ixN n 0 = if 0 < n then some 0 else none := ixN_nat n 0
@[simp] theorem atI_1 {α : Type} (xs : List α) : atI xs 1 = xs[1]? := atI_of_nat xs 1
@[simp] theorem ixN_1 (n : Nat) : ixN n 1 = if 1 < n then some 1 else none := ixN_nat n 1
@[simp] theorem atI_2 {α : Type} (xs : List α) : atI xs 2 = xs[2]? := atI_of_nat xs 2
@[simp] theorem ixN_2 (n : Nat) : ixN n 2 = if 2 < n then some 2 else none := ixN_nat n 2
@[simp] theorem atI_3 {α : Type} (xs : List α) : atI xs 3 = xs[3]? := atI_of_nat xs 3
@[simp] theorem ixN_3 (n : Nat) : ixN n 3 = if 3 < n then some 3 else none := ixN_nat n 3
@[simp] theorem atI_4 {α : Type} (xs : List α) : atI xs 4 = xs[4]? := atI_of_nat xs 4
@[simp] theorem ixN_4 (n : Nat) : ixN n 4 = if 4 < n then some 4 else none := ixN_nat n 4
@[simp] theorem atI_5 {α : Type} (xs : List α) : atI xs 5 = xs[5]? := atI_of_nat xs 5
@[simp] theorem ixN_5 (n : Nat) : ixN n 5 = if 5 < n then some 5 else none := ixN_nat n 5
@[simp] theorem atI_6 {α : Type} (xs : List α) : atI xs 6 = xs[6]? := atI_of_nat xs 6
@[simp] theorem ixN_6 (n : Nat) : ixN n 6 = if 6 < n then some 6 else none := ixN_nat n 6
@[simp] theorem atI_7 {α : Type} (xs : List α) : atI xs 7 = xs[7]? := atI_of_nat xs 7
@[simp] theorem ixN_7 (n : Nat) : ixN n 7 = if 7 < n then some 7 else none := ixN_nat n 7
@[simp] theorem atI_neg1 {α : Type} (xs : List α) : atI xs (-1) = xs.getLast? := by
  cases xs with
  | nil => rfl
  | cons x r =>
    unfold atI ixN
    rw [if_neg (by omega), if_pos (by simp; omega)]
    rw [List.getLast?_eq_getElem?]
    show (x :: r)[(-1 + ((x :: r).length : Int)).toNat]? = _
    congr 1
    simp
    omega
/-! ### one step after the other -/
theorem seq_nx {f g : SF} {env e1 : Ev} {X : Option (Fl × Ev)} (h : f env = some (.nx, e1)) (k : g e1 = X) : sSeq f g env = X := by rw [x_sSeq, h]; exact k
theorem seq_rt {f g : SF} {env e1 : Ev} {r : R} (h : f env = some (.rt r, e1)) : sSeq f g env = some (.rt r, e1) := by rw [x_sSeq, h]
theorem if_tt {t : BF} {f g : SF} {env e1 : Ev} {X : Option (Fl × Ev)} (h : t env = some (true, e1)) (k : f e1 = X) : sIf t f g env = X := by rw [x_sIf, h]; exact k
theorem if_ff {t : BF} {f g : SF} {env e1 : Ev} {X : Option (Fl × Ev)} (h : t env = some (false, e1)) (k : g e1 = X) : sIf t f g env = X := by rw [x_sIf, h]; exact k
theorem run_rt {f : SF} {n : Nat} {args as : List Arg} {e : Ev} {r : R} (h : f (env0 n args) = some (.rt r, e)) (o : outs args e = some as) : runF f n args = some (r, as) := by
  unfold runF
  rw [h]
  simp only [o]
theorem run_nx {f : SF} {n : Nat} {args as : List Arg} {e : Ev} (h : f (env0 n args) = some (.nx, e)) (o : outs args e = some as) : runF f n args = some (.im .non, as) := by
  unfold runF
  rw [h]
  simp only [o]
/-- the drawer's state -/
def CSt (d : D) : Prop := ∃ ns i p k, d = cD ns i p k ∧ 0 ≤ i ∧ i ≤ ((ns : List Int).length : Int) ∧ 0 ≤ p ∧ 0 ≤ k
theorem atI_map {α β : Type} (f : α → β) (xs : List α) (i : Int) : atI (xs.map f) i = (atI xs i).map f := by
  unfold atI
  rw [List.length_map]
  cases ixN xs.length i with
  | none => rfl
  | some j => simp
theorem atI_some {α : Type} (xs : List α) {i : Int} (h0 : 0 ≤ i) (h1 : i < xs.length) : ∃ x, atI xs i = some x := by
  obtain ⟨j, rfl⟩ := Int.eq_ofNat_of_zero_le h0
  have hj : j < xs.length := by omega
  exact ⟨xs[j], by rw [atI_of_nat, List.getElem?_eq_getElem hj]⟩
theorem fill_ok (ns : List Int) (i p k : Int) (h0 : 0 ≤ i) (h1 : i ≤ ns.length) (hk : 0 ≤ k) : ∃ n i' k', fn_law_fill [.bo (cD ns i p k)] = some (.im (.int n), [.bo (cD ns i' p k')]) ∧ 0 ≤ n ∧ 0 ≤ i' ∧ i' ≤ ns.length ∧ 0 ≤ k' := by
  -- the last rows
  have tail : ∀ (i m : Int), 0 ≤ i → i ≤ ns.length → ∃ n e, (sSeq st_law_fill_8 (sSeq st_law_fill_9 (sSeq st_law_fill_10 sNil))) [.bo (cD ns i p (k + 1)), .im (.int m)] = some (.rt (.im (.int n)), e) ∧ (∀ x : D, outs [.bo x] e = some [.bo (cD ns i p (k + 1))]) ∧ 0 ≤ n := by
    intro i m h0 h1
    have t2 : ∀ m : Int, ∃ n e, (sSeq st_law_fill_9 (sSeq st_law_fill_10 sNil)) [.bo (cD ns i p (k + 1)), .im (.int m)] = some (.rt (.im (.int n)), e) ∧ (∀ x : D, outs [.bo x] e = some [.bo (cD ns i p (k + 1))]) ∧ 0 ≤ n := by
      intro m
      have hb : ((m * 48271 + (k + 1) * 69621) % 2147483647).natAbs < 18446744073709551616 := by omega
      refine ⟨_, _, seq_nx (by simp [st_law_fill_9, cD]; exact rfl) (seq_rt (by simp [st_law_fill_10, cD, hb]; exact ⟨rfl, rfl⟩)), fun _ => rfl, ?_⟩
      have h2 : 0 ≤ (m * 48271 + (k + 1) * 69621) % 2147483647 := by omega
      have h3 := Int.mul_nonneg h2 h2
      omega
    cases hl : ns.getLast? with
    | none =>
      have hn : ns = [] := List.getLast?_eq_none_iff.mp hl
      obtain ⟨n, e, h2, h3⟩ := t2 m
      refine ⟨n, e, seq_nx ?_ h2, h3⟩
      refine if_ff (e1 := [.bo (cD ns i p (k + 1)), .im (.int m)]) ?_ rfl
      subst hn
      simp [cD]
    | some z =>
      have hn : ns.isEmpty = false := by
        cases ns with
        | nil => cases hl
        | cons _ _ => rfl
      by_cases hi : (ns.length : Int) ≤ i
      · obtain ⟨n, e, h2, h3⟩ := t2 (m + z % 1000003)
        refine ⟨n, e, seq_nx ?_ h2, h3⟩
        refine if_tt (e1 := [.bo (cD ns i p (k + 1)), .im (.int m)]) ?_ ?_
        · simp [cD, hn, hi]
        · simp [bk_law_fill_2, st_law_fill_4, cD, hl]
      · obtain ⟨n, e, h2, h3⟩ := t2 m
        refine ⟨n, e, seq_nx ?_ h2, h3⟩
        refine if_ff (e1 := [.bo (cD ns i p (k + 1)), .im (.int m)]) ?_ rfl
        simp [cD, hn, hi]
  have head : ∀ X, (sSeq st_law_fill_7 (sSeq st_law_fill_8 (sSeq st_law_fill_9 (sSeq st_law_fill_10 sNil)))) [.bo (cD ns i p (k + 1)), .im (.int ((k + 1) * 69621 + 12345))] = X → code_law_fill [.bo (cD ns i p k), .un] = X := fun X h =>
    seq_nx (by simp [st_law_fill_5, cD]; exact rfl) (seq_nx (by simp [st_law_fill_6, cD]) h)
  by_cases hi : i < ns.length
  · obtain ⟨v, hv⟩ := atI_some ns h0 hi
    have hv2 : atI (ns.map D.int) i = some (.int v) := by rw [atI_map, hv]; rfl
    have s1 : st_law_fill_1 [.bo (cD ns i p (k + 1)), .im (.int ((k + 1) * 69621 + 12345))] = some (.nx, [.bo (cD ns i p (k + 1)), .im (.int (if v < -1 - v then -1 - v else v))]) := by
      simp [st_law_fill_1, cD, hv2]
    have s2 : ∀ m : Int, st_law_fill_2 [.bo (cD ns i p (k + 1)), .im (.int m)] = some (.nx, [.bo (cD ns (i + 1) p (k + 1)), .im (.int m)]) := fun m => by
      simp [st_law_fill_2, cD]
    have c1 : ∀ m : Int, (bE (eOp fLt (pE (eOp fIx (pV 0) (pE (eC (.int 1))))) (pE (eCall fLen (aCons (pE (eOp fIx (pV 0) (pE (eC (.int 0))))) aNil))))) [.bo (cD ns i p (k + 1)), .im (.int m)] = some (true, [.bo (cD ns i p (k + 1)), .im (.int m)]) := fun m => by
      simp [cD, hi]
    by_cases hb : (1000000000000000000 : Int) ≤ (if v < -1 - v then -1 - v else v)
    · have s3 : st_law_fill_3 [.bo (cD ns (i + 1) p (k + 1)), .im (.int (if v < -1 - v then -1 - v else v))] = some (.rt (.im (.int (if v < -1 - v then -1 - v else v))), [.bo (cD ns (i + 1) p (k + 1)), .im (.int (if v < -1 - v then -1 - v else v))]) := by
        simp [st_law_fill_3, bk_law_fill_0, st_law_fill_0, hb]
      exact ⟨_, i + 1, k + 1, run_rt (head _ (seq_rt (if_tt (c1 _) (seq_nx s1 (seq_nx (s2 _) (seq_rt s3)))))) rfl, by omega, by omega, by omega, by omega⟩
    · have s3 : st_law_fill_3 [.bo (cD ns (i + 1) p (k + 1)), .im (.int (if v < -1 - v then -1 - v else v))] = some (.nx, [.bo (cD ns (i + 1) p (k + 1)), .im (.int (if v < -1 - v then -1 - v else v))]) := by
        simp [st_law_fill_3, bk_law_fill_0, st_law_fill_0, hb]
      obtain ⟨n, e, h2, h3, h4⟩ := tail (i + 1) (if v < -1 - v then -1 - v else v) (by omega) (by omega)
      exact ⟨n, i + 1, k + 1, run_rt (head _ (seq_nx (if_tt (c1 _) (seq_nx s1 (seq_nx (s2 _) (seq_nx s3 rfl)))) h2)) (h3 _), h4, by omega, by omega, by omega⟩
  · obtain ⟨n, e, h2, h3, h4⟩ := tail i ((k + 1) * 69621 + 12345) h0 h1
    refine ⟨n, i, k + 1, run_rt (head _ (seq_nx (if_ff (e1 := [.bo (cD ns i p (k + 1)), .im (.int ((k + 1) * 69621 + 12345))]) ?_ rfl) h2)) (h3 _), h4, by omega, by omega, by omega⟩
    simp [cD, hi]
theorem take_ok {c : D} (hc : CSt c) (m : Int) (h1 : 1 ≤ m) (h2 : m < 1073741824) : ∃ d c', fn_law_take [.bo c, .im (.int m)] = some (.im (.int d), [.bo c', .im (.int m)]) ∧ CSt c' ∧ 0 ≤ d ∧ d < m := by
  obtain ⟨ns, i, p, k, rfl, a1, a2, a3, a4⟩ := hc
  have hm : 0 < m := by omega
  have tail : ∀ (i p k : Int), 0 ≤ i → i ≤ ns.length → 0 ≤ p → 0 ≤ k → ∃ d c' e, (sSeq st_law_take_2 (sSeq st_law_take_3 (sSeq st_law_take_4 sNil))) [.bo (cD ns i p k), .im (.int m), .un] = some (.rt (.im (.int d)), e) ∧ (∀ x : D, outs [.bo x, .im (.int m)] e = some [.bo c', .im (.int m)]) ∧ CSt c' ∧ 0 ≤ d ∧ d < m := by
    intro i p k b1 b2 b3 b4
    refine ⟨p % m, cD ns i (p / m) k, _, seq_nx (by simp [st_law_take_2, cD, hm]; exact rfl) (seq_nx (by simp [st_law_take_3, cD, hm, h2]; exact rfl) (seq_rt (by simp [st_law_take_4]; exact rfl))), fun _ => rfl, ⟨ns, i, p / m, k, rfl, b1, b2, Int.ediv_nonneg b3 (by omega), b4⟩, Int.emod_nonneg _ (by omega), Int.emod_lt_of_pos _ hm⟩
  by_cases hp : p < m
  · obtain ⟨n, i', k', f1, f2, f3, f4, f5⟩ := fill_ok ns i p k a1 a2 a4
    obtain ⟨d, c', e, g1, g2, g3, g4, g5⟩ := tail i' n k' f3 f4 f2 f5
    refine ⟨d, c', run_rt (seq_nx (if_tt (e1 := [.bo (cD ns i p k), .im (.int m), .un]) ?_ (seq_nx ?_ rfl)) g1) (g2 _), g3, g4, g5⟩
    · simp [cD, hp]
    · simp [st_law_take_0, f1]
      simp [cD]
  · obtain ⟨d, c', e, g1, g2, g3, g4, g5⟩ := tail i p k a1 a2 a3 a4
    refine ⟨d, c', run_rt (seq_nx (if_ff (e1 := [.bo (cD ns i p k), .im (.int m), .un]) ?_ rfl) g1) (g2 _), g3, g4, g5⟩
    simp [cD, hp]
end MP
namespace MP
open PySem PySem.Spec PyProof.Rows L2
/-! ### slots put back -/
theorem len_blank : ∀ (is : List Nat) (env : Ev), (blank env is).length = env.length
  | [], _ => rfl
  | i :: is, env => by rw [blank, List.length_set, len_blank is]
theorem get_blank : ∀ (is : List Nat) (env : Ev) (j : Nat), (blank env is)[j]? = if j ∈ is then (if j < env.length then some .un else none) else env[j]?
  | [], env, j => by simp [blank]
  | i :: is, env, j => by
    rw [blank, List.getElem?_set, get_blank is env j, len_blank]
    by_cases h : i = j
    · subst h; simp
    · have : j ≠ i := fun q => h q.symm
      simp [h, this]
theorem len_back : ∀ (is : List Nat) (o n : Ev), (back o n is).length = n.length
  | [], _, _ => rfl
  | i :: is, o, n => by rw [back, List.length_set, len_back is]
theorem get_back : ∀ (is : List Nat) (o n : Ev) (j : Nat), o.length = n.length → (back o n is)[j]? = if j ∈ is then o[j]? else n[j]?
  | [], o, n, j, _ => by simp [back]
  | i :: is, o, n, j, h => by
    rw [back, List.getElem?_set, get_back is o n j h, len_back]
    by_cases e : i = j
    · subst e
      by_cases hl : i < n.length
      · simp [hl, List.getElem?_eq_getElem (by omega : i < o.length)]
      · simp [hl, List.getElem?_eq_none (by omega : o.length ≤ i)]
    · have : j ≠ i := fun q => e q.symm
      simp [e, this]
theorem back_blank {is : List Nat} {o n : Ev} (h : blank n is = blank o is) : back o n is = o := by
  have hl : o.length = n.length := by rw [← len_blank is o, ← len_blank is n, h]
  apply List.ext_getElem?
  intro j
  rw [get_back is o n j hl]
  split
  · rfl
  · rename_i hj
    have := congrArg (fun e : Ev => e[j]?) h
    simp only [get_blank, if_neg hj] at this
    exact this
/-! ### comprehensions -/
theorem lcF_ind {is : List Nat} {g : GF} {t : BF} {f : EF} (P : Nat → Ev → List D → Prop) : ∀ (ds : List D) (k : Nat) (env : Ev) (acc : List D), P k env acc →
    (∀ (j : Nat) (d : D) (env : Ev) (acc : List D), ds[j]? = some d → P (k + j) env acc → ∃ e1 e2 e3 r, g d (blank env is) = some e1 ∧ t e1 = some (true, e2) ∧ f e2 = some (r, e3) ∧ acc.length < SL ∧ P (k + j + 1) e3 (acc ++ [r.d])) →
    ∃ acc' env', lcF is g t f ds env acc = some (acc', env') ∧ P (k + ds.length) env' acc'
  | [], k, env, acc, h, _ => ⟨acc, env, rfl, h⟩
  | d :: ds, k, env, acc, h, st => by
    obtain ⟨e1, e2, e3, r, h1, h2, h3, h4, h5⟩ := st 0 d env acc rfl h
    obtain ⟨acc', env', q1, q2⟩ := lcF_ind P ds (k + 1) e3 (acc ++ [r.d]) h5 fun j d' env' acc' hj hp => by
      have := st (j + 1) d' env' acc' (by simpa using hj) (by rw [show k + (j + 1) = k + 1 + j by omega]; exact hp)
      rw [show k + (j + 1) + 1 = k + 1 + j + 1 by omega] at this
      exact this
    refine ⟨acc', env', ?_, by rw [List.length_cons, show k + (ds.length + 1) = k + 1 + ds.length by omega]; exact q2⟩
    rw [lcF, h1]
    simp only [h2, h3, if_pos h4]
    exact q1
theorem lcF_filter {is : List Nat} {g : GF} {t : BF} {f : EF} {B : Ev} (p : D → Bool) (φ : D → D) : ∀ (ds : List D) (env : Ev) (acc : List D), blank env is = B → acc.length + ds.length ≤ SL →
    (∀ d ∈ ds, ∃ e1 e2, g d B = some e1 ∧ t e1 = some (p d, e2) ∧ (p d = false → blank e2 is = B) ∧ (p d = true → ∃ r e3, f e2 = some (r, e3) ∧ r.d = φ d ∧ blank e3 is = B)) →
    ∃ env', lcF is g t f ds env acc = some (acc ++ (ds.filter p).map φ, env') ∧ blank env' is = B
  | [], env, acc, h, _, _ => ⟨env, by simp [lcF], h⟩
  | d :: ds, env, acc, h, hl, st => by
    obtain ⟨e1, e2, h1, h2, h3, h4⟩ := st d List.mem_cons_self
    rw [List.length_cons] at hl
    cases hp : p d with
    | false =>
      obtain ⟨env', q1, q2⟩ := lcF_filter p φ ds e2 acc (h3 hp) (by omega) fun d' hd => st d' (List.mem_cons_of_mem _ hd)
      refine ⟨env', ?_, q2⟩
      rw [lcF, h, h1]
      simp only [h2, hp, List.filter_cons, Bool.false_eq_true, if_false]
      exact q1
    | true =>
      obtain ⟨r, e3, h5, h6, h7⟩ := h4 hp
      obtain ⟨env', q1, q2⟩ := lcF_filter p φ ds e3 (acc ++ [φ d]) h7 (by rw [List.length_append, List.length_singleton]; omega) fun d' hd => st d' (List.mem_cons_of_mem _ hd)
      refine ⟨env', ?_, q2⟩
      rw [lcF, h, h1]
      simp only [h2, hp, h5, h6, if_pos (show acc.length < SL by omega), List.filter_cons, if_true]
      rw [q1]
      simp
theorem lc_filter {is : List Nat} {it : IF} {g : GF} {t : BF} {f : EF} {env e : Ev} {ds : List D} (p : D → Bool) (φ : D → D) (hi : it env = some (ds, e)) (hl : ds.length ≤ SL)
    (st : ∀ d ∈ ds, ∃ e1 e2, g d (blank (fzs e is) is) = some e1 ∧ t e1 = some (p d, e2) ∧ (p d = false → blank e2 is = blank (fzs e is) is) ∧ (p d = true → ∃ r e3, f e2 = some (r, e3) ∧ r.d = φ d ∧ blank e3 is = blank (fzs e is) is)) :
    eLc is it g t f env = some (.fr (.lst ((ds.filter p).map φ)), fzs e is) := by
  obtain ⟨env', q1, q2⟩ := lcF_filter p φ ds (fzs e is) [] rfl (by simpa using hl) st
  rw [x_eLc, hi]
  simp only [q1]
  rw [back_blank q2]
  rfl
theorem lc_map {is : List Nat} {it : IF} {g : GF} {f : EF} {env e : Ev} {ds : List D} (φ : D → D) (hi : it env = some (ds, e)) (hl : ds.length ≤ SL)
    (st : ∀ d ∈ ds, ∃ e1 r e3, g d (blank (fzs e is) is) = some e1 ∧ f e1 = some (r, e3) ∧ r.d = φ d ∧ blank e3 is = blank (fzs e is) is) :
    eLc is it g bTrue f env = some (.fr (.lst (ds.map φ)), fzs e is) := by
  have := lc_filter (t := bTrue) (f := f) (fun _ => true) φ hi hl fun d hd => by
    obtain ⟨e1, r, e3, h1, h2, h3, h4⟩ := st d hd
    exact ⟨e1, e1, h1, rfl, fun q => (by cases q), fun _ => ⟨r, e3, h2, h3, h4⟩⟩
  rw [this, List.filter_eq_self.mpr fun _ _ => rfl]
theorem dcF_map {is : List Nat} {g : GF} {f h : EF} {B : Ev} (κ : D → Ky) (φ : D → D) : ∀ (ds : List D) (env : Ev) (acc : List (Ky × D)), blank env is = B → acc.length + ds.length ≤ SL →
    (∀ d ∈ ds, ∃ e1 r e2 w e3, g d B = some e1 ∧ f e1 = some (r, e2) ∧ r.d.ky = some (κ d) ∧ h e2 = some (w, e3) ∧ w.d = φ d ∧ blank e3 is = B) →
    ∃ env', dcF is g bTrue f h ds env acc = some (ds.foldl (fun acc d => putD acc (κ d) (φ d)) acc, env') ∧ blank env' is = B
  | [], env, acc, h, _, _ => ⟨env, by simp [dcF], h⟩
  | d :: ds, env, acc, hb, hl, st => by
    obtain ⟨e1, r, e2, w, e3, h1, h2, h3, h4, h5, h6⟩ := st d List.mem_cons_self
    rw [List.length_cons] at hl
    have hp : (putD acc (κ d) (φ d)).length ≤ acc.length + 1 := by
      unfold putD
      split
      · rw [List.length_map]; omega
      · rw [List.length_append]; simp
    obtain ⟨env', q1, q2⟩ := dcF_map κ φ ds e3 (putD acc (κ d) (φ d)) h6 (by omega) fun d' hd => st d' (List.mem_cons_of_mem _ hd)
    refine ⟨env', ?_, q2⟩
    rw [dcF, hb, h1]
    simp only [bTrue, h2, h3, h4, h5, if_pos (show acc.length < SL by omega), List.foldl_cons]
    exact q1
theorem dc_map {is : List Nat} {it : IF} {g : GF} {f h : EF} {env e : Ev} {ds : List D} (κ : D → Ky) (φ : D → D) (hi : it env = some (ds, e)) (hl : ds.length ≤ SL)
    (st : ∀ d ∈ ds, ∃ e1 r e2 w e3, g d (blank (fzs e is) is) = some e1 ∧ f e1 = some (r, e2) ∧ r.d.ky = some (κ d) ∧ h e2 = some (w, e3) ∧ w.d = φ d ∧ blank e3 is = blank (fzs e is) is) :
    eDc is it g bTrue f h env = some (.fr (.dk (ds.foldl (fun acc d => putD acc (κ d) (φ d)) [])), fzs e is) := by
  obtain ⟨env', q1, q2⟩ := dcF_map κ φ ds (fzs e is) [] rfl (by simpa using hl) st
  rw [x_eDc, hi]
  simp only [q1]
  rw [back_blank q2]
theorem lc_of {is : List Nat} {it : IF} {g : GF} {t : BF} {f : EF} {env e e1 e2 e3 : Ev} {ds acc : List D} (hi : it env = some (ds, e)) (hz : fzs e is = e1) (h : lcF is g t f ds e1 [] = some (acc, e2)) (hb : back e1 e2 is = e3) : eLc is it g t f env = some (.fr (.lst acc), e3) := by
  subst hz
  subst hb
  rw [x_eLc, hi]
  simp only [h]
theorem dc_of {is : List Nat} {it : IF} {g : GF} {t : BF} {f h : EF} {env e e1 e2 e3 : Ev} {ds : List D} {acc : List (Ky × D)} (hi : it env = some (ds, e)) (hz : fzs e is = e1) (hh : dcF is g t f h ds e1 [] = some (acc, e2)) (hb : back e1 e2 is = e3) : eDc is it g t f h env = some (.fr (.dk acc), e3) := by
  subst hz
  subst hb
  rw [x_eDc, hi]
  simp only [hh]
/-! ### loops -/
/-- what a loop may end as -/
theorem forF_ind {g : GF} {f : SF} (P : Nat → Ev → Prop) (Z : Ev → Prop) (Q : R → Ev → Prop) : ∀ (ds : List D) (k : Nat) (env : Ev), P k env →
    (∀ (j : Nat) (d : D) (env : Ev), ds[j]? = some d → P (k + j) env → ∃ e1 fl e2, g d env = some e1 ∧ f e1 = some (fl, e2) ∧ (match fl with | .nx => P (k + j + 1) e2 | .ct => P (k + j + 1) e2 | .bk => Z e2 | .rt r => Q r e2)) →
    (∃ e, forF g f ds env = some (.nx, e) ∧ (P (k + ds.length) e ∨ Z e)) ∨ ∃ r e, forF g f ds env = some (.rt r, e) ∧ Q r e
  | [], k, env, h, _ => .inl ⟨env, rfl, .inl h⟩
  | d :: ds, k, env, h, st => by
    obtain ⟨e1, fl, e2, h1, h2, h3⟩ := st 0 d env rfl h
    have go : P (k + 1) e2 → (∃ e, forF g f ds e2 = some (.nx, e) ∧ (P (k + (d :: ds).length) e ∨ Z e)) ∨ ∃ r e, forF g f ds e2 = some (.rt r, e) ∧ Q r e := fun hp => by
      have := forF_ind P Z Q ds (k + 1) e2 hp fun j d' env' hj hp' => by
        have := st (j + 1) d' env' (by simpa using hj) (by rw [show k + (j + 1) = k + 1 + j by omega]; exact hp')
        rw [show k + (j + 1) + 1 = k + 1 + j + 1 by omega] at this
        exact this
      rw [List.length_cons, show k + (ds.length + 1) = k + 1 + ds.length by omega]
      exact this
    rw [forF, h1]
    simp only [h2]
    cases fl with
    | nx => exact go h3
    | ct => exact go h3
    | bk => exact .inl ⟨e2, rfl, .inr h3⟩
    | rt r => exact .inr ⟨r, e2, rfl, h3⟩
/-- a loop that runs through -/
theorem forF_all {g : GF} {f : SF} (P : Nat → Ev → Prop) (ds : List D) (env : Ev) (h : P 0 env)
    (st : ∀ (j : Nat) (d : D) (env : Ev), ds[j]? = some d → P j env → ∃ e1 e2, g d env = some e1 ∧ f e1 = some (.nx, e2) ∧ P (j + 1) e2) :
    ∃ e, forF g f ds env = some (.nx, e) ∧ P ds.length e := by
  rcases forF_ind P (fun _ => False) (fun _ _ => False) ds 0 env h fun j d env hj hp => by
    rw [Nat.zero_add] at hp
    obtain ⟨e1, e2, h1, h2, h3⟩ := st j d env hj hp
    exact ⟨e1, .nx, e2, h1, h2, by rw [Nat.zero_add]; exact h3⟩ with ⟨e, h1, h2⟩ | ⟨_, _, _, h2⟩
  · rcases h2 with h2 | h2
    · rw [Nat.zero_add] at h2; exact ⟨e, h1, h2⟩
    · exact h2.elim
  · exact h2.elim
/-- while, with a measure -/
theorem whileF_ind {t : BF} {f : SF} (P : Nat → Ev → Prop) (Z : Ev → Prop) (Q : R → Ev → Prop)
    (st : ∀ (k : Nat) (env : Ev), P k env → (∃ e, t env = some (false, e) ∧ Z e) ∨ ∃ e1 fl e2, t env = some (true, e1) ∧ f e1 = some (fl, e2) ∧ (match fl with | .nx => ∃ j, j < k ∧ P j e2 | .ct => ∃ j, j < k ∧ P j e2 | .bk => Z e2 | .rt r => Q r e2)) :
    ∀ (n k : Nat) (env : Ev), k < n → P k env → (∃ e, whileF t f n env = some (.nx, e) ∧ Z e) ∨ ∃ r e, whileF t f n env = some (.rt r, e) ∧ Q r e
  | 0, k, env, h, _ => absurd h (Nat.not_lt_zero _)
  | n + 1, k, env, h, hp => by
    rw [whileF]
    rcases st k env hp with ⟨e, h1, h2⟩ | ⟨e1, fl, e2, h1, h2, h3⟩
    · simp only [h1]
      exact .inl ⟨e, rfl, h2⟩
    · simp only [h1, h2]
      cases fl with
      | nx => obtain ⟨j, hj, hp2⟩ := h3; exact whileF_ind P Z Q st n j e2 (by omega) hp2
      | ct => obtain ⟨j, hj, hp2⟩ := h3; exact whileF_ind P Z Q st n j e2 (by omega) hp2
      | bk => exact .inl ⟨e2, rfl, h3⟩
      | rt r => exact .inr ⟨r, e2, rfl, h3⟩
/-! ### ranges -/
theorem rngL (lo : Int) (n : Nat) (c : Int) : (rng lo n c).length = n := by unfold rng; simp
theorem rngG {lo : Int} {n : Nat} {c : Int} {j : Nat} {d : D} (h : (rng lo n c)[j]? = some d) : j < n ∧ d = .int (lo + (j : Int) * c) := by
  unfold rng at h
  rw [List.getElem?_map] at h
  by_cases hj : j < n
  · rw [List.getElem?_range hj] at h
    cases h
    exact ⟨hj, rfl⟩
  · rw [List.getElem?_eq_none (by simp; omega)] at h; cases h
theorem mem_rng {lo : Int} {n : Nat} {c : Int} {d : D} (h : d ∈ rng lo n c) : ∃ j : Nat, j < n ∧ d = .int (lo + (j : Int) * c) := by
  obtain ⟨j, hj, e⟩ := List.getElem_of_mem h
  exact ⟨j, rngG (by rw [List.getElem?_eq_getElem hj, e])⟩
theorem small_of {i : Int} (h1 : -1000000000000 ≤ i) (h2 : i ≤ 1000000000000) : small i = true := by
  unfold small
  rw [decide_eq_true_eq]
  omega
theorem texts_map (xs : List Tx) : texts (xs.map D.str) = some xs := by
  induction xs with
  | nil => rfl
  | cons x r ih => rw [List.map_cons, texts, ih]
theorem intsL_map (xs : List Int) : intsL (xs.map D.int) = some xs := by
  induction xs with
  | nil => rfl
  | cons x r ih => rw [List.map_cons, intsL, ih]
theorem joinT_nil : ∀ xs : List Tx, joinT [] xs = xs.flatten
  | [] => rfl
  | [x] => by simp [joinT]
  | x :: y :: r => by rw [joinT, joinT_nil (y :: r)]; simp
end MP
namespace MP
open PySem PySem.Spec PyProof.Rows L2
/-! ### the drawer's other helpers -/
theorem start_ok (ns : List Int) (hl : ns.length ≤ 63) : ∃ c args', fn_law_start [.im (.fz (ns.map D.int))] = some (.fr c, args') ∧ CSt c := by
  have hc : cutT (ns.map D.int) none (some 63) = ns.map D.int := by
    unfold cutT
    rw [show HT.sIx (ns.map D.int).length 0 none = 0 from rfl, show HT.sIx (ns.map D.int).length (ns.map D.int).length (some 63) = min 63 (ns.map D.int).length from HT.sIx_nat _ _ 63]
    rw [List.drop_zero, List.take_of_length_le]
    rw [List.length_map]
    omega
  have lc : eLc [1] (iE (eSl (pV 0) oNo (oI (pE (eC (.int 63)))))) (gN 1) bTrue ce_law_start_0 [.im (.fz (ns.map D.int)), .un] = some (.fr (.lst ((ns.map D.int).map id)), [.im (.fz (ns.map D.int)), .un]) := by
    refine lc_map (e := [.im (.fz (ns.map D.int)), .un]) id ?_ (by rw [List.length_map]; unfold SL; omega) fun d hd => ?_
    · simp [hc]
    · obtain ⟨z, _, rfl⟩ := List.mem_map.mp hd
      exact ⟨[.im (.fz (ns.map D.int)), .im (.int z)], .im (.int z), _, by simp, by simp [ce_law_start_0]; exact rfl, rfl, by simp⟩
  rw [List.map_id] at lc
  refine ⟨cD ns 0 0 0, _, run_rt (seq_rt (e1 := [.im (.fz (ns.map D.int)), .un]) ?_) rfl, ⟨ns, 0, 0, 0, rfl, by omega, by omega, by omega, by omega⟩⟩
  simp [st_law_start_0, lc, cD, SL]
theorem word_ok {c : D} (hc : CSt c) (ls : Tx) (h0 : ls ≠ []) (h1 : ls.length ≤ 1000) (m : Nat) (h2 : m ≤ 1000) : ∃ w c', fn_law_word [.bo c, .im (.str ls), .im (.int m)] = some (.im (.str w), [.bo c', .im (.str ls), .im (.int m)]) ∧ CSt c' ∧ w.length ≤ m ∧ ∀ x ∈ w, x ∈ ls := by
  obtain ⟨n, c1, t1, hc1, n0, n1⟩ := take_ok hc ((m : Int) + 1) (by omega) (by omega)
  obtain ⟨k, rfl⟩ := Int.eq_ofNat_of_zero_le n0
  have hll : 0 < ls.length := List.length_pos_iff.mpr h0
  have hb : ls.length ≤ SL := by unfold SL; omega
  have lc : ∃ ws : List Tx, ∃ c2 : D, eLc [3] (iR rng1 (aCons (pE (eFn fn_law_take (aCons (pV 0) (aCons (pE (eOp fAdd (pV 2) (pE (eC (.int 1))))) aNil)))) aNil)) (gN 3) bTrue ce_law_word_0 [.bo c, .im (.str ls), .im (.int m), .un]
      = some (.fr (.lst (ws.map D.str)), [.bo c2, .im (.str ls), .im (.int m), .un]) ∧ CSt c2 ∧ ws.length = k ∧ ∀ w ∈ ws, ∃ x ∈ ls, w = [x] := by
    obtain ⟨acc, e, q1, ws, c2, x, q2, q3, q4, q5, q6⟩ := lcF_ind (is := [3]) (g := gN 3) (t := bTrue) (f := ce_law_word_0) (fun j env acc => ∃ (ws : List Tx) (c2 : D) (x : C), env = [.bo c2, .im (.str ls), .im (.int m), x] ∧ acc = ws.map D.str ∧ CSt c2 ∧ ws.length = j ∧ ∀ w ∈ ws, ∃ x ∈ ls, w = [x])
      (rng 0 k 1) 0 [.bo c1, .im (.str ls), .im (.int m), .un] [] ⟨[], c1, .un, rfl, rfl, hc1, rfl, fun _ h => by cases h⟩ fun j d env acc hj hp => by
        obtain ⟨ws, c2, x, rfl, rfl, p3, p4, p5⟩ := hp
        obtain ⟨hjk, rfl⟩ := rngG hj
        obtain ⟨i, c3, t3, hc3, i0, i1⟩ := take_ok p3 (ls.length : Int) (by omega) (by omega)
        obtain ⟨z, hz⟩ := atI_some ls i0 i1
        have hz2 : z ∈ ls := by
          obtain ⟨i', rfl⟩ := Int.eq_ofNat_of_zero_le i0
          rw [atI_of_nat] at hz
          exact List.mem_of_getElem? hz
        refine ⟨[.bo c2, .im (.str ls), .im (.int m), .im (.int (0 + (j : Int) * 1))], _, [.bo c3, .im (.str ls), .im (.int m), .im (.int (0 + (j : Int) * 1))], .im (.str [z]), by simp, rfl, ?_, ?_, ws ++ [[z]], c3, _, rfl, by simp, hc3, by simp [p4], fun w hw => ?_⟩
        · simp [ce_law_word_0, hb, t3, hz]
        · rw [List.length_map, p4]; unfold SL; omega
        · rcases List.mem_append.mp hw with hw | hw
          · exact p5 w hw
          · rw [List.mem_singleton.mp hw]; exact ⟨z, hz2, rfl⟩
    refine ⟨ws, c2, ?_, q4, by rw [q5, rngL]; omega, q6⟩
    have hs : small (k : Int) = true := small_of (by omega) (by omega)
    subst q2
    subst q3
    refine lc_of (e := [.bo c1, .im (.str ls), .im (.int m), .un]) ?_ rfl q1 ?_
    · simp [t1, hs]
    · rfl
  obtain ⟨ws, c2, lc, h3, h4, h5⟩ := lc
  have hw : ∀ x ∈ ws.flatten, x ∈ ls := fun x hx => by
    obtain ⟨w, hw, hx⟩ := List.mem_flatten.mp hx
    obtain ⟨y, hy, rfl⟩ := h5 w hw
    rw [List.mem_singleton.mp hx]
    exact hy
  have h6 : (ws.map List.length).sum = ws.length := by
    clear lc h4 hw
    induction ws with
    | nil => rfl
    | cons w r ih =>
      obtain ⟨y, hy, rfl⟩ := h5 w List.mem_cons_self
      rw [List.map_cons, List.sum_cons, ih fun w hw => h5 w (List.mem_cons_of_mem _ hw), List.length_cons]
      simp
      omega
  refine ⟨ws.flatten, c2, run_rt (seq_rt (e1 := [.bo c2, .im (.str ls), .im (.int m), .un]) ?_) rfl, h3, by rw [List.length_flatten, h6]; omega, hw⟩
  have hx : (ws.map List.length).sum ≤ SL := by rw [h6]; unfold SL; omega
  simp [st_law_word_0, lc, texts_map, joinT_nil, hx]
end MP
namespace MP
open PySem PySem.Spec PyProof.Rows L2
/-! ### repr of tame data -/
mutual
/-- signs in repr at most -/
def D.wt : D → Nat
  | .str x => 10 * x.length + 2
  | .tup ds => D.wts ds + 3
  | .lst ds => D.wts ds + 3
  | _ => 21
def D.wts : List D → Nat
  | [] => 0
  | d :: ds => d.wt + 2 + D.wts ds
end
mutual
/-- plain, with ints of at most 18 digits -/
def D.tame : D → Bool
  | .non => true
  | .bl _ => true
  | .int i => decide (i.natAbs < 1000000000000000000)
  | .str x => x.all (· < 1114112)
  | .tup ds => D.tames ds
  | .lst ds => D.tames ds
  | _ => false
def D.tames : List D → Bool
  | [] => true
  | d :: ds => d.tame && D.tames ds
end
mutual
theorem tame_plain : ∀ {d : D}, d.tame = true → d.plain = true
  | .non, _ => rfl
  | .bl _, _ => rfl
  | .int _, _ => rfl
  | .str x, h => h
  | .tup ds, h => tames_plains (ds := ds) h
  | .lst ds, h => tames_plains (ds := ds) h
  | .dk _, h => nomatch h
  | .dt _, h => nomatch h
  | .st _, h => nomatch h
  | .fz _, h => nomatch h
  | .ty _, h => nomatch h
theorem tames_plains : ∀ {ds : List D}, D.tames ds = true → D.plains ds = true
  | [], _ => rfl
  | d :: ds, h => by
    rw [D.tames, Bool.and_eq_true] at h
    rw [D.plains, tame_plain h.1, tames_plains h.2]; rfl
end
theorem log2_small {n : Nat} (h : n < 1000000000000000000) : n.log2 < 1920 := by
  by_cases h0 : n = 0
  · subst h0; decide
  · rw [Nat.log2_lt h0]
    exact Nat.lt_of_lt_of_le (m := 2 ^ 60) (by omega) (Nat.pow_le_pow_right (by omega) (by omega))
mutual
theorem tame_show : ∀ {d : D}, d.tame = true → d.py.showable = true
  | .non, _ => rfl
  | .bl _, _ => rfl
  | .int i, h => by
    rw [D.tame, decide_eq_true_eq] at h
    rw [D.py, PyData.showable, decide_eq_true_eq]
    exact log2_small h
  | .str x, h => rfl
  | .tup ds, h => tames_show (ds := ds) h
  | .lst ds, h => tames_show (ds := ds) h
  | .dk _, h => nomatch h
  | .dt _, h => nomatch h
  | .st _, h => nomatch h
  | .fz _, h => nomatch h
  | .ty _, h => nomatch h
theorem tames_show : ∀ {ds : List D}, D.tames ds = true → PyData.showableAll (D.pys ds) = true
  | [], _ => rfl
  | d :: ds, h => by
    rw [D.tames, Bool.and_eq_true] at h
    rw [D.pys, PyData.showableAll, tame_show h.1, tames_show h.2]; rfl
end
theorem textFrom_le : ∀ (ts : List Str) (k : Nat) (acc : Str), (textFrom k acc ts).length ≤ acc.length + piled ts
  | [], k, acc => by show acc.length ≤ _; omega
  | t :: r, k, acc => by
    have e : (acc ++ (if k > 0 then ", " else "" : String) ++ t).length = acc.length + (if k > 0 then 2 else 0) + t.length := by
      rw [strLen_append, strLen_append]
      split <;> rfl
    have ih := textFrom_le r (k + 1) (acc ++ (if k > 0 then ", " else "" : String) ++ t)
    rw [e] at ih
    rw [piled_cons]
    show (textFrom (k + 1) _ r).length ≤ _
    have : (if k > 0 then 2 else 0 : Nat) ≤ 2 := by split <;> omega
    omega
theorem listText_le (ts : List Str) : (listText ts).length ≤ piled ts + 2 := by
  unfold listText
  rw [strLen_append]
  have := textFrom_le ts 0 "["
  have e1 : (("[" : String) : Str).length = 1 := rfl
  have e2 : (("]" : String) : Str).length = 1 := rfl
  omega
theorem tupleText_le (ts : List Str) : (tupleText ts).length ≤ piled ts + 3 := by
  unfold tupleText
  rw [strLen_append, strLen_append]
  have e1 : ((("(" : String) : Str)).length = 1 := rfl
  have e3 : (((if ts.length == 1 then ",)" else ")" : String) : Str)).length ≤ 2 := by split <;> decide
  rw [e1]
  by_cases h : ts = []
  · subst h
    have : (Str.join ", " ([] : List Str)).length = 0 := rfl
    omega
  · have := join_length_add ts h
    omega
mutual
theorem shown_le : ∀ {d : D}, d.tame = true → d.py.shown.length ≤ d.wt
  | .non, _ => by show ((("None" : String) : Str)).length ≤ 21; decide
  | .bl b, _ => by cases b <;> decide
  | .int i, h => by
    rw [D.tame, decide_eq_true_eq] at h
    show (Str.ofString (toString i)).length ≤ 21
    have := int_text_length_le10 (a := i) (k := 18) (by omega) (by omega)
    have e : (Str.ofString (toString i)).length = (toString i).length := PySem.ofString_length _
    omega
  | .str x, h => by
    rw [D.tame, List.all_eq_true] at h
    have := PySem.StrLaws.reprText_len (S x) fun c hc => by
      rw [S_cps] at hc
      have := h c hc
      simp at this
      omega
    rw [S_length] at this
    exact this
  | .tup ds, h => by
    have := showns_le (ds := ds) h
    exact Nat.le_trans (tupleText_le _) (Nat.add_le_add_right this 3)
  | .lst ds, h => by
    have := showns_le (ds := ds) h
    have h2 := listText_le (PyData.shownAll (D.pys ds))
    show (listText (PyData.shownAll (D.pys ds))).length ≤ D.wts ds + 3
    omega
  | .dk _, h => nomatch h
  | .dt _, h => nomatch h
  | .st _, h => nomatch h
  | .fz _, h => nomatch h
  | .ty _, h => nomatch h
theorem showns_le : ∀ {ds : List D}, D.tames ds = true → piled (PyData.shownAll (D.pys ds)) ≤ D.wts ds
  | [], _ => Nat.le_refl _
  | d :: ds, h => by
    rw [D.tames, Bool.and_eq_true] at h
    rw [D.pys, PyData.shownAll, piled_cons, D.wts]
    have := shown_le h.1
    have := showns_le h.2
    omega
end
/-- the text that repr gives -/
def rp (d : D) : Tx := d.py.shown.cps.toList
theorem okR_of {d : D} (h : d.tame = true) (hd : d.dep ≤ 100) (hw : d.wt ≤ SL) : d.okR = true := by
  unfold D.okR
  rw [tame_plain h, tame_show h, decide_eq_true hd, decide_eq_true (Nat.le_trans (shown_le h) hw)]; rfl
theorem repr_ok {d : D} (h : d.tame = true) (hd : d.dep ≤ 100) (hw : d.wt ≤ SL) : fRepr [d] = some (.im (.str (rp d))) := by
  unfold fRepr
  simp only [okR_of h hd hw, if_true]
  rfl
@[simp] theorem eq_txt (a b : Tx) : eqD (.str a) (.str b) = some (a == b) := id rfl
@[simp] theorem eq_int (a b : Int) : eqD (.int a) (.int b) = some (a == b) := id rfl
@[simp] theorem eq_bl (a b : Bool) : eqD (.bl a) (.bl b) = some (a == b) := id rfl
theorem eqD_plain {x y : D} (h : scalD x y = none) (hx : x.okE = true) (hy : y.okE = true) : eqD x y = some (eqP x y) := by
  unfold eqD
  rw [h, hx, hy]
  rfl
mutual
theorem eqP_refl : ∀ {d : D}, d.plain = true → eqP d d = true
  | .non, _ => rfl
  | .bl b, _ => by simp [eqP]
  | .int b, _ => by simp [eqP]
  | .str b, _ => by simp [eqP]
  | .tup ds, h => eqPs_refl (ds := ds) h
  | .lst ds, h => eqPs_refl (ds := ds) h
  | .dk _, h => nomatch h
  | .dt _, h => nomatch h
  | .st _, h => nomatch h
  | .fz _, h => nomatch h
  | .ty _, h => nomatch h
theorem eqPs_refl : ∀ {ds : List D}, D.plains ds = true → eqPs ds ds = true
  | [], _ => rfl
  | d :: ds, h => by
    rw [D.plains, Bool.and_eq_true] at h
    rw [eqPs, eqP_refl h.1, eqPs_refl h.2]; rfl
end
theorem wts_texts (xs : List Tx) (n : Nat) (h : ∀ x ∈ xs, x.length ≤ n) : D.wts (xs.map D.str) ≤ xs.length * (10 * n + 4) := by
  induction xs with
  | nil => simp [D.wts]
  | cons x r ih =>
    rw [List.map_cons, D.wts, D.wt, List.length_cons, Nat.add_mul, Nat.one_mul]
    have := ih fun y hy => h y (List.mem_cons_of_mem _ hy)
    have := h x List.mem_cons_self
    omega
theorem wts_ints (xs : List Int) : D.wts (xs.map D.int) = xs.length * 23 := by
  induction xs with
  | nil => rfl
  | cons x r ih =>
    rw [List.map_cons, D.wts, ih, List.length_cons]
    show 21 + 2 + r.length * 23 = _
    omega
theorem tames_texts (xs : List Tx) (h : ∀ x ∈ xs, ∀ c ∈ x, c < 1114112) : D.tames (xs.map D.str) = true := by
  induction xs with
  | nil => rfl
  | cons x r ih =>
    rw [List.map_cons, D.tames, ih fun y hy => h y (List.mem_cons_of_mem _ hy), D.tame, Bool.and_true, List.all_eq_true]
    intro c hc
    simpa using h x List.mem_cons_self c hc
theorem tames_ints (xs : List Int) (h : ∀ x ∈ xs, x.natAbs < 1000000000000000000) : D.tames (xs.map D.int) = true := by
  induction xs with
  | nil => rfl
  | cons x r ih =>
    rw [List.map_cons, D.tames, ih fun y hy => h y (List.mem_cons_of_mem _ hy), D.tame, Bool.and_true, decide_eq_true (h x List.mem_cons_self)]
theorem deps_flat {α : Type} (f : α → D) (hf : ∀ x, (f x).dep = 0) (xs : List α) : D.deps (xs.map f) = 0 := by
  induction xs with
  | nil => rfl
  | cons x r ih => rw [List.map_cons, D.deps, ih, hf]; rfl
end MP
namespace MP
open PySem PySem.Spec PyProof.Rows L2
/-! ### pieces of words -/
/-- the pieces of n letters, by their places -/
def pcs (u : Tx) (n : Nat) : List Tx := (List.range (u.length + 1 - n)).map fun i => (u.drop i).take n
theorem mem_pcs {u x : Tx} {n : Nat} : x ∈ pcs u n ↔ ∃ i, i + n ≤ u.length ∧ x = (u.drop i).take n := by
  unfold pcs
  rw [List.mem_map]
  constructor
  · rintro ⟨i, hi, rfl⟩
    exact ⟨i, by have := List.mem_range.mp hi; omega, rfl⟩
  · rintro ⟨i, hi, rfl⟩
    exact ⟨i, List.mem_range.mpr (by omega), rfl⟩
theorem pcs_len {u x : Tx} {n : Nat} (h : x ∈ pcs u n) : x.length = n := by
  obtain ⟨i, hi, rfl⟩ := mem_pcs.mp h
  rw [List.length_take, List.length_drop]
  omega
theorem pcs_le {u x : Tx} {n : Nat} (h : x ∈ pcs u n) : n ≤ u.length := by
  obtain ⟨i, hi, rfl⟩ := mem_pcs.mp h
  omega
theorem mem_pcs_iff {u x : Tx} {n : Nat} : x ∈ pcs u n ↔ x.length = n ∧ ∃ p s, u = p ++ x ++ s := by
  constructor
  · intro h
    refine ⟨pcs_len h, ?_⟩
    obtain ⟨i, hi, rfl⟩ := mem_pcs.mp h
    refine ⟨u.take i, (u.drop i).drop n, ?_⟩
    rw [List.append_assoc, List.take_append_drop, List.take_append_drop]
  · rintro ⟨rfl, p, s, rfl⟩
    refine mem_pcs.mpr ⟨p.length, by simp, ?_⟩
    simp
theorem pcs_length (u : Tx) (n : Nat) : (pcs u n).length = u.length + 1 - n := by unfold pcs; simp
theorem subIn_pcs {u x : Tx} : subIn x u = true ↔ x ∈ pcs u x.length := by
  rw [subIn_iff, mem_pcs]
  constructor
  · rintro ⟨i, h1, h2⟩
    exact ⟨i, h1, h2.symm⟩
  · rintro ⟨i, h1, h2⟩
    exact ⟨i, h1, h2.symm⟩
theorem cut_pc (u : Tx) (i n : Nat) (h : i + n ≤ u.length) : cutT u (some (i : Int)) (some ((i : Int) + (n : Int))) = (u.drop i).take n := by
  unfold cutT
  rw [HT.sIx_nat, show ((i : Int) + (n : Int)) = ((i + n : Nat) : Int) by omega, HT.sIx_nat, Nat.min_eq_left (a := i + n) h, Nat.min_eq_left (a := i) (by omega)]
  congr 1
  omega
/-! ### first occurrences -/
def dedup (l : List Tx) : List Tx := l.foldl (fun acc x => if x ∈ acc then acc else acc ++ [x]) []
theorem dedup_go (l : List Tx) : ∀ acc : List Tx, acc.Nodup → (l.foldl (fun acc x => if x ∈ acc then acc else acc ++ [x]) acc).Nodup ∧ ∀ y, y ∈ l.foldl (fun acc x => if x ∈ acc then acc else acc ++ [x]) acc ↔ y ∈ acc ∨ y ∈ l := by
  induction l with
  | nil => intro acc h; exact ⟨h, fun y => by simp⟩
  | cons x r ih =>
    intro acc h
    rw [List.foldl_cons]
    by_cases hx : x ∈ acc
    · rw [if_pos hx]
      obtain ⟨h1, h2⟩ := ih acc h
      refine ⟨h1, fun y => ?_⟩
      rw [h2, List.mem_cons]
      exact ⟨fun q => q.elim .inl fun q => .inr (.inr q), fun q => q.elim .inl fun q => q.elim (fun e => .inl (e ▸ hx)) .inr⟩
    · rw [if_neg hx]
      obtain ⟨h1, h2⟩ := ih (acc ++ [x]) (by
        rw [List.nodup_append]
        refine ⟨h, by simp, ?_⟩
        intro a ha b hb e
        rw [List.mem_singleton] at hb
        subst hb
        subst e
        exact hx ha)
      refine ⟨h1, fun y => ?_⟩
      rw [h2, List.mem_append, List.mem_singleton, List.mem_cons, or_assoc]
theorem nodup_dedup (l : List Tx) : (dedup l).Nodup := (dedup_go l [] List.nodup_nil).1
theorem mem_dedup {l : List Tx} {x : Tx} : x ∈ dedup l ↔ x ∈ l := by
  have := (dedup_go l [] List.nodup_nil).2 x
  unfold dedup
  rw [this]
  simp
theorem dedup_nodup_go : ∀ (l acc : List Tx), (acc ++ l).Nodup → l.foldl (fun acc x => if x ∈ acc then acc else acc ++ [x]) acc = acc ++ l
  | [], acc, _ => by simp
  | x :: r, acc, h => by
    have hx : x ∉ acc := by
      rw [List.nodup_append] at h
      intro q
      exact h.2.2 x q x List.mem_cons_self rfl
    rw [List.foldl_cons, if_neg hx, dedup_nodup_go r (acc ++ [x]) (by simpa using h)]
    simp
theorem dedup_nodup {l : List Tx} (h : l.Nodup) : dedup l = l := by
  unfold dedup
  rw [dedup_nodup_go l [] (by simpa using h)]
  rfl
theorem len_le_of_mem : ∀ {l m : List Tx}, l.Nodup → (∀ x ∈ l, x ∈ m) → l.length ≤ m.length
  | [], m, _, _ => Nat.zero_le _
  | x :: l, m, h, hs => by
    rw [List.nodup_cons] at h
    have hx := hs x List.mem_cons_self
    have := len_le_of_mem (l := l) (m := m.erase x) h.2 fun y hy => by
      have hne : y ≠ x := fun e => h.1 (e ▸ hy)
      exact (List.mem_erase_of_ne hne).mpr (hs y (List.mem_cons_of_mem _ hy))
    rw [List.length_erase_of_mem hx] at this
    have hp : 0 < m.length := List.length_pos_of_mem hx
    rw [List.length_cons]
    omega
theorem dedup_len (l : List Tx) : (dedup l).length ≤ l.length := len_le_of_mem (nodup_dedup l) fun x h => mem_dedup.mp h
theorem nub_len (l : List Tx) : (nubT l).length ≤ l.length := len_le_of_mem (nodup_nubT l) fun x h => mem_nubT.mp h
theorem setT_mem {l : List Tx} {x : Tx} : x ∈ setT l ↔ x ∈ l := by
  unfold setT
  rw [(sortT_perm _).mem_iff, mem_nubT]
theorem setT_nodup (l : List Tx) : (setT l).Nodup := by
  unfold setT
  exact (sortT_perm _).nodup_iff.mpr (nodup_nubT l)
theorem setT_sorted (l : List Tx) : (setT l).Pairwise fun a b => ¬ b < a := sortT_sorted _
theorem setT_len (l : List Tx) : (setT l).length ≤ l.length := by
  unfold setT
  rw [(sortT_perm _).length_eq]
  exact nub_len l
theorem sort_dedup (l : List Tx) : sortT (dedup l) = setT l := by
  refine sorted_unique ?_ (sortT_sorted _) (setT_sorted _)
  refine (sortT_perm _).trans ?_
  refine (List.perm_ext_iff_of_nodup (nodup_dedup l) (setT_nodup l)).mpr fun x => ?_
  rw [mem_dedup, setT_mem]
theorem dedup_length (l : List Tx) : (dedup l).length = (setT l).length := by
  rw [← sort_dedup, (sortT_perm _).length_eq]
/-! ### dicts as sets of texts -/
def setD (ys : List Tx) : List (Ky × D) := ys.map fun x => (Sum.inr x, D.bl true)
theorem any_setD (ys : List Tx) (x : Tx) : ((setD ys).any fun kv => decide (kv.1 = Sum.inr x)) = decide (x ∈ ys) := by
  unfold setD
  induction ys with
  | nil => rfl
  | cons y r ih =>
    rw [List.map_cons, List.any_cons, ih]
    by_cases h : y = x
    · subst h; simp
    · have h1 : ¬ ((Sum.inr y : Ky) = Sum.inr x) := fun q => h (Sum.inr.inj q)
      have h2 : ¬ x = y := fun q => h q.symm
      simp [h1, h2]
theorem putD_setD (ys : List Tx) (x : Tx) : putD (setD ys) (.inr x) (.bl true) = setD (if x ∈ ys then ys else ys ++ [x]) := by
  unfold putD
  rw [any_setD]
  by_cases h : x ∈ ys
  · rw [if_pos (decide_eq_true h), if_pos h]
    unfold setD
    rw [List.map_map]
    refine List.map_congr_left fun y hy => ?_
    simp only [Function.comp]
    split <;> rfl
  · rw [if_neg (by simp [h]), if_neg h]
    unfold setD
    rw [List.map_append]
    rfl
def txK (d : D) : Ky := match d with
  | .str x => .inr x
  | _ => .inl 0
theorem foldl_setD (l : List Tx) : ∀ acc : List Tx, (l.map D.str).foldl (fun acc d => putD acc (txK d) (.bl true)) (setD acc) = setD (l.foldl (fun acc x => if x ∈ acc then acc else acc ++ [x]) acc) := by
  induction l with
  | nil => intro acc; rfl
  | cons x r ih =>
    intro acc
    rw [List.map_cons, List.foldl_cons, List.foldl_cons]
    show List.foldl _ (putD (setD acc) (Sum.inr x) (.bl true)) _ = _
    rw [putD_setD]
    exact ih _
theorem lkD_setD (ys : List Tx) (x : Tx) : (lkD (setD ys) (.inr x)).isSome = decide (x ∈ ys) := by
  unfold lkD
  rw [Option.isSome_map, ← any_setD ys x, Bool.eq_iff_iff, List.find?_isSome, List.any_eq_true]
theorem keysD_setD (ys : List Tx) : keysD (setD ys) = ys.map D.str := by
  unfold keysD setD
  rw [List.map_map]
  rfl
theorem keyTexts_setD (ys : List Tx) : keyTexts (setD ys) = some ys := by
  unfold setD
  induction ys with
  | nil => rfl
  | cons y r ih => rw [List.map_cons, keyTexts, ih]
/-! ### counting one letter -/
theorem occ_one (u : Tx) (c : Nat) : ∀ (l acc : List Nat) (free : Nat), l.Pairwise (· < ·) → (∀ i ∈ l, free ≤ i) → acc.length + l.length ≤ u.length + 1 →
    (∀ i ∈ l, i ≤ u.length) → (occL u [c] u.length (u.length + 1) l acc free).length = acc.length + (l.filter fun i => u[i]? == some c).length
  | [], acc, free, _, _, _, _ => by simp [occL]
  | i :: l, acc, free, hp, hf, hl, hi => by
    rw [List.pairwise_cons] at hp
    rw [List.length_cons] at hl
    have hfi := hf i List.mem_cons_self
    have hs : (u.drop i).take 1 = [c] ↔ u[i]? = some c := by
      cases hq : u.drop i with
      | nil =>
        have := List.drop_eq_nil_iff.mp hq
        rw [List.getElem?_eq_none this]
        simp
      | cons z r =>
        have : u[i]? = some z := by
          have := congrArg (fun l => l[0]?) hq
          simpa using this
        rw [this]
        simp
    unfold occL
    by_cases h : u[i]? = some c
    · have hlt : i < u.length := by
        rcases Nat.lt_or_ge i u.length with q | q
        · exact q
        · rw [List.getElem?_eq_none q] at h; cases h
      rw [if_pos ⟨by omega, hfi, by simp; omega, hs.mpr h⟩]
      rw [occ_one u c l (acc ++ [i]) (i + [c].length) hp.2 (fun j hj => by have := hp.1 j hj; simp; omega) (by simp; omega) fun j hj => hi j (List.mem_cons_of_mem _ hj)]
      simp [List.filter_cons, h]
      omega
    · rw [if_neg fun q => h (hs.mp q.2.2.2)]
      rw [occ_one u c l acc free hp.2 (fun j hj => hf j (List.mem_cons_of_mem _ hj)) (by omega) fun j hj => hi j (List.mem_cons_of_mem _ hj)]
      have : (u[i]? == some c) = false := by simpa using h
      rw [List.filter_cons, this]
      simp
theorem filter_range_count (c : Nat) : ∀ u : Tx, ((List.range (u.length + 1)).filter fun i => u[i]? == some c).length = u.count c
  | [] => by simp [List.range_succ]
  | x :: r => by
    rw [List.range_succ_eq_map, List.filter_cons, List.filter_map, List.length_cons]
    have ih := filter_range_count c r
    have e : ((fun i => (x :: r)[i]? == some c) ∘ Nat.succ) = fun i => r[i]? == some c := by funext i; simp
    rw [e]
    by_cases h : x = c
    · subst h; simp [ih]
    · have : ((x :: r)[0]? == some c) = false := by simpa using h
      rw [this]
      simp [List.count_cons, ih, h]
theorem cnt_one (c : Nat) (u : Tx) : cntIn [c] u = u.count c := by
  unfold cntIn
  rw [← List.range_eq_range', occ_one u c _ [] 0 List.pairwise_lt_range (fun _ _ => Nat.zero_le _) (by simp) fun i hi => by have := List.mem_range.mp hi; omega]
  rw [filter_range_count]
  simp
end MP
namespace signworth_k22_slopes
open PySem PySem.Spec PyProof.Rows L2 MP
def topS (i : Nat) : Stmt := PySem.Challenge.pw_signworth_k22_slopes.main.body.getD i (.Pass ⟨0, 0, 0, 0⟩)
def fuel : Nat := 1000000000
structure Bu (mg : Str → Option Value) : Prop where
  b_all : mg "all" = none
  b_int : mg "int" = none
  b_isinstance : mg "isinstance" = none
  b_len : mg "len" = none
  b_list : mg "list" = none
  b_max : mg "max" = none
  b_min : mg "min" = none
  b_range : mg "range" = none
  b_repr : mg "repr" = none
  b_set : mg "set" = none
  b_sorted : mg "sorted" = none
  b_str : mg "str" = none
  b_tuple : mg "tuple" = none
abbrev s_pieces : Stmt := topS 1
theorem sc_pieces : FnScope ["word", "n", "at"] ["word", "n"] (defScope s_pieces) := ⟨rfl, rfl, rfl, by decide +kernel, rfl, by decide +kernel, by decide +kernel⟩
def ck_pieces_0 : EF := (eSl (pV 0) (oI (pV 2)) (oI (pE (eOp fAdd (pV 2) (pV 1)))))
def cv_pieces_0 : EF := (eC (.bl true))
def st_pieces_0 : SF := (sRet (eCall fList (aCons (pE (eDc [2] (iR rng1 (aCons (pE (eOp fAdd (pE (eOp fSub (pE (eCall fLen (aCons (pV 0) aNil))) (pV 1))) (pE (eC (.int 1))))) aNil)) (gN 2) bTrue ck_pieces_0 cv_pieces_0)) aNil)))
def code_pieces : SF := (sSeq st_pieces_0 sNil)
def fn_pieces : Fn := runF code_pieces 3
abbrev s_balanced_paper : Stmt := topS 2
theorem sc_balanced_paper : FnScope ["word", "n", "told", "piece", "other"] ["word"] (defScope s_balanced_paper) := ⟨rfl, rfl, rfl, by decide +kernel, rfl, by decide +kernel, by decide +kernel⟩
def ck_balanced_paper_0 : EF := (eV 3)
def cv_balanced_paper_0 : EF := (eC (.bl true))
def st_balanced_paper_0 : SF := (sRet (eTup (aCons (pE (eC (.str [117, 110, 98, 97, 108, 97, 110, 99, 101, 100]))) (aCons (pE (eV 3)) (aCons (pE (eV 4)) aNil)))))
def bk_balanced_paper_0 : SF := (sSeq st_balanced_paper_0 sNil)
def st_balanced_paper_1 : SF := (sAsg 4 (eOp fAdd (pE (eOp fAdd (pE (eC (.str [98]))) (pE (eSl (pV 3) (oI (pE (eC (.int 1)))) (oI (pE (eNeg (pE (eC (.int 1)))))))))) (pE (eC (.str [98])))))
def st_balanced_paper_2 : SF := (sIf (bAnd (bE (eOp fEq (pE (eOp fIx (pV 3) (pE (eC (.int 0))))) (pE (eC (.str [97]))))) (bAnd (bE (eOp fEq (pE (eOp fIx (pV 3) (pE (eNeg (pE (eC (.int 1))))))) (pE (eC (.str [97]))))) (bE (eOp fIn (pV 4) (pV 2))))) bk_balanced_paper_0 sNil)
def bk_balanced_paper_1 : SF := (sSeq st_balanced_paper_1 (sSeq st_balanced_paper_2 sNil))
def st_balanced_paper_3 : SF := (sAsg 2 (eDc [3] (iE (eFn fn_pieces (aCons (pE (eV 0)) (aCons (pE (eV 1)) aNil)))) (gN 3) bTrue ck_balanced_paper_0 cv_balanced_paper_0))
def st_balanced_paper_4 : SF := (sFor (iE (eCall fSorted (aCons (pV 2) aNil))) (gN 3) bk_balanced_paper_1)
def bk_balanced_paper_2 : SF := (sSeq st_balanced_paper_3 (sSeq st_balanced_paper_4 sNil))
def st_balanced_paper_5 : SF := (sFor (iR rng2 (aCons (pE (eC (.int 2))) (aCons (pE (eOp fAdd (pE (eCall fLen (aCons (pV 0) aNil))) (pE (eC (.int 1))))) aNil))) (gN 1) bk_balanced_paper_2)
def st_balanced_paper_6 : SF := (sRet (eTup (aCons (pE (eC (.str [98, 97, 108, 97, 110, 99, 101, 100]))) aNil)))
def code_balanced_paper : SF := (sSeq st_balanced_paper_5 (sSeq st_balanced_paper_6 sNil))
def fn_balanced_paper : Fn := runF code_balanced_paper 5
abbrev s_judge_balanced : Stmt := topS 3
theorem sc_judge_balanced : FnScope ["word", "value", "one", "first", "second"] ["word", "value"] (defScope s_judge_balanced) := ⟨rfl, rfl, rfl, by decide +kernel, rfl, by decide +kernel, by decide +kernel⟩
def ce_judge_balanced_0 : EF := (eCall fIsi (aCons (pV 2) (aCons (pE (eC (.ty "str"))) aNil)))
def st_judge_balanced_0 : SF := (sRet (eC (.bl false)))
def bk_judge_balanced_0 : SF := (sSeq st_judge_balanced_0 sNil)
def st_judge_balanced_1 : SF := (sRet (eOp fEq (pE (eFn fn_balanced_paper (aCons (pE (eV 0)) aNil))) (pV 1)))
def bk_judge_balanced_1 : SF := (sSeq st_judge_balanced_1 sNil)
def st_judge_balanced_2 : SF := (sRet (eC (.bl false)))
def bk_judge_balanced_2 : SF := (sSeq st_judge_balanced_2 sNil)
def st_judge_balanced_3 : SF := (sRet (eC (.bl false)))
def bk_judge_balanced_3 : SF := (sSeq st_judge_balanced_3 sNil)
def st_judge_balanced_4 : SF := (sRet (eC (.bl false)))
def bk_judge_balanced_4 : SF := (sSeq st_judge_balanced_4 sNil)
def st_judge_balanced_5 : SF := (sIf (bOr (bNot (bP (pE (eCall fIsi (aCons (pV 1) (aCons (pE (eC (.ty "tuple"))) aNil)))))) (bOr (bE (eOp fNotIn (pE (eCall fLen (aCons (pV 1) aNil))) (pE (eTup (aCons (pE (eC (.int 1))) (aCons (pE (eC (.int 3))) aNil)))))) (bNot (bP (pE (eCall fAll (aCons (pE (eLc [2] (iE (eV 1)) (gN 2) bTrue ce_judge_balanced_0)) aNil))))))) bk_judge_balanced_0 sNil)
def st_judge_balanced_6 : SF := (sIf (bE (eOp fEq (pE (eOp fIx (pV 1) (pE (eC (.int 0))))) (pE (eC (.str [98, 97, 108, 97, 110, 99, 101, 100]))))) bk_judge_balanced_1 sNil)
def st_judge_balanced_7 : SF := (sIf (bOr (bE (eOp fNe (pE (eOp fIx (pV 1) (pE (eC (.int 0))))) (pE (eC (.str [117, 110, 98, 97, 108, 97, 110, 99, 101, 100]))))) (bE (eOp fNe (pE (eCall fLen (aCons (pV 1) aNil))) (pE (eC (.int 3)))))) bk_judge_balanced_2 sNil)
def st_judge_balanced_8 : SF := (sAsgG (eSl (pV 1) (oI (pE (eC (.int 1)))) oNo) (gT (gsCons (gN 3) (gsCons (gN 4) gsNil))))
def st_judge_balanced_9 : SF := (sIf (bOr (bE (eOp fLt (pE (eCall fLen (aCons (pV 3) aNil))) (pE (eC (.int 2))))) (bOr (bE (eOp fNotIn (pV 3) (pV 0))) (bE (eOp fNotIn (pV 4) (pV 0))))) bk_judge_balanced_3 sNil)
def st_judge_balanced_10 : SF := (sIf (bE (eOp fNe (pE (eCall fLen (aCons (pV 3) aNil))) (pE (eCall fLen (aCons (pE (eOp fIx (pE (eFn fn_balanced_paper (aCons (pE (eV 0)) aNil))) (pE (eNeg (pE (eC (.int 1))))))) aNil))))) bk_judge_balanced_4 sNil)
def st_judge_balanced_11 : SF := (sRet (eAnd (eOp fEq (pE (eOp fIx (pV 3) (pE (eC (.int 0))))) (pE (eC (.str [97])))) (eAnd (eOp fEq (pE (eOp fIx (pV 3) (pE (eNeg (pE (eC (.int 1))))))) (pE (eC (.str [97])))) (eOp fEq (pV 4) (pE (eOp fAdd (pE (eOp fAdd (pE (eC (.str [98]))) (pE (eSl (pV 3) (oI (pE (eC (.int 1)))) (oI (pE (eNeg (pE (eC (.int 1)))))))))) (pE (eC (.str [98])))))))))
def code_judge_balanced : SF := (sSeq st_judge_balanced_5 (sSeq st_judge_balanced_6 (sSeq st_judge_balanced_7 (sSeq st_judge_balanced_8 (sSeq st_judge_balanced_9 (sSeq st_judge_balanced_10 (sSeq st_judge_balanced_11 sNil)))))))
def fn_judge_balanced : Fn := runF code_judge_balanced 5
abbrev s_slope_word : Stmt := topS 4
theorem sc_slope_word : FnScope ["p", "q", "n", "k"] ["p", "q"] (defScope s_slope_word) := ⟨rfl, rfl, rfl, by decide +kernel, rfl, by decide +kernel, by decide +kernel⟩
def ce_slope_word_0 : EF := (eIf (bE (eOp fGt (pE (eOp fDiv (pE (eOp fMul (pE (eOp fAdd (pV 3) (pE (eC (.int 1))))) (pV 1))) (pV 2))) (pE (eOp fDiv (pE (eOp fMul (pV 3) (pV 1))) (pV 2))))) (eC (.str [98])) (eC (.str [97])))
def st_slope_word_0 : SF := (sAsg 2 (eOp fAdd (pV 0) (pV 1)))
def st_slope_word_1 : SF := (sRet (eMeth D.isStr fJoin (pE (eC (.str []))) (aCons (pE (eLc [3] (iR rng1 (aCons (pV 2) aNil)) (gN 3) bTrue ce_slope_word_0)) aNil)))
def code_slope_word : SF := (sSeq st_slope_word_0 (sSeq st_slope_word_1 sNil))
def fn_slope_word : Fn := runF code_slope_word 4
abbrev s_how_many_pieces : Stmt := topS 5
theorem sc_how_many_pieces : FnScope ["word", "n"] ["word"] (defScope s_how_many_pieces) := ⟨rfl, rfl, rfl, by decide +kernel, rfl, by decide +kernel, by decide +kernel⟩
def ce_how_many_pieces_0 : EF := (eCall fLen (aCons (pE (eFn fn_pieces (aCons (pE (eV 0)) (aCons (pE (eV 1)) aNil)))) aNil))
def st_how_many_pieces_0 : SF := (sRet (eCall fTuple (aCons (pE (eLc [1] (iR rng1 (aCons (pE (eOp fAdd (pE (eCall fLen (aCons (pV 0) aNil))) (pE (eC (.int 1))))) aNil)) (gN 1) bTrue ce_how_many_pieces_0)) aNil)))
def code_how_many_pieces : SF := (sSeq st_how_many_pieces_0 sNil)
def fn_how_many_pieces : Fn := runF code_how_many_pieces 2
abbrev s_first_repeat : Stmt := topS 6
theorem sc_first_repeat : FnScope ["word", "n", "twice", "seen", "at", "piece"] ["word"] (defScope s_first_repeat) := ⟨rfl, rfl, rfl, by decide +kernel, rfl, by decide +kernel, by decide +kernel⟩
def st_first_repeat_0 : SF := (sExpr (eSetd 2 (pV 5) (eTup (aCons (pE (eOp fIx (pV 3) (pV 5))) (aCons (pE (eV 4)) aNil)))))
def bk_first_repeat_0 : SF := (sSeq st_first_repeat_0 sNil)
def st_first_repeat_1 : SF := (sAsgG (eV 4) (gSub 3 (pV 5)))
def bk_first_repeat_1 : SF := (sSeq st_first_repeat_1 sNil)
def st_first_repeat_2 : SF := (sAsg 5 (eSl (pV 0) (oI (pV 4)) (oI (pE (eOp fAdd (pV 4) (pV 1))))))
def st_first_repeat_3 : SF := (sIf (bE (eOp fIn (pV 5) (pV 3))) bk_first_repeat_0 bk_first_repeat_1)
def bk_first_repeat_2 : SF := (sSeq st_first_repeat_2 (sSeq st_first_repeat_3 sNil))
def st_first_repeat_4 : SF := (sAsg 5 (eCall fMinD (aCons (pV 2) aNil)))
def st_first_repeat_5 : SF := (sRet (eOp fAdd (pE (eTup (aCons (pE (eV 5)) aNil))) (pE (eOp fIx (pV 2) (pV 5)))))
def bk_first_repeat_3 : SF := (sSeq st_first_repeat_4 (sSeq st_first_repeat_5 sNil))
def st_first_repeat_6 : SF := (sAsg 2 eDk)
def st_first_repeat_7 : SF := (sAsg 3 eDk)
def st_first_repeat_8 : SF := (sFor (iR rng1 (aCons (pE (eOp fAdd (pE (eOp fSub (pE (eCall fLen (aCons (pV 0) aNil))) (pV 1))) (pE (eC (.int 1))))) aNil)) (gN 4) bk_first_repeat_2)
def st_first_repeat_9 : SF := (sIf (bP (pV 2)) bk_first_repeat_3 sNil)
def bk_first_repeat_4 : SF := (sSeq st_first_repeat_6 (sSeq st_first_repeat_7 (sSeq st_first_repeat_8 (sSeq st_first_repeat_9 sNil))))
def st_first_repeat_10 : SF := (sFor (iR rng3 (aCons (pE (eOp fSub (pE (eCall fLen (aCons (pV 0) aNil))) (pE (eC (.int 1))))) (aCons (pE (eC (.int 0))) (aCons (pE (eNeg (pE (eC (.int 1))))) aNil)))) (gN 1) bk_first_repeat_4)
def st_first_repeat_11 : SF := (sRet (eTup (aCons (pE (eC (.str []))) (aCons (pE (eC (.int 0))) (aCons (pE (eC (.int 0))) aNil)))))
def code_first_repeat : SF := (sSeq st_first_repeat_10 (sSeq st_first_repeat_11 sNil))
def fn_first_repeat : Fn := runF code_first_repeat 6
abbrev s_law_start : Stmt := topS 8
theorem sc_law_start : FnScope ["script", "cell"] ["script"] (defScope s_law_start) := ⟨rfl, rfl, rfl, by decide +kernel, rfl, by decide +kernel, by decide +kernel⟩
def ce_law_start_0 : EF := (eCall fInt1 (aCons (pV 1) aNil))
def st_law_start_0 : SF := (sRet (eLst (aCons (pE (eLc [1] (iE (eSl (pV 0) oNo (oI (pE (eC (.int 63)))))) (gN 1) bTrue ce_law_start_0)) (aCons (pE (eC (.int 0))) (aCons (pE (eC (.int 0))) (aCons (pE (eC (.int 0))) (aCons (pE (eC (.int 20))) aNil)))))))
def code_law_start : SF := (sSeq st_law_start_0 sNil)
def fn_law_start : Fn := runF code_law_start 2
abbrev s_law_fill : Stmt := topS 9
theorem sc_law_fill : FnScope ["c", "number"] ["c"] (defScope s_law_fill) := ⟨rfl, rfl, rfl, by decide +kernel, rfl, by decide +kernel, by decide +kernel⟩
def st_law_fill_0 : SF := (sRetV 1)
def bk_law_fill_0 : SF := (sSeq st_law_fill_0 sNil)
def st_law_fill_1 : SF := (sAsg 1 (eCall fMax2 (aCons (pE (eOp fIx (pE (eOp fIx (pV 0) (pE (eC (.int 0))))) (pE (eOp fIx (pV 0) (pE (eC (.int 1))))))) (aCons (pE (eOp fSub (pE (eOp fSub (pE (eC (.int 0))) (pE (eC (.int 1))))) (pE (eOp fIx (pE (eOp fIx (pV 0) (pE (eC (.int 0))))) (pE (eOp fIx (pV 0) (pE (eC (.int 1))))))))) aNil))))
def st_law_fill_2 : SF := (sAsgG (eOp fAdd (pE (eOp fIx (pV 0) (pE (eC (.int 1))))) (pE (eC (.int 1)))) (gSub 0 (pE (eC (.int 1)))))
def st_law_fill_3 : SF := (sIf (bE (eOp fGe (pV 1) (pE (eOp fPow (pE (eC (.int 10))) (pE (eC (.int 18))))))) bk_law_fill_0 sNil)
def bk_law_fill_1 : SF := (sSeq st_law_fill_1 (sSeq st_law_fill_2 (sSeq st_law_fill_3 sNil)))
def st_law_fill_4 : SF := (sAsg 1 (eOp fAdd (pV 1) (pE (eOp fMod (pE (eCall fInt1 (aCons (pE (eOp fIx (pE (eOp fIx (pV 0) (pE (eC (.int 0))))) (pE (eNeg (pE (eC (.int 1))))))) aNil))) (pE (eC (.int 1000003)))))))
def bk_law_fill_2 : SF := (sSeq st_law_fill_4 sNil)
def st_law_fill_5 : SF := (sAsgG (eOp fAdd (pE (eOp fIx (pV 0) (pE (eC (.int 3))))) (pE (eC (.int 1)))) (gSub 0 (pE (eC (.int 3)))))
def st_law_fill_6 : SF := (sAsg 1 (eOp fAdd (pE (eOp fMul (pE (eOp fIx (pV 0) (pE (eC (.int 3))))) (pE (eC (.int 69621))))) (pE (eC (.int 12345)))))
def st_law_fill_7 : SF := (sIf (bE (eOp fLt (pE (eOp fIx (pV 0) (pE (eC (.int 1))))) (pE (eCall fLen (aCons (pE (eOp fIx (pV 0) (pE (eC (.int 0))))) aNil))))) bk_law_fill_1 sNil)
def st_law_fill_8 : SF := (sIf (bAnd (bP (pE (eOp fIx (pV 0) (pE (eC (.int 0)))))) (bE (eOp fGe (pE (eOp fIx (pV 0) (pE (eC (.int 1))))) (pE (eCall fLen (aCons (pE (eOp fIx (pV 0) (pE (eC (.int 0))))) aNil)))))) bk_law_fill_2 sNil)
def st_law_fill_9 : SF := (sAsg 1 (eOp fMod (pE (eCall fInt1 (aCons (pE (eOp fAdd (pE (eOp fMul (pV 1) (pE (eC (.int 48271))))) (pE (eOp fMul (pE (eOp fIx (pV 0) (pE (eC (.int 3))))) (pE (eC (.int 69621))))))) aNil))) (pE (eC (.int 2147483647)))))
def st_law_fill_10 : SF := (sRet (eOp fAdd (pE (eOp fDiv (pE (eCall fInt1 (aCons (pE (eOp fAdd (pE (eOp fAdd (pE (eOp fMul (pV 1) (pV 1))) (pE (eOp fMul (pE (eOp fIx (pV 0) (pE (eC (.int 3))))) (pE (eC (.int 7919))))))) (pE (eC (.int 11))))) aNil))) (pE (eC (.int 64))))) (pE (eC (.int 36028797018963968)))))
def code_law_fill : SF := (sSeq st_law_fill_5 (sSeq st_law_fill_6 (sSeq st_law_fill_7 (sSeq st_law_fill_8 (sSeq st_law_fill_9 (sSeq st_law_fill_10 sNil))))))
def fn_law_fill : Fn := runF code_law_fill 2
abbrev s_law_take : Stmt := topS 10
theorem sc_law_take : FnScope ["c", "many", "digit"] ["c", "many"] (defScope s_law_take) := ⟨rfl, rfl, rfl, by decide +kernel, rfl, by decide +kernel, by decide +kernel⟩
def st_law_take_0 : SF := (sAsgG (eFn fn_law_fill (aCons (pV 0) aNil)) (gSub 0 (pE (eC (.int 2)))))
def bk_law_take_0 : SF := (sSeq st_law_take_0 sNil)
def st_law_take_1 : SF := (sIf (bE (eOp fLt (pE (eOp fIx (pV 0) (pE (eC (.int 2))))) (pV 1))) bk_law_take_0 sNil)
def st_law_take_2 : SF := (sAsg 2 (eOp fMod (pE (eCall fInt1 (aCons (pE (eOp fIx (pV 0) (pE (eC (.int 2))))) aNil))) (pV 1)))
def st_law_take_3 : SF := (sAsgG (eOp fDiv (pE (eOp fIx (pV 0) (pE (eC (.int 2))))) (pV 1)) (gSub 0 (pE (eC (.int 2)))))
def st_law_take_4 : SF := (sRetV 2)
def code_law_take : SF := (sSeq st_law_take_1 (sSeq st_law_take_2 (sSeq st_law_take_3 (sSeq st_law_take_4 sNil))))
def fn_law_take : Fn := runF code_law_take 3
abbrev s_law_shuffled : Stmt := topS 11
theorem sc_law_shuffled : FnScope ["c", "items", "left", "found"] ["c", "items"] (defScope s_law_shuffled) := ⟨rfl, rfl, rfl, by decide +kernel, rfl, by decide +kernel, by decide +kernel⟩
def st_law_shuffled_0 : SF := (sExpr (eMutT "list" mAppend 3 (aCons (pE (eMutT "list" mPopAt 2 (aCons (pE (eFn fn_law_take (aCons (pV 0) (aCons (pE (eCall fLen (aCons (pV 2) aNil))) aNil)))) aNil))) aNil)))
def bk_law_shuffled_0 : SF := (sSeq st_law_shuffled_0 sNil)
def st_law_shuffled_1 : SF := (sAsg 2 (eCall fList (aCons (pV 1) aNil)))
def st_law_shuffled_2 : SF := (sAsg 3 (eLst aNil))
def st_law_shuffled_3 : SF := (sWhile fuel (bP (pV 2)) bk_law_shuffled_0)
def st_law_shuffled_4 : SF := (sRetV 3)
def code_law_shuffled : SF := (sSeq st_law_shuffled_1 (sSeq st_law_shuffled_2 (sSeq st_law_shuffled_3 (sSeq st_law_shuffled_4 sNil))))
def fn_law_shuffled : Fn := runF code_law_shuffled 4
abbrev s_law_word : Stmt := topS 12
theorem sc_law_word : FnScope ["c", "letters", "most", "k"] ["c", "letters", "most"] (defScope s_law_word) := ⟨rfl, rfl, rfl, by decide +kernel, rfl, by decide +kernel, by decide +kernel⟩
def ce_law_word_0 : EF := (eOp fIx (pV 1) (pE (eFn fn_law_take (aCons (pV 0) (aCons (pE (eCall fLen (aCons (pV 1) aNil))) aNil)))))
def st_law_word_0 : SF := (sRet (eMeth D.isStr fJoin (pE (eC (.str []))) (aCons (pE (eLc [3] (iR rng1 (aCons (pE (eFn fn_law_take (aCons (pV 0) (aCons (pE (eOp fAdd (pV 2) (pE (eC (.int 1))))) aNil)))) aNil)) (gN 3) bTrue ce_law_word_0)) aNil)))
def code_law_word : SF := (sSeq st_law_word_0 sNil)
def fn_law_word : Fn := runF code_law_word 4
abbrev s_law_pieces : Stmt := topS 13
theorem sc_law_pieces : FnScope ["word", "size", "k"] ["word", "size"] (defScope s_law_pieces) := ⟨rfl, rfl, rfl, by decide +kernel, rfl, by decide +kernel, by decide +kernel⟩
def ce_law_pieces_0 : EF := (eSl (pV 0) (oI (pV 2)) (oI (pE (eOp fAdd (pV 2) (pV 1)))))
def st_law_pieces_0 : SF := (sRet (eSS (pE (eLc [2] (iR rng1 (aCons (pE (eOp fAdd (pE (eOp fSub (pE (eCall fLen (aCons (pV 0) aNil))) (pV 1))) (pE (eC (.int 1))))) aNil)) (gN 2) bTrue ce_law_pieces_0))))
def code_law_pieces : SF := (sSeq st_law_pieces_0 sNil)
def fn_law_pieces : Fn := runF code_law_pieces 3
abbrev s_law_least : Stmt := topS 14
theorem sc_law_least : FnScope ["word", "size", "counts", "piece"] ["word"] (defScope s_law_least) := ⟨rfl, rfl, rfl, by decide +kernel, rfl, by decide +kernel, by decide +kernel⟩
def ce_law_least_0 : EF := (eMeth D.isStr fCount (pV 3) (aCons (pE (eC (.str [98]))) aNil))
def st_law_least_0 : SF := (sRetV 1)
def bk_law_least_0 : SF := (sSeq st_law_least_0 sNil)
def st_law_least_1 : SF := (sAsg 2 (eLc [3] (iE (eFn fn_law_pieces (aCons (pE (eV 0)) (aCons (pE (eV 1)) aNil)))) (gN 3) bTrue ce_law_least_0))
def st_law_least_2 : SF := (sIf (bE (eOp fGt (pE (eOp fSub (pE (eCall fMax1 (aCons (pV 2) aNil))) (pE (eCall fMin1 (aCons (pV 2) aNil))))) (pE (eC (.int 1))))) bk_law_least_0 sNil)
def bk_law_least_1 : SF := (sSeq st_law_least_1 (sSeq st_law_least_2 sNil))
def st_law_least_3 : SF := (sFor (iR rng2 (aCons (pE (eC (.int 1))) (aCons (pE (eOp fAdd (pE (eCall fLen (aCons (pV 0) aNil))) (pE (eC (.int 1))))) aNil))) (gN 1) bk_law_least_1)
def st_law_least_4 : SF := (sRet (eC .non))
def code_law_least : SF := (sSeq st_law_least_3 (sSeq st_law_least_4 sNil))
def fn_law_least : Fn := runF code_law_least 4
abbrev s_law_holds : Stmt := topS 15
theorem sc_law_holds : FnScope ["word", "value", "size", "one", "first", "second"] ["word", "value"] (defScope s_law_holds) := ⟨rfl, rfl, rfl, by decide +kernel, rfl, by decide +kernel, by decide +kernel⟩
def st_law_holds_0 : SF := (sRet (eC (.bl false)))
def bk_law_holds_0 : SF := (sSeq st_law_holds_0 sNil)
def st_law_holds_1 : SF := (sRet (eAnd (eOp fEq (pE (eCall fLen (aCons (pV 1) aNil))) (pE (eC (.int 1)))) (eOp fIs (pV 2) (pE (eC .non)))))
def bk_law_holds_1 : SF := (sSeq st_law_holds_1 sNil)
def ce_law_holds_0 : EF := (eCall fIsi (aCons (pV 3) (aCons (pE (eC (.ty "str"))) aNil)))
def st_law_holds_2 : SF := (sRet (eC (.bl false)))
def bk_law_holds_2 : SF := (sSeq st_law_holds_2 sNil)
def st_law_holds_3 : SF := (sRet (eC (.bl false)))
def bk_law_holds_3 : SF := (sSeq st_law_holds_3 sNil)
def st_law_holds_4 : SF := (sIf (bOr (bNot (bP (pE (eCall fIsi (aCons (pV 1) (aCons (pE (eC (.ty "tuple"))) aNil)))))) (bOr (bNot (bP (pV 1))) (bNot (bP (pE (eCall fIsi (aCons (pE (eOp fIx (pV 1) (pE (eC (.int 0))))) (aCons (pE (eC (.ty "str"))) aNil)))))))) bk_law_holds_0 sNil)
def st_law_holds_5 : SF := (sAsg 2 (eFn fn_law_least (aCons (pE (eV 0)) aNil)))
def st_law_holds_6 : SF := (sIf (bE (eOp fEq (pE (eOp fIx (pV 1) (pE (eC (.int 0))))) (pE (eC (.str [98, 97, 108, 97, 110, 99, 101, 100]))))) bk_law_holds_1 sNil)
def st_law_holds_7 : SF := (sIf (bOr (bE (eOp fNe (pE (eOp fIx (pV 1) (pE (eC (.int 0))))) (pE (eC (.str [117, 110, 98, 97, 108, 97, 110, 99, 101, 100]))))) (bOr (bE (eOp fNe (pE (eCall fLen (aCons (pV 1) aNil))) (pE (eC (.int 3))))) (bOr (bE (eOp fIs (pV 2) (pE (eC .non)))) (bNot (bP (pE (eCall fAll (aCons (pE (eLc [3] (iE (eV 1)) (gN 3) bTrue ce_law_holds_0)) aNil)))))))) bk_law_holds_2 sNil)
def st_law_holds_8 : SF := (sAsgG (eSl (pV 1) (oI (pE (eC (.int 1)))) oNo) (gT (gsCons (gN 4) (gsCons (gN 5) gsNil))))
def st_law_holds_9 : SF := (sIf (bOr (bE (eOp fNe (pE (eCall fLen (aCons (pV 4) aNil))) (pV 2))) (bOr (bE (eOp fNe (pE (eCall fLen (aCons (pV 5) aNil))) (pV 2))) (bOr (bE (eOp fLt (pV 2) (pE (eC (.int 2))))) (bOr (bE (eOp fNotIn (pV 4) (pV 0))) (bE (eOp fNotIn (pV 5) (pV 0))))))) bk_law_holds_3 sNil)
def st_law_holds_10 : SF := (sRet (eAnd (eOp fEq (pE (eOp fAdd (pE (eOp fIx (pV 4) (pE (eC (.int 0))))) (pE (eOp fIx (pV 4) (pE (eOp fSub (pE (eC (.int 0))) (pE (eC (.int 1))))))))) (pE (eC (.str [97, 97])))) (eAnd (eOp fEq (pE (eOp fAdd (pE (eOp fIx (pV 5) (pE (eC (.int 0))))) (pE (eOp fIx (pV 5) (pE (eOp fSub (pE (eC (.int 0))) (pE (eC (.int 1))))))))) (pE (eC (.str [98, 98])))) (eOp fEq (pE (eSl (pV 4) (oI (pE (eC (.int 1)))) (oI (pE (eOp fSub (pE (eC (.int 0))) (pE (eC (.int 1)))))))) (pE (eSl (pV 5) (oI (pE (eC (.int 1)))) (oI (pE (eOp fSub (pE (eC (.int 0))) (pE (eC (.int 1))))))))))))
def code_law_holds : SF := (sSeq st_law_holds_4 (sSeq st_law_holds_5 (sSeq st_law_holds_6 (sSeq st_law_holds_7 (sSeq st_law_holds_8 (sSeq st_law_holds_9 (sSeq st_law_holds_10 sNil)))))))
def fn_law_holds : Fn := runF code_law_holds 6
abbrev s_law_divisor : Stmt := topS 16
theorem sc_law_divisor : FnScope ["a", "b", "turn"] ["a", "b"] (defScope s_law_divisor) := ⟨rfl, rfl, rfl, by decide +kernel, rfl, by decide +kernel, by decide +kernel⟩
def st_law_divisor_0 : SF := (sRetV 0)
def bk_law_divisor_0 : SF := (sSeq st_law_divisor_0 sNil)
def st_law_divisor_1 : SF := (sIf (bE (eOp fEq (pV 1) (pE (eC (.int 0))))) bk_law_divisor_0 sNil)
def st_law_divisor_2 : SF := (sPar 0 1 (eV 1) (eOp fMod (pV 0) (pV 1)))
def bk_law_divisor_1 : SF := (sSeq st_law_divisor_1 (sSeq st_law_divisor_2 sNil))
def st_law_divisor_3 : SF := (sFor (iR rng1 (aCons (pE (eC (.int 100))) aNil)) (gN 2) bk_law_divisor_1)
def st_law_divisor_4 : SF := (sRet (eC (.int 1)))
def code_law_divisor : SF := (sSeq st_law_divisor_3 (sSeq st_law_divisor_4 sNil))
def fn_law_divisor : Fn := runF code_law_divisor 3
abbrev s_law_repeat : Stmt := topS 17
theorem sc_law_repeat : FnScope ["word", "size", "piece", "places", "k"] ["word"] (defScope s_law_repeat) := ⟨rfl, rfl, rfl, by decide +kernel, rfl, by decide +kernel, by decide +kernel⟩
def ce_law_repeat_0 : EF := (eV 4)
def ct_law_repeat_0 : BF := (bE (eOp fEq (pE (eSl (pV 0) (oI (pV 4)) (oI (pE (eOp fAdd (pV 4) (pV 1)))))) (pV 2)))
def st_law_repeat_0 : SF := (sRet (eTup (aCons (pE (eV 2)) (aCons (pE (eOp fIx (pV 3) (pE (eC (.int 0))))) (aCons (pE (eOp fIx (pV 3) (pE (eC (.int 1))))) aNil)))))
def bk_law_repeat_0 : SF := (sSeq st_law_repeat_0 sNil)
def st_law_repeat_1 : SF := (sAsg 3 (eLc [4] (iR rng1 (aCons (pE (eOp fAdd (pE (eOp fSub (pE (eCall fLen (aCons (pV 0) aNil))) (pV 1))) (pE (eC (.int 1))))) aNil)) (gN 4) ct_law_repeat_0 ce_law_repeat_0))
def st_law_repeat_2 : SF := (sIf (bE (eOp fGt (pE (eCall fLen (aCons (pV 3) aNil))) (pE (eC (.int 1))))) bk_law_repeat_0 sNil)
def bk_law_repeat_1 : SF := (sSeq st_law_repeat_1 (sSeq st_law_repeat_2 sNil))
def st_law_repeat_3 : SF := (sFor (iE (eFn fn_law_pieces (aCons (pE (eV 0)) (aCons (pE (eV 1)) aNil)))) (gN 2) bk_law_repeat_1)
def bk_law_repeat_2 : SF := (sSeq st_law_repeat_3 sNil)
def st_law_repeat_4 : SF := (sFor (iR rng3 (aCons (pE (eOp fSub (pE (eCall fLen (aCons (pV 0) aNil))) (pE (eC (.int 1))))) (aCons (pE (eC (.int 0))) (aCons (pE (eOp fSub (pE (eC (.int 0))) (pE (eC (.int 1))))) aNil)))) (gN 1) bk_law_repeat_2)
def st_law_repeat_5 : SF := (sRet (eTup (aCons (pE (eC (.str []))) (aCons (pE (eC (.int 0))) (aCons (pE (eC (.int 0))) aNil)))))
def code_law_repeat : SF := (sSeq st_law_repeat_4 (sSeq st_law_repeat_5 sNil))
def fn_law_repeat : Fn := runF code_law_repeat 5
abbrev s_law : Stmt := topS 18
theorem sc_law : FnScope ["script", "c", "p", "q", "n", "slope", "k", "around", "kind", "word", "paper", "size", "one", "two", "values", "value", "turned", "other", "row", "due"] ["script"] (defScope s_law) := ⟨rfl, rfl, rfl, by decide +kernel, rfl, by decide +kernel, by decide +kernel⟩
def st_law_0 : SF := (sAsgG (eTup (aCons (pE (eC (.int 3))) (aCons (pE (eC (.int 2))) aNil))) (gT (gsCons (gN 2) (gsCons (gN 3) gsNil))))
def bk_law_0 : SF := (sSeq st_law_0 sNil)
def ce_law_0 : EF := (eIf (bE (eOp fGt (pE (eOp fDiv (pE (eOp fMul (pE (eOp fAdd (pV 6) (pE (eC (.int 1))))) (pV 3))) (pV 4))) (pE (eOp fDiv (pE (eOp fMul (pV 6) (pV 3))) (pV 4))))) (eC (.str [98])) (eC (.str [97])))
def st_law_1 : SF := (sRet (eC (.bl false)))
def bk_law_1 : SF := (sSeq st_law_1 sNil)
def st_law_2 : SF := (sRet (eC (.bl false)))
def bk_law_2 : SF := (sSeq st_law_2 sNil)
def st_law_3 : SF := (sRet (eC (.bl false)))
def bk_law_3 : SF := (sSeq st_law_3 sNil)
def st_law_4 : SF := (sRet (eC (.bl false)))
def bk_law_4 : SF := (sSeq st_law_4 sNil)
def st_law_5 : SF := (sIf (bE (eOp fNe (pE (eCall fRepr (aCons (pE (eFn fn_judge_balanced (aCons (pE (eV 9)) (aCons (pE (eV 15)) aNil)))) aNil))) (pE (eCall fRepr (aCons (pE (eFn fn_law_holds (aCons (pE (eV 9)) (aCons (pE (eV 15)) aNil)))) aNil))))) bk_law_4 sNil)
def bk_law_5 : SF := (sSeq st_law_5 sNil)
def st_law_6 : SF := (sRet (eC (.bl false)))
def bk_law_6 : SF := (sSeq st_law_6 sNil)
def st_law_7 : SF := (sAsg 16 (eTup (aCons (pE (eC (.str [117, 110, 98, 97, 108, 97, 110, 99, 101, 100]))) (aCons (pE (eOp fIx (pV 10) (pE (eC (.int 2))))) (aCons (pE (eOp fIx (pV 10) (pE (eC (.int 1))))) aNil)))))
def st_law_8 : SF := (sIf (bE (eOp fNe (pE (eCall fRepr (aCons (pE (eFn fn_judge_balanced (aCons (pE (eV 9)) (aCons (pE (eV 16)) aNil)))) aNil))) (pE (eCall fRepr (aCons (pE (eFn fn_law_holds (aCons (pE (eV 9)) (aCons (pE (eV 16)) aNil)))) aNil))))) bk_law_6 sNil)
def bk_law_7 : SF := (sSeq st_law_7 (sSeq st_law_8 sNil))
def ce_law_1 : EF := (eCall fLen (aCons (pE (eFn fn_law_pieces (aCons (pE (eV 18)) (aCons (pE (eV 11)) aNil)))) aNil))
def st_law_9 : SF := (sRet (eC (.bl false)))
def bk_law_8 : SF := (sSeq st_law_9 sNil)
def st_law_10 : SF := (sAsg 19 (eLc [11] (iR rng1 (aCons (pE (eOp fAdd (pE (eCall fLen (aCons (pV 18) aNil))) (pE (eC (.int 1))))) aNil)) (gN 11) bTrue ce_law_1))
def st_law_11 : SF := (sIf (bOr (bE (eOp fNe (pE (eCall fRepr (aCons (pE (eFn fn_how_many_pieces (aCons (pE (eV 18)) aNil))) aNil))) (pE (eCall fRepr (aCons (pE (eCall fTuple (aCons (pV 19) aNil))) aNil))))) (bE (eOp fNe (pE (eCall fRepr (aCons (pE (eFn fn_first_repeat (aCons (pE (eV 18)) aNil))) aNil))) (pE (eCall fRepr (aCons (pE (eFn fn_law_repeat (aCons (pE (eV 18)) aNil))) aNil)))))) bk_law_8 sNil)
def bk_law_9 : SF := (sSeq st_law_10 (sSeq st_law_11 sNil))
def st_law_12 : SF := (sAsg 1 (eFn fn_law_start (aCons (pE (eV 0)) aNil)))
def st_law_13 : SF := (sAsgG (eTup (aCons (pE (eFn fn_law_take (aCons (pV 1) (aCons (pE (eC (.int 9))) aNil)))) (aCons (pE (eFn fn_law_take (aCons (pV 1) (aCons (pE (eC (.int 9))) aNil)))) aNil))) (gT (gsCons (gN 2) (gsCons (gN 3) gsNil))))
def st_law_14 : SF := (sIf (bE (eOp fNe (pE (eFn fn_law_divisor (aCons (pE (eV 2)) (aCons (pE (eV 3)) aNil)))) (pE (eC (.int 1))))) bk_law_0 sNil)
def st_law_15 : SF := (sAsg 4 (eOp fAdd (pV 2) (pV 3)))
def st_law_16 : SF := (sAsg 5 (eMeth D.isStr fJoin (pE (eC (.str []))) (aCons (pE (eLc [6] (iR rng1 (aCons (pV 4) aNil)) (gN 6) bTrue ce_law_0)) aNil)))
def st_law_17 : SF := (sIf (bE (eOp fNe (pE (eCall fRepr (aCons (pE (eFn fn_slope_word (aCons (pE (eV 2)) (aCons (pE (eV 3)) aNil)))) aNil))) (pE (eCall fRepr (aCons (pV 5) aNil))))) bk_law_1 sNil)
def st_law_18 : SF := (sAsg 7 (eOp fAdd (pV 5) (pV 5)))
def st_law_19 : SF := (sAsg 8 (eFn fn_law_take (aCons (pV 1) (aCons (pE (eC (.int 3))) aNil))))
def st_law_20 : SF := (sAsg 9 (eOp fIx (pE (eLst (aCons (pE (eSl (pE (eSl (pV 7) (oI (pE (eFn fn_law_take (aCons (pV 1) (aCons (pE (eV 4)) aNil))))) oNo)) oNo (oI (pE (eOp fAdd (pV 4) (pE (eC (.int 4)))))))) (aCons (pE (eFn fn_law_word (aCons (pV 1) (aCons (pE (eC (.str [97, 98]))) (aCons (pE (eC (.int 12))) aNil))))) (aCons (pE (eOp fAdd (pV 5) (pE (eFn fn_law_word (aCons (pV 1) (aCons (pE (eC (.str [97, 98]))) (aCons (pE (eC (.int 3))) aNil))))))) aNil))))) (pV 8)))
def st_law_21 : SF := (sAsg 10 (eFn fn_balanced_paper (aCons (pE (eV 9)) aNil)))
def st_law_22 : SF := (sIf (bOr (bNot (bP (pE (eFn fn_law_holds (aCons (pE (eV 9)) (aCons (pE (eV 10)) aNil)))))) (bE (eOp fNe (pE (eOp fEq (pE (eOp fIx (pV 10) (pE (eC (.int 0))))) (pE (eC (.str [98, 97, 108, 97, 110, 99, 101, 100]))))) (pE (eOp fIs (pE (eFn fn_law_least (aCons (pE (eV 9)) aNil))) (pE (eC .non))))))) bk_law_2 sNil)
def st_law_23 : SF := (sIf (bAnd (bE (eOp fEq (pV 8) (pE (eC (.int 0))))) (bE (eOp fNe (pE (eOp fIx (pV 10) (pE (eC (.int 0))))) (pE (eC (.str [98, 97, 108, 97, 110, 99, 101, 100])))))) bk_law_3 sNil)
def st_law_24 : SF := (sAsg 6 (eFn fn_law_take (aCons (pV 1) (aCons (pE (eOp fAdd (pE (eCall fLen (aCons (pV 9) aNil))) (pE (eC (.int 1))))) aNil))))
def st_law_25 : SF := (sAsg 11 (eOr (eFn fn_law_least (aCons (pE (eV 9)) aNil)) (eC (.int 2))))
def st_law_26 : SF := (sPar 12 13 (eSl (pV 9) (oI (pV 6)) (oI (pE (eOp fAdd (pV 6) (pV 11))))) (eSl (pV 9) oNo (oI (pV 11))))
def st_law_27 : SF := (sAsg 14 (eLst (aCons (pE (eV 10)) (aCons (pE (eSl (pV 10) oNo (oI (pE (eC (.int 1)))))) (aCons (pE (eTup (aCons (pE (eC (.str [98, 97, 108, 97, 110, 99, 101, 100]))) aNil))) (aCons (pE (eTup (aCons (pE (eC (.str [117, 110, 98, 97, 108, 97, 110, 99, 101, 100]))) (aCons (pE (eV 12)) (aCons (pE (eV 13)) aNil))))) (aCons (pE (eTup (aCons (pE (eC (.str [117, 110, 98, 97, 108, 97, 110, 99, 101, 100]))) (aCons (pE (eC (.str [97, 97]))) (aCons (pE (eC (.str [98, 98]))) aNil))))) (aCons (pE (eTup aNil)) (aCons (pE (eOp fAdd (pV 10) (pE (eTup (aCons (pE (eC (.str []))) aNil))))) aNil)))))))))
def st_law_28 : SF := (sFor (iE (eV 14)) (gN 15) bk_law_5)
def st_law_29 : SF := (sIf (bE (eOp fEq (pE (eOp fIx (pV 10) (pE (eC (.int 0))))) (pE (eC (.str [117, 110, 98, 97, 108, 97, 110, 99, 101, 100]))))) bk_law_7 sNil)
def st_law_30 : SF := (sAsg 17 (eFn fn_law_word (aCons (pV 1) (aCons (pE (eC (.str [97, 98, 99]))) (aCons (pE (eC (.int 12))) aNil)))))
def st_law_31 : SF := (sFor (iE (eTup (aCons (pE (eV 9)) (aCons (pE (eV 17)) aNil)))) (gN 18) bk_law_9)
def st_law_32 : SF := (sRet (eC (.bl true)))
def code_law : SF := (sSeq st_law_12 (sSeq st_law_13 (sSeq st_law_14 (sSeq st_law_15 (sSeq st_law_16 (sSeq st_law_17 (sSeq st_law_18 (sSeq st_law_19 (sSeq st_law_20 (sSeq st_law_21 (sSeq st_law_22 (sSeq st_law_23 (sSeq st_law_24 (sSeq st_law_25 (sSeq st_law_26 (sSeq st_law_27 (sSeq st_law_28 (sSeq st_law_29 (sSeq st_law_30 (sSeq st_law_31 (sSeq st_law_32 sNil)))))))))))))))))))))
def fn_law : Fn := runF code_law 20
end signworth_k22_slopes
namespace signworth_k22_slopes
open PySem PySem.Spec PyProof.Rows L2 MP
/-! ### pieces -/
theorem rng_pcs {u : Tx} {n : Nat} (hn : n ≤ u.length) : (rng 0 ((u.length : Int) - (n : Int) + 1).toNat 1) = (List.range (u.length + 1 - n)).map fun i : Nat => D.int (i : Int) := by
  unfold rng
  rw [show ((u.length : Int) - (n : Int) + 1).toNat = u.length + 1 - n by omega]
  refine List.map_congr_left fun i _ => ?_
  rw [Int.mul_one, Int.zero_add]
def kyD (d : D) : Ky := match d with | .str x => Sum.inr x | _ => Sum.inl 0
theorem e_pieces (u : Tx) (n : Nat) (hn : n ≤ u.length) (hu : u.length ≤ 1000) :
    fn_pieces [.im (.str u), .im (.int n)] = some (.fr (.lst ((dedup (pcs u n)).map D.str)), [.im (.str u), .im (.int n)]) := by
  have hb : u.length ≤ SL := by unfold SL; omega
  have hs : small ((u.length : Int) - (n : Int) + 1) = true := small_of (by omega) (by omega)
  have lc : eDc [2] (iR rng1 (aCons (pE (eOp fAdd (pE (eOp fSub (pE (eCall fLen (aCons (pV 0) aNil))) (pV 1))) (pE (eC (.int 1))))) aNil)) (gN 2) bTrue ck_pieces_0 cv_pieces_0 [.im (.str u), .im (.int n), .un]
      = some (.fr (.dk (((List.range (u.length + 1 - n)).map fun i : Nat => D.int (i : Int)).foldl (fun acc d => putD acc (match d with | .int i => .inr ((u.drop i.toNat).take n) | _ => .inl 0) (.bl true)) [])), [.im (.str u), .im (.int n), .un]) := by
    refine dc_map (e := [.im (.str u), .im (.int n), .un]) _ (fun _ => .bl true) ?_ (by simp; unfold SL; omega) fun d hd => ?_
    · rw [← rng_pcs hn]
      simp [hb, hs]
    · obtain ⟨i, hi, rfl⟩ := List.mem_map.mp hd
      have hi := List.mem_range.mp hi
      refine ⟨[.im (.str u), .im (.int n), .im (.int (i : Int))], .im (.str ((u.drop i).take n)), [.im (.str u), .im (.int n), .im (.int (i : Int))], .im (.bl true), [.im (.str u), .im (.int n), .im (.int (i : Int))], by simp, ?_, by simp, rfl, rfl, by simp⟩
      simp [ck_pieces_0, hb]
      exact cut_pc u i n (by omega)
  have e : (((List.range (u.length + 1 - n)).map fun i : Nat => D.int (i : Int)).foldl (fun acc d => putD acc (match d with | .int i => .inr ((u.drop i.toNat).take n) | _ => .inl 0) (.bl true)) []) = setD (dedup (pcs u n)) := by
    have := foldl_setD (pcs u n) []
    rw [show dedup (pcs u n) = (pcs u n).foldl (fun acc x => if x ∈ acc then acc else acc ++ [x]) [] from rfl, ← this]
    unfold pcs
    rw [List.map_map, List.foldl_map, List.foldl_map]
    rfl
  rw [e] at lc
  refine run_rt (seq_rt (e1 := [.im (.str u), .im (.int n), .un]) ?_) rfl
  simp [st_pieces_0, lc, keysD_setD]
theorem e_lpieces (u : Tx) (n : Nat) (hn : n ≤ u.length) (hu : u.length ≤ 1000) :
    fn_law_pieces [.im (.str u), .im (.int n)] = some (.fr (.lst ((setT (pcs u n)).map D.str)), [.im (.str u), .im (.int n)]) := by
  have hb : u.length ≤ SL := by unfold SL; omega
  have hs : small ((u.length : Int) - (n : Int) + 1) = true := small_of (by omega) (by omega)
  have lc : eLc [2] (iR rng1 (aCons (pE (eOp fAdd (pE (eOp fSub (pE (eCall fLen (aCons (pV 0) aNil))) (pV 1))) (pE (eC (.int 1))))) aNil)) (gN 2) bTrue ce_law_pieces_0 [.im (.str u), .im (.int n), .un]
      = some (.fr (.lst (((List.range (u.length + 1 - n)).map fun i : Nat => D.int (i : Int)).map fun d => match d with | .int i => .str ((u.drop i.toNat).take n) | _ => .non)), [.im (.str u), .im (.int n), .un]) := by
    refine lc_map (e := [.im (.str u), .im (.int n), .un]) _ ?_ (by simp; unfold SL; omega) fun d hd => ?_
    · rw [← rng_pcs hn]
      simp [hb, hs]
    · obtain ⟨i, hi, rfl⟩ := List.mem_map.mp hd
      have hi := List.mem_range.mp hi
      refine ⟨[.im (.str u), .im (.int n), .im (.int (i : Int))], .im (.str ((u.drop i).take n)), [.im (.str u), .im (.int n), .im (.int (i : Int))], by simp, ?_, rfl, by simp⟩
      simp [ce_law_pieces_0, hb]
      exact cut_pc u i n (by omega)
  have e : (((List.range (u.length + 1 - n)).map fun i : Nat => D.int (i : Int)).map fun d => match d with | .int i => D.str ((u.drop i.toNat).take n) | _ => .non) = (pcs u n).map D.str := by
    unfold pcs
    rw [List.map_map, List.map_map]
    rfl
  rw [e] at lc
  have hl : (pcs u n).length < 4000 := by rw [pcs_length]; omega
  refine run_rt (seq_rt (e1 := [.im (.str u), .im (.int n), .un]) ?_) rfl
  simp [st_law_pieces_0, lc, fSS, fSortSet, texts_map, hl]
end signworth_k22_slopes
namespace signworth_k22_slopes
open PySem PySem.Spec PyProof.Rows L2 MP
/-! ### the least size with a gap of two -/
def imb (u : Tx) (n : Nat) : Prop := ∃ x ∈ pcs u n, ∃ y ∈ pcs u n, y.count 98 + 2 ≤ x.count 98
theorem max_spec {xs : List Int} (h : xs ≠ []) : ∃ M, maxI xs = some M ∧ M ∈ xs ∧ ∀ y ∈ xs, y ≤ M := by
  cases xs with
  | nil => exact absurd rfl h
  | cons x r => exact ⟨_, rfl, foldl_max r x⟩
theorem min_spec {xs : List Int} (h : xs ≠ []) : ∃ M, minI xs = some M ∧ M ∈ xs ∧ ∀ y ∈ xs, M ≤ y := by
  cases xs with
  | nil => exact absurd rfl h
  | cons x r => exact ⟨_, rfl, foldl_min r x⟩
theorem e_least (u : Tx) (hu : u.length ≤ 1000) :
    (∃ s : Nat, fn_law_least [.im (.str u)] = some (.im (.int s), [.im (.str u)]) ∧ 1 ≤ s ∧ s ≤ u.length ∧ imb u s ∧ ∀ m, 1 ≤ m → m < s → ¬ imb u m) ∨
    (fn_law_least [.im (.str u)] = some (.im .non, [.im (.str u)]) ∧ ∀ m, 1 ≤ m → ¬ imb u m) := by
  have hb : u.length ≤ SL := by unfold SL; omega
  have hs : small ((u.length : Int) + 1) = true := small_of (by omega) (by omega)
  have it : iR rng2 (aCons (pE (eC (.int 1))) (aCons (pE (eOp fAdd (pE (eCall fLen (aCons (pV 0) aNil))) (pE (eC (.int 1))))) aNil)) [.im (.str u), .un, .un, .un] = some (rng 1 u.length 1, [.im (.str u), .un, .un, .un]) := by
    simp [hb, hs]
  rcases forF_ind (g := gN 1) (f := bk_law_least_1) (fun j env => ∃ c1 c2 : C, env = [.im (.str u), c1, c2, .un] ∧ c1.free = true ∧ c2.free = true ∧ ∀ m, 1 ≤ m → m ≤ j → ¬ imb u m) (fun _ => False)
      (fun r env => ∃ (s : Nat) (c1 c2 : C), r = .im (.int s) ∧ env = [.im (.str u), c1, c2, .un] ∧ 1 ≤ s ∧ s ≤ u.length ∧ imb u s ∧ ∀ m, 1 ≤ m → m < s → ¬ imb u m)
      (rng 1 u.length 1) 0 [.im (.str u), .un, .un, .un] ⟨.un, .un, rfl, rfl, rfl, fun m h1 h2 => by omega⟩ fun j d env hj hp => by
    rw [Nat.zero_add] at hp ⊢
    obtain ⟨c1, c2, rfl, f1, f2, hm⟩ := hp
    obtain ⟨hjk, rfl⟩ := rngG hj
    rw [show (1 : Int) + (j : Int) * 1 = ((j + 1 : Nat) : Int) by omega]
    have lc : eLc [3] (iE (eFn fn_law_pieces (aCons (pE (eV 0)) (aCons (pE (eV 1)) aNil)))) (gN 3) bTrue ce_law_least_0 [.im (.str u), .im (.int ((j + 1 : Nat) : Int)), c2, .un]
        = some (.fr (.lst (((setT (pcs u (j + 1))).map D.str).map fun d => match d with | .str x => .int ((x.count 98 : Nat) : Int) | _ => .non)), [.im (.str u), .im (.int ((j + 1 : Nat) : Int)), c2, .un]) := by
      refine lc_map (e := [.im (.str u), .im (.int ((j + 1 : Nat) : Int)), c2, .un]) _ ?_ ?_ fun d hd => ?_
      · have := e_lpieces u (j + 1) hjk hu
        simp at this
        simp [this]
      · have := setT_len (pcs u (j + 1))
        rw [pcs_length] at this
        rw [List.length_map]
        unfold SL
        omega
      · obtain ⟨x, hx, rfl⟩ := List.mem_map.mp hd
        refine ⟨[.im (.str u), .im (.int ((j + 1 : Nat) : Int)), c2, .im (.str x)], .im (.int ((x.count 98 : Nat) : Int)), _, by simp, by simp [ce_law_least_0, cnt_one]; exact rfl, rfl, by simp⟩
    rw [List.map_map] at lc
    rw [show (setT (pcs u (j + 1))).map ((fun d => match d with | .str x => D.int ((x.count 98 : Nat) : Int) | _ => .non) ∘ D.str) = ((setT (pcs u (j + 1))).map fun x => ((x.count 98 : Nat) : Int)).map D.int by rw [List.map_map]; rfl] at lc
    generalize hcs : ((setT (pcs u (j + 1))).map fun x => ((x.count 98 : Nat) : Int)) = cs at lc
    have hmem : ∀ z, z ∈ cs ↔ ∃ x ∈ pcs u (j + 1), ((x.count 98 : Nat) : Int) = z := fun z => by
      rw [← hcs, List.mem_map]
      exact ⟨fun ⟨x, h1, h2⟩ => ⟨x, setT_mem.mp h1, h2⟩, fun ⟨x, h1, h2⟩ => ⟨x, setT_mem.mpr h1, h2⟩⟩
    have hne : cs ≠ [] := fun q => by
      have : (u.drop 0).take (j + 1) ∈ pcs u (j + 1) := mem_pcs.mpr ⟨0, by omega, rfl⟩
      have := (hmem _).mpr ⟨_, this, rfl⟩
      rw [q] at this
      cases this
    obtain ⟨M, hM, M1, M2⟩ := max_spec hne
    obtain ⟨N, hN, N1, N2⟩ := min_spec hne
    have himb : 1 < M - N ↔ imb u (j + 1) := by
      constructor
      · intro h
        obtain ⟨x, hx, rfl⟩ := (hmem _).mp M1
        obtain ⟨y, hy, rfl⟩ := (hmem _).mp N1
        exact ⟨x, hx, y, hy, by omega⟩
      · rintro ⟨x, hx, y, hy, h⟩
        have h1 := M2 _ ((hmem _).mpr ⟨x, hx, rfl⟩)
        have h2 := N2 _ ((hmem _).mpr ⟨y, hy, rfl⟩)
        omega
    have s1 : st_law_least_1 [.im (.str u), .im (.int ((j + 1 : Nat) : Int)), c2, .un] = some (.nx, [.im (.str u), .im (.int ((j + 1 : Nat) : Int)), .ow (.lst (cs.map D.int)), .un]) := by
      simp only [st_law_least_1, x_sAsg, lc]
      simp [f2]
    by_cases hq : 1 < M - N
    · refine ⟨[.im (.str u), .im (.int ((j + 1 : Nat) : Int)), c2, .un], .rt (.im (.int ((j + 1 : Nat) : Int))), _, by simp [f1], seq_nx s1 (seq_rt (e1 := [.im (.str u), .im (.int ((j + 1 : Nat) : Int)), .ow (.lst (cs.map D.int)), .un]) ?_), ⟨j + 1, _, _, rfl, rfl, by omega, hjk, himb.mp hq, fun m h1 h2 => hm m h1 (by omega)⟩⟩
      simp [st_law_least_2, bk_law_least_0, st_law_least_0, fMax1, fMin1, fIntsL, intsL_map, hM, hN, hq]
    · refine ⟨[.im (.str u), .im (.int ((j + 1 : Nat) : Int)), c2, .un], .nx, [.im (.str u), .im (.int ((j + 1 : Nat) : Int)), .ow (.lst (cs.map D.int)), .un], by simp [f1], seq_nx s1 (seq_nx (e1 := [.im (.str u), .im (.int ((j + 1 : Nat) : Int)), .ow (.lst (cs.map D.int)), .un]) ?_ rfl), ⟨_, _, rfl, rfl, rfl, fun m h1 h2 => ?_⟩⟩
      · simp [st_law_least_2, bk_law_least_0, st_law_least_0, fMax1, fMin1, fIntsL, intsL_map, hM, hN, hq]
      · by_cases e : m = j + 1
        · subst e; exact fun q => hq (himb.mpr q)
        · exact hm m h1 (by omega)
  with ⟨e, h1, h2⟩ | ⟨r, e, h1, s, c1, c2, rfl, rfl, h3, h4, h5, h6⟩
  · rcases h2 with ⟨c1, c2, rfl, f1, f2, hm⟩ | h2
    · refine .inr ⟨run_rt (seq_nx (e1 := [.im (.str u), c1, c2, .un]) ?_ (seq_rt (e1 := [.im (.str u), c1, c2, .un]) ?_)) rfl, fun m h1 => ?_⟩
      · simp only [st_law_least_3, x_sFor]
        rw [show env0 4 [Arg.im (.str u)] = [.im (.str u), .un, .un, .un] from rfl, it]
        exact h1
      · simp [st_law_least_4]
      · by_cases hml : m ≤ u.length
        · exact hm m h1 (by rw [Nat.zero_add, rngL]; exact hml)
        · rintro ⟨x, hx, _⟩
          exact hml (pcs_le hx)
    · exact h2.elim
  · refine .inl ⟨s, run_rt (seq_rt (e1 := [.im (.str u), c1, c2, .un]) ?_) rfl, h3, h4, h5, h6⟩
    simp only [st_law_least_3, x_sFor]
    rw [show env0 4 [Arg.im (.str u)] = [.im (.str u), .un, .un, .un] from rfl, it]
    exact h1
end signworth_k22_slopes
namespace signworth_k22_slopes
open PySem PySem.Spec PyProof.Rows L2 MP
/-! ### a gap of two, least, is a pair awa, bwb -/
def pr (u : Tx) (n : Nat) : Prop := ∃ w, 97 :: (w ++ [97]) ∈ pcs u n ∧ 98 :: (w ++ [98]) ∈ pcs u n
def isAB (u : Tx) : Prop := ∀ c ∈ u, c = 97 ∨ c = 98
theorem pr_imb {u : Tx} {n : Nat} (h : pr u n) : imb u n ∧ 2 ≤ n := by
  obtain ⟨w, h1, h2⟩ := h
  refine ⟨⟨_, h2, _, h1, ?_⟩, ?_⟩
  · simp [List.count_cons, List.count_append]
  · have := pcs_len h1
    simp at this
    omega
theorem first_diff : ∀ (x y : Tx), x.length = y.length → x = y ∨ ∃ p c d r r', x = p ++ c :: r ∧ y = p ++ d :: r' ∧ c ≠ d ∧ r.length = r'.length
  | [], [], _ => .inl rfl
  | [], _ :: _, h => by cases h
  | _ :: _, [], h => by cases h
  | a :: x, b :: y, h => by
    by_cases e : a = b
    · subst e
      rcases first_diff x y (by simpa using h) with rfl | ⟨p, c, d, r, r', rfl, rfl, h1, h2⟩
      · exact .inl rfl
      · exact .inr ⟨a :: p, c, d, r, r', rfl, rfl, h1, h2⟩
    · exact .inr ⟨[], a, b, x, y, rfl, rfl, e, by simpa using h⟩
theorem imb_pr {u : Tx} {s : Nat} (hab : isAB u) (hs : 1 ≤ s) (h : imb u s) (hm : ∀ m, 1 ≤ m → m < s → ¬ imb u m) : pr u s := by
  obtain ⟨x, hx, y, hy, hc⟩ := h
  have fx : ∃ p q, u = p ++ x ++ q := (mem_pcs_iff.mp hx).2
  have fy : ∃ p q, u = p ++ y ++ q := (mem_pcs_iff.mp hy).2
  have lx := pcs_len hx
  have ly := pcs_len hy
  have H : ∀ z z' : Tx, z.length = z'.length → z.length < s → (∃ p q, u = p ++ z ++ q) → (∃ p q, u = p ++ z' ++ q) → ¬ (z'.count 98 + 2 ≤ z.count 98) := by
    intro z z' hl hlt fz fz' hcc
    by_cases h0 : z.length = 0
    · have : z = [] := List.length_eq_zero_iff.mp h0
      subst this
      simp at hcc
    · exact hm z.length (by omega) hlt ⟨z, mem_pcs_iff.mpr ⟨rfl, fz⟩, z', mem_pcs_iff.mpr ⟨hl.symm, fz'⟩, hcc⟩
  have inx : ∀ c ∈ x, c = 97 ∨ c = 98 := fun c hcx => by
    obtain ⟨p, q, e⟩ := fx
    exact hab c (by rw [e]; simp [hcx])
  have iny : ∀ c ∈ y, c = 97 ∨ c = 98 := fun c hcx => by
    obtain ⟨p, q, e⟩ := fy
    exact hab c (by rw [e]; simp [hcx])
  -- the first letters
  cases x with
  | nil => simp at lx; omega
  | cons a x1 =>
  cases y with
  | nil => simp at ly; omega
  | cons b y1 =>
  have hx1 : ∃ p q, u = p ++ x1 ++ q := by
    obtain ⟨p, q, e⟩ := fx
    exact ⟨p ++ [a], q, by rw [e]; simp⟩
  have hy1 : ∃ p q, u = p ++ y1 ++ q := by
    obtain ⟨p, q, e⟩ := fy
    exact ⟨p ++ [b], q, by rw [e]; simp⟩
  simp at lx ly
  have h1 := H x1 y1 (by omega) (by omega) hx1 hy1
  have ha := inx a List.mem_cons_self
  have hb := iny b List.mem_cons_self
  have e1 : a = 98 ∧ b = 97 := by
    rcases ha with rfl | rfl <;> rcases hb with rfl | rfl <;> simp [List.count_cons] at hc <;> first | exact ⟨rfl, rfl⟩ | omega
  obtain ⟨rfl, rfl⟩ := e1
  simp [List.count_cons] at hc
  -- the last letters
  rcases List.eq_nil_or_concat x1 with rfl | ⟨x2, c, rfl⟩
  · simp at hc
  rcases List.eq_nil_or_concat y1 with rfl | ⟨y2, d, rfl⟩
  · simp at lx ly; omega
  rw [List.concat_eq_append] at *
  rw [List.concat_eq_append] at *
  simp at lx ly
  have hx2 : ∃ p q, u = p ++ (98 :: x2) ++ q := by
    obtain ⟨p, q, e⟩ := fx
    exact ⟨p, [c] ++ q, by rw [e]; simp⟩
  have hy2 : ∃ p q, u = p ++ (97 :: y2) ++ q := by
    obtain ⟨p, q, e⟩ := fy
    exact ⟨p, [d] ++ q, by rw [e]; simp⟩
  have h2 := H (98 :: x2) (97 :: y2) (by simp; omega) (by simp; omega) hx2 hy2
  simp [List.count_cons] at h2
  have hcc := inx c (by simp)
  have hdd := iny d (by simp)
  have e2 : c = 98 ∧ d = 97 := by
    rcases hcc with rfl | rfl <;> rcases hdd with rfl | rfl <;> simp [List.count_cons, List.count_append] at hc <;> first | exact ⟨rfl, rfl⟩ | omega
  obtain ⟨rfl, rfl⟩ := e2
  simp [List.count_append] at hc
  rcases first_diff x2 y2 (by omega) with rfl | ⟨p, c, d, r, r', rfl, rfl, hne, hlr⟩
  · exact ⟨x2, hy, hx⟩
  · exfalso
    have hc2 := inx c (by simp)
    have hd2 := iny d (by simp)
    simp at lx ly
    simp [List.count_cons, List.count_append] at hc
    rcases hc2 with rfl | rfl <;> rcases hd2 with rfl | rfl
    · exact hne rfl
    · -- c = a, d = b
      refine H (r ++ [98]) (r' ++ [97]) (by simp [hlr]) (by simp; omega) ?_ ?_ ?_
      · obtain ⟨p', q, e⟩ := fx
        exact ⟨p' ++ (98 :: (p ++ [97])), q, by rw [e]; simp⟩
      · obtain ⟨p', q, e⟩ := fy
        exact ⟨p' ++ (97 :: (p ++ [98])), q, by rw [e]; simp⟩
      · simp [List.count_append]
        simp at hc
        omega
    · refine H (98 :: (p ++ [98])) (97 :: (p ++ [97])) (by simp) (by simp; omega) ?_ ?_ ?_
      · obtain ⟨p', q, e⟩ := fx
        exact ⟨p', r ++ [98] ++ q, by rw [e]; simp⟩
      · obtain ⟨p', q, e⟩ := fy
        exact ⟨p', r' ++ [97] ++ q, by rw [e]; simp⟩
      · simp [List.count_cons, List.count_append]
    · exact hne rfl
end signworth_k22_slopes
namespace signworth_k22_slopes
open PySem PySem.Spec PyProof.Rows L2 MP
/-! ### balanced_paper -/
theorem two_ends {x : Tx} (h : 2 ≤ x.length) : ∃ a w b, x = a :: (w ++ [b]) := by
  cases x with
  | nil => simp at h
  | cons a r =>
    rcases List.eq_nil_or_concat r with rfl | ⟨w, b, rfl⟩
    · simp at h
    · exact ⟨a, w, b, by rw [List.concat_eq_append]⟩
theorem mid_cut (a b : Nat) (w : Tx) : cutT (a :: (w ++ [b])) (some 1) (some (-1)) = w := by
  unfold cutT
  rw [show HT.sIx (a :: (w ++ [b])).length 0 (some 1) = min 1 (a :: (w ++ [b])).length from HT.sIx_nat _ _ 1]
  have e : HT.sIx (a :: (w ++ [b])).length (a :: (w ++ [b])).length (some (-1)) = w.length + 1 := by
    unfold HT.sIx
    simp only []
    rw [if_pos (by omega)]
    simp
    omega
  rw [e]
  simp
theorem last_of (a b : Nat) (w : Tx) : (a :: (w ++ [b])).getLast? = some b := by
  rw [← List.cons_append, List.getLast?_append]; rfl
def tUn : Tx := [117, 110, 98, 97, 108, 97, 110, 99, 101, 100]
def tBa : Tx := [98, 97, 108, 97, 110, 99, 101, 100]
theorem e_paper (u : Tx) (hu : u.length ≤ 60) :
    (∃ n w, 2 ≤ n ∧ n ≤ u.length ∧ 97 :: (w ++ [97]) ∈ pcs u n ∧ 98 :: (w ++ [98]) ∈ pcs u n ∧ (∀ m, 2 ≤ m → m < n → ¬ pr u m) ∧
      fn_balanced_paper [.im (.str u)] = some (.im (.tup [.str tUn, .str (97 :: (w ++ [97])), .str (98 :: (w ++ [98]))]), [.im (.str u)])) ∨
    ((∀ m, 2 ≤ m → ¬ pr u m) ∧ fn_balanced_paper [.im (.str u)] = some (.im (.tup [.str tBa]), [.im (.str u)])) := by
  have hb : u.length ≤ SL := by unfold SL; omega
  have hs : small ((u.length : Int) + 1) = true := small_of (by omega) (by omega)
  have it : iR rng2 (aCons (pE (eC (.int 2))) (aCons (pE (eOp fAdd (pE (eCall fLen (aCons (pV 0) aNil))) (pE (eC (.int 1))))) aNil)) [.im (.str u), .un, .un, .un, .un] = some (rng 2 (u.length - 1) 1, [.im (.str u), .un, .un, .un, .un]) := by
    simp [hb, hs]
    congr 1
    omega
  rcases forF_ind (g := gN 1) (f := bk_balanced_paper_2) (fun j env => ∃ c1 c2 c3 c4 : C, env = [.im (.str u), c1, c2, c3, c4] ∧ c1.free = true ∧ c2.free = true ∧ c3.free = true ∧ c3.fz = c3 ∧ c4.free = true ∧ ∀ m, 2 ≤ m → m ≤ j + 1 → ¬ pr u m) (fun _ => False)
      (fun r env => ∃ (n : Nat) (w : Tx), r = .im (.tup [.str tUn, .str (97 :: (w ++ [97])), .str (98 :: (w ++ [98]))]) ∧ outs [.im (.str u)] env = some [.im (.str u)] ∧ 2 ≤ n ∧ n ≤ u.length ∧ 97 :: (w ++ [97]) ∈ pcs u n ∧ 98 :: (w ++ [98]) ∈ pcs u n ∧ ∀ m, 2 ≤ m → m < n → ¬ pr u m)
      (rng 2 (u.length - 1) 1) 0 [.im (.str u), .un, .un, .un, .un] ⟨.un, .un, .un, .un, rfl, rfl, rfl, rfl, rfl, rfl, fun m h1 h2 => by omega⟩ fun j d env hj hp => by
    rw [Nat.zero_add] at hp ⊢
    obtain ⟨c1, c2, c3, c4, rfl, f1, f2, f3, z3, f4, hm⟩ := hp
    obtain ⟨hjk, rfl⟩ := rngG hj
    rw [show (2 : Int) + (j : Int) * 1 = ((j + 2 : Nat) : Int) by omega]
    have hn : j + 2 ≤ u.length := by omega
    have lc : eDc [3] (iE (eFn fn_pieces (aCons (pE (eV 0)) (aCons (pE (eV 1)) aNil)))) (gN 3) bTrue ck_balanced_paper_0 cv_balanced_paper_0 [.im (.str u), .im (.int ((j + 2 : Nat) : Int)), c2, c3, c4]
        = some (.fr (.dk (((dedup (pcs u (j + 2))).map D.str).foldl (fun acc d => putD acc (txK d) (.bl true)) [])), [.im (.str u), .im (.int ((j + 2 : Nat) : Int)), c2, c3, c4]) := by
      have z : fzs [C.im (.str u), .im (.int ((j + 2 : Nat) : Int)), c2, c3, c4] [3] = [.im (.str u), .im (.int ((j + 2 : Nat) : Int)), c2, c3, c4] := by simp [z3]
      have := dc_map (is := [3]) (it := iE (eFn fn_pieces (aCons (pE (eV 0)) (aCons (pE (eV 1)) aNil)))) (g := gN 3) (f := ck_balanced_paper_0) (h := cv_balanced_paper_0) (env := [.im (.str u), .im (.int ((j + 2 : Nat) : Int)), c2, c3, c4]) (e := [.im (.str u), .im (.int ((j + 2 : Nat) : Int)), c2, c3, c4])
        (ds := (dedup (pcs u (j + 2))).map D.str) txK (fun _ => .bl true) (by
          have := e_pieces u (j + 2) hn (by omega)
          simp at this
          simp [this]) (by
          have := dedup_len (pcs u (j + 2))
          rw [pcs_length] at this
          rw [List.length_map]
          unfold SL
          omega) fun d hd => by
        obtain ⟨x, hx, rfl⟩ := List.mem_map.mp hd
        rw [z]
        exact ⟨[.im (.str u), .im (.int ((j + 2 : Nat) : Int)), c2, .im (.str x), c4], .im (.str x), [.im (.str u), .im (.int ((j + 2 : Nat) : Int)), c2, .im (.str x), c4], .im (.bl true), [.im (.str u), .im (.int ((j + 2 : Nat) : Int)), c2, .im (.str x), c4], by simp, by simp [ck_balanced_paper_0], rfl, by simp [cv_balanced_paper_0], rfl, by simp⟩
      rw [z] at this
      exact this
    have e := foldl_setD (dedup (pcs u (j + 2))) []
    rw [show setD [] = [] from rfl] at e
    rw [e, show (dedup (pcs u (j + 2))).foldl (fun acc x => if x ∈ acc then acc else acc ++ [x]) [] = dedup (dedup (pcs u (j + 2))) from rfl, dedup_nodup (nodup_dedup _)] at lc
    have s1 : st_balanced_paper_3 [.im (.str u), .im (.int ((j + 2 : Nat) : Int)), c2, c3, c4] = some (.nx, [.im (.str u), .im (.int ((j + 2 : Nat) : Int)), .ow (.dk (setD (dedup (pcs u (j + 2))))), c3, c4]) := by
      simp only [st_balanced_paper_3, x_sAsg, lc]
      simp [f2]
    have hl64 : (dedup (pcs u (j + 2))).length < 64 := by
      have := dedup_len (pcs u (j + 2))
      rw [pcs_length] at this
      omega
    have it2 : iE (eCall fSorted (aCons (pV 2) aNil)) [.im (.str u), .im (.int ((j + 2 : Nat) : Int)), .ow (.dk (setD (dedup (pcs u (j + 2))))), c3, c4] = some ((setT (pcs u (j + 2))).map D.str, [.im (.str u), .im (.int ((j + 2 : Nat) : Int)), .ow (.dk (setD (dedup (pcs u (j + 2))))), c3, c4]) := by
      simp [fSorted, keyTexts_setD, hl64, sort_dedup]
    rcases forF_ind (g := gN 3) (f := bk_balanced_paper_1) (fun i env => ∃ c3 c4 : C, env = [.im (.str u), .im (.int ((j + 2 : Nat) : Int)), .ow (.dk (setD (dedup (pcs u (j + 2))))), c3, c4] ∧ c3.free = true ∧ c3.fz = c3 ∧ c4.free = true ∧ ∀ k, k < i → ∀ w, (setT (pcs u (j + 2)))[k]? = some (97 :: (w ++ [97])) → 98 :: (w ++ [98]) ∉ pcs u (j + 2)) (fun _ => False)
      (fun r env => ∃ (w : Tx), r = .im (.tup [.str tUn, .str (97 :: (w ++ [97])), .str (98 :: (w ++ [98]))]) ∧ outs [.im (.str u)] env = some [.im (.str u)] ∧ 97 :: (w ++ [97]) ∈ pcs u (j + 2) ∧ 98 :: (w ++ [98]) ∈ pcs u (j + 2))
      ((setT (pcs u (j + 2))).map D.str) 0 _ ⟨c3, c4, rfl, f3, z3, f4, fun k hk => by omega⟩ fun i d env hi hp => by
        rw [Nat.zero_add] at hp ⊢
        obtain ⟨c3, c4, rfl, f3, z3, f4, hk⟩ := hp
        rw [List.getElem?_map] at hi
        obtain ⟨x, hx, rfl⟩ := Option.map_eq_some_iff.mp hi
        have hxm : x ∈ pcs u (j + 2) := setT_mem.mp (List.mem_of_getElem? hx)
        have hxl := pcs_len hxm
        obtain ⟨a, w, b, rfl⟩ := two_ends (by omega : 2 ≤ x.length)
        simp at hxl
        have hwl : w.length + 1 + 1 ≤ SL := by unfold SL; omega
        have hwl1 : 1 + w.length ≤ SL := by unfold SL; omega
        have hwl2 : w.length + 1 ≤ SL := by unfold SL; omega
        have t1 : st_balanced_paper_1 [.im (.str u), .im (.int ((j + 2 : Nat) : Int)), .ow (.dk (setD (dedup (pcs u (j + 2))))), .im (.str (a :: (w ++ [b]))), c4] = some (.nx, [.im (.str u), .im (.int ((j + 2 : Nat) : Int)), .ow (.dk (setD (dedup (pcs u (j + 2))))), .im (.str (a :: (w ++ [b]))), .im (.str (98 :: (w ++ [98])))]) := by
          simp [st_balanced_paper_1, hwl, hwl1, hwl2, mid_cut, f4]
        by_cases hq : a = 97 ∧ b = 97 ∧ 98 :: (w ++ [98]) ∈ pcs u (j + 2)
        · obtain ⟨rfl, rfl, hq⟩ := hq
          refine ⟨[.im (.str u), .im (.int ((j + 2 : Nat) : Int)), .ow (.dk (setD (dedup (pcs u (j + 2))))), .im (.str (97 :: (w ++ [97]))), c4], .rt _, _, by simp [f3], seq_nx t1 (seq_rt (if_tt (e1 := [.im (.str u), .im (.int ((j + 2 : Nat) : Int)), .ow (.dk (setD (dedup (pcs u (j + 2))))), .im (.str (97 :: (w ++ [97]))), .im (.str (98 :: (w ++ [98])))]) ?_ (seq_rt (r := .im (.tup [.str tUn, .str (97 :: (w ++ [97])), .str (98 :: (w ++ [98]))])) (e1 := [.im (.str u), .im (.int ((j + 2 : Nat) : Int)), .ow (.dk (setD (dedup (pcs u (j + 2))))), .im (.str (97 :: (w ++ [97]))), .im (.str (98 :: (w ++ [98])))]) ?_))), ⟨w, rfl, rfl, hxm, hq⟩⟩
          · simp [hwl, last_of, lkD_setD, mem_dedup, hq]
          · simp [st_balanced_paper_0, tUn, SL]
        · refine ⟨[.im (.str u), .im (.int ((j + 2 : Nat) : Int)), .ow (.dk (setD (dedup (pcs u (j + 2))))), .im (.str (a :: (w ++ [b]))), c4], .nx, [.im (.str u), .im (.int ((j + 2 : Nat) : Int)), .ow (.dk (setD (dedup (pcs u (j + 2))))), .im (.str (a :: (w ++ [b]))), .im (.str (98 :: (w ++ [98])))], by simp [f3], seq_nx t1 (seq_nx (if_ff (e1 := [.im (.str u), .im (.int ((j + 2 : Nat) : Int)), .ow (.dk (setD (dedup (pcs u (j + 2))))), .im (.str (a :: (w ++ [b]))), .im (.str (98 :: (w ++ [98])))]) ?_ rfl) rfl), ⟨_, _, rfl, rfl, rfl, rfl, fun k hk' w' hw' => ?_⟩⟩
          · by_cases ha : a = 97
            · by_cases hb2 : b = 97
              · have : 98 :: (w ++ [98]) ∉ pcs u (j + 2) := fun q => hq ⟨ha, hb2, q⟩
                simp [hwl, last_of, lkD_setD, mem_dedup, this, ha, hb2]
              · have hb3 : (b == 97) = false := by simpa using hb2
                simp [hwl, last_of, ha, hb3]
            · have ha3 : (a == 97) = false := by simpa using ha
              simp [hwl, ha3]
          · by_cases e : k = i
            · subst e
              rw [hx] at hw'
              injection hw' with hw'
              injection hw' with h1 h2
              have h3 := List.append_inj' h2 rfl
              obtain ⟨rfl, h3⟩ := h3
              injection h3 with h3
              exact fun q => hq ⟨h1, h3, q⟩
            · exact hk k (by omega) w' hw'
    with ⟨e, h1, h2⟩ | ⟨r, e, h1, w, rfl, h2, h3, h4⟩
    · rcases h2 with ⟨c3', c4', rfl, g3, w3, g4, hk⟩ | h2
      · refine ⟨[.im (.str u), .im (.int ((j + 2 : Nat) : Int)), c2, c3, c4], .nx, [.im (.str u), .im (.int ((j + 2 : Nat) : Int)), .ow (.dk (setD (dedup (pcs u (j + 2))))), c3', c4'], by simp [f1], seq_nx s1 (seq_nx (e1 := [.im (.str u), .im (.int ((j + 2 : Nat) : Int)), .ow (.dk (setD (dedup (pcs u (j + 2))))), c3', c4']) ?_ rfl), ⟨_, _, _, _, rfl, rfl, rfl, g3, w3, g4, fun m m1 m2 => ?_⟩⟩
        · simp only [st_balanced_paper_4, x_sFor, it2]
          exact h1
        · by_cases e : m = j + 2
          · subst e
            rintro ⟨w, p1, p2⟩
            obtain ⟨k, hk1, hk2⟩ := List.getElem_of_mem (setT_mem.mpr p1)
            exact hk k (by rw [Nat.zero_add, List.length_map]; exact hk1) w (by rw [List.getElem?_eq_getElem hk1, hk2]) p2
          · exact hm m m1 (by omega)
      · exact h2.elim
    · refine ⟨[.im (.str u), .im (.int ((j + 2 : Nat) : Int)), c2, c3, c4], .rt _, e, by simp [f1], seq_nx s1 (seq_rt ?_), ⟨j + 2, w, rfl, h2, by omega, hn, h3, h4, fun m m1 m2 => hm m m1 (by omega)⟩⟩
      simp only [st_balanced_paper_4, x_sFor, it2]
      exact h1
  with ⟨e, h1, h2⟩ | ⟨r, e, h1, n, w, rfl, h2, h3, h4, h5, h6, h7⟩
  · rcases h2 with ⟨c1, c2, c3, c4, rfl, f1, f2, f3, z3, f4, hm⟩ | h2
    · refine .inr ⟨fun m h1 => ?_, run_rt (seq_nx (e1 := [.im (.str u), c1, c2, c3, c4]) ?_ (seq_rt (e1 := [.im (.str u), c1, c2, c3, c4]) ?_)) rfl⟩
      · by_cases hml : m ≤ u.length
        · exact hm m h1 (by rw [Nat.zero_add, rngL]; omega)
        · rintro ⟨w, hx, _⟩
          exact hml (pcs_le hx)
      · simp only [st_balanced_paper_5, x_sFor]
        rw [show env0 5 [Arg.im (.str u)] = [.im (.str u), .un, .un, .un, .un] from rfl, it]
        exact h1
      · simp [st_balanced_paper_6, tBa, SL]
    · exact h2.elim
  · refine .inl ⟨n, w, h3, h4, h5, h6, h7, run_rt (seq_rt (e1 := e) ?_) h2⟩
    simp only [st_balanced_paper_5, x_sFor]
    rw [show env0 5 [Arg.im (.str u)] = [.im (.str u), .un, .un, .un, .un] from rfl, it]
    exact h1
end signworth_k22_slopes
namespace signworth_k22_slopes
open PySem PySem.Spec PyProof.Rows L2 MP
/-! ### the judges -/
/-- the right papers -/
def Gd22 (u : Tx) (vs : List Tx) : Prop := (vs = [tBa] ∧ ∀ m, 2 ≤ m → ¬ pr u m) ∨ ∃ n w, 2 ≤ n ∧ vs = [tUn, 97 :: (w ++ [97]), 98 :: (w ++ [98])] ∧ 97 :: (w ++ [97]) ∈ pcs u n ∧ 98 :: (w ++ [98]) ∈ pcs u n ∧ ∀ m, 2 ≤ m → m < n → ¬ pr u m
def uni (x : Tx) : Prop := ∀ c ∈ x, c < 1114112
theorem okE_txts {vs : List Tx} (h : ∀ v ∈ vs, uni v) : (D.tup (vs.map D.str)).okE = true := by
  unfold D.okE
  have h1 : (D.tup (vs.map D.str)).plain = true := tames_plains (tames_texts vs h)
  rw [h1, Bool.true_and, decide_eq_true_eq, D.dep, deps_flat D.str (fun _ => rfl)]
  omega
theorem eqPs_txts : ∀ (a b : List Tx), eqPs (a.map D.str) (b.map D.str) = (a == b)
  | [], [] => rfl
  | [], _ :: _ => rfl
  | _ :: _, [] => rfl
  | x :: a, y :: b => by
    rw [List.map_cons, List.map_cons, eqPs, eqPs_txts a b, List.cons_beq_cons]
    rfl
theorem eqD_txts {a b : List Tx} (ha : ∀ v ∈ a, uni v) (hb : ∀ v ∈ b, uni v) : eqD (.tup (a.map D.str)) (.tup (b.map D.str)) = some (a == b) := by
  rw [eqD_plain rfl (okE_txts ha) (okE_txts hb)]
  show some (eqPs _ _) = _
  rw [eqPs_txts]
theorem isi_tup (x : List D) : fIsi [.tup x, .ty "tuple"] = some (.im (.bl true)) := by simp [fIsi, D.tyName, isiB]
theorem isi_str (x : Tx) : fIsi [.str x, .ty "str"] = some (.im (.bl true)) := by simp [fIsi, D.tyName, isiB]
theorem bools_true {α : Type} (vs : List α) : bools (vs.map fun _ => D.bl true) = some (vs.map fun _ => true) := by
  induction vs with
  | nil => rfl
  | cons x r ih => rw [List.map_cons, bools, ih]; rfl
theorem all_true {α : Type} (vs : List α) : fAll [.lst (vs.map fun _ => D.bl true)] = some (.im (.bl true)) := by
  unfold fAll fBoolsL
  simp only [bools_true]
  simp
theorem uni_pc {u x : Tx} {n : Nat} (hu : uni u) (h : x ∈ pcs u n) : uni x := by
  obtain ⟨_, p, q, rfl⟩ := mem_pcs_iff.mp h
  intro c hc
  exact hu c (by simp [hc])
theorem e_judge (u : Tx) (hu : u.length ≤ 60) (hun : uni u) (vs : List Tx) (hv : ∀ v ∈ vs, uni v) (hl : ∀ v ∈ vs, v.length ≤ 1000) (hvl : vs.length ≤ 10) :
    ∃ k, fn_judge_balanced [.im (.str u), .im (.tup (vs.map D.str))] = some (.im (.bl k), [.im (.str u), .im (.tup (vs.map D.str))]) ∧ (k = true ↔ Gd22 u vs) := by
  have hb : u.length ≤ SL := by unfold SL; omega
  have lc : ∀ c3 c4 : C, eLc [2] (iE (eV 1)) (gN 2) bTrue ce_judge_balanced_0 [.im (.str u), .im (.tup (vs.map D.str)), .un, c3, c4] = some (.fr (.lst (vs.map fun _ => D.bl true)), [.im (.str u), .im (.tup (vs.map D.str)), .un, c3, c4]) := fun c3 c4 => by
    rw [show (vs.map fun _ => D.bl true) = (vs.map D.str).map fun _ => D.bl true by rw [List.map_map]; rfl]
    refine lc_map (e := [.im (.str u), .im (.tup (vs.map D.str)), .un, c3, c4]) _ (by simp) (by rw [List.length_map]; unfold SL; omega) fun d hd => ?_
    obtain ⟨x, hx, rfl⟩ := List.mem_map.mp hd
    exact ⟨[.im (.str u), .im (.tup (vs.map D.str)), .im (.str x), c3, c4], .im (.bl true), _, by simp, by simp [ce_judge_balanced_0, isi_str]; exact rfl, rfl, by simp⟩
  by_cases h13 : vs.length = 1 ∨ vs.length = 3
  · -- the first question lets it pass
    have s5 : st_judge_balanced_5 [.im (.str u), .im (.tup (vs.map D.str)), .un, .un, .un] = some (.nx, [.im (.str u), .im (.tup (vs.map D.str)), .un, .un, .un]) := by
      have hin : fInB (.int (vs.length : Int)) (.tup [.int 1, .int 3]) = some true := by
        rcases h13 with h | h <;> rw [h] <;> rfl
      refine if_ff (e1 := [.im (.str u), .im (.tup (vs.map D.str)), .un, .un, .un]) ?_ rfl
      simp [isi_tup, hin, lc, all_true, SL]
    rcases vs with _ | ⟨a, _ | ⟨b, _ | ⟨c, _ | ⟨d, r⟩⟩⟩⟩
    · simp at h13
    · -- one text
      by_cases ha : a = tBa
      · subst ha
        have s6 : ∀ k r, fn_balanced_paper [.im (.str u)] = some (.im r, [.im (.str u)]) → eqD r (.tup [.str tBa]) = some k → st_judge_balanced_6 [.im (.str u), .im (.tup [.str tBa]), .un, .un, .un] = some (.rt (.im (.bl k)), [.im (.str u), .im (.tup [.str tBa]), .un, .un, .un]) := fun k r h1 h2 => by
          refine if_tt (e1 := [.im (.str u), .im (.tup [.str tBa]), .un, .un, .un]) (by simp [tBa]) (seq_rt ?_)
          simp [st_judge_balanced_1, h1, h2]
        rcases e_paper u hu with ⟨n, w, p1, p2, p3, p4, p5, p6⟩ | ⟨p1, p2⟩
        · have he : eqD (.tup [.str tUn, .str (97 :: (w ++ [97])), .str (98 :: (w ++ [98]))]) (.tup [.str tBa]) = some false := by
            have := eqD_txts (a := [tUn, 97 :: (w ++ [97]), 98 :: (w ++ [98])]) (b := [tBa]) (fun v hv => by
              rcases List.mem_cons.mp hv with rfl | hv
              · intro c hc; revert c; decide
              · rcases List.mem_cons.mp hv with rfl | hv
                · exact uni_pc hun p3
                · rw [List.mem_singleton.mp hv]; exact uni_pc hun p4) hv
            exact this
          refine ⟨false, run_rt (seq_nx s5 (seq_rt (s6 false _ p6 he))) rfl, ⟨fun h => (nomatch h), fun h => ?_⟩⟩
          rcases h with ⟨_, h⟩ | ⟨n', w', _, h, _⟩
          · exact absurd ⟨w, p3, p4⟩ (h n p1)
          · cases h
        · have he : eqD (.tup [.str tBa]) (.tup [.str tBa]) = some true := by
            have := eqD_txts (a := [tBa]) (b := [tBa]) hv hv
            exact this
          exact ⟨true, run_rt (seq_nx s5 (seq_rt (s6 true _ p2 he))) rfl, ⟨fun _ => .inl ⟨rfl, p1⟩, fun _ => rfl⟩⟩
      · have ha1 : (a == tBa) = false := by simpa using ha
        have hne : ¬ Gd22 u [a] := by
          rintro (⟨h, _⟩ | ⟨n', w', _, h, _⟩)
          · injection h with h; exact ha h
          · cases h
        refine ⟨false, run_rt (seq_nx s5 (seq_nx (if_ff (e1 := [.im (.str u), .im (.tup [.str a]), .un, .un, .un]) ?_ rfl) (seq_rt (if_tt (e1 := [.im (.str u), .im (.tup [.str a]), .un, .un, .un]) ?_ (seq_rt (e1 := [.im (.str u), .im (.tup [.str a]), .un, .un, .un]) ?_))))) rfl, ⟨fun h => (nomatch h), fun h => absurd h hne⟩⟩
        · simpa [tBa] using ha1
        · by_cases hq : a = tUn
          · subst hq; simp [tUn]
          · have hq1 : (a == tUn) = false := by simpa using hq
            unfold tUn at hq1
            simp [hq1]
        · simp [st_judge_balanced_2]
    · simp at h13
    · -- three texts
      by_cases ha : a = tBa
      · subst ha
        have hne : ¬ Gd22 u [tBa, b, c] := by
          rintro (⟨h, _⟩ | ⟨n', w', _, h, _⟩)
          · cases h
          · injection h with h; exact absurd h (by decide)
        have s6 : ∀ r, fn_balanced_paper [.im (.str u)] = some (.im r, [.im (.str u)]) → eqD r (.tup [.str tBa, .str b, .str c]) = some false → st_judge_balanced_6 [.im (.str u), .im (.tup [.str tBa, .str b, .str c]), .un, .un, .un] = some (.rt (.im (.bl false)), [.im (.str u), .im (.tup [.str tBa, .str b, .str c]), .un, .un, .un]) := fun r h1 h2 => by
          refine if_tt (e1 := [.im (.str u), .im (.tup [.str tBa, .str b, .str c]), .un, .un, .un]) (by simp [tBa]) (seq_rt ?_)
          simp [st_judge_balanced_1, h1, h2]
        rcases e_paper u hu with ⟨n, w, p1, p2, p3, p4, p5, p6⟩ | ⟨p1, p2⟩
        · have he : eqD (.tup [.str tUn, .str (97 :: (w ++ [97])), .str (98 :: (w ++ [98]))]) (.tup [.str tBa, .str b, .str c]) = some false := by
            have := eqD_txts (a := [tUn, 97 :: (w ++ [97]), 98 :: (w ++ [98])]) (b := [tBa, b, c]) (fun v hv => by
              rcases List.mem_cons.mp hv with rfl | hv
              · intro c hc; revert c; decide
              · rcases List.mem_cons.mp hv with rfl | hv
                · exact uni_pc hun p3
                · rw [List.mem_singleton.mp hv]; exact uni_pc hun p4) hv
            exact this
          exact ⟨false, run_rt (seq_nx s5 (seq_rt (s6 _ p6 he))) rfl, ⟨fun h => (nomatch h), fun h => absurd h hne⟩⟩
        · have he : eqD (.tup [.str tBa]) (.tup [.str tBa, .str b, .str c]) = some false := by
            have := eqD_txts (a := [tBa]) (b := [tBa, b, c]) (fun v hv' => hv v (by
              rw [List.mem_singleton.mp hv']
              exact List.mem_cons_self)) hv
            exact this
          exact ⟨false, run_rt (seq_nx s5 (seq_rt (s6 _ p2 he))) rfl, ⟨fun h => (nomatch h), fun h => absurd h hne⟩⟩
      · have ha1 : (a == tBa) = false := by simpa using ha
        have s6 : st_judge_balanced_6 [.im (.str u), .im (.tup [.str a, .str b, .str c]), .un, .un, .un] = some (.nx, [.im (.str u), .im (.tup [.str a, .str b, .str c]), .un, .un, .un]) := by
          refine if_ff (e1 := [.im (.str u), .im (.tup [.str a, .str b, .str c]), .un, .un, .un]) ?_ rfl
          simpa [tBa] using ha1
        by_cases hq : a = tUn
        · subst hq
          have s7 : st_judge_balanced_7 [.im (.str u), .im (.tup [.str tUn, .str b, .str c]), .un, .un, .un] = some (.nx, [.im (.str u), .im (.tup [.str tUn, .str b, .str c]), .un, .un, .un]) := by
            refine if_ff (e1 := [.im (.str u), .im (.tup [.str tUn, .str b, .str c]), .un, .un, .un]) ?_ rfl
            simp [tUn]
          have s8 : st_judge_balanced_8 [.im (.str u), .im (.tup [.str tUn, .str b, .str c]), .un, .un, .un] = some (.nx, [.im (.str u), .im (.tup [.str tUn, .str b, .str c]), .un, .im (.str b), .im (.str c)]) := by
            have hc : cutT [D.str tUn, .str b, .str c] (some 1) none = [D.str b, .str c] := rfl
            simp [st_judge_balanced_8, hc]
          have hbl : b.length ≤ SL := by have := hl b (by simp); unfold SL; omega
          have hcl : c.length ≤ SL := by have := hl c (by simp); unfold SL; omega
          by_cases h9 : 2 ≤ b.length ∧ subIn b u = true ∧ subIn c u = true
          · obtain ⟨k1, k2, k3⟩ := h9
            have hbm := subIn_pcs.mp k2
            have hcm := subIn_pcs.mp k3
            have s9 : st_judge_balanced_9 [.im (.str u), .im (.tup [.str tUn, .str b, .str c]), .un, .im (.str b), .im (.str c)] = some (.nx, [.im (.str u), .im (.tup [.str tUn, .str b, .str c]), .un, .im (.str b), .im (.str c)]) := by
              refine if_ff (e1 := [.im (.str u), .im (.tup [.str tUn, .str b, .str c]), .un, .im (.str b), .im (.str c)]) ?_ rfl
              have : ¬ ((b.length : Int) < 2) := by omega
              simp [hbl, this, k2, k3]
            obtain ⟨b0, w1, b1, rfl⟩ := two_ends k1
            have fin : ∀ k : Bool, (k = true ↔ b0 = 97 ∧ b1 = 97 ∧ c = 98 :: (w1 ++ [98])) → st_judge_balanced_11 [.im (.str u), .im (.tup [.str tUn, .str (b0 :: (w1 ++ [b1])), .str c]), .un, .im (.str (b0 :: (w1 ++ [b1]))), .im (.str c)] = some (.rt (.im (.bl k)), [.im (.str u), .im (.tup [.str tUn, .str (b0 :: (w1 ++ [b1])), .str c]), .un, .im (.str (b0 :: (w1 ++ [b1]))), .im (.str c)]) := fun k hk => by
              have hwl : w1.length + 1 + 1 ≤ SL := by simpa using hbl
              have hwl1 : 1 + w1.length ≤ SL := by omega
              have hwl2 : w1.length + 1 ≤ SL := by omega
              by_cases e0 : b0 = 97
              · by_cases e1 : b1 = 97
                · by_cases e2 : c = 98 :: (w1 ++ [98])
                  · have : k = true := hk.mpr ⟨e0, e1, e2⟩
                    subst this
                    simp [st_judge_balanced_11, hwl, hwl1, hwl2, mid_cut, last_of, e0, e1, e2]
                  · have : k = false := by
                      cases k with
                      | false => rfl
                      | true => exact absurd (hk.mp rfl).2.2 e2
                    subst this
                    have e3 : (c == 98 :: (w1 ++ [98])) = false := by simpa using e2
                    simp [st_judge_balanced_11, hwl, hwl1, hwl2, mid_cut, last_of, e0, e1, e3]
                · have : k = false := by
                    cases k with
                    | false => rfl
                    | true => exact absurd (hk.mp rfl).2.1 e1
                  subst this
                  have e3 : (b1 == 97) = false := by simpa using e1
                  simp [st_judge_balanced_11, hwl, hwl1, hwl2, mid_cut, last_of, e0, e3]
              · have : k = false := by
                  cases k with
                  | false => rfl
                  | true => exact absurd (hk.mp rfl).1 e0
                subst this
                have e3 : (b0 == 97) = false := by simpa using e0
                simp [st_judge_balanced_11, hwl, hwl1, hwl2, mid_cut, last_of, e3]
            have s10 : ∀ (ds : List D) (y : Tx), fn_balanced_paper [.im (.str u)] = some (.im (.tup ds), [.im (.str u)]) → ds.getLast? = some (.str y) → y.length ≤ SL →
                (∀ r, (b0 :: (w1 ++ [b1])).length = y.length → ∀ e, st_judge_balanced_11 [.im (.str u), .im (.tup [.str tUn, .str (b0 :: (w1 ++ [b1])), .str c]), .un, .im (.str (b0 :: (w1 ++ [b1]))), .im (.str c)] = some (.rt r, e) → sSeq st_judge_balanced_10 (sSeq st_judge_balanced_11 sNil) [.im (.str u), .im (.tup [.str tUn, .str (b0 :: (w1 ++ [b1])), .str c]), .un, .im (.str (b0 :: (w1 ++ [b1]))), .im (.str c)] = some (.rt r, e)) ∧
                ((b0 :: (w1 ++ [b1])).length ≠ y.length → sSeq st_judge_balanced_10 (sSeq st_judge_balanced_11 sNil) [.im (.str u), .im (.tup [.str tUn, .str (b0 :: (w1 ++ [b1])), .str c]), .un, .im (.str (b0 :: (w1 ++ [b1]))), .im (.str c)] = some (.rt (.im (.bl false)), [.im (.str u), .im (.tup [.str tUn, .str (b0 :: (w1 ++ [b1])), .str c]), .un, .im (.str (b0 :: (w1 ++ [b1]))), .im (.str c)])) := fun ds y hp hy hyl => by
              have hwl : w1.length + 1 + 1 ≤ SL := by simpa using hbl
              constructor
              · intro r hlen e h11
                refine seq_nx (if_ff (e1 := [.im (.str u), .im (.tup [.str tUn, .str (b0 :: (w1 ++ [b1])), .str c]), .un, .im (.str (b0 :: (w1 ++ [b1]))), .im (.str c)]) ?_ rfl) (seq_rt h11)
                simp at hlen
                simp [hp, hy, hyl, hwl]
                omega
              · intro hlen
                refine seq_rt (if_tt (e1 := [.im (.str u), .im (.tup [.str tUn, .str (b0 :: (w1 ++ [b1])), .str c]), .un, .im (.str (b0 :: (w1 ++ [b1]))), .im (.str c)]) ?_ (seq_rt (e1 := [.im (.str u), .im (.tup [.str tUn, .str (b0 :: (w1 ++ [b1])), .str c]), .un, .im (.str (b0 :: (w1 ++ [b1]))), .im (.str c)]) ?_))
                · simp at hlen
                  simp [hp, hy, hyl, hwl]
                  omega
                · simp [st_judge_balanced_4]
            have go : ∀ {k : Bool} {e}, sSeq st_judge_balanced_10 (sSeq st_judge_balanced_11 sNil) [.im (.str u), .im (.tup [.str tUn, .str (b0 :: (w1 ++ [b1])), .str c]), .un, .im (.str (b0 :: (w1 ++ [b1]))), .im (.str c)] = some (.rt (.im (.bl k)), e) → outs [.im (.str u), .im (.tup [.str tUn, .str (b0 :: (w1 ++ [b1])), .str c])] e = some [.im (.str u), .im (.tup [.str tUn, .str (b0 :: (w1 ++ [b1])), .str c])] →
                fn_judge_balanced [.im (.str u), .im (.tup [.str tUn, .str (b0 :: (w1 ++ [b1])), .str c])] = some (.im (.bl k), [.im (.str u), .im (.tup [.str tUn, .str (b0 :: (w1 ++ [b1])), .str c])]) := fun h o =>
              run_rt (seq_nx s5 (seq_nx s6 (seq_nx s7 (seq_nx s8 (seq_nx s9 h))))) o
            rcases e_paper u hu with ⟨n, w, p1, p2, p3, p4, p5, p6⟩ | ⟨p1, p2⟩
            · have hyl := pcs_len p4
              have q10 := s10 [.str tUn, .str (97 :: (w ++ [97])), .str (98 :: (w ++ [98]))] (98 :: (w ++ [98])) p6 rfl (by rw [hyl]; unfold SL; omega)
              by_cases hlen : (b0 :: (w1 ++ [b1])).length = n
              · refine ⟨decide (b0 = 97 ∧ b1 = 97 ∧ c = 98 :: (w1 ++ [98])), go (q10.1 _ (by rw [hyl]; exact hlen) _ (fin _ decide_eq_true_iff)) rfl, ?_⟩
                rw [decide_eq_true_iff]
                constructor
                · rintro ⟨rfl, rfl, rfl⟩
                  refine .inr ⟨n, w1, p1, rfl, hlen ▸ hbm, ?_, p5⟩
                  have : (98 :: (w1 ++ [98])).length = n := by rw [← hlen]; simp
                  exact this ▸ hcm
                · rintro (⟨h, _⟩ | ⟨n', w', g1, h, g3, g4, g5⟩)
                  · cases h
                  · injection h with _ h
                    injection h with h1 h
                    injection h with h2 _
                    injection h1 with h3 h4
                    have h5 := List.append_inj' h4 rfl
                    obtain ⟨rfl, h6⟩ := h5
                    injection h6 with h6
                    exact ⟨h3, h6, h2⟩
              · refine ⟨false, go (q10.2 (by rw [hyl]; exact hlen)) rfl, ⟨fun h => (nomatch h), ?_⟩⟩
                rintro (⟨h, _⟩ | ⟨n', w', g1, h, g3, g4, g5⟩)
                · cases h
                · exfalso
                  injection h with _ h
                  injection h with h1 h
                  have l1 := pcs_len g3
                  rw [← h1] at l1
                  have : n = n' := by
                    rcases Nat.lt_trichotomy n n' with q | q | q
                    · exact absurd ⟨w, p3, p4⟩ (g5 n p1 q)
                    · exact q
                    · exact absurd ⟨w', g3, g4⟩ (p5 n' g1 q)
                  exact hlen (l1.trans this.symm)
            · have q10 := s10 [.str tBa] tBa p2 rfl (by decide)
              have hno : ¬ (b0 = 97 ∧ b1 = 97 ∧ c = 98 :: (w1 ++ [98])) := by
                rintro ⟨rfl, rfl, rfl⟩
                refine p1 (97 :: (w1 ++ [97])).length k1 ⟨w1, hbm, ?_⟩
                have : (98 :: (w1 ++ [98])).length = (97 :: (w1 ++ [97])).length := by simp
                exact this ▸ hcm
              have hng : ¬ Gd22 u [tUn, b0 :: (w1 ++ [b1]), c] := by
                rintro (⟨h, _⟩ | ⟨n', w', g1, h, g3, g4, g5⟩)
                · cases h
                · exact p1 n' g1 ⟨w', g3, g4⟩
              by_cases hlen : (b0 :: (w1 ++ [b1])).length = tBa.length
              · exact ⟨false, go (q10.1 _ hlen _ (fin false ⟨fun h => (nomatch h), fun h => absurd h hno⟩)) rfl, ⟨fun h => (nomatch h), fun h => absurd h hng⟩⟩
              · exact ⟨false, go (q10.2 hlen) rfl, ⟨fun h => (nomatch h), fun h => absurd h hng⟩⟩
          · have hng : ¬ Gd22 u [tUn, b, c] := by
              rintro (⟨h, _⟩ | ⟨n', w', g1, h, g3, g4, g5⟩)
              · cases h
              · injection h with _ h
                injection h with h1 h
                injection h with h2 _
                subst h1
                subst h2
                have l1 := pcs_len g3
                have l2 := pcs_len g4
                exact h9 ⟨by omega, subIn_pcs.mpr (by rw [l1]; exact g3), subIn_pcs.mpr (by rw [l2]; exact g4)⟩
            refine ⟨false, run_rt (seq_nx s5 (seq_nx s6 (seq_nx s7 (seq_nx s8 (seq_rt (if_tt (e1 := [.im (.str u), .im (.tup [.str tUn, .str b, .str c]), .un, .im (.str b), .im (.str c)]) ?_ (seq_rt (e1 := [.im (.str u), .im (.tup [.str tUn, .str b, .str c]), .un, .im (.str b), .im (.str c)]) ?_))))))) rfl, ⟨fun h => (nomatch h), fun h => absurd h hng⟩⟩
            · by_cases k1 : (b.length : Int) < 2
              · simp [hbl, k1]
              · cases k2 : subIn b u with
                | false => simp [hbl, k1, k2]
                | true =>
                  have k3 : subIn c u = false := by
                    cases q : subIn c u with
                    | false => rfl
                    | true => exact absurd ⟨by omega, k2, q⟩ h9
                  simp [hbl, k1, k2, k3]
            · simp [st_judge_balanced_3]
        · have hne : ¬ Gd22 u [a, b, c] := by
            rintro (⟨h, _⟩ | ⟨n', w', _, h, _⟩)
            · cases h
            · injection h with h; exact hq h
          have hq1 : (a == tUn) = false := by simpa using hq
          unfold tUn at hq1
          refine ⟨false, run_rt (seq_nx s5 (seq_nx s6 (seq_rt (if_tt (e1 := [.im (.str u), .im (.tup [.str a, .str b, .str c]), .un, .un, .un]) ?_ (seq_rt (e1 := [.im (.str u), .im (.tup [.str a, .str b, .str c]), .un, .un, .un]) ?_))))) rfl, ⟨fun h => (nomatch h), fun h => absurd h hne⟩⟩
          · simp [hq1]
          · simp [st_judge_balanced_2]
    · simp at h13
  · have hne : ¬ Gd22 u vs := by
      rintro (⟨h, _⟩ | ⟨n', w', _, h, _⟩)
      · exact h13 (.inl (by rw [h]; rfl))
      · exact h13 (.inr (by rw [h]; rfl))
    refine ⟨false, run_rt (seq_rt (if_tt (e1 := [.im (.str u), .im (.tup (vs.map D.str)), .un, .un, .un]) ?_ (seq_rt (e1 := [.im (.str u), .im (.tup (vs.map D.str)), .un, .un, .un]) ?_))) rfl, ⟨fun h => (nomatch h), fun h => absurd h hne⟩⟩
    · have hin : fInB (.int (vs.length : Int)) (.tup [.int 1, .int 3]) = some false := by
        have h1 : ¬ (vs.length : Int) = 1 := by omega
        have h3 : ¬ (vs.length : Int) = 3 := by omega
        have h1' : ((vs.length : Int) == 1) = false := by simpa using h1
        have h3' : ((vs.length : Int) == 3) = false := by simpa using h3
        show some (eqP (.int 1) (.int (vs.length : Int)) || (eqP (.int 3) (.int (vs.length : Int)) || false)) = _
        have e1 : eqP (.int 1) (.int (vs.length : Int)) = false := by
          show ((1 : Int) == (vs.length : Int)) = false
          simp
          omega
        have e3 : eqP (.int 3) (.int (vs.length : Int)) = false := by
          show ((3 : Int) == (vs.length : Int)) = false
          simp
          omega
        rw [e1, e3]
        rfl
      simp [isi_tup, hin, SL]
    · simp [st_judge_balanced_0]
end signworth_k22_slopes
namespace signworth_k22_slopes
open PySem PySem.Spec PyProof.Rows L2 MP
theorem least_pr (u : Tx) (hu : u.length ≤ 60) (hab : isAB u) :
    (∃ s : Nat, fn_law_least [.im (.str u)] = some (.im (.int s), [.im (.str u)]) ∧ 2 ≤ s ∧ s ≤ u.length ∧ pr u s ∧ ∀ m, 2 ≤ m → m < s → ¬ pr u m) ∨
    (fn_law_least [.im (.str u)] = some (.im .non, [.im (.str u)]) ∧ ∀ m, ¬ pr u m) := by
  rcases e_least u (by omega) with ⟨s, h1, h2, h3, h4, h5⟩ | ⟨h1, h2⟩
  · have hp := imb_pr hab h2 h4 h5
    exact .inl ⟨s, h1, (pr_imb hp).2, h3, hp, fun m m1 m2 q => h5 m (by omega) m2 (pr_imb q).1⟩
  · refine .inr ⟨h1, fun m q => ?_⟩
    have := (pr_imb q).2
    exact h2 m (by omega) (pr_imb q).1
theorem e_holds (u : Tx) (hu : u.length ≤ 60) (hab : isAB u) (vs : List Tx) (hl : ∀ v ∈ vs, v.length ≤ 1000) (hvl : vs.length ≤ 10) :
    ∃ k, fn_law_holds [.im (.str u), .im (.tup (vs.map D.str))] = some (.im (.bl k), [.im (.str u), .im (.tup (vs.map D.str))]) ∧ (k = true ↔ Gd22 u vs) := by
  have hb : u.length ≤ SL := by unfold SL; omega
  cases vs with
  | nil =>
    refine ⟨false, run_rt (seq_rt (if_tt (e1 := [.im (.str u), .im (.tup []), .un, .un, .un, .un]) ?_ (seq_rt (e1 := [.im (.str u), .im (.tup []), .un, .un, .un, .un]) ?_))) rfl, ⟨fun h => (nomatch h), fun h => ?_⟩⟩
    · simp [isi_tup]
    · simp [st_law_holds_0]
    · rcases h with ⟨h, _⟩ | ⟨n', w', _, h, _⟩ <;> cases h
  | cons a r =>
    have hr : ∀ v ∈ r, v.length ≤ 1000 := fun v hv => hl v (List.mem_cons_of_mem _ hv)
    rw [List.map_cons]
    have s4 : st_law_holds_4 [.im (.str u), .im (.tup (.str a :: r.map D.str)), .un, .un, .un, .un] = some (.nx, [.im (.str u), .im (.tup (.str a :: r.map D.str)), .un, .un, .un, .un]) := by
      refine if_ff (e1 := [.im (.str u), .im (.tup (.str a :: r.map D.str)), .un, .un, .un, .un]) ?_ rfl
      simp [isi_tup, isi_str]
    have s5 : ∀ z, fn_law_least [.im (.str u)] = some (.im z, [.im (.str u)]) → st_law_holds_5 [.im (.str u), .im (.tup (.str a :: r.map D.str)), .un, .un, .un, .un] = some (.nx, [.im (.str u), .im (.tup (.str a :: r.map D.str)), .im z, .un, .un, .un]) := fun z hz => by
      simp [st_law_holds_5, hz]
    by_cases ha : a = tBa
    · subst ha
      have hG : Gd22 u (tBa :: r) ↔ r = [] ∧ ∀ m, 2 ≤ m → ¬ pr u m := by
        constructor
        · rintro (⟨h, h2⟩ | ⟨n', w', _, h, _⟩)
          · injection h with _ h; exact ⟨h, h2⟩
          · injection h with h; exact absurd h (by decide)
        · rintro ⟨rfl, h⟩
          exact .inl ⟨rfl, h⟩
      have s6 : ∀ (z : D) (k : Bool), (k = true ↔ r = [] ∧ z.isNon = true) → st_law_holds_6 [.im (.str u), .im (.tup (.str tBa :: r.map D.str)), .im z, .un, .un, .un] = some (.rt (.im (.bl k)), [.im (.str u), .im (.tup (.str tBa :: r.map D.str)), .im z, .un, .un, .un]) := fun z k hk => by
        refine if_tt (e1 := [.im (.str u), .im (.tup (.str tBa :: r.map D.str)), .im z, .un, .un, .un]) (by simp [tBa]) (seq_rt ?_)
        cases r with
        | nil =>
          have : k = z.isNon := by
            rw [Bool.eq_iff_iff, hk]
            simp
          subst this
          simp [st_law_holds_1]
        | cons b r =>
          have : k = false := by
            cases k with
            | false => rfl
            | true => cases (hk.mp rfl).1
          subst this
          have e : ((List.length r : Int) + 1 + 1 == 1) = false := by
            simp
            omega
          simp [st_law_holds_1, e]
      rcases least_pr u hu hab with ⟨s, h1, h2, h3, h4, h5⟩ | ⟨h1, h2⟩
      · refine ⟨false, run_rt (seq_nx s4 (seq_nx (s5 _ h1) (seq_rt (s6 _ false ⟨fun h => (nomatch h), fun h => (nomatch h.2)⟩)))) rfl, ⟨fun h => (nomatch h), fun h => ?_⟩⟩
        exact absurd h4 ((hG.mp h).2 s h2)
      · refine ⟨decide (r = []), run_rt (seq_nx s4 (seq_nx (s5 _ h1) (seq_rt (s6 _ (decide (r = [])) ⟨fun h => ⟨of_decide_eq_true h, rfl⟩, fun h => decide_eq_true h.1⟩)))) rfl, ?_⟩
        rw [decide_eq_true_iff, hG]
        exact ⟨fun h => ⟨h, fun m _ => h2 m⟩, fun h => h.1⟩
    · have ha1 : (a == tBa) = false := by simpa using ha
      have s6 : ∀ z, st_law_holds_6 [.im (.str u), .im (.tup (.str a :: r.map D.str)), .im z, .un, .un, .un] = some (.nx, [.im (.str u), .im (.tup (.str a :: r.map D.str)), .im z, .un, .un, .un]) := fun z => by
        refine if_ff (e1 := [.im (.str u), .im (.tup (.str a :: r.map D.str)), .im z, .un, .un, .un]) ?_ rfl
        simpa [tBa] using ha1
      have out7 : ∀ z, fn_law_least [.im (.str u)] = some (.im z, [.im (.str u)]) → (a ≠ tUn ∨ r.length ≠ 2 ∨ z.isNon = true) →
          fn_law_holds [.im (.str u), .im (.tup (.str a :: r.map D.str))] = some (.im (.bl false), [.im (.str u), .im (.tup (.str a :: r.map D.str))]) := fun z hz hq => by
        refine run_rt (seq_nx s4 (seq_nx (s5 _ hz) (seq_nx (s6 _) (seq_rt (if_tt (e1 := [.im (.str u), .im (.tup (.str a :: r.map D.str)), .im z, .un, .un, .un]) ?_ (seq_rt (e1 := [.im (.str u), .im (.tup (.str a :: r.map D.str)), .im z, .un, .un, .un]) ?_)))))) rfl
        · by_cases h1 : a = tUn
          · subst h1
            by_cases h2 : r.length = 2
            · have h3 : z.isNon = true := by
                rcases hq with q | q | q
                · exact absurd rfl q
                · exact absurd h2 q
                · exact q
              simp [tUn, h2, h3]
            · have e : ((List.length r : Int) + 1 == 3) = false := by
                simp
                omega
              simp [tUn, e]
          · have e : (a == tUn) = false := by simpa using h1
            unfold tUn at e
            simp [e]
        · simp [st_law_holds_2]
      by_cases h1 : a = tUn ∧ r.length = 2
      · obtain ⟨rfl, h2⟩ := h1
        rcases r with _ | ⟨b, _ | ⟨c, _ | ⟨d, r⟩⟩⟩
        · cases h2
        · cases h2
        · rcases least_pr u hu hab with ⟨s, l1, l2, l3, l4, l5⟩ | ⟨l1, l2⟩
          · have hbl : b.length ≤ SL := by have := hr b (by simp); unfold SL; omega
            have hcl : c.length ≤ SL := by have := hr c (by simp); unfold SL; omega
            have hG : Gd22 u [tUn, b, c] ↔ ∃ w, b = 97 :: (w ++ [97]) ∧ c = 98 :: (w ++ [98]) ∧ b ∈ pcs u s ∧ c ∈ pcs u s := by
              constructor
              · rintro (⟨h, _⟩ | ⟨n', w', g1, h, g3, g4, g5⟩)
                · cases h
                · injection h with _ h
                  injection h with h1 h
                  injection h with h2 _
                  have : n' = s := by
                    rcases Nat.lt_trichotomy n' s with q | q | q
                    · exact absurd ⟨w', g3, g4⟩ (l5 n' g1 q)
                    · exact q
                    · exact absurd l4 (g5 s l2 q)
                  subst this
                  exact ⟨w', h1, h2, h1 ▸ g3, h2 ▸ g4⟩
              · rintro ⟨w, rfl, rfl, g3, g4⟩
                exact .inr ⟨s, w, l2, rfl, g3, g4, l5⟩
            have lc : eLc [3] (iE (eV 1)) (gN 3) bTrue ce_law_holds_0 [.im (.str u), .im (.tup [.str tUn, .str b, .str c]), .im (.int s), .un, .un, .un] = some (.fr (.lst ([tUn, b, c].map fun _ => D.bl true)), [.im (.str u), .im (.tup [.str tUn, .str b, .str c]), .im (.int s), .un, .un, .un]) := by
              rw [show ([tUn, b, c].map fun _ => D.bl true) = ([tUn, b, c].map D.str).map fun _ => D.bl true by rw [List.map_map]; rfl]
              refine lc_map (e := [.im (.str u), .im (.tup [.str tUn, .str b, .str c]), .im (.int s), .un, .un, .un]) _ (by simp) (by show 3 ≤ SL; decide) fun d hd => ?_
              obtain ⟨x, hx, rfl⟩ := List.mem_map.mp hd
              exact ⟨[.im (.str u), .im (.tup [.str tUn, .str b, .str c]), .im (.int s), .im (.str x), .un, .un], .im (.bl true), _, by simp, by simp [ce_law_holds_0, isi_str]; exact rfl, rfl, by simp⟩
            have hall := all_true [tUn, b, c]
            have s7 : st_law_holds_7 [.im (.str u), .im (.tup [.str tUn, .str b, .str c]), .im (.int s), .un, .un, .un] = some (.nx, [.im (.str u), .im (.tup [.str tUn, .str b, .str c]), .im (.int s), .un, .un, .un]) := by
              refine if_ff (e1 := [.im (.str u), .im (.tup [.str tUn, .str b, .str c]), .im (.int s), .un, .un, .un]) ?_ rfl
              simp only [List.map_cons, List.map_nil] at lc hall
              simp [tUn] at lc hall ⊢
              simp [lc, hall]
            have s8 : st_law_holds_8 [.im (.str u), .im (.tup [.str tUn, .str b, .str c]), .im (.int s), .un, .un, .un] = some (.nx, [.im (.str u), .im (.tup [.str tUn, .str b, .str c]), .im (.int s), .un, .im (.str b), .im (.str c)]) := by
              have hc : cutT [D.str tUn, .str b, .str c] (some 1) none = [D.str b, .str c] := rfl
              simp [st_law_holds_8, hc]
            by_cases h9 : b.length = s ∧ c.length = s ∧ subIn b u = true ∧ subIn c u = true
            · obtain ⟨k0, k1, k2, k3⟩ := h9
              have hbm := subIn_pcs.mp k2
              have hcm := subIn_pcs.mp k3
              rw [k0] at hbm
              rw [k1] at hcm
              have s9 : st_law_holds_9 [.im (.str u), .im (.tup [.str tUn, .str b, .str c]), .im (.int s), .un, .im (.str b), .im (.str c)] = some (.nx, [.im (.str u), .im (.tup [.str tUn, .str b, .str c]), .im (.int s), .un, .im (.str b), .im (.str c)]) := by
                refine if_ff (e1 := [.im (.str u), .im (.tup [.str tUn, .str b, .str c]), .im (.int s), .un, .im (.str b), .im (.str c)]) ?_ rfl
                have : ¬ ((s : Int) < 2) := by omega
                have hsl : s ≤ SL := by rw [← k0]; exact hbl
                simp [k0, k1, hsl, this, k2, k3]
              obtain ⟨b0, w1, b1, rfl⟩ := two_ends (x := b) (by omega)
              obtain ⟨c0, w2, c1, rfl⟩ := two_ends (x := c) (by omega)
              have hwl : w1.length + 1 + 1 ≤ SL := by simpa using hbl
              have hwl2 : w2.length + 1 + 1 ≤ SL := by simpa using hcl
              refine ⟨decide ((b0 = 97 ∧ b1 = 97) ∧ (c0 = 98 ∧ c1 = 98) ∧ w1 = w2), run_rt (seq_nx s4 (seq_nx (s5 _ l1) (seq_nx (s6 _) (seq_nx s7 (seq_nx s8 (seq_nx s9 (seq_rt (e1 := [.im (.str u), .im (.tup [.str tUn, .str (b0 :: (w1 ++ [b1])), .str (c0 :: (w2 ++ [c1]))]), .im (.int s), .un, .im (.str (b0 :: (w1 ++ [b1]))), .im (.str (c0 :: (w2 ++ [c1])))]) ?_))))))) rfl, ?_⟩
              · have hSL : 2 ≤ SL := by decide
                by_cases e1 : b0 = 97 ∧ b1 = 97
                · by_cases e2 : c0 = 98 ∧ c1 = 98
                  · obtain ⟨rfl, rfl⟩ := e1
                    obtain ⟨rfl, rfl⟩ := e2
                    have e5 : (w1 == w2) = decide (w1 = w2) := by
                      by_cases q : w1 = w2
                      · rw [decide_eq_true q, q]; simp
                      · rw [decide_eq_false q]; simpa using q
                    simp [st_law_holds_10, hwl, hwl2, mid_cut, last_of, hSL, e5]
                  · have e3 : ([c0, c1] == [98, 98]) = false := by
                      rw [beq_eq_false_iff_ne]
                      intro q
                      injection q with q1 q2
                      injection q2 with q2
                      exact e2 ⟨q1, q2⟩
                    obtain ⟨rfl, rfl⟩ := e1
                    have e4 : ¬ (c0 = 98 ∧ c1 = 98 ∧ w1 = w2) := fun q => e2 ⟨q.1, q.2.1⟩
                    simp [st_law_holds_10, hwl, hwl2, mid_cut, last_of, hSL, e3, e4, -List.cons_beq_cons, -List.cons.injEq, and_assoc]
                · have e3 : ([b0, b1] == [97, 97]) = false := by
                    rw [beq_eq_false_iff_ne]
                    intro q
                    injection q with q1 q2
                    injection q2 with q2
                    exact e1 ⟨q1, q2⟩
                  have e4 : ¬ (b0 = 97 ∧ b1 = 97 ∧ c0 = 98 ∧ c1 = 98 ∧ w1 = w2) := fun q => e1 ⟨q.1, q.2.1⟩
                  simp [st_law_holds_10, hwl, hwl2, mid_cut, last_of, hSL, e3, e4, -List.cons_beq_cons, -List.cons.injEq, and_assoc]
              · rw [decide_eq_true_iff, hG]
                constructor
                · rintro ⟨⟨rfl, rfl⟩, ⟨rfl, rfl⟩, rfl⟩
                  exact ⟨w1, rfl, rfl, hbm, hcm⟩
                · rintro ⟨w, h1, h2, _, _⟩
                  injection h1 with p1 p3
                  injection h2 with p2 p4
                  obtain ⟨p7, p5⟩ := List.append_inj' p3 rfl
                  obtain ⟨p8, p6⟩ := List.append_inj' p4 rfl
                  injection p5 with p5
                  injection p6 with p6
                  exact ⟨⟨p1, p5⟩, ⟨p2, p6⟩, p7.trans p8.symm⟩
            · refine ⟨false, run_rt (seq_nx s4 (seq_nx (s5 _ l1) (seq_nx (s6 _) (seq_nx s7 (seq_nx s8 (seq_rt (if_tt (e1 := [.im (.str u), .im (.tup [.str tUn, .str b, .str c]), .im (.int s), .un, .im (.str b), .im (.str c)]) ?_ (seq_rt (e1 := [.im (.str u), .im (.tup [.str tUn, .str b, .str c]), .im (.int s), .un, .im (.str b), .im (.str c)]) ?_)))))))) rfl, ⟨fun h => (nomatch h), fun h => ?_⟩⟩
              · by_cases k0 : b.length = s
                · by_cases k1 : c.length = s
                  · have : ¬ ((s : Int) < 2) := by omega
                    have hsl : s ≤ SL := by rw [← k0]; exact hbl
                    cases k2 : subIn b u with
                    | false => simp [k0, k1, hsl, this, k2]
                    | true =>
                      have k3 : subIn c u = false := by
                        cases q : subIn c u with
                        | false => rfl
                        | true => exact absurd ⟨k0, k1, k2, q⟩ h9
                      simp [k0, k1, hsl, this, k2, k3]
                  · have e : ((c.length : Int) == (s : Int)) = false := by
                      simp
                      omega
                    have hsl : s ≤ SL := by rw [← k0]; exact hbl
                    simp [k0, hsl, hcl, e]
                · have e : ((b.length : Int) == (s : Int)) = false := by
                    simp
                    omega
                  simp [hbl, e]
              · simp [st_law_holds_3]
              · obtain ⟨w, _, _, g3, g4⟩ := hG.mp h
                have q1 := pcs_len g3
                have q2 := pcs_len g4
                exact absurd ⟨q1, q2, subIn_pcs.mpr (by rw [q1]; exact g3), subIn_pcs.mpr (by rw [q2]; exact g4)⟩ h9
          · refine ⟨false, out7 _ l1 (.inr (.inr rfl)), ⟨fun h => (nomatch h), fun h => ?_⟩⟩
            rcases h with ⟨h, _⟩ | ⟨n', w', g1, h, g3, g4, g5⟩
            · cases h
            · exact absurd ⟨w', g3, g4⟩ (l2 n')
        · simp at h2
      · have hng : ¬ Gd22 u (a :: r) := by
          rintro (⟨h, _⟩ | ⟨n', w', g1, h, g3, g4, g5⟩)
          · injection h with h; exact ha h
          · injection h with h2 h3
            exact h1 ⟨h2, by rw [h3]; rfl⟩
        have hq : a ≠ tUn ∨ r.length ≠ 2 := by
          by_cases q : a = tUn
          · exact .inr fun q2 => h1 ⟨q, q2⟩
          · exact .inl q
        rcases least_pr u hu hab with ⟨s, l1, _⟩ | ⟨l1, _⟩
        · exact ⟨false, out7 _ l1 (hq.elim .inl fun q => .inr (.inl q)), ⟨fun h => (nomatch h), fun h => absurd h hng⟩⟩
        · exact ⟨false, out7 _ l1 (hq.elim .inl fun q => .inr (.inl q)), ⟨fun h => (nomatch h), fun h => absurd h hng⟩⟩
end signworth_k22_slopes
namespace signworth_k22_slopes
open PySem PySem.Spec PyProof.Rows L2 MP
/-! ### the divisor: few cases -/
def chkDiv (p q : Nat) : Bool := match fn_law_divisor [.im (.int p), .im (.int q)] with
  | some (.im (.int g), [.im (.int a), .im (.int b)]) => a == (p : Int) && b == (q : Int) && (g != 1 || decide (0 < p + q))
  | _ => false
theorem chkDiv_all : ∀ p < 9, ∀ q < 9, chkDiv p q = true := by decide +kernel
theorem e_div (p q : Nat) (hp : p < 9) (hq : q < 9) : ∃ g : Int, fn_law_divisor [.im (.int p), .im (.int q)] = some (.im (.int g), [.im (.int p), .im (.int q)]) ∧ (g = 1 → 0 < p + q) := by
  have h := chkDiv_all p hp q hq
  unfold chkDiv at h
  split at h
  · rename_i g a b e
    rw [Bool.and_eq_true, Bool.and_eq_true, beq_iff_eq, beq_iff_eq] at h
    obtain ⟨⟨rfl, rfl⟩, h⟩ := h
    refine ⟨g, e, fun hg => ?_⟩
    subst hg
    simpa using h
  · cases h
/-! ### slope words -/
def F (q n : Int) (k : Nat) : Int := (k : Int) * q / n
def ltr (q n : Int) (k : Nat) : Nat := if F q n k < F q n (k + 1) then 98 else 97
def slp (q n : Int) (N : Nat) : Tx := (List.range N).map (ltr q n)
def ltD (q n : Int) (d : D) : D := match d with
  | .int i => .str [ltr q n i.toNat]
  | _ => .non
theorem texts_lc (q n : Int) (N : Nat) : ((List.range N).map fun i : Nat => D.int (i : Int)).map (ltD q n) = ((List.range N).map fun k => [ltr q n k]).map D.str := by
  rw [List.map_map, List.map_map]
  rfl
theorem flat_lc (q n : Int) (N : Nat) : ((List.range N).map fun k => [ltr q n k]).flatten = slp q n N := by
  unfold slp
  generalize List.range N = l
  induction l with
  | nil => rfl
  | cons x r ih => rw [List.map_cons, List.flatten_cons, ih]; rfl
theorem rng_nat (N : Nat) : rng 0 N 1 = (List.range N).map fun i : Nat => D.int (i : Int) := by
  unfold rng
  refine List.map_congr_left fun i _ => ?_
  rw [Int.mul_one, Int.zero_add]
theorem ltr_eval {q n : Int} {k : Nat} : (if (k : Int) * q / n < ((k : Int) + 1) * q / n then (98 : Nat) else 97) = ltr q n k := by
  unfold ltr F
  rw [show ((k + 1 : Nat) : Int) = (k : Int) + 1 by omega]
theorem sum_ones (q n : Int) (N : Nat) : (((List.range N).map fun k => [ltr q n k]).map List.length).sum = N := by
  rw [List.map_map]
  have : (List.length ∘ fun k => [ltr q n k]) = fun _ => 1 := rfl
  rw [this]
  induction N with
  | zero => rfl
  | succ N ih => rw [List.range_succ, List.map_append, List.sum_append, ih]; rfl
theorem e_slope (p q : Nat) (hp : p < 9) (hq : q < 9) (h0 : 0 < p + q) :
    fn_slope_word [.im (.int p), .im (.int q)] = some (.im (.str (slp q ((p + q : Nat) : Int) (p + q))), [.im (.int p), .im (.int q)]) := by
  have hs : small ((p + q : Nat) : Int) = true := small_of (by omega) (by omega)
  have hn1 : (0 : Int) < (p : Int) + (q : Int) := by omega
  have hn2 : (p : Int) + (q : Int) < 1073741824 := by omega
  have hs' : small ((p : Int) + (q : Int)) = true := by rw [← Int.natCast_add]; exact hs
  have hto : ((p : Int) + (q : Int)).toNat = p + q := by omega
  have hq64 : q < 18446744073709551616 := by omega
  have lc : eLc [3] (iR rng1 (aCons (pV 2) aNil)) (gN 3) bTrue ce_slope_word_0 [.im (.int p), .im (.int q), .im (.int ((p : Int) + (q : Int))), .un]
      = some (.fr (.lst (((List.range (p + q)).map fun i : Nat => D.int (i : Int)).map (ltD q ((p + q : Nat) : Int)))), [.im (.int p), .im (.int q), .im (.int ((p : Int) + (q : Int))), .un]) := by
    refine lc_map (e := [.im (.int p), .im (.int q), .im (.int ((p : Int) + (q : Int))), .un]) _ ?_ (by simp; unfold SL; omega) fun d hd => ?_
    · rw [← rng_nat]
      simp [hs', hto]
    · obtain ⟨i, hi, rfl⟩ := List.mem_map.mp hd
      have hi := List.mem_range.mp hi
      refine ⟨[.im (.int p), .im (.int q), .im (.int ((p : Int) + (q : Int))), .im (.int (i : Int))], .im (.str [ltr q ((p + q : Nat) : Int) i]), [.im (.int p), .im (.int q), .im (.int ((p : Int) + (q : Int))), .im (.int (i : Int))], by simp, ?_, rfl, by simp⟩
      have hi1 : ((i : Int) + 1).natAbs < 18446744073709551616 := by omega
      have hi2 : i < 18446744073709551616 := by omega
      have he := ltr_eval (q := q) (n := ((p + q : Nat) : Int)) (k := i)
      rw [Int.natCast_add] at he ⊢
      rw [← he]
      by_cases hc : (i : Int) * (q : Int) / ((p : Int) + (q : Int)) < ((i : Int) + 1) * (q : Int) / ((p : Int) + (q : Int))
      · simp [ce_slope_word_0, hn1, hn2, hi1, hi2, hq64, hc]
      · simp [ce_slope_word_0, hn1, hn2, hi1, hi2, hq64, hc]
  rw [texts_lc] at lc
  have hx : (((List.range (p + q)).map fun k => [ltr q ((p + q : Nat) : Int) k]).map List.length).sum ≤ SL := by
    rw [sum_ones]
    unfold SL
    omega
  refine run_rt (seq_nx (e1 := [.im (.int p), .im (.int q), .im (.int ((p : Int) + (q : Int))), .un]) (by simp [st_slope_word_0]) (seq_rt (e1 := [.im (.int p), .im (.int q), .im (.int ((p : Int) + (q : Int))), .un]) ?_)) rfl
  rw [← flat_lc]
  generalize hws : ((List.range (p + q)).map fun k => [ltr q ((p + q : Nat) : Int) k]) = ws at lc hx
  simp [st_slope_word_1, lc, texts_map, joinT_nil, hx]
/-! ### how many pieces -/
theorem e_many (u : Tx) (hu : u.length ≤ 60) :
    fn_how_many_pieces [.im (.str u)] = some (.im (.tup (((List.range (u.length + 1)).map fun n => ((setT (pcs u n)).length : Int)).map D.int)), [.im (.str u)]) := by
  have hb : u.length ≤ SL := by unfold SL; omega
  have hs : small ((u.length : Int) + 1) = true := small_of (by omega) (by omega)
  have hto : ((u.length : Int) + 1).toNat = u.length + 1 := by omega
  have lc : eLc [1] (iR rng1 (aCons (pE (eOp fAdd (pE (eCall fLen (aCons (pV 0) aNil))) (pE (eC (.int 1))))) aNil)) (gN 1) bTrue ce_how_many_pieces_0 [.im (.str u), .un]
      = some (.fr (.lst (((List.range (u.length + 1)).map fun i : Nat => D.int (i : Int)).map fun d => match d with | .int i => .int ((setT (pcs u i.toNat)).length : Int) | _ => .non)), [.im (.str u), .un]) := by
    refine lc_map (e := [.im (.str u), .un]) _ ?_ (by simp; unfold SL; omega) fun d hd => ?_
    · rw [← rng_nat]
      simp [hb, hs, hto]
    · obtain ⟨i, hi, rfl⟩ := List.mem_map.mp hd
      have hi := List.mem_range.mp hi
      refine ⟨[.im (.str u), .im (.int (i : Int))], .im (.int ((setT (pcs u i)).length : Int)), [.im (.str u), .im (.int (i : Int))], by simp, ?_, by simp, by simp⟩
      have := e_pieces u i (by omega) (by omega)
      simp [ce_how_many_pieces_0, this, dedup_length]
  rw [List.map_map] at lc
  rw [show ((List.range (u.length + 1)).map ((fun d => match d with | .int i => D.int ((setT (pcs u i.toNat)).length : Int) | _ => .non) ∘ fun i : Nat => D.int (i : Int))) = (((List.range (u.length + 1)).map fun n => ((setT (pcs u n)).length : Int)).map D.int) by rw [List.map_map]; rfl] at lc
  generalize hws : (((List.range (u.length + 1)).map fun n => ((setT (pcs u n)).length : Int)).map D.int) = ws at lc
  refine run_rt (seq_rt (e1 := [.im (.str u), .un]) ?_) rfl
  simp [st_how_many_pieces_0, lc]
end signworth_k22_slopes
namespace signworth_k22_slopes
open PySem PySem.Spec PyProof.Rows L2 MP
/-! ### slope words are balanced -/
theorem ediv_lo {n : Int} (hn : 0 < n) (a : Int) : a / n * n ≤ a := (Int.le_ediv_iff_mul_le hn).mp (Int.le_refl _)
theorem ediv_hi {n : Int} (hn : 0 < n) (a : Int) : a < (a / n + 1) * n := (Int.ediv_lt_iff_lt_mul hn).mp (by omega)
theorem ediv_sum {n : Int} (hn : 0 < n) (a b : Int) : a / n + b / n ≤ (a + b) / n ∧ (a + b) / n ≤ a / n + b / n + 1 := by
  have a1 := ediv_lo hn a
  have a2 := ediv_hi hn a
  have b1 := ediv_lo hn b
  have b2 := ediv_hi hn b
  constructor
  · rw [Int.le_ediv_iff_mul_le hn, Int.add_mul]
    omega
  · have : (a + b) / n < a / n + 1 + (b / n + 1) := by
      rw [Int.ediv_lt_iff_lt_mul hn, Int.add_mul]
      omega
    omega
theorem F_step {q n : Int} (hn : 0 < n) (h0 : 0 ≤ q) (h1 : q ≤ n) (k : Nat) : F q n k ≤ F q n (k + 1) ∧ F q n (k + 1) ≤ F q n k + 1 := by
  unfold F
  rw [show ((k + 1 : Nat) : Int) * q = (k : Int) * q + q by rw [show ((k + 1 : Nat) : Int) = (k : Int) + 1 by omega, Int.add_mul, Int.one_mul]]
  have a1 := ediv_lo hn ((k : Int) * q)
  have a2 := ediv_hi hn ((k : Int) * q)
  constructor
  · rw [Int.le_ediv_iff_mul_le hn]
    omega
  · have : ((k : Int) * q + q) / n < (k : Int) * q / n + 1 + 1 := by
      rw [Int.ediv_lt_iff_lt_mul hn, Int.add_mul]
      omega
    omega
theorem cnt_F {q n : Int} (hn : 0 < n) (h0 : 0 ≤ q) (h1 : q ≤ n) : ∀ (m i : Nat), ((((List.range' i m).map (ltr q n)).count 98 : Nat) : Int) = F q n (i + m) - F q n i
  | 0, i => by simp
  | m + 1, i => by
    rw [List.range'_succ, List.map_cons, List.count_cons]
    have ih := cnt_F hn h0 h1 m (i + 1)
    rw [show i + 1 + m = i + (m + 1) by omega] at ih
    obtain ⟨s1, s2⟩ := F_step hn h0 h1 i
    have e : (if (ltr q n i == 98) = true then 1 else 0 : Nat) = (F q n (i + 1) - F q n i).toNat := by
      unfold ltr
      by_cases h : F q n i < F q n (i + 1)
      · rw [if_pos h]
        have : F q n (i + 1) - F q n i = 1 := by omega
        rw [this]; rfl
      · rw [if_neg h]
        have : F q n (i + 1) - F q n i = 0 := by omega
        rw [this]; rfl
    rw [e]
    omega
theorem F_gap {q n : Int} (hn : 0 < n) (i j m : Nat) : F q n (i + m) - F q n i ≤ F q n (j + m) - F q n j + 1 := by
  unfold F
  have e : ∀ i : Nat, ((i + m : Nat) : Int) * q = (i : Int) * q + (m : Int) * q := fun i => by
    rw [show ((i + m : Nat) : Int) = (i : Int) + (m : Int) by omega, Int.add_mul]
  rw [e i, e j]
  have h1 := ediv_sum hn ((i : Int) * q) ((m : Int) * q)
  have h2 := ediv_sum hn ((j : Int) * q) ((m : Int) * q)
  omega
theorem around_eq (q N : Nat) (hN : 0 < N) : slp q (N : Int) N ++ slp q (N : Int) N = (List.range' 0 (N + N)).map (ltr q (N : Int)) := by
  unfold slp
  rw [← List.range_eq_range', List.range_add, List.map_append, List.map_map]
  congr 1
  refine List.map_congr_left fun k _ => ?_
  have e : ∀ k : Nat, F q (N : Int) (N + k) = F q (N : Int) k + q := fun k => by
    unfold F
    rw [show ((N + k : Nat) : Int) * (q : Int) = (k : Int) * (q : Int) + (q : Int) * (N : Int) by
      rw [show ((N + k : Nat) : Int) = (N : Int) + (k : Int) by omega, Int.add_mul, Int.mul_comm (N : Int) (q : Int), Int.add_comm]]
    rw [Int.add_mul_ediv_right _ _ (by omega)]
  show ltr q (N : Int) k = ltr q (N : Int) (N + k)
  unfold ltr
  rw [e k, show N + k + 1 = N + (k + 1) by omega, e (k + 1)]
  by_cases h : F q (N : Int) k < F q (N : Int) (k + 1)
  · rw [if_pos h, if_pos (by omega)]
  · rw [if_neg h, if_neg (by omega)]
theorem pc_around {q n : Int} {M m : Nat} {x : Tx} (h : x ∈ pcs ((List.range' 0 M).map (ltr q n)) m) : ∃ i, x = (List.range' i m).map (ltr q n) := by
  obtain ⟨i, hi, rfl⟩ := mem_pcs.mp h
  rw [List.length_map, List.length_range'] at hi
  refine ⟨i, ?_⟩
  rw [← List.map_drop, ← List.map_take]
  congr 1
  rw [List.drop_range']
  refine List.ext_getElem (by simp; omega) fun k h1 h2 => ?_
  simp
theorem pcs_sub {u v x : Tx} {n : Nat} (h : x ∈ pcs v n) (hv : ∃ p s, u = p ++ v ++ s) : x ∈ pcs u n := by
  obtain ⟨p, s, rfl⟩ := hv
  obtain ⟨h1, p', s', rfl⟩ := mem_pcs_iff.mp h
  exact mem_pcs_iff.mpr ⟨h1, p ++ p', s' ++ s, by simp⟩
theorem slope_bal {q N : Nat} (hN : 0 < N) (hq : q ≤ N) {v : Tx} (hv : ∃ p s, slp q (N : Int) N ++ slp q (N : Int) N = p ++ v ++ s) (m : Nat) : ¬ pr v m := by
  rintro ⟨w, h1, h2⟩
  have h1 := pcs_sub h1 hv
  have h2 := pcs_sub h2 hv
  rw [around_eq q N hN] at h1 h2
  obtain ⟨i, e1⟩ := pc_around h1
  obtain ⟨j, e2⟩ := pc_around h2
  have c1 := cnt_F (q := (q : Int)) (n := (N : Int)) (by omega) (by omega) (by omega) m i
  have c2 := cnt_F (q := (q : Int)) (n := (N : Int)) (by omega) (by omega) (by omega) m j
  rw [← e1] at c1
  rw [← e2] at c2
  have g := F_gap (q := (q : Int)) (n := (N : Int)) (by omega) j i m
  simp [List.count_cons, List.count_append] at c1 c2
  omega
theorem slp_AB (q n : Int) (N : Nat) : isAB (slp q n N) := by
  intro c hc
  unfold slp at hc
  obtain ⟨k, _, rfl⟩ := List.mem_map.mp hc
  unfold ltr
  split
  · exact .inr rfl
  · exact .inl rfl
theorem slp_len (q n : Int) (N : Nat) : (slp q n N).length = N := by unfold slp; simp
end signworth_k22_slopes
namespace signworth_k22_slopes
open PySem PySem.Spec PyProof.Rows L2 MP
/-! ### dicts -/
theorem lk_map (k : Ky) (d : D) (k' : Ky) : ∀ kvs : List (Ky × D), (kvs.any fun kv => decide (kv.1 = k)) = true → lkD (kvs.map fun kv => if kv.1 = k then (kv.1, d) else kv) k' = if k' = k then some d else lkD kvs k'
  | [], h => by cases h
  | (a, b) :: r, h => by
    unfold lkD
    rw [List.map_cons]
    by_cases h1 : a = k
    · subst h1
      by_cases h2 : k' = a
      · subst h2; simp
      · have h3 : ¬ a = k' := fun q => h2 q.symm
        simp [h2, h3, -List.find?_map]
        by_cases h4 : (r.any fun kv => decide (kv.1 = a)) = true
        · have := lk_map a d k' r h4
          unfold lkD at this
          rw [if_neg h2] at this
          exact this
        · have : (r.map fun kv => if kv.1 = a then (kv.1, d) else kv) = r := by
            rw [List.map_congr_left (g := id) fun kv hkv => ?_, List.map_id]
            have : ¬ kv.1 = a := fun q => h4 (List.any_eq_true.mpr ⟨kv, hkv, decide_eq_true q⟩)
            rw [if_neg this]; rfl
          rw [this]
    · have h4 : (r.any fun kv => decide (kv.1 = k)) = true := by simpa [h1] using h
      have := lk_map k d k' r h4
      unfold lkD at this
      by_cases h5 : a = k'
      · subst h5
        simp [h1]
      · simp [h1, h5]
        simpa using this
theorem lkD_putD (kvs : List (Ky × D)) (k : Ky) (d : D) (k' : Ky) : lkD (putD kvs k d) k' = if k' = k then some d else lkD kvs k' := by
  unfold putD
  by_cases h : (kvs.any fun kv => decide (kv.1 = k)) = true
  · rw [if_pos h]
    exact lk_map k d k' kvs h
  · rw [if_neg h]
    unfold lkD
    rw [List.find?_append]
    by_cases e : k' = k
    · subst e
      have : (kvs.find? fun kv => decide (kv.1 = k')) = none := by
        rw [List.find?_eq_none]
        intro kv hkv q
        exact h (List.any_eq_true.mpr ⟨kv, hkv, q⟩)
      rw [this]
      simp
    · have : ¬ k = k' := fun q => e q.symm
      rw [if_neg e]
      simp [this]
theorem any_keyTexts (x : Tx) : ∀ {kvs : List (Ky × D)} {ys : List Tx}, keyTexts kvs = some ys → ((kvs.any fun kv => decide (kv.1 = Sum.inr x)) = true ↔ x ∈ ys)
  | [], ys, h => by cases h; simp
  | (.inl i, _) :: r, ys, h => by cases h
  | (.inr y, d) :: r, ys, h => by
    unfold keyTexts at h
    split at h
    · rename_i zs hz
      cases h
      rw [List.any_cons, Bool.or_eq_true, any_keyTexts x hz, List.mem_cons, decide_eq_true_eq]
      constructor
      · rintro (q | q)
        · exact .inl (Sum.inr.inj q).symm
        · exact .inr q
      · rintro (q | q)
        · exact .inl (by rw [q])
        · exact .inr q
    · cases h
theorem keyTexts_append : ∀ {kvs : List (Ky × D)} {ys : List Tx} (x : Tx) (d : D), keyTexts kvs = some ys → keyTexts (kvs ++ [(.inr x, d)]) = some (ys ++ [x])
  | [], ys, x, d, h => by cases h; rfl
  | (.inl i, _) :: r, ys, x, d, h => by cases h
  | (.inr y, e) :: r, ys, x, d, h => by
    unfold keyTexts at h
    split at h
    · rename_i zs hz
      cases h
      rw [List.cons_append, keyTexts, keyTexts_append x d hz]
      rfl
    · cases h
theorem keyTexts_length : ∀ {kvs : List (Ky × D)} {ys : List Tx}, keyTexts kvs = some ys → kvs.length = ys.length
  | [], ys, h => by cases h; rfl
  | (.inl i, _) :: r, ys, h => by cases h
  | (.inr y, e) :: r, ys, h => by
    unfold keyTexts at h
    split at h
    · rename_i zs hz
      cases h
      rw [List.length_cons, List.length_cons, keyTexts_length hz]
    · cases h
theorem keyTexts_put {kvs : List (Ky × D)} {ys : List Tx} {x : Tx} (d : D) (h : keyTexts kvs = some ys) (hx : x ∉ ys) : keyTexts (putD kvs (.inr x) d) = some (ys ++ [x]) := by
  unfold putD
  rw [if_neg fun q => hx ((any_keyTexts x h).mp q)]
  exact keyTexts_append x d h
theorem putD_length (kvs : List (Ky × D)) (k : Ky) (d : D) : (putD kvs k d).length ≤ kvs.length + 1 := by
  unfold putD
  split
  · rw [List.length_map]; omega
  · rw [List.length_append]; simp
/-! ### the first that stands twice -/
def occ (u : Tx) (n k : Nat) (x : Tx) : List Nat := (List.range k).filter fun i => (u.drop i).take n == x
def mul2 (u : Tx) (n : Nat) (y : Tx) : Prop := 2 ≤ (occ u n (u.length + 1 - n) y).length
def RR (u x : Tx) (i j : Nat) : Prop :=
  (∃ n, 1 ≤ n ∧ n < u.length ∧ (∃ r, occ u n (u.length + 1 - n) x = i :: j :: r) ∧ (∀ y, mul2 u n y → ¬ y < x) ∧ ∀ m, n < m → m < u.length → ∀ y, ¬ mul2 u m y) ∨
    (x = [] ∧ i = 0 ∧ j = 0 ∧ ∀ m, 1 ≤ m → m < u.length → ∀ y, ¬ mul2 u m y)
theorem RR_uniq {u x x' : Tx} {i j i' j' : Nat} (h : RR u x i j) (h' : RR u x' i' j') : x = x' ∧ i = i' ∧ j = j' := by
  have m2 : ∀ {n : Nat} {x : Tx} {i j : Nat}, (∃ r, occ u n (u.length + 1 - n) x = i :: j :: r) → mul2 u n x := fun ⟨r, e⟩ => by
    unfold mul2
    rw [e]
    simp
  rcases h with ⟨n, a1, a2, a3, a4, a5⟩ | ⟨rfl, rfl, rfl, a4⟩
  · rcases h' with ⟨n', b1, b2, b3, b4, b5⟩ | ⟨rfl, rfl, rfl, b4⟩
    · have hn : n = n' := by
        rcases Nat.lt_trichotomy n n' with q | q | q
        · exact absurd (m2 b3) (a5 n' q b2 x')
        · exact q
        · exact absurd (m2 a3) (b5 n q a2 x)
      subst hn
      have hx : x = x' := tle_antisymm (b4 x (m2 a3)) (a4 x' (m2 b3))
      subst hx
      obtain ⟨r, e⟩ := a3
      obtain ⟨r', e'⟩ := b3
      rw [e] at e'
      injection e' with p1 p2
      injection p2 with p2 _
      exact ⟨rfl, p1, p2⟩
    · exact absurd (m2 a3) (b4 n a1 a2 x)
  · rcases h' with ⟨n', b1, b2, b3, b4, b5⟩ | ⟨rfl, rfl, rfl, b4⟩
    · exact absurd (m2 b3) (a4 n' b1 b2 x')
    · exact ⟨rfl, rfl, rfl⟩
theorem occ_succ (u : Tx) (n k : Nat) (y : Tx) : occ u n (k + 1) y = occ u n k y ++ if (u.drop k).take n == y then [k] else [] := by
  unfold occ
  rw [List.range_succ, List.filter_append]
  congr 1
  rw [List.filter_cons]
  split <;> rfl
theorem occ_range {u : Tx} {n k : Nat} {y : Tx} {i : Nat} (h : i ∈ occ u n k y) : i < k := by
  unfold occ at h
  exact List.mem_range.mp (List.mem_filter.mp h).1
theorem mul2_pc {u y : Tx} {n : Nat} (h : mul2 u n y) : y ∈ pcs u n := by
  unfold mul2 at h
  cases hq : occ u n (u.length + 1 - n) y with
  | nil => rw [hq] at h; simp at h
  | cons i r =>
    have hi : i ∈ occ u n (u.length + 1 - n) y := by rw [hq]; exact List.mem_cons_self
    have h1 := occ_range hi
    unfold occ at hi
    have h2 := (List.mem_filter.mp hi).2
    exact mem_pcs.mpr ⟨i, by omega, (beq_iff_eq.mp h2).symm⟩
structure TInv (u : Tx) (n k : Nat) (tw se : List (Ky × D)) : Prop where
  s : ∀ y, lkD se (.inr y) = (occ u n k y)[0]?.map fun i : Nat => D.int (i : Int)
  t : ∀ y, lkD tw (.inr y) = match occ u n k y with
    | i :: j :: _ => some (.tup [.int (i : Int), .int (j : Int)])
    | _ => none
  ys : ∃ ys, keyTexts tw = some ys ∧ ∀ y, y ∈ ys ↔ 2 ≤ (occ u n k y).length
  l1 : tw.length ≤ k
  l2 : se.length ≤ k
theorem TInv.zero (u : Tx) (n : Nat) : TInv u n 0 [] [] := ⟨fun y => rfl, fun y => rfl, ⟨[], rfl, fun y => by simp [occ]⟩, by simp, by simp⟩
end signworth_k22_slopes
namespace signworth_k22_slopes
open PySem PySem.Spec PyProof.Rows L2 MP
theorem occ_same {u : Tx} {n k : Nat} {x : Tx} (hx : (u.drop k).take n = x) : occ u n (k + 1) x = occ u n k x ++ [k] := by
  rw [occ_succ, hx]
  simp
theorem occ_other {u : Tx} {n k : Nat} {x y : Tx} (hx : (u.drop k).take n = x) (h : y ≠ x) : occ u n (k + 1) y = occ u n k y := by
  rw [occ_succ, hx]
  have : (x == y) = false := by simpa using fun q => h q.symm
  rw [this]
  simp
/-- the piece stood before: once -/
theorem TInv.twice {u x : Tx} {n k : Nat} {tw se : List (Ky × D)} {i : Nat} (T : TInv u n k tw se) (hx : (u.drop k).take n = x) (h : occ u n k x = [i]) :
    TInv u n (k + 1) (putD tw (.inr x) (.tup [.int (i : Int), .int (k : Int)])) se := by
  obtain ⟨ys, h1, h2⟩ := T.ys
  have hn : x ∉ ys := fun q => by
    have := (h2 x).mp q
    rw [h] at this
    simp at this
  refine ⟨fun y => ?_, fun y => ?_, ⟨ys ++ [x], keyTexts_put _ h1 hn, fun y => ?_⟩, ?_, Nat.le_succ_of_le T.l2⟩
  · by_cases e : y = x
    · subst e
      rw [T.s, occ_same hx, h]; rfl
    · rw [T.s, occ_other hx e]
  · rw [lkD_putD]
    by_cases e : y = x
    · subst e
      rw [if_pos rfl, occ_same hx, h]; rfl
    · rw [if_neg fun q => e (Sum.inr.inj q), T.t, occ_other hx e]
  · rw [List.mem_append, List.mem_singleton, h2]
    by_cases e : y = x
    · subst e
      rw [occ_same hx, h]
      simp
    · rw [occ_other hx e]
      exact ⟨fun q => q.elim id fun q => absurd q e, .inl⟩
  · have := putD_length tw (.inr x) (.tup [.int (i : Int), .int (k : Int)])
    have := T.l1
    omega
/-- the piece stood before, twice or more -/
theorem TInv.again {u x : Tx} {n k : Nat} {tw se : List (Ky × D)} {i j : Nat} {r : List Nat} (T : TInv u n k tw se) (hx : (u.drop k).take n = x) (h : occ u n k x = i :: j :: r) : TInv u n (k + 1) tw se := by
  obtain ⟨ys, h1, h2⟩ := T.ys
  refine ⟨fun y => ?_, fun y => ?_, ⟨ys, h1, fun y => ?_⟩, Nat.le_succ_of_le T.l1, Nat.le_succ_of_le T.l2⟩
  · by_cases e : y = x
    · subst e
      rw [T.s, occ_same hx, h]; rfl
    · rw [T.s, occ_other hx e]
  · by_cases e : y = x
    · subst e
      rw [T.t, occ_same hx, h]; rfl
    · rw [T.t, occ_other hx e]
  · rw [h2]
    by_cases e : y = x
    · subst e
      rw [occ_same hx, h]
      simp
    · rw [occ_other hx e]
/-- a new piece -/
theorem TInv.new {u x : Tx} {n k : Nat} {tw se : List (Ky × D)} (T : TInv u n k tw se) (hx : (u.drop k).take n = x) (h : occ u n k x = []) : TInv u n (k + 1) tw (putD se (.inr x) (.int (k : Int))) := by
  obtain ⟨ys, h1, h2⟩ := T.ys
  refine ⟨fun y => ?_, fun y => ?_, ⟨ys, h1, fun y => ?_⟩, Nat.le_succ_of_le T.l1, ?_⟩
  · rw [lkD_putD]
    by_cases e : y = x
    · subst e
      rw [if_pos rfl, occ_same hx, h]; rfl
    · rw [if_neg fun q => e (Sum.inr.inj q), T.s, occ_other hx e]
  · by_cases e : y = x
    · subst e
      rw [T.t, occ_same hx, h]; rfl
    · rw [T.t, occ_other hx e]
  · rw [h2]
    by_cases e : y = x
    · subst e
      rw [occ_same hx, h]
      simp
    · rw [occ_other hx e]
  · have := putD_length se (.inr x) (.int (k : Int))
    have := T.l2
    omega
theorem e_first (u : Tx) (hu : u.length ≤ 60) : ∃ (x : Tx) (i j : Nat), fn_first_repeat [.im (.str u)] = some (.im (.tup [.str x, .int (i : Int), .int (j : Int)]), [.im (.str u)]) ∧ RR u x i j := by
  have hb : u.length ≤ SL := by unfold SL; omega
  have hs : small ((u.length : Int) - 1) = true := small_of (by omega) (by omega)
  have hSL : 60 ≤ SL := by decide
  have it : iR rng3 (aCons (pE (eOp fSub (pE (eCall fLen (aCons (pV 0) aNil))) (pE (eC (.int 1))))) (aCons (pE (eC (.int 0))) (aCons (pE (eNeg (pE (eC (.int 1))))) aNil))) [.im (.str u), .un, .un, .un, .un, .un] = some (rng ((u.length : Int) - 1) (u.length - 1) (-1), [.im (.str u), .un, .un, .un, .un, .un]) := by
    simp [hb, hs]
  rcases forF_ind (g := gN 1) (f := bk_first_repeat_4) (fun j env => ∃ c1 c2 c3 c4 c5 : C, env = [.im (.str u), c1, c2, c3, c4, c5] ∧ c1.free = true ∧ c2.free = true ∧ c3.free = true ∧ c4.free = true ∧ c5.free = true ∧ ∀ m, u.length - j ≤ m → m < u.length → ∀ y, ¬ mul2 u m y) (fun _ => False)
      (fun r env => ∃ (x : Tx) (i j : Nat), r = .im (.tup [.str x, .int (i : Int), .int (j : Int)]) ∧ outs [.im (.str u)] env = some [.im (.str u)] ∧ RR u x i j)
      (rng ((u.length : Int) - 1) (u.length - 1) (-1)) 0 [.im (.str u), .un, .un, .un, .un, .un] ⟨.un, .un, .un, .un, .un, rfl, rfl, rfl, rfl, rfl, rfl, fun m h1 h2 => by omega⟩ fun j d env hj hp => by
    rw [Nat.zero_add] at hp ⊢
    obtain ⟨c1, c2, c3, c4, c5, rfl, f1, f2, f3, f4, f5, hm⟩ := hp
    obtain ⟨hjk, rfl⟩ := rngG hj
    obtain ⟨n, hn⟩ : ∃ n, n = u.length - 1 - j := ⟨_, rfl⟩
    have hn0 : n + 1 + j = u.length := by omega
    have hn1 : 1 ≤ n := by omega
    rw [show ((u.length : Int) - 1) + (j : Int) * -1 = ((n : Nat) : Int) by omega]
    have hs2 : small ((u.length : Int) - (n : Int) + 1) = true := small_of (by omega) (by omega)
    have hto : ((u.length : Int) - (n : Int) + 1).toNat = u.length + 1 - n := by omega
    have it2 : iR rng1 (aCons (pE (eOp fAdd (pE (eOp fSub (pE (eCall fLen (aCons (pV 0) aNil))) (pV 1))) (pE (eC (.int 1))))) aNil) [.im (.str u), .im (.int n), .ow (.dk []), .ow (.dk []), c4, c5] = some (rng 0 (u.length + 1 - n : Nat) 1, [.im (.str u), .im (.int n), .ow (.dk []), .ow (.dk []), c4, c5]) := by
      simp [hb, hs2, hto]
    obtain ⟨e, q1, tw, se, c4', c5', rfl, g4, g5, T⟩ := forF_all (g := gN 4) (f := bk_first_repeat_2) (fun k env => ∃ tw se c4 c5, env = [.im (.str u), .im (.int n), .ow (.dk tw), .ow (.dk se), c4, c5] ∧ c4.free = true ∧ c5.free = true ∧ TInv u n k tw se)
      (rng 0 (u.length + 1 - n : Nat) 1) [.im (.str u), .im (.int n), .ow (.dk []), .ow (.dk []), c4, c5] ⟨[], [], c4, c5, rfl, f4, f5, TInv.zero u n⟩ fun k d env hk hp => by
        obtain ⟨tw, se, c4, c5, rfl, f4, f5, T⟩ := hp
        obtain ⟨hkl, rfl⟩ := rngG hk
        rw [show (0 : Int) + (k : Int) * 1 = (k : Int) by omega]
        obtain ⟨x, hx⟩ : ∃ x, (u.drop k).take n = x := ⟨_, rfl⟩
        have hcut : cutT u (some (k : Int)) (some ((k : Int) + (n : Int))) = x := by rw [cut_pc u k n (by omega), hx]
        have hl1 : tw.length < SL := by have := T.l1; omega
        have hl2 : se.length < SL := by have := T.l2; omega
        have s2 : st_first_repeat_2 [.im (.str u), .im (.int n), .ow (.dk tw), .ow (.dk se), .im (.int k), c5] = some (.nx, [.im (.str u), .im (.int n), .ow (.dk tw), .ow (.dk se), .im (.int k), .im (.str x)]) := by
          simp [st_first_repeat_2, hb, hcut, f5]
        have hse := T.s x
        have htw := T.t x
        refine ⟨[.im (.str u), .im (.int n), .ow (.dk tw), .ow (.dk se), .im (.int k), c5], ?_⟩
        rcases hq : occ u n k x with _ | ⟨i, _ | ⟨i2, r⟩⟩
        · rw [hq] at hse htw
          simp at hse
          refine ⟨[.im (.str u), .im (.int n), .ow (.dk tw), .ow (.dk (putD se (.inr x) (.int k))), .im (.int k), .im (.str x)], by simp [f4], seq_nx s2 (seq_nx (if_ff (e1 := [.im (.str u), .im (.int n), .ow (.dk tw), .ow (.dk se), .im (.int k), .im (.str x)]) ?_ (seq_nx ?_ rfl)) rfl), ⟨tw, _, _, _, rfl, rfl, rfl, T.new hx hq⟩⟩
          · simp [hse]
          · simp [st_first_repeat_1, putIx, hl2]
        · rw [hq] at hse htw
          simp at hse
          refine ⟨[.im (.str u), .im (.int n), .ow (.dk (putD tw (.inr x) (.tup [.int (i : Int), .int (k : Int)]))), .ow (.dk se), .im (.int k), .im (.str x)], by simp [f4], seq_nx s2 (seq_nx (if_tt (e1 := [.im (.str u), .im (.int n), .ow (.dk tw), .ow (.dk se), .im (.int k), .im (.str x)]) ?_ (seq_nx ?_ rfl)) rfl), ⟨_, se, _, _, rfl, rfl, rfl, T.twice hx hq⟩⟩
          · simp [hse]
          · have h2 : 2 ≤ SL := by decide
            simp [st_first_repeat_0, hse, htw, hl1, h2]
        · rw [hq] at hse htw
          simp at hse
          refine ⟨[.im (.str u), .im (.int n), .ow (.dk tw), .ow (.dk se), .im (.int k), .im (.str x)], by simp [f4], seq_nx s2 (seq_nx (if_tt (e1 := [.im (.str u), .im (.int n), .ow (.dk tw), .ow (.dk se), .im (.int k), .im (.str x)]) ?_ (seq_nx ?_ rfl)) rfl), ⟨tw, se, _, _, rfl, rfl, rfl, T.again hx hq⟩⟩
          · simp [hse]
          · have h2 : 2 ≤ SL := by decide
            simp [st_first_repeat_0, hse, htw, hl1, h2]
    rw [rngL] at T
    have s6 : st_first_repeat_6 [.im (.str u), .im (.int n), c2, c3, c4, c5] = some (.nx, [.im (.str u), .im (.int n), .ow (.dk []), c3, c4, c5]) := by
      simp [st_first_repeat_6, f2]
    have s7 : st_first_repeat_7 [.im (.str u), .im (.int n), .ow (.dk []), c3, c4, c5] = some (.nx, [.im (.str u), .im (.int n), .ow (.dk []), .ow (.dk []), c4, c5]) := by
      simp [st_first_repeat_7, f3]
    have s8 : st_first_repeat_8 [.im (.str u), .im (.int n), .ow (.dk []), .ow (.dk []), c4, c5] = some (.nx, [.im (.str u), .im (.int n), .ow (.dk tw), .ow (.dk se), c4', c5']) := by
      simp only [st_first_repeat_8, x_sFor, it2]
      exact q1
    obtain ⟨ys, k1, k2⟩ := T.ys
    refine ⟨[.im (.str u), .im (.int n), c2, c3, c4, c5], ?_⟩
    cases hmin : minT ys with
    | none =>
      have hys : ys = [] := by
        cases ys with
        | nil => rfl
        | cons y r =>
          unfold minT at hmin
          split at hmin
          · cases hmin
          · split at hmin <;> cases hmin
      subst hys
      have htw : tw = [] := by
        have := keyTexts_length k1
        exact List.length_eq_zero_iff.mp this
      subst htw
      refine ⟨.nx, [.im (.str u), .im (.int n), .ow (.dk []), .ow (.dk se), c4', c5'], by simp [f1], seq_nx s6 (seq_nx s7 (seq_nx s8 (seq_nx (if_ff (e1 := [.im (.str u), .im (.int n), .ow (.dk []), .ow (.dk se), c4', c5']) ?_ rfl) rfl))), ⟨_, _, _, _, _, rfl, rfl, rfl, rfl, g4, g5, fun m m1 m2 y hy => ?_⟩⟩
      · simp
      · by_cases e : m = n
        · subst e
          have := (k2 y).mpr hy
          cases this
        · exact hm m (by omega) m2 y hy
    | some x =>
      obtain ⟨m1, m2⟩ := minT_spec hmin
      have hne : tw.isEmpty = false := by
        cases tw with
        | nil =>
          have := keyTexts_length k1
          have hy : ys = [] := List.length_eq_zero_iff.mp this.symm
          subst hy
          cases m1
        | cons _ _ => rfl
      have hocc := (k2 x).mp m1
      rcases hq : occ u n (u.length + 1 - n) x with _ | ⟨i, _ | ⟨i2, r⟩⟩
      · rw [hq] at hocc; simp at hocc
      · rw [hq] at hocc; simp at hocc
      · have htw := T.t x
        rw [hq] at htw
        have h1 : 1 ≤ SL := by decide
        have h3 : 1 + 2 ≤ SL := by decide
        have h3' : 3 ≤ SL := by decide
        refine ⟨.rt (.im (.tup [.str x, .int (i : Int), .int (i2 : Int)])), [.im (.str u), .im (.int n), .ow (.dk tw), .ow (.dk se), c4', .im (.str x)], by simp [f1], seq_nx s6 (seq_nx s7 (seq_nx s8 (seq_rt (if_tt (e1 := [.im (.str u), .im (.int n), .ow (.dk tw), .ow (.dk se), c4', c5']) ?_ (seq_nx (e1 := [.im (.str u), .im (.int n), .ow (.dk tw), .ow (.dk se), c4', .im (.str x)]) ?_ (seq_rt ?_)))))), ⟨x, i, i2, rfl, rfl, .inl ⟨n, hn1, by omega, ⟨r, hq⟩, fun y hy => m2 y ((k2 y).mpr hy), fun m p1 p2 => hm m (by omega) p2⟩⟩⟩
        · simp [hne]
        · simp [st_first_repeat_4, fMinD, k1, hmin, g5]
        · simp [st_first_repeat_5, htw, h1, h3, h3']
  with ⟨e, h1, h2⟩ | ⟨r, e, h1, x, i, j, rfl, h2, h3⟩
  · rcases h2 with ⟨c1, c2, c3, c4, c5, rfl, f1, f2, f3, f4, f5, hm⟩ | h2
    · refine ⟨[], 0, 0, run_rt (seq_nx (e1 := [.im (.str u), c1, c2, c3, c4, c5]) ?_ (seq_rt (e1 := [.im (.str u), c1, c2, c3, c4, c5]) ?_)) rfl, .inr ⟨rfl, rfl, rfl, fun m m1 m2 => hm m (by rw [Nat.zero_add, rngL]; omega) m2⟩⟩
      · simp only [st_first_repeat_10, x_sFor]
        rw [show env0 6 [Arg.im (.str u)] = [.im (.str u), .un, .un, .un, .un, .un] from rfl, it]
        exact h1
      · have h3 : 3 ≤ SL := by decide
        simp [st_first_repeat_11, h3]
    · exact h2.elim
  · refine ⟨x, i, j, run_rt (seq_rt (e1 := e) ?_) h2, h3⟩
    simp only [st_first_repeat_10, x_sFor]
    rw [show env0 6 [Arg.im (.str u)] = [.im (.str u), .un, .un, .un, .un, .un] from rfl, it]
    exact h1
end signworth_k22_slopes
namespace signworth_k22_slopes
open PySem PySem.Spec PyProof.Rows L2 MP
theorem places_lc (u : Tx) (hu : u.length ≤ 60) (n : Nat) (hn : n ≤ u.length) (x : Tx) (c3 : C) :
    eLc [4] (iR rng1 (aCons (pE (eOp fAdd (pE (eOp fSub (pE (eCall fLen (aCons (pV 0) aNil))) (pV 1))) (pE (eC (.int 1))))) aNil)) (gN 4) ct_law_repeat_0 ce_law_repeat_0 [.im (.str u), .im (.int n), .im (.str x), c3, .un]
      = some (.fr (.lst ((occ u n (u.length + 1 - n) x).map fun i : Nat => D.int (i : Int))), [.im (.str u), .im (.int n), .im (.str x), c3, .un]) := by
  have hb : u.length ≤ SL := by unfold SL; omega
  have hs2 : small ((u.length : Int) - (n : Int) + 1) = true := small_of (by omega) (by omega)
  have hto : ((u.length : Int) - (n : Int) + 1).toNat = u.length + 1 - n := by omega
  have := lc_filter (is := [4]) (it := iR rng1 (aCons (pE (eOp fAdd (pE (eOp fSub (pE (eCall fLen (aCons (pV 0) aNil))) (pV 1))) (pE (eC (.int 1))))) aNil)) (g := gN 4) (t := ct_law_repeat_0) (f := ce_law_repeat_0) (env := [.im (.str u), .im (.int n), .im (.str x), c3, .un]) (e := [.im (.str u), .im (.int n), .im (.str x), c3, .un])
    (ds := (List.range (u.length + 1 - n)).map fun i : Nat => D.int (i : Int)) (fun d => match d with | .int i => (u.drop i.toNat).take n == x | _ => false) id (by
      rw [← rng_nat]
      simp [hb, hs2, hto]) (by simp; unfold SL; omega) fun d hd => by
    obtain ⟨i, hi, rfl⟩ := List.mem_map.mp hd
    have hi := List.mem_range.mp hi
    refine ⟨[.im (.str u), .im (.int n), .im (.str x), c3, .im (.int (i : Int))], [.im (.str u), .im (.int n), .im (.str x), c3, .im (.int (i : Int))], by simp, ?_, fun _ => by simp, fun _ => ⟨.im (.int (i : Int)), [.im (.str u), .im (.int n), .im (.str x), c3, .im (.int (i : Int))], by simp [ce_law_repeat_0], rfl, by simp⟩⟩
    have hc := cut_pc u i n (by omega)
    simp [ct_law_repeat_0, hb, hc]
  rw [this]
  congr 2
  unfold occ
  rw [List.map_id, List.filter_map]
  rfl
theorem e_lrep (u : Tx) (hu : u.length ≤ 60) : ∃ (x : Tx) (i j : Nat), fn_law_repeat [.im (.str u)] = some (.im (.tup [.str x, .int (i : Int), .int (j : Int)]), [.im (.str u)]) ∧ RR u x i j := by
  have hb : u.length ≤ SL := by unfold SL; omega
  have hs : small ((u.length : Int) - 1) = true := small_of (by omega) (by omega)
  have hSL : 60 ≤ SL := by decide
  have it : iR rng3 (aCons (pE (eOp fSub (pE (eCall fLen (aCons (pV 0) aNil))) (pE (eC (.int 1))))) (aCons (pE (eC (.int 0))) (aCons (pE (eOp fSub (pE (eC (.int 0))) (pE (eC (.int 1))))) aNil))) [.im (.str u), .un, .un, .un, .un] = some (rng ((u.length : Int) - 1) (u.length - 1) (-1), [.im (.str u), .un, .un, .un, .un]) := by
    simp [hb, hs]
  rcases forF_ind (g := gN 1) (f := bk_law_repeat_2) (fun j env => ∃ c1 c2 c3 : C, env = [.im (.str u), c1, c2, c3, .un] ∧ c1.free = true ∧ c2.free = true ∧ c3.free = true ∧ ∀ m, u.length - j ≤ m → m < u.length → ∀ y, ¬ mul2 u m y) (fun _ => False)
      (fun r env => ∃ (x : Tx) (i j : Nat), r = .im (.tup [.str x, .int (i : Int), .int (j : Int)]) ∧ outs [.im (.str u)] env = some [.im (.str u)] ∧ RR u x i j)
      (rng ((u.length : Int) - 1) (u.length - 1) (-1)) 0 [.im (.str u), .un, .un, .un, .un] ⟨.un, .un, .un, rfl, rfl, rfl, rfl, fun m h1 h2 => by omega⟩ fun j d env hj hp => by
    rw [Nat.zero_add] at hp ⊢
    obtain ⟨c1, c2, c3, rfl, f1, f2, f3, hm⟩ := hp
    obtain ⟨hjk, rfl⟩ := rngG hj
    obtain ⟨n, hn⟩ : ∃ n, n = u.length - 1 - j := ⟨_, rfl⟩
    have hn0 : n + 1 + j = u.length := by omega
    have hn1 : 1 ≤ n := by omega
    rw [show ((u.length : Int) - 1) + (j : Int) * -1 = ((n : Nat) : Int) by omega]
    have lp := e_lpieces u n (by omega) (by omega)
    have it2 : iE (eFn fn_law_pieces (aCons (pE (eV 0)) (aCons (pE (eV 1)) aNil))) [.im (.str u), .im (.int n), c2, c3, .un] = some ((setT (pcs u n)).map D.str, [.im (.str u), .im (.int n), c2, c3, .un]) := by
      simp [lp]
    have h3' : 3 ≤ SL := by decide
    rcases forF_ind (g := gN 2) (f := bk_law_repeat_1) (fun i env => ∃ c2 c3 : C, env = [.im (.str u), .im (.int n), c2, c3, .un] ∧ c2.free = true ∧ c3.free = true ∧ ∀ k, k < i → ∀ y, (setT (pcs u n))[k]? = some y → ¬ mul2 u n y) (fun _ => False)
      (fun r env => ∃ (x : Tx) (i j k : Nat), r = .im (.tup [.str x, .int (i : Int), .int (j : Int)]) ∧ outs [.im (.str u)] env = some [.im (.str u)] ∧ (setT (pcs u n))[k]? = some x ∧ (∃ r, occ u n (u.length + 1 - n) x = i :: j :: r) ∧ ∀ k', k' < k → ∀ y, (setT (pcs u n))[k']? = some y → ¬ mul2 u n y)
      ((setT (pcs u n)).map D.str) 0 [.im (.str u), .im (.int n), c2, c3, .un] ⟨c2, c3, rfl, f2, f3, fun k hk => by omega⟩ fun i d env hi hp => by
        rw [Nat.zero_add] at hp ⊢
        obtain ⟨c2, c3, rfl, f2, f3, hk⟩ := hp
        rw [List.getElem?_map] at hi
        obtain ⟨x, hx, rfl⟩ := Option.map_eq_some_iff.mp hi
        have lc := places_lc u hu n (by omega) x c3
        have s1 : st_law_repeat_1 [.im (.str u), .im (.int n), .im (.str x), c3, .un] = some (.nx, [.im (.str u), .im (.int n), .im (.str x), .ow (.lst ((occ u n (u.length + 1 - n) x).map fun i : Nat => D.int (i : Int))), .un]) := by
          simp only [st_law_repeat_1, x_sAsg, lc]
          simp [f3]
        by_cases h2 : mul2 u n x
        · rcases hq : occ u n (u.length + 1 - n) x with _ | ⟨i1, _ | ⟨i2, r⟩⟩
          · unfold mul2 at h2; rw [hq] at h2; simp at h2
          · unfold mul2 at h2; rw [hq] at h2; simp at h2
          · rw [hq] at s1
            refine ⟨[.im (.str u), .im (.int n), .im (.str x), c3, .un], .rt _, _, by simp [f2], seq_nx s1 (seq_rt (if_tt (e1 := [.im (.str u), .im (.int n), .im (.str x), .ow (.lst ((i1 :: i2 :: r).map fun i : Nat => D.int (i : Int))), .un]) ?_ (seq_rt (r := .im (.tup [.str x, .int (i1 : Int), .int (i2 : Int)])) (e1 := [.im (.str u), .im (.int n), .im (.str x), .ow (.lst ((i1 :: i2 :: r).map fun i : Nat => D.int (i : Int))), .un]) ?_))), ⟨x, i1, i2, i, rfl, rfl, hx, ⟨r, hq⟩, hk⟩⟩
            · simp
              omega
            · simp [st_law_repeat_0, h3']
        · refine ⟨[.im (.str u), .im (.int n), .im (.str x), c3, .un], .nx, _, by simp [f2], seq_nx s1 (seq_nx (if_ff (e1 := [.im (.str u), .im (.int n), .im (.str x), .ow (.lst ((occ u n (u.length + 1 - n) x).map fun i : Nat => D.int (i : Int))), .un]) ?_ rfl) rfl), ⟨_, _, rfl, rfl, rfl, fun k' hk' y hy => ?_⟩⟩
          · unfold mul2 at h2
            simp
            omega
          · by_cases e : k' = i
            · subst e
              rw [hx] at hy
              cases hy
              exact h2
            · exact hk k' (by omega) y hy
    with ⟨e, h1, h2⟩ | ⟨r, e, h1, x, i1, i2, k, rfl, h2, h3, h4, h5⟩
    · rcases h2 with ⟨c2', c3', rfl, g2, g3, hk⟩ | h2
      · refine ⟨[.im (.str u), .im (.int n), c2, c3, .un], .nx, [.im (.str u), .im (.int n), c2', c3', .un], by simp [f1], seq_nx (e1 := [.im (.str u), .im (.int n), c2', c3', .un]) ?_ rfl, ⟨_, _, _, rfl, rfl, g2, g3, fun m m1 m2 y hy => ?_⟩⟩
        · simp only [st_law_repeat_3, x_sFor, it2]
          exact h1
        · by_cases e : m = n
          · subst e
            obtain ⟨k, hk1, hk2⟩ := List.getElem_of_mem (setT_mem.mpr (mul2_pc hy))
            exact hk k (by rw [Nat.zero_add, List.length_map]; exact hk1) y (by rw [List.getElem?_eq_getElem hk1, hk2]) hy
          · exact hm m (by omega) m2 y hy
      · exact h2.elim
    · refine ⟨[.im (.str u), .im (.int n), c2, c3, .un], .rt _, e, by simp [f1], seq_rt ?_, ⟨x, i1, i2, rfl, h2, .inl ⟨n, hn1, by omega, h4, fun y hy => ?_, fun m m1 m2 => hm m (by omega) m2⟩⟩⟩
      · simp only [st_law_repeat_3, x_sFor, it2]
        exact h1
      · obtain ⟨k', hk1, hk2⟩ := List.getElem_of_mem (setT_mem.mpr (mul2_pc hy))
        have hy2 : (setT (pcs u n))[k']? = some y := by rw [List.getElem?_eq_getElem hk1, hk2]
        have hkl : k < (setT (pcs u n)).length := (List.getElem?_eq_some_iff.mp h3).1
        have hxk : (setT (pcs u n))[k] = x := (List.getElem?_eq_some_iff.mp h3).2
        rcases Nat.lt_trichotomy k' k with q | q | q
        · exact absurd hy (h5 k' q y hy2)
        · subst q
          rw [hk2] at hxk
          rw [hxk]
          exact tlt_irrefl _
        · have := List.pairwise_iff_getElem.mp (setT_sorted (pcs u n)) k k' hkl hk1 q
          rw [hxk, hk2] at this
          exact this
  with ⟨e, h1, h2⟩ | ⟨r, e, h1, x, i, j, rfl, h2, h3⟩
  · rcases h2 with ⟨c1, c2, c3, rfl, f1, f2, f3, hm⟩ | h2
    · refine ⟨[], 0, 0, run_rt (seq_nx (e1 := [.im (.str u), c1, c2, c3, .un]) ?_ (seq_rt (e1 := [.im (.str u), c1, c2, c3, .un]) ?_)) rfl, .inr ⟨rfl, rfl, rfl, fun m m1 m2 => hm m (by rw [Nat.zero_add, rngL]; omega) m2⟩⟩
      · simp only [st_law_repeat_4, x_sFor]
        rw [show env0 5 [Arg.im (.str u)] = [.im (.str u), .un, .un, .un, .un] from rfl, it]
        exact h1
      · have h3 : 3 ≤ SL := by decide
        simp [st_law_repeat_5, h3]
    · exact h2.elim
  · refine ⟨x, i, j, run_rt (seq_rt (e1 := e) ?_) h2, h3⟩
    simp only [st_law_repeat_4, x_sFor]
    rw [show env0 5 [Arg.im (.str u)] = [.im (.str u), .un, .un, .un, .un] from rfl, it]
    exact h1
theorem e_rep (u : Tx) (hu : u.length ≤ 60) : ∃ (x : Tx) (i j : Nat), fn_first_repeat [.im (.str u)] = some (.im (.tup [.str x, .int (i : Int), .int (j : Int)]), [.im (.str u)]) ∧ fn_law_repeat [.im (.str u)] = some (.im (.tup [.str x, .int (i : Int), .int (j : Int)]), [.im (.str u)]) ∧ (x = [] ∨ ∃ n, x ∈ pcs u n) ∧ i ≤ 100 ∧ j ≤ 100 := by
  obtain ⟨x, i, j, h1, h2⟩ := e_first u hu
  obtain ⟨x', i', j', h3, h4⟩ := e_lrep u hu
  obtain ⟨rfl, rfl, rfl⟩ := RR_uniq h2 h4
  refine ⟨x, i, j, h1, h3, ?_⟩
  rcases h2 with ⟨n, a1, a2, ⟨r, e⟩, a4, a5⟩ | ⟨rfl, rfl, rfl, _⟩
  · have m : mul2 u n x := by unfold mul2; rw [e]; simp
    have hi := occ_range (u := u) (n := n) (k := u.length + 1 - n) (y := x) (i := i) (by rw [e]; simp)
    have hj := occ_range (u := u) (n := n) (k := u.length + 1 - n) (y := x) (i := j) (by rw [e]; simp)
    exact ⟨.inr ⟨n, mul2_pc m⟩, by omega, by omega⟩
  · exact ⟨.inl rfl, by omega, by omega⟩
end signworth_k22_slopes
namespace signworth_k22_slopes
open PySem PySem.Spec PyProof.Rows L2 MP
theorem take22 {c : D} (hc : CSt c) (m : Int) (h1 : 1 ≤ m) (h2 : m < 1073741824) : ∃ (d : Nat) (c' : D), fn_law_take [.bo c, .im (.int m)] = some (.im (.int (d : Int)), [.bo c', .im (.int m)]) ∧ CSt c' ∧ (d : Int) < m := by
  obtain ⟨d, c', h3, h4, h5, h6⟩ := MP.take_ok hc m h1 h2
  obtain ⟨k, rfl⟩ := Int.eq_ofNat_of_zero_le h5
  exact ⟨k, c', h3, h4, h6⟩
theorem word22 {c : D} (hc : CSt c) (ls : Tx) (h0 : ls ≠ []) (h1 : ls.length ≤ 1000) (m : Nat) (h2 : m ≤ 1000) : ∃ (w : Tx) (c' : D), fn_law_word [.bo c, .im (.str ls), .im (.int (m : Int))] = some (.im (.str w), [.bo c', .im (.str ls), .im (.int (m : Int))]) ∧ CSt c' ∧ w.length ≤ m ∧ ∀ x ∈ w, x ∈ ls :=
  MP.word_ok hc ls h0 h1 m h2
theorem start22 (ns : List Int) (hl : ns.length ≤ 63) : ∃ c args', fn_law_start [.im (.fz (ns.map D.int))] = some (.fr c, args') ∧ CSt c ∧ args' = [.im (.fz (ns.map D.int))] := by
  obtain ⟨c, args', h1, h2⟩ := MP.start_ok ns hl
  refine ⟨c, args', h1, h2, ?_⟩
  have h1 : MP.fn_law_start [.im (.fz (ns.map D.int))] = some (.fr c, args') := h1
  unfold MP.fn_law_start runF at h1
  split at h1
  · rename_i e h; split at h1 <;> cases h1
  · rename_i v e h
    split at h1
    · rename_i r hr
      cases h1
      cases e with
      | nil => cases hr
      | cons x e =>
        unfold outs at hr
        unfold outs at hr
        cases hr
        rfl
    · cases h1
  · cases h1
/-! ### the first rows -/
theorem row14 (S : C) (c : D) (p q : Nat) (hp : p < 9) (hq : q < 9) : ∃ p' q' : Nat, p' < 9 ∧ q' < 9 ∧ 0 < p' + q' ∧ st_law_14 [S, .ow c, .im (.int (p : Int)), .im (.int (q : Int)), .un, .un, .un, .un, .un, .un, .un, .un, .un, .un, .un, .un, .un, .un, .un, .un] = some (.nx, [S, .ow c, .im (.int (p' : Int)), .im (.int (q' : Int)), .un, .un, .un, .un, .un, .un, .un, .un, .un, .un, .un, .un, .un, .un, .un, .un]) := by
  obtain ⟨g, h1, h2⟩ := e_div p q hp hq
  by_cases hg : g = 1
  · refine ⟨p, q, hp, hq, h2 hg, if_ff (e1 := [S, .ow c, .im (.int (p : Int)), .im (.int (q : Int)), .un, .un, .un, .un, .un, .un, .un, .un, .un, .un, .un, .un, .un, .un, .un, .un]) ?_ rfl⟩
    subst hg
    simp [h1]
  · refine ⟨3, 2, by omega, by omega, by omega, if_tt (e1 := [S, .ow c, .im (.int (p : Int)), .im (.int (q : Int)), .un, .un, .un, .un, .un, .un, .un, .un, .un, .un, .un, .un, .un, .un, .un, .un]) ?_ (seq_nx ?_ rfl)⟩
    · have : (g == 1) = false := by simpa using hg
      simp [h1, this]
    · have : 2 ≤ SL := by decide
      simp [st_law_0, this]

theorem row16 (S : C) (c : D) (p q : Nat) (hp : p < 9) (hq : q < 9) (h0 : 0 < p + q) : st_law_16 [S, .ow c, .im (.int (p : Int)), .im (.int (q : Int)), .im (.int ((p : Int) + (q : Int))), .un, .un, .un, .un, .un, .un, .un, .un, .un, .un, .un, .un, .un, .un, .un] = some (.nx, [S, .ow c, .im (.int (p : Int)), .im (.int (q : Int)), .im (.int ((p : Int) + (q : Int))), .im (.str (slp q ((p + q : Nat) : Int) (p + q))), .un, .un, .un, .un, .un, .un, .un, .un, .un, .un, .un, .un, .un, .un]) := by
  have hs : small ((p + q : Nat) : Int) = true := small_of (by omega) (by omega)
  have hn1 : (0 : Int) < (p : Int) + (q : Int) := by omega
  have hn2 : (p : Int) + (q : Int) < 1073741824 := by omega
  have hs' : small ((p : Int) + (q : Int)) = true := by rw [← Int.natCast_add]; exact hs
  have hto : ((p : Int) + (q : Int)).toNat = p + q := by omega
  have hq64 : q < 18446744073709551616 := by omega
  have lc : eLc [6] (iR rng1 (aCons (pV 4) aNil)) (gN 6) bTrue ce_law_0 [S, .ow c, .im (.int (p : Int)), .im (.int (q : Int)), .im (.int ((p : Int) + (q : Int))), .un, .un, .un, .un, .un, .un, .un, .un, .un, .un, .un, .un, .un, .un, .un]
      = some (.fr (.lst (((List.range (p + q)).map fun i : Nat => D.int (i : Int)).map (ltD q ((p + q : Nat) : Int)))), [S, .ow c, .im (.int (p : Int)), .im (.int (q : Int)), .im (.int ((p : Int) + (q : Int))), .un, .un, .un, .un, .un, .un, .un, .un, .un, .un, .un, .un, .un, .un, .un]) := by
    refine lc_map (e := [S, .ow c, .im (.int (p : Int)), .im (.int (q : Int)), .im (.int ((p : Int) + (q : Int))), .un, .un, .un, .un, .un, .un, .un, .un, .un, .un, .un, .un, .un, .un, .un]) _ ?_ (by simp; unfold MP.SL; omega) fun d hd => ?_
    · rw [← rng_nat]
      simp [hs', hto]
    · obtain ⟨i, hi, rfl⟩ := List.mem_map.mp hd
      have hi := List.mem_range.mp hi
      refine ⟨[S, .ow c, .im (.int (p : Int)), .im (.int (q : Int)), .im (.int ((p : Int) + (q : Int))), .un, .im (.int (i : Int)), .un, .un, .un, .un, .un, .un, .un, .un, .un, .un, .un, .un, .un], .im (.str [ltr q ((p + q : Nat) : Int) i]), [S, .ow c, .im (.int (p : Int)), .im (.int (q : Int)), .im (.int ((p : Int) + (q : Int))), .un, .im (.int (i : Int)), .un, .un, .un, .un, .un, .un, .un, .un, .un, .un, .un, .un, .un], by simp, ?_, rfl, by simp⟩
      have hi1 : ((i : Int) + 1).natAbs < 18446744073709551616 := by omega
      have hi2 : i < 18446744073709551616 := by omega
      have he := ltr_eval (q := q) (n := ((p + q : Nat) : Int)) (k := i)
      rw [Int.natCast_add] at he ⊢
      rw [← he]
      by_cases hc : (i : Int) * (q : Int) / ((p : Int) + (q : Int)) < ((i : Int) + 1) * (q : Int) / ((p : Int) + (q : Int))
      · simp [ce_law_0, hn1, hn2, hi1, hi2, hq64, hc]
      · simp [ce_law_0, hn1, hn2, hi1, hi2, hq64, hc]
  rw [texts_lc] at lc
  have hx : (((List.range (p + q)).map fun k => [ltr q ((p + q : Nat) : Int) k]).map List.length).sum ≤ MP.SL := by
    rw [sum_ones]
    unfold MP.SL
    omega
  rw [← flat_lc]
  generalize hws : ((List.range (p + q)).map fun k => [ltr q ((p + q : Nat) : Int) k]) = ws at lc hx
  simp [st_law_16, lc, texts_map, joinT_nil, hx]

theorem uni_AB {u : Tx} (h : isAB u) : uni u := fun c hc => by rcases h c hc with rfl | rfl <;> omega
theorem rp_str {u : Tx} (h : uni u) (hl : u.length ≤ 1000) : fRepr [.str u] = some (.im (.str (rp (.str u)))) := repr_ok (by
    rw [D.tame, List.all_eq_true]
    intro c hc
    simpa using h c hc) (by show 0 ≤ 100; omega) (by show 10 * u.length + 2 ≤ MP.SL; unfold MP.SL; omega)
theorem rp_bl (k : Bool) : fRepr [.bl k] = some (.im (.str (rp (.bl k)))) := repr_ok rfl (by show 0 ≤ 100; omega) (by show 21 ≤ MP.SL; decide)
theorem row17 (S : C) (c : D) (p q : Nat) (hp : p < 9) (hq : q < 9) (h0 : 0 < p + q) : st_law_17 [S, .ow c, .im (.int (p : Int)), .im (.int (q : Int)), .im (.int ((p : Int) + (q : Int))), .im (.str (slp q ((p + q : Nat) : Int) (p + q))), .un, .un, .un, .un, .un, .un, .un, .un, .un, .un, .un, .un, .un, .un] = some (.nx, [S, .ow c, .im (.int (p : Int)), .im (.int (q : Int)), .im (.int ((p : Int) + (q : Int))), .im (.str (slp q ((p + q : Nat) : Int) (p + q))), .un, .un, .un, .un, .un, .un, .un, .un, .un, .un, .un, .un, .un, .un]) := by
  refine if_ff (e1 := [S, .ow c, .im (.int (p : Int)), .im (.int (q : Int)), .im (.int ((p : Int) + (q : Int))), .im (.str (slp q ((p + q : Nat) : Int) (p + q))), .un, .un, .un, .un, .un, .un, .un, .un, .un, .un, .un, .un, .un, .un]) ?_ rfl
  have h1 := e_slope p q hp hq h0
  have h2 := rp_str (uni_AB (slp_AB q ((p + q : Nat) : Int) (p + q))) (by rw [slp_len]; omega)
  simp only [Int.natCast_add] at h1 h2
  simp [h1, h2]

theorem row18 (S : C) (c : D) (p q : Nat) (hp : p < 9) (hq : q < 9) : st_law_18 [S, .ow c, .im (.int (p : Int)), .im (.int (q : Int)), .im (.int ((p : Int) + (q : Int))), .im (.str (slp q ((p + q : Nat) : Int) (p + q))), .un, .un, .un, .un, .un, .un, .un, .un, .un, .un, .un, .un, .un, .un] = some (.nx, [S, .ow c, .im (.int (p : Int)), .im (.int (q : Int)), .im (.int ((p : Int) + (q : Int))), .im (.str (slp q ((p + q : Nat) : Int) (p + q))), .un, .im (.str (slp q ((p + q : Nat) : Int) (p + q) ++ slp q ((p + q : Nat) : Int) (p + q))), .un, .un, .un, .un, .un, .un, .un, .un, .un, .un, .un, .un]) := by
  have : (slp q ((p + q : Nat) : Int) (p + q)).length + (slp q ((p + q : Nat) : Int) (p + q)).length ≤ MP.SL := by
    rw [slp_len]
    unfold MP.SL
    omega
  simp only [Int.natCast_add] at this
  simp [st_law_18, this]
theorem row20 (S : C) {c : D} (hc : CSt c) (p q kd : Nat) (hp : p < 9) (hq : q < 9) (h0 : 0 < p + q) (hk : kd < 3) : ∃ (w : Tx) (c' : D), st_law_20 [S, .ow c, .im (.int (p : Int)), .im (.int (q : Int)), .im (.int ((p : Int) + (q : Int))), .im (.str (slp q ((p + q : Nat) : Int) (p + q))), .un, .im (.str (slp q ((p + q : Nat) : Int) (p + q) ++ slp q ((p + q : Nat) : Int) (p + q))), .im (.int (kd : Int)), .un, .un, .un, .un, .un, .un, .un, .un, .un, .un, .un] = some (.nx, [S, .ow c', .im (.int (p : Int)), .im (.int (q : Int)), .im (.int ((p : Int) + (q : Int))), .im (.str (slp q ((p + q : Nat) : Int) (p + q))), .un, .im (.str (slp q ((p + q : Nat) : Int) (p + q) ++ slp q ((p + q : Nat) : Int) (p + q))), .im (.int (kd : Int)), .im (.str w), .un, .un, .un, .un, .un, .un, .un, .un, .un, .un]) ∧ CSt c' ∧ isAB w ∧ w.length ≤ 24 ∧ (kd = 0 → ∀ m, ¬ pr w m) := by
  obtain ⟨t, c1, t1, hc1, tl⟩ := take22 hc ((p : Int) + (q : Int)) (by omega) (by omega)
  obtain ⟨w2, c2, t2, hc2, w2l, w2m⟩ := word22 hc1 [97, 98] (by simp) (by simp) 12 (by omega)
  obtain ⟨w3, c3, t3, hc3, w3l, w3m⟩ := word22 hc2 [97, 98] (by simp) (by simp) 3 (by omega)
  obtain ⟨sl, hsl⟩ : ∃ sl, slp q ((p + q : Nat) : Int) (p + q) = sl := ⟨_, rfl⟩
  have sll : sl.length = p + q := by rw [← hsl, slp_len]
  have slab : isAB sl := by rw [← hsl]; exact slp_AB _ _ _
  have k1 : (sl ++ sl).length ≤ MP.SL := by rw [List.length_append]; unfold MP.SL; omega
  have k2 : sl.length + w3.length ≤ MP.SL := by unfold MP.SL; omega
  have k3 : 3 ≤ MP.SL := by decide
  have cut1 : cutT (sl ++ sl) (some (t : Int)) none = (sl ++ sl).drop t := by
    unfold cutT
    rw [HT.sIx_nat, HT.sIx_none, Nat.min_eq_left (by rw [List.length_append]; omega)]
    exact List.take_of_length_le (by rw [List.length_drop]; omega)
  have cut2 : cutT ((sl ++ sl).drop t) none (some ((p : Int) + (q : Int) + 4)) = ((sl ++ sl).drop t).take (p + q + 4) := by
    unfold cutT
    rw [HT.sIx_none, show (p : Int) + (q : Int) + 4 = ((p + q + 4 : Nat) : Int) by omega, HT.sIx_nat, List.drop_zero, Nat.sub_zero]
    rcases Nat.le_total (p + q + 4) ((sl ++ sl).drop t).length with h | h
    · rw [Nat.min_eq_left h]
    · rw [Nat.min_eq_right h, List.take_of_length_le (Nat.le_refl _), List.take_of_length_le h]
  have k4 : ((sl ++ sl).drop t).length ≤ MP.SL := by rw [List.length_drop]; omega
  have hw3 : isAB (sl ++ w3) := fun x hx => by
    rcases List.mem_append.mp hx with hx | hx
    · exact slab x hx
    · simpa using w3m x hx
  have hw2 : isAB w2 := fun x hx => by simpa using w2m x hx
  have main : ∀ w, [((sl ++ sl).drop t).take (p + q + 4), w2, sl ++ w3][kd]? = some w → st_law_20 [S, .ow c, .im (.int (p : Int)), .im (.int (q : Int)), .im (.int ((p : Int) + (q : Int))), .im (.str (sl)), .un, .im (.str (sl ++ sl)), .im (.int (kd : Int)), .un, .un, .un, .un, .un, .un, .un, .un, .un, .un, .un] = some (.nx, [S, .ow c3, .im (.int (p : Int)), .im (.int (q : Int)), .im (.int ((p : Int) + (q : Int))), .im (.str (sl)), .un, .im (.str (sl ++ sl)), .im (.int (kd : Int)), .im (.str w), .un, .un, .un, .un, .un, .un, .un, .un, .un, .un]) := fun w hw => by
    have hw' : atI [D.str (((sl ++ sl).drop t).take (p + q + 4)), .str w2, .str (sl ++ w3)] (kd : Int) = some (.str w) := by
      rw [atI_of_nat, show [D.str (((sl ++ sl).drop t).take (p + q + 4)), .str w2, .str (sl ++ w3)] = [((sl ++ sl).drop t).take (p + q + 4), w2, sl ++ w3].map D.str from rfl, List.getElem?_map, hw]
      rfl
    simp only [List.length_append, List.length_drop] at k1 k4
    simp at t2 t3
    simp [st_law_20, t1, t2, t3, k1, k2, k3, k4, cut1, cut2, hw']
  rcases kd with _ | _ | _ | kd
  · refine ⟨((sl ++ sl).drop t).take (p + q + 4), c3, ?_, hc3, fun x hx => ?_, ?_, fun _ => ?_⟩
    · rw [hsl]; exact main _ rfl
    · have := List.mem_of_mem_drop (List.mem_of_mem_take hx)
      rcases List.mem_append.mp this with h | h <;> exact slab x h
    · rw [List.length_take]; omega
    · have hv : ∃ a b, slp q ((p + q : Nat) : Int) (p + q) ++ slp q ((p + q : Nat) : Int) (p + q) = a ++ ((sl ++ sl).drop t).take (p + q + 4) ++ b := by
        rw [hsl]
        exact ⟨(sl ++ sl).take t, ((sl ++ sl).drop t).drop (p + q + 4), by rw [List.append_assoc, List.take_append_drop, List.take_append_drop]⟩
      exact slope_bal h0 (by omega) hv
  · refine ⟨w2, c3, ?_, hc3, hw2, by omega, fun h => by omega⟩
    rw [hsl]; exact main _ rfl
  · refine ⟨sl ++ w3, c3, ?_, hc3, hw3, by rw [List.length_append]; omega, fun h => by omega⟩
    rw [hsl]; exact main _ rfl
  · omega
end signworth_k22_slopes
namespace signworth_k22_slopes
open PySem PySem.Spec PyProof.Rows L2 MP
theorem uni_Un : uni tUn := by intro c hc; revert c; decide
theorem uni_Ba : uni tBa := by intro c hc; revert c; decide
/-- what the paper is -/
structure Pap (u : Tx) (vs : List Tx) : Prop where
  good : Gd22 u vs
  shape : (vs = [tBa] ∧ (∀ m, ¬ pr u m) ∧ fn_law_least [.im (.str u)] = some (.im .non, [.im (.str u)])) ∨ ∃ (s : Nat) (x y : Tx), vs = [tUn, x, y] ∧ 2 ≤ s ∧ s ≤ 60 ∧ fn_law_least [.im (.str u)] = some (.im (.int s), [.im (.str u)]) ∧ ∃ m, pr u m
  uni : ∀ v ∈ vs, uni v
  len : ∀ v ∈ vs, v.length ≤ 60
theorem e_pap (u : Tx) (hu : u.length ≤ 60) (hab : isAB u) : ∃ vs, fn_balanced_paper [.im (.str u)] = some (.im (.tup (vs.map D.str)), [.im (.str u)]) ∧ Pap u vs := by
  have hun := uni_AB hab
  rcases e_paper u hu with ⟨n, w, p1, p2, p3, p4, p5, p6⟩ | ⟨p1, p2⟩
  · refine ⟨[tUn, 97 :: (w ++ [97]), 98 :: (w ++ [98])], p6, .inr ⟨n, w, p1, rfl, p3, p4, p5⟩, .inr ?_, fun v hv => ?_, fun v hv => ?_⟩
    · rcases least_pr u hu hab with ⟨s, l1, l2, l3, l4, l5⟩ | ⟨l1, l2⟩
      · exact ⟨s, _, _, rfl, l2, by omega, l1, n, w, p3, p4⟩
      · exact absurd ⟨w, p3, p4⟩ (l2 n)
    · rcases List.mem_cons.mp hv with rfl | hv
      · exact uni_Un
      · rcases List.mem_cons.mp hv with rfl | hv
        · exact uni_pc hun p3
        · rw [List.mem_singleton.mp hv]; exact uni_pc hun p4
    · rcases List.mem_cons.mp hv with rfl | hv
      · decide
      · rcases List.mem_cons.mp hv with rfl | hv
        · rw [pcs_len p3]; omega
        · rw [List.mem_singleton.mp hv, pcs_len p4]; omega
  · have hno : ∀ m, ¬ pr u m := fun m h => p1 m (pr_imb h).2 h
    refine ⟨[tBa], p2, .inl ⟨rfl, p1⟩, .inl ⟨rfl, hno, ?_⟩, fun v hv => ?_, fun v hv => ?_⟩
    · rcases least_pr u hu hab with ⟨s, l1, l2, l3, l4, l5⟩ | ⟨l1, l2⟩
      · exact absurd l4 (hno s)
      · exact l1
    · rw [List.mem_singleton.mp hv]; exact uni_Ba
    · rw [List.mem_singleton.mp hv]; decide
section
variable (S c2 c3 c4 c5 c7 : C) (kd : Nat)
theorem row21 (c : D) {w : Tx} {vs : List Tx} (hp : fn_balanced_paper [.im (.str w)] = some (.im (.tup (vs.map D.str)), [.im (.str w)])) : st_law_21 [S, .ow c, c2, c3, c4, c5, .un, c7, .im (.int (kd : Int)), .im (.str w), .un, .un, .un, .un, .un, .un, .un, .un, .un, .un] = some (.nx, [S, .ow c, c2, c3, c4, c5, .un, c7, .im (.int (kd : Int)), .im (.str w), .im (.tup (vs.map D.str)), .un, .un, .un, .un, .un, .un, .un, .un, .un]) := by
  simp [st_law_21, hp]
theorem row22 (c : D) {w : Tx} {vs : List Tx} (hw : w.length ≤ 24) (hab : isAB w) (P : Pap w vs) : st_law_22 [S, .ow c, c2, c3, c4, c5, .un, c7, .im (.int (kd : Int)), .im (.str w), .im (.tup (vs.map D.str)), .un, .un, .un, .un, .un, .un, .un, .un, .un] = some (.nx, [S, .ow c, c2, c3, c4, c5, .un, c7, .im (.int (kd : Int)), .im (.str w), .im (.tup (vs.map D.str)), .un, .un, .un, .un, .un, .un, .un, .un, .un]) := by
  refine if_ff (e1 := [S, .ow c, c2, c3, c4, c5, .un, c7, .im (.int (kd : Int)), .im (.str w), .im (.tup (vs.map D.str)), .un, .un, .un, .un, .un, .un, .un, .un, .un]) ?_ rfl
  obtain ⟨k, h1, h2⟩ := e_holds w (by omega) hab vs (fun v hv => by have := P.len v hv; omega) (by
    rcases P.shape with ⟨rfl, _⟩ | ⟨s, x, y, rfl, _⟩ <;> simp)
  have hk : k = true := h2.mpr P.good
  subst hk
  rcases P.shape with ⟨rfl, _, h3⟩ | ⟨s, x, y, rfl, s1, s2, h3, _⟩
  · simp [tBa] at h1 ⊢
    simp [h1, h3]
  · simp [tUn] at h1 ⊢
    simp [h1, h3]
theorem row23 (c : D) {w : Tx} {vs : List Tx} (P : Pap w vs) (h0 : kd = 0 → ∀ m, ¬ pr w m) : st_law_23 [S, .ow c, c2, c3, c4, c5, .un, c7, .im (.int (kd : Int)), .im (.str w), .im (.tup (vs.map D.str)), .un, .un, .un, .un, .un, .un, .un, .un, .un] = some (.nx, [S, .ow c, c2, c3, c4, c5, .un, c7, .im (.int (kd : Int)), .im (.str w), .im (.tup (vs.map D.str)), .un, .un, .un, .un, .un, .un, .un, .un, .un]) := by
  refine if_ff (e1 := [S, .ow c, c2, c3, c4, c5, .un, c7, .im (.int (kd : Int)), .im (.str w), .im (.tup (vs.map D.str)), .un, .un, .un, .un, .un, .un, .un, .un, .un]) ?_ rfl
  by_cases hk : kd = 0
  · rcases P.shape with ⟨rfl, _, h3⟩ | ⟨s, x, y, rfl, s1, s2, h3, m, hm⟩
    · subst hk
      simp [tBa]
    · exact absurd hm (h0 hk m)
  · have : ((kd : Int) == 0) = false := by
      simp
      omega
    simp [this]

theorem row24 {c : D} (hc : CSt c) {w : Tx} {vs : List Tx} (hw : w.length ≤ 24) : ∃ (k : Nat) (c' : D), st_law_24 [S, .ow c, c2, c3, c4, c5, .un, c7, .im (.int (kd : Int)), .im (.str w), .im (.tup (vs.map D.str)), .un, .un, .un, .un, .un, .un, .un, .un, .un] = some (.nx, [S, .ow c', c2, c3, c4, c5, .im (.int (k : Int)), c7, .im (.int (kd : Int)), .im (.str w), .im (.tup (vs.map D.str)), .un, .un, .un, .un, .un, .un, .un, .un, .un]) ∧ CSt c' ∧ k ≤ w.length := by
  obtain ⟨k, c', t1, hc', hk⟩ := take22 hc ((w.length : Int) + 1) (by omega) (by omega)
  have hb : w.length ≤ MP.SL := by unfold MP.SL; omega
  exact ⟨k, c', by simp [st_law_24, hb, t1], hc', by omega⟩
theorem row25 (c : D) (k : Nat) {w : Tx} {vs : List Tx} (P : Pap w vs) : ∃ sz : Nat, st_law_25 [S, .ow c, c2, c3, c4, c5, .im (.int (k : Int)), c7, .im (.int (kd : Int)), .im (.str w), .im (.tup (vs.map D.str)), .un, .un, .un, .un, .un, .un, .un, .un, .un] = some (.nx, [S, .ow c, c2, c3, c4, c5, .im (.int (k : Int)), c7, .im (.int (kd : Int)), .im (.str w), .im (.tup (vs.map D.str)), .im (.int (sz : Int)), .un, .un, .un, .un, .un, .un, .un, .un]) ∧ sz ≤ 60 := by
  rcases P.shape with ⟨rfl, _, h3⟩ | ⟨s, x, y, rfl, s1, s2, h3, _⟩
  · exact ⟨2, by simp [st_law_25, h3], by omega⟩
  · have : ((s : Int) != 0) = true := by
      simp
      omega
    exact ⟨s, by simp [st_law_25, h3, this], by omega⟩
theorem cut_any (w : Tx) (lo hi : Option Int) : (cutT w lo hi).length ≤ w.length ∧ ∀ x ∈ cutT w lo hi, x ∈ w := by
  unfold cutT
  refine ⟨?_, fun x hx => List.mem_of_mem_drop (List.mem_of_mem_take hx)⟩
  rw [List.length_take, List.length_drop]
  omega
theorem row26 (c : D) (k sz : Nat) {w : Tx} {vs : List Tx} (hw : w.length ≤ 24) (hab : isAB w) : ∃ one two : Tx, st_law_26 [S, .ow c, c2, c3, c4, c5, .im (.int (k : Int)), c7, .im (.int (kd : Int)), .im (.str w), .im (.tup (vs.map D.str)), .im (.int (sz : Int)), .un, .un, .un, .un, .un, .un, .un, .un] = some (.nx, [S, .ow c, c2, c3, c4, c5, .im (.int (k : Int)), c7, .im (.int (kd : Int)), .im (.str w), .im (.tup (vs.map D.str)), .im (.int (sz : Int)), .im (.str one), .im (.str two), .un, .un, .un, .un, .un, .un]) ∧ one.length ≤ 24 ∧ two.length ≤ 24 ∧ uni one ∧ uni two := by
  have hb : w.length ≤ MP.SL := by unfold MP.SL; omega
  have a := cut_any w (some (k : Int)) (some ((k : Int) + (sz : Int)))
  have b := cut_any w none (some (sz : Int))
  exact ⟨_, _, by simp [st_law_26, hb], by omega, by omega, fun x hx => uni_AB hab x (a.2 x hx), fun x hx => uni_AB hab x (b.2 x hx)⟩
theorem row27 (c : D) (k sz : Nat) (one two : Tx) {w : Tx} {vs : List Tx} (P : Pap w vs) : st_law_27 [S, .ow c, c2, c3, c4, c5, .im (.int (k : Int)), c7, .im (.int (kd : Int)), .im (.str w), .im (.tup (vs.map D.str)), .im (.int (sz : Int)), .im (.str one), .im (.str two), .un, .un, .un, .un, .un, .un] = some (.nx, [S, .ow c, c2, c3, c4, c5, .im (.int (k : Int)), c7, .im (.int (kd : Int)), .im (.str w), .im (.tup (vs.map D.str)), .im (.int (sz : Int)), .im (.str one), .im (.str two), .ow (.lst ([vs, vs.take 1, [tBa], [tUn, one, two], [tUn, [97, 97], [98, 98]], [], vs ++ [[]]].map fun v => D.tup (v.map D.str))), .un, .un, .un, .un, .un]) := by
  have hcut : cutT (vs.map D.str) none (some 1) = (vs.take 1).map D.str := by
    unfold cutT
    rw [HT.sIx_none, show HT.sIx (vs.map D.str).length (vs.map D.str).length (some 1) = min 1 (vs.map D.str).length from HT.sIx_nat _ _ 1, List.drop_zero, Nat.sub_zero, List.map_take]
    rcases P.shape with ⟨rfl, _⟩ | ⟨s, x, y, rfl, _⟩ <;> rfl
  have hl : vs.length ≤ 3 := by
    rcases P.shape with ⟨rfl, _⟩ | ⟨s, x, y, rfl, _⟩ <;> simp
  have h1 : 1 ≤ MP.SL := by decide
  have h3 : 3 ≤ MP.SL := by decide
  have h7 : 7 ≤ MP.SL := by decide
  have h0 : vs.length + 1 ≤ MP.SL := by unfold MP.SL; omega
  simp [st_law_27, hcut, h1, h3, h7, h0, tBa, tUn]
theorem judged (u : Tx) (hu : u.length ≤ 24) (hab : isAB u) (vs : List Tx) (hv : ∀ v ∈ vs, uni v) (hl : ∀ v ∈ vs, v.length ≤ 1000) (hvl : vs.length ≤ 10) :
    ∃ k, fn_judge_balanced [.im (.str u), .im (.tup (vs.map D.str))] = some (.im (.bl k), [.im (.str u), .im (.tup (vs.map D.str))]) ∧ fn_law_holds [.im (.str u), .im (.tup (vs.map D.str))] = some (.im (.bl k), [.im (.str u), .im (.tup (vs.map D.str))]) := by
  obtain ⟨k, h1, h2⟩ := e_judge u (by omega) (uni_AB hab) vs hv hl hvl
  obtain ⟨k', h3, h4⟩ := e_holds u (by omega) hab vs hl hvl
  have : k = k' := by rw [Bool.eq_iff_iff, h2, h4]
  subst this
  exact ⟨k, h1, h3⟩
theorem row28 (c : D) (k sz : Nat) (one two : Tx) {w : Tx} {vs : List Tx} (hw : w.length ≤ 24) (hab : isAB w) (P : Pap w vs) (l1 : one.length ≤ 24) (l2 : two.length ≤ 24) (u1 : uni one) (u2 : uni two) :
    ∃ c14 c15 : C, st_law_28 [S, .ow c, c2, c3, c4, c5, .im (.int (k : Int)), c7, .im (.int (kd : Int)), .im (.str w), .im (.tup (vs.map D.str)), .im (.int (sz : Int)), .im (.str one), .im (.str two), .ow (.lst ([vs, vs.take 1, [tBa], [tUn, one, two], [tUn, [97, 97], [98, 98]], [], vs ++ [[]]].map fun v => D.tup (v.map D.str))), .un, .un, .un, .un, .un] = some (.nx, [S, .ow c, c2, c3, c4, c5, .im (.int (k : Int)), c7, .im (.int (kd : Int)), .im (.str w), .im (.tup (vs.map D.str)), .im (.int (sz : Int)), .im (.str one), .im (.str two), c14, c15, .un, .un, .un, .un]) ∧ c15.free = true := by
  obtain ⟨VS, hVS⟩ : ∃ VS, VS = [vs, vs.take 1, [tBa], [tUn, one, two], [tUn, [97, 97], [98, 98]], [], vs ++ [[]]] := ⟨_, rfl⟩
  have hl : vs.length ≤ 3 := by
    rcases P.shape with ⟨rfl, _⟩ | ⟨s, x, y, rfl, _⟩ <;> simp
  have U : ∀ v ∈ VS, (∀ x ∈ v, uni x ∧ x.length ≤ 1000) ∧ v.length ≤ 10 := by
    have q : ∀ x ∈ vs, uni x ∧ x.length ≤ 1000 := fun x hx => ⟨P.uni x hx, by have := P.len x hx; omega⟩
    have qB : uni tBa ∧ tBa.length ≤ 1000 := ⟨uni_Ba, by decide⟩
    have qU : uni tUn ∧ tUn.length ≤ 1000 := ⟨uni_Un, by decide⟩
    intro v hv
    rw [hVS] at hv
    simp only [List.mem_cons, List.not_mem_nil, or_false] at hv
    rcases hv with rfl | rfl | rfl | rfl | rfl | rfl | rfl
    · exact ⟨q, by omega⟩
    · exact ⟨fun x hx => q x (List.mem_of_mem_take hx), by rw [List.length_take]; omega⟩
    · exact ⟨fun x hx => by rw [List.mem_singleton.mp hx]; exact qB, by simp⟩
    · refine ⟨fun x hx => ?_, by simp⟩
      simp only [List.mem_cons, List.not_mem_nil, or_false] at hx
      rcases hx with rfl | rfl | rfl
      · exact qU
      · exact ⟨u1, by omega⟩
      · exact ⟨u2, by omega⟩
    · refine ⟨fun x hx => ?_, by simp⟩
      simp only [List.mem_cons, List.not_mem_nil, or_false] at hx
      rcases hx with rfl | rfl | rfl
      · exact qU
      · exact ⟨by intro c hc; revert c; decide, by simp⟩
      · exact ⟨by intro c hc; revert c; decide, by simp⟩
    · exact ⟨fun x hx => (by cases hx), by simp⟩
    · refine ⟨fun x hx => ?_, by rw [List.length_append]; simp; omega⟩
      rcases List.mem_append.mp hx with hx | hx
      · exact q x hx
      · rw [List.mem_singleton.mp hx]
        exact ⟨fun c hc => (by cases hc), by simp⟩
  rw [← hVS]
  obtain ⟨e, q1, c15, rfl, q2⟩ := forF_all (g := gN 15) (f := bk_law_5) (fun _ env => ∃ c15 : C, env = [S, .ow c, c2, c3, c4, c5, .im (.int (k : Int)), c7, .im (.int (kd : Int)), .im (.str w), .im (.tup (vs.map D.str)), .im (.int (sz : Int)), .im (.str one), .im (.str two), .im (.lst (VS.map fun v => D.tup (v.map D.str))), c15, .un, .un, .un, .un] ∧ c15.free = true)
    (VS.map fun v => D.tup (v.map D.str)) [S, .ow c, c2, c3, c4, c5, .im (.int (k : Int)), c7, .im (.int (kd : Int)), .im (.str w), .im (.tup (vs.map D.str)), .im (.int (sz : Int)), .im (.str one), .im (.str two), .im (.lst (VS.map fun v => D.tup (v.map D.str))), .un, .un, .un, .un, .un] ⟨.un, rfl, rfl⟩ fun j d env hj hp => by
      obtain ⟨c15, rfl, f⟩ := hp
      rw [List.getElem?_map] at hj
      obtain ⟨v, hv, rfl⟩ := Option.map_eq_some_iff.mp hj
      obtain ⟨v1, v2⟩ := U v (List.mem_of_getElem? hv)
      obtain ⟨b, j1, j2⟩ := judged w hw hab v (fun x hx => (v1 x hx).1) (fun x hx => (v1 x hx).2) v2
      refine ⟨[S, .ow c, c2, c3, c4, c5, .im (.int (k : Int)), c7, .im (.int (kd : Int)), .im (.str w), .im (.tup (vs.map D.str)), .im (.int (sz : Int)), .im (.str one), .im (.str two), .im (.lst (VS.map fun v => D.tup (v.map D.str))), .im (.tup (v.map D.str)), .un, .un, .un, .un], [S, .ow c, c2, c3, c4, c5, .im (.int (k : Int)), c7, .im (.int (kd : Int)), .im (.str w), .im (.tup (vs.map D.str)), .im (.int (sz : Int)), .im (.str one), .im (.str two), .im (.lst (VS.map fun v => D.tup (v.map D.str))), .im (.tup (v.map D.str)), .un, .un, .un, .un], by simp [f], seq_nx (if_ff (e1 := [S, .ow c, c2, c3, c4, c5, .im (.int (k : Int)), c7, .im (.int (kd : Int)), .im (.str w), .im (.tup (vs.map D.str)), .im (.int (sz : Int)), .im (.str one), .im (.str two), .im (.lst (VS.map fun v => D.tup (v.map D.str))), .im (.tup (v.map D.str)), .un, .un, .un, .un]) ?_ rfl) rfl, _, rfl, rfl⟩
      simp [j1, j2, rp_bl]
  refine ⟨.im (.lst (VS.map fun v => D.tup (v.map D.str))), c15, ?_, q2⟩
  simp only [st_law_28, x_sFor]
  rw [show iE (eV 14) [S, .ow c, c2, c3, c4, c5, .im (.int (k : Int)), c7, .im (.int (kd : Int)), .im (.str w), .im (.tup (vs.map D.str)), .im (.int (sz : Int)), .im (.str one), .im (.str two), .ow (.lst (VS.map fun v => D.tup (v.map D.str))), .un, .un, .un, .un, .un] = some (VS.map fun v => D.tup (v.map D.str), [S, .ow c, c2, c3, c4, c5, .im (.int (k : Int)), c7, .im (.int (kd : Int)), .im (.str w), .im (.tup (vs.map D.str)), .im (.int (sz : Int)), .im (.str one), .im (.str two), .im (.lst (VS.map fun v => D.tup (v.map D.str))), .un, .un, .un, .un, .un]) by simp]
  exact q1
theorem row29 (c : D) (k sz : Nat) (one two : Tx) (c14 c15 : C) {w : Tx} {vs : List Tx} (hw : w.length ≤ 24) (hab : isAB w) (P : Pap w vs) :
    ∃ c16 : C, st_law_29 [S, .ow c, c2, c3, c4, c5, .im (.int (k : Int)), c7, .im (.int (kd : Int)), .im (.str w), .im (.tup (vs.map D.str)), .im (.int (sz : Int)), .im (.str one), .im (.str two), c14, c15, .un, .un, .un, .un] = some (.nx, [S, .ow c, c2, c3, c4, c5, .im (.int (k : Int)), c7, .im (.int (kd : Int)), .im (.str w), .im (.tup (vs.map D.str)), .im (.int (sz : Int)), .im (.str one), .im (.str two), c14, c15, c16, .un, .un, .un]) := by
  rcases P.shape with ⟨rfl, _⟩ | ⟨s, x, y, rfl, _⟩
  · refine ⟨.un, if_ff (e1 := [S, .ow c, c2, c3, c4, c5, .im (.int (k : Int)), c7, .im (.int (kd : Int)), .im (.str w), .im (.tup ([tBa].map D.str)), .im (.int (sz : Int)), .im (.str one), .im (.str two), c14, c15, .un, .un, .un, .un]) ?_ rfl⟩
    simp [tBa]
  · obtain ⟨b, j1, j2⟩ := judged w hw hab [tUn, y, x] (fun v hv => by
      simp only [List.mem_cons, List.not_mem_nil, or_false] at hv
      rcases hv with rfl | rfl | rfl
      · exact uni_Un
      · exact P.uni _ (by simp)
      · exact P.uni _ (by simp)) (fun v hv => by
      simp only [List.mem_cons, List.not_mem_nil, or_false] at hv
      rcases hv with rfl | rfl | rfl
      · decide
      · have := P.len v (by simp); omega
      · have := P.len v (by simp); omega) (by simp)
    have h3 : 3 ≤ MP.SL := by decide
    refine ⟨.im (.tup [.str tUn, .str y, .str x]), if_tt (e1 := [S, .ow c, c2, c3, c4, c5, .im (.int (k : Int)), c7, .im (.int (kd : Int)), .im (.str w), .im (.tup ([tUn, x, y].map D.str)), .im (.int (sz : Int)), .im (.str one), .im (.str two), c14, c15, .un, .un, .un, .un]) ?_ (seq_nx (e1 := [S, .ow c, c2, c3, c4, c5, .im (.int (k : Int)), c7, .im (.int (kd : Int)), .im (.str w), .im (.tup ([tUn, x, y].map D.str)), .im (.int (sz : Int)), .im (.str one), .im (.str two), c14, c15, .im (.tup [.str tUn, .str y, .str x]), .un, .un, .un]) ?_ (seq_nx (if_ff (e1 := [S, .ow c, c2, c3, c4, c5, .im (.int (k : Int)), c7, .im (.int (kd : Int)), .im (.str w), .im (.tup ([tUn, x, y].map D.str)), .im (.int (sz : Int)), .im (.str one), .im (.str two), c14, c15, .im (.tup [.str tUn, .str y, .str x]), .un, .un, .un]) ?_ rfl) rfl))⟩
    · simp [tUn]
    · simp [st_law_7, h3, tUn]
    · simp at j1 j2
      simp [j1, j2, rp_bl]

end
end signworth_k22_slopes
namespace signworth_k22_slopes
open PySem PySem.Spec PyProof.Rows L2 MP
section
variable (S c2 c3 c4 c5 c7 c12 c13 c14 c15 c16 : C) (kd : Nat)
theorem row30 {c : D} (hc : CSt c) (k sz : Nat) {w : Tx} {vs : List Tx} : ∃ (ot : Tx) (c' : D), st_law_30 [S, .ow c, c2, c3, c4, c5, .im (.int (k : Int)), c7, .im (.int (kd : Int)), .im (.str w), .im (.tup (vs.map D.str)), .im (.int (sz : Int)), c12, c13, c14, c15, c16, .un, .un, .un] = some (.nx, [S, .ow c', c2, c3, c4, c5, .im (.int (k : Int)), c7, .im (.int (kd : Int)), .im (.str w), .im (.tup (vs.map D.str)), .im (.int (sz : Int)), c12, c13, c14, c15, c16, .im (.str ot), .un, .un]) ∧ CSt c' ∧ ot.length ≤ 12 ∧ uni ot := by
  obtain ⟨ot, c', t1, hc', l1, m1⟩ := word22 hc [97, 98, 99] (by simp) (by simp) 12 (by omega)
  simp at t1
  refine ⟨ot, c', by simp [st_law_30, t1], hc', l1, fun x hx => ?_⟩
  have := m1 x hx
  simp at this
  omega
theorem due_lc (c : D) (k sz : Nat) (w ot u : Tx) (vs : List Tx) (c19 : C) (hu : u.length ≤ 60) :
    eLc [11] (iR rng1 (aCons (pE (eOp fAdd (pE (eCall fLen (aCons (pV 18) aNil))) (pE (eC (.int 1))))) aNil)) (gN 11) bTrue ce_law_1 [S, .ow c, c2, c3, c4, c5, .im (.int (k : Int)), c7, .im (.int (kd : Int)), .im (.str w), .im (.tup (vs.map D.str)), .im (.int (sz : Int)), c12, c13, c14, c15, c16, .im (.str ot), .im (.str u), c19]
      = some (.fr (.lst (((List.range (u.length + 1)).map fun n => ((setT (pcs u n)).length : Int)).map D.int)), [S, .ow c, c2, c3, c4, c5, .im (.int (k : Int)), c7, .im (.int (kd : Int)), .im (.str w), .im (.tup (vs.map D.str)), .im (.int (sz : Int)), c12, c13, c14, c15, c16, .im (.str ot), .im (.str u), c19]) := by
  have hb : u.length ≤ MP.SL := by unfold MP.SL; omega
  have hs : small ((u.length : Int) + 1) = true := small_of (by omega) (by omega)
  have hto : ((u.length : Int) + 1).toNat = u.length + 1 := by omega
  have := lc_map (is := [11]) (it := iR rng1 (aCons (pE (eOp fAdd (pE (eCall fLen (aCons (pV 18) aNil))) (pE (eC (.int 1))))) aNil)) (g := gN 11) (f := ce_law_1) (env := [S, .ow c, c2, c3, c4, c5, .im (.int (k : Int)), c7, .im (.int (kd : Int)), .im (.str w), .im (.tup (vs.map D.str)), .im (.int (sz : Int)), c12, c13, c14, c15, c16, .im (.str ot), .im (.str u), c19]) (e := [S, .ow c, c2, c3, c4, c5, .im (.int (k : Int)), c7, .im (.int (kd : Int)), .im (.str w), .im (.tup (vs.map D.str)), .im (.int (sz : Int)), c12, c13, c14, c15, c16, .im (.str ot), .im (.str u), c19])
    (ds := (List.range (u.length + 1)).map fun i : Nat => D.int (i : Int)) (fun d => match d with | .int i => .int ((setT (pcs u i.toNat)).length : Int) | _ => .non) (by
      rw [← rng_nat]
      simp [hb, hs, hto]) (by simp; unfold MP.SL; omega) fun d hd => by
    obtain ⟨i, hi, rfl⟩ := List.mem_map.mp hd
    have hi := List.mem_range.mp hi
    have lp := e_lpieces u i (by omega) (by omega)
    refine ⟨[S, .ow c, c2, c3, c4, c5, .im (.int (k : Int)), c7, .im (.int (kd : Int)), .im (.str w), .im (.tup (vs.map D.str)), .im (.int (i : Int)), c12, c13, c14, c15, c16, .im (.str ot), .im (.str u), c19], .im (.int ((setT (pcs u i)).length : Int)), [S, .ow c, c2, c3, c4, c5, .im (.int (k : Int)), c7, .im (.int (kd : Int)), .im (.str w), .im (.tup (vs.map D.str)), .im (.int (i : Int)), c12, c13, c14, c15, c16, .im (.str ot), .im (.str u), c19], by simp, ?_, rfl, by simp⟩
    simp [ce_law_1, lp]
  rw [this, List.map_map, List.map_map]
  rfl
theorem rp_ints (xs : List Int) (h : ∀ x ∈ xs, x.natAbs < 1000000000000000000) (hl : xs.length ≤ 1000) : fRepr [.tup (xs.map D.int)] = some (.im (.str (rp (.tup (xs.map D.int))))) := repr_ok (tames_ints xs h) (by
    rw [D.dep, deps_flat D.int (fun _ => rfl)]
    omega) (by
    rw [D.wt, wts_ints]
    unfold MP.SL
    omega)
theorem rp_tri (x : Tx) (i j : Nat) (h : uni x) (hl : x.length ≤ 1000) (hi : i ≤ 100) (hj : j ≤ 100) : fRepr [.tup [.str x, .int (i : Int), .int (j : Int)]] = some (.im (.str (rp (.tup [.str x, .int (i : Int), .int (j : Int)])))) := repr_ok (by
    show (D.tame (.str x) && (D.tame (.int (i : Int)) && (D.tame (.int (j : Int)) && true))) = true
    have h1 : D.tame (.str x) = true := by
      rw [D.tame, List.all_eq_true]
      intro c hc
      simpa using h c hc
    have h2 : ∀ i : Nat, i ≤ 100 → D.tame (.int (i : Int)) = true := fun i hi => by
      rw [D.tame, decide_eq_true_eq]
      omega
    rw [h1, h2 i hi, h2 j hj]; rfl) (by
    show max 0 (max 0 (max 0 0)) + 1 ≤ 100
    omega) (by
    show (10 * x.length + 2) + 2 + (21 + 2 + (21 + 2 + 0)) + 3 ≤ MP.SL
    unfold MP.SL
    omega)
theorem rowB (c : D) (k sz : Nat) (w ot u : Tx) (vs : List Tx) (c19 : C) (hu : u.length ≤ 60) (hun : uni u) (f : c19.free = true) :
    ∃ c19' : C, bk_law_9 [S, .ow c, c2, c3, c4, c5, .im (.int (k : Int)), c7, .im (.int (kd : Int)), .im (.str w), .im (.tup (vs.map D.str)), .im (.int (sz : Int)), c12, c13, c14, c15, c16, .im (.str ot), .im (.str u), c19] = some (.nx, [S, .ow c, c2, c3, c4, c5, .im (.int (k : Int)), c7, .im (.int (kd : Int)), .im (.str w), .im (.tup (vs.map D.str)), .im (.int (sz : Int)), c12, c13, c14, c15, c16, .im (.str ot), .im (.str u), c19']) ∧ c19'.free = true := by
  have lc := due_lc S c2 c3 c4 c5 c7 c12 c13 c14 c15 c16 kd c k sz w ot u vs c19 hu
  have hm := e_many u hu
  obtain ⟨x, i, j, r1, r2, hx, hi, hj⟩ := e_rep u hu
  have hxu : uni x ∧ x.length ≤ 1000 := by
    rcases hx with rfl | ⟨n, hn⟩
    · exact ⟨fun c hc => (by cases hc), by simp⟩
    · exact ⟨uni_pc hun hn, by have := pcs_len hn; have := pcs_le hn; omega⟩
  have hr := rp_tri x i j hxu.1 hxu.2 hi hj
  have hq := rp_ints ((List.range (u.length + 1)).map fun n => ((setT (pcs u n)).length : Int)) (fun z hz => by
    obtain ⟨n, hn, rfl⟩ := List.mem_map.mp hz
    have := setT_len (pcs u n)
    rw [pcs_length] at this
    omega) (by simp; omega)
  generalize ((List.range (u.length + 1)).map fun n => ((setT (pcs u n)).length : Int)) = zs at lc hm hq
  refine ⟨.ow (.lst (zs.map D.int)), seq_nx (e1 := [S, .ow c, c2, c3, c4, c5, .im (.int (k : Int)), c7, .im (.int (kd : Int)), .im (.str w), .im (.tup (vs.map D.str)), .im (.int (sz : Int)), c12, c13, c14, c15, c16, .im (.str ot), .im (.str u), .ow (.lst (zs.map D.int))]) ?_ (seq_nx (if_ff (e1 := [S, .ow c, c2, c3, c4, c5, .im (.int (k : Int)), c7, .im (.int (kd : Int)), .im (.str w), .im (.tup (vs.map D.str)), .im (.int (sz : Int)), c12, c13, c14, c15, c16, .im (.str ot), .im (.str u), .ow (.lst (zs.map D.int))]) ?_ rfl) rfl), rfl⟩
  · simp only [st_law_10, x_sAsg, lc]
    simp [f]
  · simp [hm, hq, r1, r2, hr]
theorem row31 (c : D) (k sz : Nat) {w ot : Tx} {vs : List Tx} (hw : w.length ≤ 24) (hab : isAB w) (ho : ot.length ≤ 12) (hou : uni ot) : ∃ e, st_law_31 [S, .ow c, c2, c3, c4, c5, .im (.int (k : Int)), c7, .im (.int (kd : Int)), .im (.str w), .im (.tup (vs.map D.str)), .im (.int (sz : Int)), c12, c13, c14, c15, c16, .im (.str ot), .un, .un] = some (.nx, e) ∧ ∃ r, e = S :: r := by
  obtain ⟨e, q1, c18, c19, rfl, f18, f19⟩ := forF_all (g := gN 18) (f := bk_law_9) (fun _ env => ∃ c18 c19 : C, env = [S, .ow c, c2, c3, c4, c5, .im (.int (k : Int)), c7, .im (.int (kd : Int)), .im (.str w), .im (.tup (vs.map D.str)), .im (.int (sz : Int)), c12, c13, c14, c15, c16, .im (.str ot), c18, c19] ∧ c18.free = true ∧ c19.free = true)
    [.str w, .str ot] [S, .ow c, c2, c3, c4, c5, .im (.int (k : Int)), c7, .im (.int (kd : Int)), .im (.str w), .im (.tup (vs.map D.str)), .im (.int (sz : Int)), c12, c13, c14, c15, c16, .im (.str ot), .un, .un] ⟨.un, .un, rfl, rfl, rfl⟩ fun j d env hj hp => by
      obtain ⟨c18, c19, rfl, f18, f19⟩ := hp
      have hd : ∃ u, d = .str u ∧ u.length ≤ 60 ∧ uni u := by
        rcases j with _ | _ | j
        · simp at hj; exact ⟨w, hj.symm, by omega, uni_AB hab⟩
        · simp at hj; exact ⟨ot, hj.symm, by omega, hou⟩
        · simp at hj
      obtain ⟨u, rfl, hu, hun⟩ := hd
      obtain ⟨c19', h1, h2⟩ := rowB S c2 c3 c4 c5 c7 c12 c13 c14 c15 c16 kd c k sz w ot u vs c19 hu hun f19
      exact ⟨_, _, by simp [f18], h1, _, c19', rfl, rfl, h2⟩
  refine ⟨[S, .ow c, c2, c3, c4, c5, .im (.int (k : Int)), c7, .im (.int (kd : Int)), .im (.str w), .im (.tup (vs.map D.str)), .im (.int (sz : Int)), c12, c13, c14, c15, c16, .im (.str ot), c18, c19], ?_, _, rfl⟩
  have h2 : 2 ≤ MP.SL := by decide
  simp only [st_law_31, x_sFor]
  rw [show iE (eTup (aCons (pE (eV 9)) (aCons (pE (eV 17)) aNil))) [S, .ow c, c2, c3, c4, c5, .im (.int (k : Int)), c7, .im (.int (kd : Int)), .im (.str w), .im (.tup (vs.map D.str)), .im (.int (sz : Int)), c12, c13, c14, c15, c16, .im (.str ot), .un, .un] = some ([D.str w, .str ot], [S, .ow c, c2, c3, c4, c5, .im (.int (k : Int)), c7, .im (.int (kd : Int)), .im (.str w), .im (.tup (vs.map D.str)), .im (.int (sz : Int)), c12, c13, c14, c15, c16, .im (.str ot), .un, .un]) by simp [h2]]
  exact q1
end
end signworth_k22_slopes
namespace signworth_k22_slopes
open PySem PySem.Spec PyProof.Rows L2 MP
theorem law_true : ∀ ns : List Int, ns.length ≤ 63 → ∃ args', fn_law [.im (.fz (ns.map D.int))] = some (.im (.bl true), args') := by
  intro ns hl
  obtain ⟨c0, as0, t0, hc0, rfl⟩ := start22 ns hl
  obtain ⟨p0, c1, t1, hc1, p0l⟩ := take22 hc0 9 (by omega) (by omega)
  obtain ⟨q0, c2, t2, hc2, q0l⟩ := take22 hc1 9 (by omega) (by omega)
  obtain ⟨S, hS⟩ : ∃ S, C.im (.fz (ns.map D.int)) = S := ⟨_, rfl⟩
  have h12 : st_law_12 (env0 20 [.im (.fz (ns.map D.int))]) = some (.nx, [S, .ow c0, .un, .un, .un, .un, .un, .un, .un, .un, .un, .un, .un, .un, .un, .un, .un, .un, .un, .un]) := by
    rw [← hS]
    simp [st_law_12, t0]
  have h2 : 2 ≤ MP.SL := by decide
  have h13 : st_law_13 [S, .ow c0, .un, .un, .un, .un, .un, .un, .un, .un, .un, .un, .un, .un, .un, .un, .un, .un, .un, .un] = some (.nx, [S, .ow c2, .im (.int (p0 : Int)), .im (.int (q0 : Int)), .un, .un, .un, .un, .un, .un, .un, .un, .un, .un, .un, .un, .un, .un, .un, .un]) := by
    simp [st_law_13, t1, t2, h2]
  obtain ⟨p, q, hp, hq, h0, h14⟩ := row14 S c2 p0 q0 (by omega) (by omega)
  have h15 : st_law_15 [S, .ow c2, .im (.int (p : Int)), .im (.int (q : Int)), .un, .un, .un, .un, .un, .un, .un, .un, .un, .un, .un, .un, .un, .un, .un, .un] = some (.nx, [S, .ow c2, .im (.int (p : Int)), .im (.int (q : Int)), .im (.int ((p : Int) + (q : Int))), .un, .un, .un, .un, .un, .un, .un, .un, .un, .un, .un, .un, .un, .un, .un]) := by
    simp [st_law_15]
  have h16 := row16 S c2 p q hp hq h0
  have h17 := row17 S c2 p q hp hq h0
  have h18 := row18 S c2 p q hp hq
  obtain ⟨kd, c3, t3, hc3, kdl⟩ := take22 hc2 3 (by omega) (by omega)
  obtain ⟨w, c4, h20, hc4, hab, hw, hk0⟩ := row20 S hc3 p q kd hp hq h0 (by omega)
  have h19 : ∀ x y z u v : C, st_law_19 [S, .ow c2, x, y, z, u, .un, v, .un, .un, .un, .un, .un, .un, .un, .un, .un, .un, .un, .un] = some (.nx, [S, .ow c3, x, y, z, u, .un, v, .im (.int (kd : Int)), .un, .un, .un, .un, .un, .un, .un, .un, .un, .un, .un]) := fun x y z u v => by
    simp [st_law_19, t3]
  obtain ⟨vs, hpap, P⟩ := e_pap w (by omega) hab
  obtain ⟨k, c5, h24, hc5, hk⟩ := row24 S (.im (.int (p : Int))) (.im (.int (q : Int))) (.im (.int ((p : Int) + (q : Int)))) (.im (.str (slp q ((p + q : Nat) : Int) (p + q)))) (.im (.str (slp q ((p + q : Nat) : Int) (p + q) ++ slp q ((p + q : Nat) : Int) (p + q)))) kd hc4 (vs := vs) hw
  obtain ⟨sz, h25, hsz⟩ := row25 S (.im (.int (p : Int))) (.im (.int (q : Int))) (.im (.int ((p : Int) + (q : Int)))) (.im (.str (slp q ((p + q : Nat) : Int) (p + q)))) (.im (.str (slp q ((p + q : Nat) : Int) (p + q) ++ slp q ((p + q : Nat) : Int) (p + q)))) kd c5 k P
  obtain ⟨one, two, h26, l1, l2, u1, u2⟩ := row26 S (.im (.int (p : Int))) (.im (.int (q : Int))) (.im (.int ((p : Int) + (q : Int)))) (.im (.str (slp q ((p + q : Nat) : Int) (p + q)))) (.im (.str (slp q ((p + q : Nat) : Int) (p + q) ++ slp q ((p + q : Nat) : Int) (p + q)))) kd c5 k sz (vs := vs) hw hab
  have h27 := row27 S (.im (.int (p : Int))) (.im (.int (q : Int))) (.im (.int ((p : Int) + (q : Int)))) (.im (.str (slp q ((p + q : Nat) : Int) (p + q)))) (.im (.str (slp q ((p + q : Nat) : Int) (p + q) ++ slp q ((p + q : Nat) : Int) (p + q)))) kd c5 k sz one two P
  obtain ⟨c14, c15, h28, f15⟩ := row28 S (.im (.int (p : Int))) (.im (.int (q : Int))) (.im (.int ((p : Int) + (q : Int)))) (.im (.str (slp q ((p + q : Nat) : Int) (p + q)))) (.im (.str (slp q ((p + q : Nat) : Int) (p + q) ++ slp q ((p + q : Nat) : Int) (p + q)))) kd c5 k sz one two hw hab P l1 l2 u1 u2
  obtain ⟨c16, h29⟩ := row29 S (.im (.int (p : Int))) (.im (.int (q : Int))) (.im (.int ((p : Int) + (q : Int)))) (.im (.str (slp q ((p + q : Nat) : Int) (p + q)))) (.im (.str (slp q ((p + q : Nat) : Int) (p + q) ++ slp q ((p + q : Nat) : Int) (p + q)))) kd c5 k sz one two c14 c15 hw hab P
  obtain ⟨ot, c6, h30, hc6, ol, ou⟩ := row30 S (.im (.int (p : Int))) (.im (.int (q : Int))) (.im (.int ((p : Int) + (q : Int)))) (.im (.str (slp q ((p + q : Nat) : Int) (p + q)))) (.im (.str (slp q ((p + q : Nat) : Int) (p + q) ++ slp q ((p + q : Nat) : Int) (p + q)))) (.im (.str one)) (.im (.str two)) c14 c15 c16 kd hc5 k sz (w := w) (vs := vs)
  obtain ⟨e, h31, r, rfl⟩ := row31 S (.im (.int (p : Int))) (.im (.int (q : Int))) (.im (.int ((p : Int) + (q : Int)))) (.im (.str (slp q ((p + q : Nat) : Int) (p + q)))) (.im (.str (slp q ((p + q : Nat) : Int) (p + q) ++ slp q ((p + q : Nat) : Int) (p + q)))) (.im (.str one)) (.im (.str two)) c14 c15 c16 kd c6 k sz (w := w) (ot := ot) (vs := vs) hw hab ol ou
  have h21 := row21 S (.im (.int (p : Int))) (.im (.int (q : Int))) (.im (.int ((p : Int) + (q : Int)))) (.im (.str (slp q ((p + q : Nat) : Int) (p + q)))) (.im (.str (slp q ((p + q : Nat) : Int) (p + q) ++ slp q ((p + q : Nat) : Int) (p + q)))) kd c4 hpap
  have h22 := row22 S (.im (.int (p : Int))) (.im (.int (q : Int))) (.im (.int ((p : Int) + (q : Int)))) (.im (.str (slp q ((p + q : Nat) : Int) (p + q)))) (.im (.str (slp q ((p + q : Nat) : Int) (p + q) ++ slp q ((p + q : Nat) : Int) (p + q)))) kd c4 hw hab P
  have h23 := row23 S (.im (.int (p : Int))) (.im (.int (q : Int))) (.im (.int ((p : Int) + (q : Int)))) (.im (.str (slp q ((p + q : Nat) : Int) (p + q)))) (.im (.str (slp q ((p + q : Nat) : Int) (p + q) ++ slp q ((p + q : Nat) : Int) (p + q)))) kd c4 P hk0
  refine ⟨[.im (.fz (ns.map D.int))], run_rt (seq_nx h12 (seq_nx h13 (seq_nx h14 (seq_nx h15 (seq_nx h16 (seq_nx h17 (seq_nx h18 (seq_nx (h19 _ _ _ _ _) (seq_nx h20 (seq_nx h21 (seq_nx h22 (seq_nx h23 (seq_nx h24 (seq_nx h25 (seq_nx h26 (seq_nx h27 (seq_nx h28 (seq_nx h29 (seq_nx h30 (seq_nx h31 (seq_rt (e1 := S :: r) ?_))))))))))))))))))))) ?_⟩
  · simp [st_law_32]
  · rw [← hS]
    rfl
end signworth_k22_slopes
namespace signworth_k22_slopes
open PySem PySem.Spec PyProof.Rows L2 MP
section
variable {P : Program} {w : World} {K : PySem.W.Frag} {mg : Str → Option Value} {base : Heap}
theorem ok_pieces {f : Addr} {fd : FuncData} (Fu : Fun K "pieces" "pieces" s_pieces f fd) (B : Bu mg)   : FnG P w K mg base 1 f fd ["word", "n"] (spOf K 2 fn_pieces) := by
  have nd := sc_pieces.nd
  exact fn_ok Fu sc_pieces fun cdv A outer s H hr => (q_cons (q_ret (q_callT ok_list (call_listA' rfl) B.b_list (q_acons ((q_dc [("at", 2)] rfl nd (q_r1 B.b_range (q_acons ((q_op ok_add op_addA ((q_op ok_sub op_sub ((q_callB ok_len call_lenA B.b_len (q_acons (q_pv (pv 0)) q_anil))).p (q_pv (pv 1)))).p (q_int).p)).p q_anil)) (blkOk_by (N := ["word", "n", "at"]) (sc := defScope s_pieces) (by decide +kernel)) (fun _ _ _ _ _ => (q_gcn (by decide) nd)) (fun _ _ _ _ _ => q_tnil) (fun _ _ _ _ _ => (q_sl (q_pv (pv 0)) (q_oi (q_pv (pv 2))) (q_oi ((q_op ok_add op_addA (q_pv (pv 2)) (q_pv (pv 1)))).p))) (fun _ _ _ _ _ => q_bl))).p q_anil)))
  q_nil)
theorem ok_balanced_paper {f : Addr} {fd : FuncData} (Fu : Fun K "balanced_paper" "balanced_paper" s_balanced_paper f fd) (B : Bu mg)  (h_pieces : DefOk P w K mg base "pieces" ["word", "n"] 1 fn_pieces) : FnG P w K mg base 2 f fd ["word"] (spOf K 1 fn_balanced_paper) := by
  have nd := sc_balanced_paper.nd
  exact fn_ok Fu sc_balanced_paper fun cdv A outer s H hr => (q_cons (q_for PassesOwn.never rfl (q_r2 B.b_range (q_acons (q_int).p (q_acons ((q_op ok_add op_addA ((q_callB ok_len call_lenA B.b_len (q_acons (q_pv (pv 0)) q_anil))).p (q_int).p)).p q_anil))) (q_gn nd) (q_cons (q_asgDc [("piece", 3)] rfl nd (sw_dict rfl rfl rfl (by decide +kernel)) (q_ie (q_fn (h_pieces.mono (by decide)) hr (q_acons ((q_ev (pv 0))).p (q_acons ((q_ev (pv 1))).p q_anil)) (al_cons (al_cons al_nil)))) (blkOk_by (N := ["word", "n", "told", "piece", "other"]) (sc := defScope s_balanced_paper) (by decide +kernel)) (fun _ _ _ _ _ => (q_gcn (by decide) nd)) (fun _ _ _ _ _ => q_tnil) (fun _ _ _ _ _ => (q_ev (pv 3))) (fun _ _ _ _ _ => q_bl))
  (q_cons (q_for PassesOwn.never rfl (q_ie (q_callB ok_sorted (cr_sortedA rfl) B.b_sorted (q_acons (q_pv (pv 2)) q_anil))) (q_gn nd) (q_cons (q_asg nd (he := (q_op ok_add op_addA ((q_op ok_add op_addA (q_str).p ((q_sl (q_pv (pv 3)) (q_oi (q_int).p) (q_oi ((q_neg (q_int).p)).p))).p)).p (q_str).p)))
  (q_cons (q_if (QW.t (q_and (q_tcmp ok_eq (op_eqA hr.r.units) ((q_sub hr.u1 (q_pv (pv 3)) (q_int).p)).p (q_str).p) (q_and (q_tcmp ok_eq (op_eqA hr.r.units) ((q_sub hr.u1 (q_pv (pv 3)) ((q_neg (q_int).p)).p)).p (q_str).p) (q_and1 (q_tcmp ok_in (op_inA hr.u65) (q_pv (pv 4)) (q_pv (pv 2))))))) (q_cons (q_ret (q_tup (q_acons (q_str).p (q_acons ((q_ev (pv 3))).p (q_acons ((q_ev (pv 4))).p q_anil)))))
  q_nil) q_nil)
  q_nil)))
  q_nil)))
  (q_cons (q_ret (q_tup (q_acons (q_str).p q_anil)))
  q_nil))
theorem ok_judge_balanced {f : Addr} {fd : FuncData} (Fu : Fun K "judge_balanced" "judge_balanced" s_judge_balanced f fd) (B : Bu mg)  (h_balanced_paper : DefOk P w K mg base "balanced_paper" ["word"] 2 fn_balanced_paper) : FnG P w K mg base 3 f fd ["word", "value"] (spOf K 2 fn_judge_balanced) := by
  have nd := sc_judge_balanced.nd
  exact fn_ok Fu sc_judge_balanced fun cdv A outer s H hr => (q_cons (q_if (QW.t (q_or (q_not (q_truth ((q_callB ok_isi call_isi B.b_isinstance (q_acons (q_pv (pv 1)) (q_acons ((q_ty B.b_tuple)).p q_anil)))).p)) (q_or (q_tcmp ok_notIn (op_notInA hr.u65) ((q_callB ok_len call_lenA B.b_len (q_acons (q_pv (pv 1)) q_anil))).p ((q_tup (q_acons (q_int).p (q_acons (q_int).p q_anil)))).p) (q_or1 (q_not (q_truth ((q_callB ok_all (cr_all rfl) B.b_all (q_acons ((q_lc [("one", 2)] rfl nd (q_ie (q_ev (pv 1))) (blkOk_by (N := ["word", "value", "one", "first", "second"]) (sc := defScope s_judge_balanced) (by decide +kernel)) (fun _ _ _ _ _ => (q_gcn (by decide) nd)) (fun _ _ _ _ _ => q_tnil) (fun _ _ _ _ _ => (q_callB ok_isi call_isi B.b_isinstance (q_acons (q_pv (pv 2)) (q_acons ((q_ty B.b_str)).p q_anil)))))).p q_anil))).p)))))) (q_cons (q_ret q_bl)
  q_nil) q_nil)
  (q_cons (q_if (q_tcmp ok_eq (op_eqA hr.r.units) ((q_sub hr.u1 (q_pv (pv 1)) (q_int).p)).p (q_str).p) (q_cons (q_ret (q_cmp ok_eq (op_eqA hr.r.units) ((q_fn (h_balanced_paper.mono (by decide)) hr (q_acons ((q_ev (pv 0))).p q_anil) (al_cons al_nil))).p (q_pv (pv 1))))
  q_nil) q_nil)
  (q_cons (q_if (QW.t (q_or (q_tcmp ok_ne (op_neA hr.r.units) ((q_sub hr.u1 (q_pv (pv 1)) (q_int).p)).p (q_str).p) (q_or1 (q_tcmp ok_ne (op_neA hr.r.units) ((q_callB ok_len call_lenA B.b_len (q_acons (q_pv (pv 1)) q_anil))).p (q_int).p)))) (q_cons (q_ret q_bl)
  q_nil) q_nil)
  (q_cons (q_asgG (q_sl (q_pv (pv 1)) (q_oi (q_int).p) q_ono) (q_gt rfl (q_gscons (q_gn nd) (q_gscons (q_gn nd) q_gsnil)) (gs_lenS gs_len1)))
  (q_cons (q_if (QW.t (q_or (q_tcmp ok_lt op_ltA ((q_callB ok_len call_lenA B.b_len (q_acons (q_pv (pv 3)) q_anil))).p (q_int).p) (q_or (q_tcmp ok_notIn (op_notInA hr.u65) (q_pv (pv 3)) (q_pv (pv 0))) (q_or1 (q_tcmp ok_notIn (op_notInA hr.u65) (q_pv (pv 4)) (q_pv (pv 0))))))) (q_cons (q_ret q_bl)
  q_nil) q_nil)
  (q_cons (q_if (q_tcmp ok_ne (op_neA hr.r.units) ((q_callB ok_len call_lenA B.b_len (q_acons (q_pv (pv 3)) q_anil))).p ((q_callB ok_len call_lenA B.b_len (q_acons ((q_sub hr.u1 ((q_fn (h_balanced_paper.mono (by decide)) hr (q_acons ((q_ev (pv 0))).p q_anil) (al_cons al_nil))).p ((q_neg (q_int).p)).p)).p q_anil))).p) (q_cons (q_ret q_bl)
  q_nil) q_nil)
  (q_cons (q_ret (q_andT (q_cmp ok_eq (op_eqA hr.r.units) ((q_sub hr.u1 (q_pv (pv 3)) (q_int).p)).p (q_str).p) (q_andT (q_cmp ok_eq (op_eqA hr.r.units) ((q_sub hr.u1 (q_pv (pv 3)) ((q_neg (q_int).p)).p)).p (q_str).p) (q_one (q_cmp ok_eq (op_eqA hr.r.units) (q_pv (pv 4)) ((q_op ok_add op_addA ((q_op ok_add op_addA (q_str).p ((q_sl (q_pv (pv 3)) (q_oi (q_int).p) (q_oi ((q_neg (q_int).p)).p))).p)).p (q_str).p)).p)))))
  q_nil)))))))
theorem ok_slope_word {f : Addr} {fd : FuncData} (Fu : Fun K "slope_word" "slope_word" s_slope_word f fd) (B : Bu mg)   : FnG P w K mg base 1 f fd ["p", "q"] (spOf K 2 fn_slope_word) := by
  have nd := sc_slope_word.nd
  exact fn_ok Fu sc_slope_word fun cdv A outer s H hr => (q_cons (q_asg nd (he := (q_op ok_add op_addA (q_pv (pv 0)) (q_pv (pv 1)))))
  (q_cons (q_ret (q_meth ok_join ty_str F.plainAttrs_str F.slot_str_join F.type_str_join mt_join (q_str).p (q_acons ((q_lc [("k", 3)] rfl nd (q_r1 B.b_range (q_acons (q_pv (pv 2)) q_anil)) (blkOk_by (N := ["p", "q", "n", "k"]) (sc := defScope s_slope_word) (by decide +kernel)) (fun _ _ _ _ _ => (q_gcn (by decide) nd)) (fun _ _ _ _ _ => q_tnil) (fun _ _ _ _ _ => (q_ifx (q_tcmp ok_gt op_gtA ((q_op ok_div op_fdiv ((q_op ok_mul op_mul ((q_op ok_add op_addA (q_pv (pv 3)) (q_int).p)).p (q_pv (pv 1)))).p (q_pv (pv 2)))).p ((q_op ok_div op_fdiv ((q_op ok_mul op_mul (q_pv (pv 3)) (q_pv (pv 1)))).p (q_pv (pv 2)))).p) q_str q_str)))).p q_anil)))
  q_nil))
theorem ok_how_many_pieces {f : Addr} {fd : FuncData} (Fu : Fun K "how_many_pieces" "how_many_pieces" s_how_many_pieces f fd) (B : Bu mg)  (h_pieces : DefOk P w K mg base "pieces" ["word", "n"] 1 fn_pieces) : FnG P w K mg base 2 f fd ["word"] (spOf K 1 fn_how_many_pieces) := by
  have nd := sc_how_many_pieces.nd
  exact fn_ok Fu sc_how_many_pieces fun cdv A outer s H hr => (q_cons (q_ret (q_callT ok_tuple call_tuple_of B.b_tuple (q_acons ((q_lc [("n", 1)] rfl nd (q_r1 B.b_range (q_acons ((q_op ok_add op_addA ((q_callB ok_len call_lenA B.b_len (q_acons (q_pv (pv 0)) q_anil))).p (q_int).p)).p q_anil)) (blkOk_by (N := ["word", "n"]) (sc := defScope s_how_many_pieces) (by decide +kernel)) (fun _ _ _ _ _ => (q_gcn (by decide) nd)) (fun _ _ _ _ _ => q_tnil) (fun _ _ _ _ _ => (q_callB ok_len call_lenA B.b_len (q_acons ((q_fn (h_pieces.mono (by decide)) hr (q_acons ((q_ev (pv 0))).p (q_acons ((q_ev (pv 1))).p q_anil)) (al_cons (al_cons al_nil)))).p q_anil))))).p q_anil)))
  q_nil)
theorem ok_first_repeat {f : Addr} {fd : FuncData} (Fu : Fun K "first_repeat" "first_repeat" s_first_repeat f fd) (B : Bu mg)   : FnG P w K mg base 1 f fd ["word"] (spOf K 1 fn_first_repeat) := by
  have nd := sc_first_repeat.nd
  exact fn_ok Fu sc_first_repeat fun cdv A outer s H hr => (q_cons (q_for PassesOwn.never rfl (q_r3 B.b_range (q_acons ((q_op ok_sub op_sub ((q_callB ok_len call_lenA B.b_len (q_acons (q_pv (pv 0)) q_anil))).p (q_int).p)).p (q_acons (q_int).p (q_acons ((q_neg (q_int).p)).p q_anil)))) (q_gn nd) (q_cons (q_asg nd (he := q_dk))
  (q_cons (q_asg nd (he := q_dk))
  (q_cons (q_for PassesOwn.never rfl (q_r1 B.b_range (q_acons ((q_op ok_add op_addA ((q_op ok_sub op_sub ((q_callB ok_len call_lenA B.b_len (q_acons (q_pv (pv 0)) q_anil))).p (q_pv (pv 1)))).p (q_int).p)).p q_anil)) (q_gn nd) (q_cons (q_asg nd (he := (q_sl (q_pv (pv 0)) (q_oi (q_pv (pv 4))) (q_oi ((q_op ok_add op_addA (q_pv (pv 4)) (q_pv (pv 1)))).p))))
  (q_cons (q_if (q_tcmp ok_in (op_inA hr.u65) (q_pv (pv 5)) (q_pv (pv 3))) (q_cons (q_expr (q_setd (pv 2) (q_pv (pv 5)) (q_tup (q_acons ((q_sub hr.u1 (q_pv (pv 3)) (q_pv (pv 5)))).p (q_acons ((q_ev (pv 4))).p q_anil)))))
  q_nil) (q_cons (q_asgG (q_ev (pv 4)) (q_gsub hr.u1 (pv 3) (q_pv (pv 5))))
  q_nil))
  q_nil)))
  (q_cons (q_if (q_truth (q_pv (pv 2))) (q_cons (q_asg nd (he := (q_callB ok_minD (cr_minKS rfl) B.b_min (q_acons (q_pv (pv 2)) q_anil))))
  (q_cons (q_ret (q_op ok_add op_addA ((q_tup (q_acons ((q_ev (pv 5))).p q_anil))).p ((q_sub hr.u1 (q_pv (pv 2)) (q_pv (pv 5)))).p))
  q_nil)) q_nil)
  q_nil)))))
  (q_cons (q_ret (q_tup (q_acons (q_str).p (q_acons (q_int).p (q_acons (q_int).p q_anil)))))
  q_nil))
theorem ok_law_start {f : Addr} {fd : FuncData} (Fu : Fun K "_law_start" "_law_start" s_law_start f fd) (B : Bu mg)   : FnG P w K mg base 1 f fd ["script"] (spOf K 1 fn_law_start) := by
  have nd := sc_law_start.nd
  exact fn_ok Fu sc_law_start fun cdv A outer s H hr => (q_cons (q_ret (q_lst (q_acons ((q_lc [("cell", 1)] rfl nd (q_ie (q_sl (q_pv (pv 0)) q_ono (q_oi (q_int).p))) (blkOk_by (N := ["script", "cell"]) (sc := defScope s_law_start) (by decide +kernel)) (fun _ _ _ _ _ => (q_gcn (by decide) nd)) (fun _ _ _ _ _ => q_tnil) (fun _ _ _ _ _ => (q_callT ok_int1 call_int1 B.b_int (q_acons (q_pv (pv 1)) q_anil))))).p (q_acons (q_int).p (q_acons (q_int).p (q_acons (q_int).p (q_acons (q_int).p q_anil)))))))
  q_nil)
theorem ok_law_fill {f : Addr} {fd : FuncData} (Fu : Fun K "_law_fill" "_law_fill" s_law_fill f fd) (B : Bu mg)   : FnG P w K mg base 1 f fd ["c"] (spOf K 1 fn_law_fill) := by
  have nd := sc_law_fill.nd
  exact fn_ok Fu sc_law_fill fun cdv A outer s H hr => (q_cons (q_asgG (q_op ok_add op_addA ((q_sub hr.u1 (q_pv (pv 0)) (q_int).p)).p (q_int).p) (q_gsub hr.u1 (pv 0) (q_int).p))
  (q_cons (q_asg nd (he := (q_op ok_add op_addA ((q_op ok_mul op_mul ((q_sub hr.u1 (q_pv (pv 0)) (q_int).p)).p (q_int).p)).p (q_int).p)))
  (q_cons (q_if (q_tcmp ok_lt op_ltA ((q_sub hr.u1 (q_pv (pv 0)) (q_int).p)).p ((q_callB ok_len call_lenA B.b_len (q_acons ((q_sub hr.u1 (q_pv (pv 0)) (q_int).p)).p q_anil))).p) (q_cons (q_asg nd (he := (q_callB ok_max2 (call_max2 rfl) B.b_max (q_acons ((q_sub hr.u1 ((q_sub hr.u1 (q_pv (pv 0)) (q_int).p)).p ((q_sub hr.u1 (q_pv (pv 0)) (q_int).p)).p)).p (q_acons ((q_op ok_sub op_sub ((q_op ok_sub op_sub (q_int).p (q_int).p)).p ((q_sub hr.u1 ((q_sub hr.u1 (q_pv (pv 0)) (q_int).p)).p ((q_sub hr.u1 (q_pv (pv 0)) (q_int).p)).p)).p)).p q_anil)))))
  (q_cons (q_asgG (q_op ok_add op_addA ((q_sub hr.u1 (q_pv (pv 0)) (q_int).p)).p (q_int).p) (q_gsub hr.u1 (pv 0) (q_int).p))
  (q_cons (q_if (q_tcmp ok_ge op_geA (q_pv (pv 1)) ((q_op ok_pow op_pow (q_int).p (q_int).p)).p) (q_cons (q_retV (pv 1))
  q_nil) q_nil)
  q_nil))) q_nil)
  (q_cons (q_if (QW.t (q_and (q_truth ((q_sub hr.u1 (q_pv (pv 0)) (q_int).p)).p) (q_and1 (q_tcmp ok_ge op_geA ((q_sub hr.u1 (q_pv (pv 0)) (q_int).p)).p ((q_callB ok_len call_lenA B.b_len (q_acons ((q_sub hr.u1 (q_pv (pv 0)) (q_int).p)).p q_anil))).p)))) (q_cons (q_asg nd (he := (q_op ok_add op_addA (q_pv (pv 1)) ((q_op ok_mod op_mod ((q_callT ok_int1 call_int1 B.b_int (q_acons ((q_sub hr.u1 ((q_sub hr.u1 (q_pv (pv 0)) (q_int).p)).p ((q_neg (q_int).p)).p)).p q_anil))).p (q_int).p)).p)))
  q_nil) q_nil)
  (q_cons (q_asg nd (he := (q_op ok_mod op_mod ((q_callT ok_int1 call_int1 B.b_int (q_acons ((q_op ok_add op_addA ((q_op ok_mul op_mul (q_pv (pv 1)) (q_int).p)).p ((q_op ok_mul op_mul ((q_sub hr.u1 (q_pv (pv 0)) (q_int).p)).p (q_int).p)).p)).p q_anil))).p (q_int).p)))
  (q_cons (q_ret (q_op ok_add op_addA ((q_op ok_div op_fdiv ((q_callT ok_int1 call_int1 B.b_int (q_acons ((q_op ok_add op_addA ((q_op ok_add op_addA ((q_op ok_mul op_mul (q_pv (pv 1)) (q_pv (pv 1)))).p ((q_op ok_mul op_mul ((q_sub hr.u1 (q_pv (pv 0)) (q_int).p)).p (q_int).p)).p)).p (q_int).p)).p q_anil))).p (q_int).p)).p (q_int).p))
  q_nil))))))
theorem ok_law_take {f : Addr} {fd : FuncData} (Fu : Fun K "_law_take" "_law_take" s_law_take f fd) (B : Bu mg)  (h_law_fill : DefOk P w K mg base "_law_fill" ["c"] 1 fn_law_fill) : FnG P w K mg base 2 f fd ["c", "many"] (spOf K 2 fn_law_take) := by
  have nd := sc_law_take.nd
  exact fn_ok Fu sc_law_take fun cdv A outer s H hr => (q_cons (q_if (q_tcmp ok_lt op_ltA ((q_sub hr.u1 (q_pv (pv 0)) (q_int).p)).p (q_pv (pv 1))) (q_cons (q_asgG (q_fn (h_law_fill.mono (by decide)) hr (q_acons (q_pv (pv 0)) q_anil) (al_cons al_nil)) (q_gsub hr.u1 (pv 0) (q_int).p))
  q_nil) q_nil)
  (q_cons (q_asg nd (he := (q_op ok_mod op_mod ((q_callT ok_int1 call_int1 B.b_int (q_acons ((q_sub hr.u1 (q_pv (pv 0)) (q_int).p)).p q_anil))).p (q_pv (pv 1)))))
  (q_cons (q_asgG (q_op ok_div op_fdiv ((q_sub hr.u1 (q_pv (pv 0)) (q_int).p)).p (q_pv (pv 1))) (q_gsub hr.u1 (pv 0) (q_int).p))
  (q_cons (q_retV (pv 2))
  q_nil))))
theorem ok_law_shuffled {f : Addr} {fd : FuncData} (Fu : Fun K "_law_shuffled" "_law_shuffled" s_law_shuffled f fd) (B : Bu mg)  (h_law_take : DefOk P w K mg base "_law_take" ["c", "many"] 2 fn_law_take) : FnG P w K mg base 3 f fd ["c", "items"] (spOf K 2 fn_law_shuffled) := by
  have nd := sc_law_shuffled.nd
  exact fn_ok Fu sc_law_shuffled fun cdv A outer s H hr => (q_cons (q_asg nd (he := (q_callT ok_list (call_listA' rfl) B.b_list (q_acons (q_pv (pv 1)) q_anil))))
  (q_cons (q_asg nd (he := (q_lst q_anil)))
  (q_cons (q_while PassesOwn.never (q_truth (q_pv (pv 2))) (q_cons (q_expr (q_mut ok_append F.plainAttrs_list F.slot_list_append F.type_list_append mt_append (pv 3) (q_acons ((q_mut ok_popAt F.plainAttrs_list F.slot_list_pop F.type_list_pop mt_popAt (pv 2) (q_acons ((q_fn (h_law_take.mono (by decide)) hr (q_acons (q_pv (pv 0)) (q_acons ((q_callB ok_len call_lenA B.b_len (q_acons (q_pv (pv 2)) q_anil))).p q_anil)) (al_cons (al_cons al_nil)))).p q_anil))).p q_anil)))
  q_nil))
  (q_cons (q_retV (pv 3))
  q_nil))))
theorem ok_law_word {f : Addr} {fd : FuncData} (Fu : Fun K "_law_word" "_law_word" s_law_word f fd) (B : Bu mg)  (h_law_take : DefOk P w K mg base "_law_take" ["c", "many"] 2 fn_law_take) : FnG P w K mg base 3 f fd ["c", "letters", "most"] (spOf K 3 fn_law_word) := by
  have nd := sc_law_word.nd
  exact fn_ok Fu sc_law_word fun cdv A outer s H hr => (q_cons (q_ret (q_meth ok_join ty_str F.plainAttrs_str F.slot_str_join F.type_str_join mt_join (q_str).p (q_acons ((q_lc [("k", 3)] rfl nd (q_r1 B.b_range (q_acons ((q_fn (h_law_take.mono (by decide)) hr (q_acons (q_pv (pv 0)) (q_acons ((q_op ok_add op_addA (q_pv (pv 2)) (q_int).p)).p q_anil)) (al_cons (al_cons al_nil)))).p q_anil)) (blkOk_by (N := ["c", "letters", "most", "k"]) (sc := defScope s_law_word) (by decide +kernel)) (fun _ _ _ _ _ => (q_gcn (by decide) nd)) (fun _ _ _ _ _ => q_tnil) (fun _ _ _ _ _ => (q_sub hr.u1 (q_pv (pv 1)) ((q_fn (h_law_take.mono (by decide)) hr (q_acons (q_pv (pv 0)) (q_acons ((q_callB ok_len call_lenA B.b_len (q_acons (q_pv (pv 1)) q_anil))).p q_anil)) (al_cons (al_cons al_nil)))).p)))).p q_anil)))
  q_nil)
theorem ok_law_pieces {f : Addr} {fd : FuncData} (Fu : Fun K "_law_pieces" "_law_pieces" s_law_pieces f fd) (B : Bu mg)   : FnG P w K mg base 1 f fd ["word", "size"] (spOf K 2 fn_law_pieces) := by
  have nd := sc_law_pieces.nd
  exact fn_ok Fu sc_law_pieces fun cdv A outer s H hr => (q_cons (q_ret (q_sortset B.b_sorted B.b_set ((q_lc [("k", 2)] rfl nd (q_r1 B.b_range (q_acons ((q_op ok_add op_addA ((q_op ok_sub op_sub ((q_callB ok_len call_lenA B.b_len (q_acons (q_pv (pv 0)) q_anil))).p (q_pv (pv 1)))).p (q_int).p)).p q_anil)) (blkOk_by (N := ["word", "size", "k"]) (sc := defScope s_law_pieces) (by decide +kernel)) (fun _ _ _ _ _ => (q_gcn (by decide) nd)) (fun _ _ _ _ _ => q_tnil) (fun _ _ _ _ _ => (q_sl (q_pv (pv 0)) (q_oi (q_pv (pv 2))) (q_oi ((q_op ok_add op_addA (q_pv (pv 2)) (q_pv (pv 1)))).p))))).p))
  q_nil)
theorem ok_law_least {f : Addr} {fd : FuncData} (Fu : Fun K "_law_least" "_law_least" s_law_least f fd) (B : Bu mg)  (h_law_pieces : DefOk P w K mg base "_law_pieces" ["word", "size"] 1 fn_law_pieces) : FnG P w K mg base 2 f fd ["word"] (spOf K 1 fn_law_least) := by
  have nd := sc_law_least.nd
  exact fn_ok Fu sc_law_least fun cdv A outer s H hr => (q_cons (q_for PassesOwn.never rfl (q_r2 B.b_range (q_acons (q_int).p (q_acons ((q_op ok_add op_addA ((q_callB ok_len call_lenA B.b_len (q_acons (q_pv (pv 0)) q_anil))).p (q_int).p)).p q_anil))) (q_gn nd) (q_cons (q_asgLc [("piece", 3)] rfl nd (sw_true rfl rfl rfl (by decide +kernel)) (q_ie (q_fn (h_law_pieces.mono (by decide)) hr (q_acons ((q_ev (pv 0))).p (q_acons ((q_ev (pv 1))).p q_anil)) (al_cons (al_cons al_nil)))) (blkOk_by (N := ["word", "size", "counts", "piece"]) (sc := defScope s_law_least) (by decide +kernel)) (fun _ _ _ _ _ => (q_gcn (by decide) nd)) (fun _ _ _ _ _ => q_tnil) (fun _ _ _ _ _ => (q_meth ok_count ty_str F.plainAttrs_str F.slot_str_count F.type_str_count mt_count (q_pv (pv 3)) (q_acons (q_str).p q_anil))))
  (q_cons (q_if (q_tcmp ok_gt op_gtA ((q_op ok_sub op_sub ((q_callB ok_max1 (cr_max rfl) B.b_max (q_acons (q_pv (pv 2)) q_anil))).p ((q_callB ok_min1 (cr_min rfl) B.b_min (q_acons (q_pv (pv 2)) q_anil))).p)).p (q_int).p) (q_cons (q_retV (pv 1))
  q_nil) q_nil)
  q_nil)))
  (q_cons (q_ret q_non)
  q_nil))
theorem ok_law_holds {f : Addr} {fd : FuncData} (Fu : Fun K "_law_holds" "_law_holds" s_law_holds f fd) (B : Bu mg)  (h_law_least : DefOk P w K mg base "_law_least" ["word"] 2 fn_law_least) : FnG P w K mg base 3 f fd ["word", "value"] (spOf K 2 fn_law_holds) := by
  have nd := sc_law_holds.nd
  exact fn_ok Fu sc_law_holds fun cdv A outer s H hr => (q_cons (q_if (QW.t (q_or (q_not (q_truth ((q_callB ok_isi call_isi B.b_isinstance (q_acons (q_pv (pv 1)) (q_acons ((q_ty B.b_tuple)).p q_anil)))).p)) (q_or (q_not (q_truth (q_pv (pv 1)))) (q_or1 (q_not (q_truth ((q_callB ok_isi call_isi B.b_isinstance (q_acons ((q_sub hr.u1 (q_pv (pv 1)) (q_int).p)).p (q_acons ((q_ty B.b_str)).p q_anil)))).p)))))) (q_cons (q_ret q_bl)
  q_nil) q_nil)
  (q_cons (q_asg nd (he := (q_fn (h_law_least.mono (by decide)) hr (q_acons ((q_ev (pv 0))).p q_anil) (al_cons al_nil))))
  (q_cons (q_if (q_tcmp ok_eq (op_eqA hr.r.units) ((q_sub hr.u1 (q_pv (pv 1)) (q_int).p)).p (q_str).p) (q_cons (q_ret (q_andT (q_cmp ok_eq (op_eqA hr.r.units) ((q_callB ok_len call_lenA B.b_len (q_acons (q_pv (pv 1)) q_anil))).p (q_int).p) (q_one (q_cmp ok_is op_isN (q_pv (pv 2)) (q_non).p))))
  q_nil) q_nil)
  (q_cons (q_if (QW.t (q_or (q_tcmp ok_ne (op_neA hr.r.units) ((q_sub hr.u1 (q_pv (pv 1)) (q_int).p)).p (q_str).p) (q_or (q_tcmp ok_ne (op_neA hr.r.units) ((q_callB ok_len call_lenA B.b_len (q_acons (q_pv (pv 1)) q_anil))).p (q_int).p) (q_or (q_tcmp ok_is op_isN (q_pv (pv 2)) (q_non).p) (q_or1 (q_not (q_truth ((q_callB ok_all (cr_all rfl) B.b_all (q_acons ((q_lc [("one", 3)] rfl nd (q_ie (q_ev (pv 1))) (blkOk_by (N := ["word", "value", "size", "one", "first", "second"]) (sc := defScope s_law_holds) (by decide +kernel)) (fun _ _ _ _ _ => (q_gcn (by decide) nd)) (fun _ _ _ _ _ => q_tnil) (fun _ _ _ _ _ => (q_callB ok_isi call_isi B.b_isinstance (q_acons (q_pv (pv 3)) (q_acons ((q_ty B.b_str)).p q_anil)))))).p q_anil))).p))))))) (q_cons (q_ret q_bl)
  q_nil) q_nil)
  (q_cons (q_asgG (q_sl (q_pv (pv 1)) (q_oi (q_int).p) q_ono) (q_gt rfl (q_gscons (q_gn nd) (q_gscons (q_gn nd) q_gsnil)) (gs_lenS gs_len1)))
  (q_cons (q_if (QW.t (q_or (q_tcmp ok_ne (op_neA hr.r.units) ((q_callB ok_len call_lenA B.b_len (q_acons (q_pv (pv 4)) q_anil))).p (q_pv (pv 2))) (q_or (q_tcmp ok_ne (op_neA hr.r.units) ((q_callB ok_len call_lenA B.b_len (q_acons (q_pv (pv 5)) q_anil))).p (q_pv (pv 2))) (q_or (q_tcmp ok_lt op_ltA (q_pv (pv 2)) (q_int).p) (q_or (q_tcmp ok_notIn (op_notInA hr.u65) (q_pv (pv 4)) (q_pv (pv 0))) (q_or1 (q_tcmp ok_notIn (op_notInA hr.u65) (q_pv (pv 5)) (q_pv (pv 0))))))))) (q_cons (q_ret q_bl)
  q_nil) q_nil)
  (q_cons (q_ret (q_andT (q_cmp ok_eq (op_eqA hr.r.units) ((q_op ok_add op_addA ((q_sub hr.u1 (q_pv (pv 4)) (q_int).p)).p ((q_sub hr.u1 (q_pv (pv 4)) ((q_op ok_sub op_sub (q_int).p (q_int).p)).p)).p)).p (q_str).p) (q_andT (q_cmp ok_eq (op_eqA hr.r.units) ((q_op ok_add op_addA ((q_sub hr.u1 (q_pv (pv 5)) (q_int).p)).p ((q_sub hr.u1 (q_pv (pv 5)) ((q_op ok_sub op_sub (q_int).p (q_int).p)).p)).p)).p (q_str).p) (q_one (q_cmp ok_eq (op_eqA hr.r.units) ((q_sl (q_pv (pv 4)) (q_oi (q_int).p) (q_oi ((q_op ok_sub op_sub (q_int).p (q_int).p)).p))).p ((q_sl (q_pv (pv 5)) (q_oi (q_int).p) (q_oi ((q_op ok_sub op_sub (q_int).p (q_int).p)).p))).p)))))
  q_nil)))))))
theorem ok_law_divisor {f : Addr} {fd : FuncData} (Fu : Fun K "_law_divisor" "_law_divisor" s_law_divisor f fd) (B : Bu mg)   : FnG P w K mg base 1 f fd ["a", "b"] (spOf K 2 fn_law_divisor) := by
  have nd := sc_law_divisor.nd
  exact fn_ok Fu sc_law_divisor fun cdv A outer s H hr => (q_cons (q_for PassesOwn.never rfl (q_r1 B.b_range (q_acons (q_int).p q_anil)) (q_gn nd) (q_cons (q_if (q_tcmp ok_eq (op_eqA hr.r.units) (q_pv (pv 1)) (q_int).p) (q_cons (q_retV (pv 0))
  q_nil) q_nil)
  (q_cons (q_par rfl nd (ha := (q_ev (pv 1))) (hb := (q_op ok_mod op_mod (q_pv (pv 0)) (q_pv (pv 1)))))
  q_nil)))
  (q_cons (q_ret q_int)
  q_nil))
theorem ok_law_repeat {f : Addr} {fd : FuncData} (Fu : Fun K "_law_repeat" "_law_repeat" s_law_repeat f fd) (B : Bu mg)  (h_law_pieces : DefOk P w K mg base "_law_pieces" ["word", "size"] 1 fn_law_pieces) : FnG P w K mg base 2 f fd ["word"] (spOf K 1 fn_law_repeat) := by
  have nd := sc_law_repeat.nd
  exact fn_ok Fu sc_law_repeat fun cdv A outer s H hr => (q_cons (q_for PassesOwn.never rfl (q_r3 B.b_range (q_acons ((q_op ok_sub op_sub ((q_callB ok_len call_lenA B.b_len (q_acons (q_pv (pv 0)) q_anil))).p (q_int).p)).p (q_acons (q_int).p (q_acons ((q_op ok_sub op_sub (q_int).p (q_int).p)).p q_anil)))) (q_gn nd) (q_cons (q_for PassesOwn.never rfl (q_ie (q_fn (h_law_pieces.mono (by decide)) hr (q_acons ((q_ev (pv 0))).p (q_acons ((q_ev (pv 1))).p q_anil)) (al_cons (al_cons al_nil)))) (q_gn nd) (q_cons (q_asgLc [("k", 4)] rfl nd (sw_true rfl rfl rfl (by decide +kernel)) (q_r1 B.b_range (q_acons ((q_op ok_add op_addA ((q_op ok_sub op_sub ((q_callB ok_len call_lenA B.b_len (q_acons (q_pv (pv 0)) q_anil))).p (q_pv (pv 1)))).p (q_int).p)).p q_anil)) (blkOk_by (N := ["word", "size", "piece", "places", "k"]) (sc := defScope s_law_repeat) (by decide +kernel)) (fun _ _ _ _ _ => (q_gcn (by decide) nd)) (fun _ _ _ _ _ => (q_tone (q_tcmp ok_eq (op_eqA hr.r.units) ((q_sl (q_pv (pv 0)) (q_oi (q_pv (pv 4))) (q_oi ((q_op ok_add op_addA (q_pv (pv 4)) (q_pv (pv 1)))).p))).p (q_pv (pv 2))))) (fun _ _ _ _ _ => (q_ev (pv 4))))
  (q_cons (q_if (q_tcmp ok_gt op_gtA ((q_callB ok_len call_lenA B.b_len (q_acons (q_pv (pv 3)) q_anil))).p (q_int).p) (q_cons (q_ret (q_tup (q_acons ((q_ev (pv 2))).p (q_acons ((q_sub hr.u1 (q_pv (pv 3)) (q_int).p)).p (q_acons ((q_sub hr.u1 (q_pv (pv 3)) (q_int).p)).p q_anil)))))
  q_nil) q_nil)
  q_nil)))
  q_nil))
  (q_cons (q_ret (q_tup (q_acons (q_str).p (q_acons (q_int).p (q_acons (q_int).p q_anil)))))
  q_nil))
theorem ok_law {f : Addr} {fd : FuncData} (Fu : Fun K "law" "law" s_law f fd) (B : Bu mg)  (h_balanced_paper : DefOk P w K mg base "balanced_paper" ["word"] 2 fn_balanced_paper) (h_judge_balanced : DefOk P w K mg base "judge_balanced" ["word", "value"] 3 fn_judge_balanced) (h_slope_word : DefOk P w K mg base "slope_word" ["p", "q"] 1 fn_slope_word) (h_how_many_pieces : DefOk P w K mg base "how_many_pieces" ["word"] 2 fn_how_many_pieces) (h_first_repeat : DefOk P w K mg base "first_repeat" ["word"] 1 fn_first_repeat) (h_law_start : DefOk P w K mg base "_law_start" ["script"] 1 fn_law_start) (h_law_take : DefOk P w K mg base "_law_take" ["c", "many"] 2 fn_law_take) (h_law_word : DefOk P w K mg base "_law_word" ["c", "letters", "most"] 3 fn_law_word) (h_law_pieces : DefOk P w K mg base "_law_pieces" ["word", "size"] 1 fn_law_pieces) (h_law_least : DefOk P w K mg base "_law_least" ["word"] 2 fn_law_least) (h_law_holds : DefOk P w K mg base "_law_holds" ["word", "value"] 3 fn_law_holds) (h_law_divisor : DefOk P w K mg base "_law_divisor" ["a", "b"] 1 fn_law_divisor) (h_law_repeat : DefOk P w K mg base "_law_repeat" ["word"] 2 fn_law_repeat) : FnG P w K mg base 4 f fd ["script"] (spOf K 1 fn_law) := by
  have nd := sc_law.nd
  exact fn_ok Fu sc_law fun cdv A outer s H hr => (q_cons (q_asg nd (he := (q_fn (h_law_start.mono (by decide)) hr (q_acons ((q_ev (pv 0))).p q_anil) (al_cons al_nil))))
  (q_cons (q_asgG (q_tup (q_acons ((q_fn (h_law_take.mono (by decide)) hr (q_acons (q_pv (pv 1)) (q_acons (q_int).p q_anil)) (al_cons (al_cons al_nil)))).p (q_acons ((q_fn (h_law_take.mono (by decide)) hr (q_acons (q_pv (pv 1)) (q_acons (q_int).p q_anil)) (al_cons (al_cons al_nil)))).p q_anil))) (q_gt rfl (q_gscons (q_gn nd) (q_gscons (q_gn nd) q_gsnil)) (gs_lenS gs_len1)))
  (q_cons (q_if (q_tcmp ok_ne (op_neA hr.r.units) ((q_fn (h_law_divisor.mono (by decide)) hr (q_acons ((q_ev (pv 2))).p (q_acons ((q_ev (pv 3))).p q_anil)) (al_cons (al_cons al_nil)))).p (q_int).p) (q_cons (q_asgG (q_tup (q_acons (q_int).p (q_acons (q_int).p q_anil))) (q_gt rfl (q_gscons (q_gn nd) (q_gscons (q_gn nd) q_gsnil)) (gs_lenS gs_len1)))
  q_nil) q_nil)
  (q_cons (q_asg nd (he := (q_op ok_add op_addA (q_pv (pv 2)) (q_pv (pv 3)))))
  (q_cons (q_asg nd (he := (q_meth ok_join ty_str F.plainAttrs_str F.slot_str_join F.type_str_join mt_join (q_str).p (q_acons ((q_lc [("k", 6)] rfl nd (q_r1 B.b_range (q_acons (q_pv (pv 4)) q_anil)) (blkOk_by (N := ["script", "c", "p", "q", "n", "slope", "k", "around", "kind", "word", "paper", "size", "one", "two", "values", "value", "turned", "other", "row", "due"]) (sc := defScope s_law) (by decide +kernel)) (fun _ _ _ _ _ => (q_gcn (by decide) nd)) (fun _ _ _ _ _ => q_tnil) (fun _ _ _ _ _ => (q_ifx (q_tcmp ok_gt op_gtA ((q_op ok_div op_fdiv ((q_op ok_mul op_mul ((q_op ok_add op_addA (q_pv (pv 6)) (q_int).p)).p (q_pv (pv 3)))).p (q_pv (pv 4)))).p ((q_op ok_div op_fdiv ((q_op ok_mul op_mul (q_pv (pv 6)) (q_pv (pv 3)))).p (q_pv (pv 4)))).p) q_str q_str)))).p q_anil))))
  (q_cons (q_if (q_tcmp ok_ne (op_neA hr.r.units) ((q_callB ok_repr (cr_repr hr) B.b_repr (q_acons ((q_fn (h_slope_word.mono (by decide)) hr (q_acons ((q_ev (pv 2))).p (q_acons ((q_ev (pv 3))).p q_anil)) (al_cons (al_cons al_nil)))).p q_anil))).p ((q_callB ok_repr (cr_repr hr) B.b_repr (q_acons (q_pv (pv 5)) q_anil))).p) (q_cons (q_ret q_bl)
  q_nil) q_nil)
  (q_cons (q_asg nd (he := (q_op ok_add op_addA (q_pv (pv 5)) (q_pv (pv 5)))))
  (q_cons (q_asg nd (he := (q_fn (h_law_take.mono (by decide)) hr (q_acons (q_pv (pv 1)) (q_acons (q_int).p q_anil)) (al_cons (al_cons al_nil)))))
  (q_cons (q_asg nd (he := (q_sub hr.u1 ((q_lst (q_acons ((q_sl ((q_sl (q_pv (pv 7)) (q_oi ((q_fn (h_law_take.mono (by decide)) hr (q_acons (q_pv (pv 1)) (q_acons ((q_ev (pv 4))).p q_anil)) (al_cons (al_cons al_nil)))).p) q_ono)).p q_ono (q_oi ((q_op ok_add op_addA (q_pv (pv 4)) (q_int).p)).p))).p (q_acons ((q_fn (h_law_word.mono (by decide)) hr (q_acons (q_pv (pv 1)) (q_acons (q_str).p (q_acons (q_int).p q_anil))) (al_cons (al_cons (al_cons al_nil))))).p (q_acons ((q_op ok_add op_addA (q_pv (pv 5)) ((q_fn (h_law_word.mono (by decide)) hr (q_acons (q_pv (pv 1)) (q_acons (q_str).p (q_acons (q_int).p q_anil))) (al_cons (al_cons (al_cons al_nil))))).p)).p q_anil))))).p (q_pv (pv 8)))))
  (q_cons (q_asg nd (he := (q_fn (h_balanced_paper.mono (by decide)) hr (q_acons ((q_ev (pv 9))).p q_anil) (al_cons al_nil))))
  (q_cons (q_if (QW.t (q_or (q_not (q_truth ((q_fn (h_law_holds.mono (by decide)) hr (q_acons ((q_ev (pv 9))).p (q_acons ((q_ev (pv 10))).p q_anil)) (al_cons (al_cons al_nil)))).p)) (q_or1 (q_tcmp ok_ne (op_neA hr.r.units) ((q_cmp ok_eq (op_eqA hr.r.units) ((q_sub hr.u1 (q_pv (pv 10)) (q_int).p)).p (q_str).p)).p ((q_cmp ok_is op_isN ((q_fn (h_law_least.mono (by decide)) hr (q_acons ((q_ev (pv 9))).p q_anil) (al_cons al_nil))).p (q_non).p)).p)))) (q_cons (q_ret q_bl)
  q_nil) q_nil)
  (q_cons (q_if (QW.t (q_and (q_tcmp ok_eq (op_eqA hr.r.units) (q_pv (pv 8)) (q_int).p) (q_and1 (q_tcmp ok_ne (op_neA hr.r.units) ((q_sub hr.u1 (q_pv (pv 10)) (q_int).p)).p (q_str).p)))) (q_cons (q_ret q_bl)
  q_nil) q_nil)
  (q_cons (q_asg nd (he := (q_fn (h_law_take.mono (by decide)) hr (q_acons (q_pv (pv 1)) (q_acons ((q_op ok_add op_addA ((q_callB ok_len call_lenA B.b_len (q_acons (q_pv (pv 9)) q_anil))).p (q_int).p)).p q_anil)) (al_cons (al_cons al_nil)))))
  (q_cons (q_asg nd (he := (q_orT (q_fn (h_law_least.mono (by decide)) hr (q_acons ((q_ev (pv 9))).p q_anil) (al_cons al_nil)) (q_one q_int))))
  (q_cons (q_par rfl nd (ha := (q_sl (q_pv (pv 9)) (q_oi (q_pv (pv 6))) (q_oi ((q_op ok_add op_addA (q_pv (pv 6)) (q_pv (pv 11)))).p))) (hb := (q_sl (q_pv (pv 9)) q_ono (q_oi (q_pv (pv 11))))))
  (q_cons (q_asg nd (he := (q_lst (q_acons ((q_ev (pv 10))).p (q_acons ((q_sl (q_pv (pv 10)) q_ono (q_oi (q_int).p))).p (q_acons ((q_tup (q_acons (q_str).p q_anil))).p (q_acons ((q_tup (q_acons (q_str).p (q_acons ((q_ev (pv 12))).p (q_acons ((q_ev (pv 13))).p q_anil))))).p (q_acons ((q_tup (q_acons (q_str).p (q_acons (q_str).p (q_acons (q_str).p q_anil))))).p (q_acons ((q_tup q_anil)).p (q_acons ((q_op ok_add op_addA (q_pv (pv 10)) ((q_tup (q_acons (q_str).p q_anil))).p)).p q_anil))))))))))
  (q_cons (q_for PassesOwn.never rfl (q_ie (q_ev (pv 14))) (q_gn nd) (q_cons (q_if (q_tcmp ok_ne (op_neA hr.r.units) ((q_callB ok_repr (cr_repr hr) B.b_repr (q_acons ((q_fn (h_judge_balanced.mono (by decide)) hr (q_acons ((q_ev (pv 9))).p (q_acons ((q_ev (pv 15))).p q_anil)) (al_cons (al_cons al_nil)))).p q_anil))).p ((q_callB ok_repr (cr_repr hr) B.b_repr (q_acons ((q_fn (h_law_holds.mono (by decide)) hr (q_acons ((q_ev (pv 9))).p (q_acons ((q_ev (pv 15))).p q_anil)) (al_cons (al_cons al_nil)))).p q_anil))).p) (q_cons (q_ret q_bl)
  q_nil) q_nil)
  q_nil))
  (q_cons (q_if (q_tcmp ok_eq (op_eqA hr.r.units) ((q_sub hr.u1 (q_pv (pv 10)) (q_int).p)).p (q_str).p) (q_cons (q_asg nd (he := (q_tup (q_acons (q_str).p (q_acons ((q_sub hr.u1 (q_pv (pv 10)) (q_int).p)).p (q_acons ((q_sub hr.u1 (q_pv (pv 10)) (q_int).p)).p q_anil))))))
  (q_cons (q_if (q_tcmp ok_ne (op_neA hr.r.units) ((q_callB ok_repr (cr_repr hr) B.b_repr (q_acons ((q_fn (h_judge_balanced.mono (by decide)) hr (q_acons ((q_ev (pv 9))).p (q_acons ((q_ev (pv 16))).p q_anil)) (al_cons (al_cons al_nil)))).p q_anil))).p ((q_callB ok_repr (cr_repr hr) B.b_repr (q_acons ((q_fn (h_law_holds.mono (by decide)) hr (q_acons ((q_ev (pv 9))).p (q_acons ((q_ev (pv 16))).p q_anil)) (al_cons (al_cons al_nil)))).p q_anil))).p) (q_cons (q_ret q_bl)
  q_nil) q_nil)
  q_nil)) q_nil)
  (q_cons (q_asg nd (he := (q_fn (h_law_word.mono (by decide)) hr (q_acons (q_pv (pv 1)) (q_acons (q_str).p (q_acons (q_int).p q_anil))) (al_cons (al_cons (al_cons al_nil))))))
  (q_cons (q_for PassesOwn.never rfl (q_ie (q_tup (q_acons ((q_ev (pv 9))).p (q_acons ((q_ev (pv 17))).p q_anil)))) (q_gn nd) (q_cons (q_asgLc [("size", 11)] rfl nd (sw_true rfl rfl rfl (by decide +kernel)) (q_r1 B.b_range (q_acons ((q_op ok_add op_addA ((q_callB ok_len call_lenA B.b_len (q_acons (q_pv (pv 18)) q_anil))).p (q_int).p)).p q_anil)) (blkOk_by (N := ["script", "c", "p", "q", "n", "slope", "k", "around", "kind", "word", "paper", "size", "one", "two", "values", "value", "turned", "other", "row", "due"]) (sc := defScope s_law) (by decide +kernel)) (fun _ _ _ _ _ => (q_gcn (by decide) nd)) (fun _ _ _ _ _ => q_tnil) (fun _ _ _ _ _ => (q_callB ok_len call_lenA B.b_len (q_acons ((q_fn (h_law_pieces.mono (by decide)) hr (q_acons ((q_ev (pv 18))).p (q_acons ((q_ev (pv 11))).p q_anil)) (al_cons (al_cons al_nil)))).p q_anil))))
  (q_cons (q_if (QW.t (q_or (q_tcmp ok_ne (op_neA hr.r.units) ((q_callB ok_repr (cr_repr hr) B.b_repr (q_acons ((q_fn (h_how_many_pieces.mono (by decide)) hr (q_acons ((q_ev (pv 18))).p q_anil) (al_cons al_nil))).p q_anil))).p ((q_callB ok_repr (cr_repr hr) B.b_repr (q_acons ((q_callT ok_tuple call_tuple_of B.b_tuple (q_acons (q_pv (pv 19)) q_anil))).p q_anil))).p) (q_or1 (q_tcmp ok_ne (op_neA hr.r.units) ((q_callB ok_repr (cr_repr hr) B.b_repr (q_acons ((q_fn (h_first_repeat.mono (by decide)) hr (q_acons ((q_ev (pv 18))).p q_anil) (al_cons al_nil))).p q_anil))).p ((q_callB ok_repr (cr_repr hr) B.b_repr (q_acons ((q_fn (h_law_repeat.mono (by decide)) hr (q_acons ((q_ev (pv 18))).p q_anil) (al_cons al_nil))).p q_anil))).p)))) (q_cons (q_ret q_bl)
  q_nil) q_nil)
  q_nil)))
  (q_cons (q_ret q_bl)
  q_nil)))))))))))))))))))))
end
end signworth_k22_slopes
namespace signworth_k22_slopes
open PySem PySem.Spec PyProof.Rows L2 MP
theorem all_mk {l : PySem.W.OpenLaw} {w : World} {K : PySem.W.Frag} {h : Heap} {mg : Str → Option Value} {fa f0 f1 f2 f3 f4 f5 f6 f7 f8 f9 f10 f11 f12 f13 f14 f15 f16 : Addr} (X : K.In h) (G : h.Ns mainGlobals mg) (hfa : mg "law" = some (.ref fa))
    {od0 an0 od1 an1 od2 an2 od3 an3 od4 an4 od5 an5 od6 an6 od7 an7 od8 an8 od9 an9 od10 an10 od11 an11 od12 an12 od13 an13 od14 an14 od15 an15 od16 an16 : Option Addr} {sl0 sl1 sl2 sl3 sl4 sl5 sl6 sl7 sl8 sl9 sl10 sl11 sl12 sl13 sl14 sl15 sl16 : Array (Option Value)} {oc0 kV0 dc0 pm0 cd0 ct0 oc1 kV1 dc1 pm1 cd1 ct1 oc2 kV2 dc2 pm2 cd2 ct2 oc3 kV3 dc3 pm3 cd3 ct3 oc4 kV4 dc4 pm4 cd4 ct4 oc5 kV5 dc5 pm5 cd5 ct5 oc6 kV6 dc6 pm6 cd6 ct6 oc7 kV7 dc7 pm7 cd7 ct7 oc8 kV8 dc8 pm8 cd8 ct8 oc9 kV9 dc9 pm9 cd9 ct9 oc10 kV10 dc10 pm10 cd10 ct10 oc11 kV11 dc11 pm11 cd11 ct11 oc12 kV12 dc12 pm12 cd12 ct12 oc13 kV13 dc13 pm13 cd13 ct13 oc14 kV14 dc14 pm14 cd14 ct14 oc15 kV15 dc15 pm15 cd15 ct15 oc16 kV16 dc16 pm16 cd16 ct16 : Value}
    (a0 : PySem.W.nsIn K mainGlobals "pieces" = some (some (.ref f0))) (l0 : K.lookup f0 = some ⟨oc0, od0, .func (PySem.W.fnOf "pieces" "pieces" (defArgs s_pieces) (defBody s_pieces) (defScope s_pieces) .none kV0 dc0 pm0 an0 cd0 ct0), sl0⟩) (c0 : PySem.W.codeIn K cd0 "pieces" = true) (k0 : PySem.W.keepIn K (.ref f0) = true)
    (a1 : PySem.W.nsIn K mainGlobals "balanced_paper" = some (some (.ref f1))) (l1 : K.lookup f1 = some ⟨oc1, od1, .func (PySem.W.fnOf "balanced_paper" "balanced_paper" (defArgs s_balanced_paper) (defBody s_balanced_paper) (defScope s_balanced_paper) .none kV1 dc1 pm1 an1 cd1 ct1), sl1⟩) (c1 : PySem.W.codeIn K cd1 "balanced_paper" = true) (k1 : PySem.W.keepIn K (.ref f1) = true)
    (a2 : PySem.W.nsIn K mainGlobals "judge_balanced" = some (some (.ref f2))) (l2 : K.lookup f2 = some ⟨oc2, od2, .func (PySem.W.fnOf "judge_balanced" "judge_balanced" (defArgs s_judge_balanced) (defBody s_judge_balanced) (defScope s_judge_balanced) .none kV2 dc2 pm2 an2 cd2 ct2), sl2⟩) (c2 : PySem.W.codeIn K cd2 "judge_balanced" = true) (k2 : PySem.W.keepIn K (.ref f2) = true)
    (a3 : PySem.W.nsIn K mainGlobals "slope_word" = some (some (.ref f3))) (l3 : K.lookup f3 = some ⟨oc3, od3, .func (PySem.W.fnOf "slope_word" "slope_word" (defArgs s_slope_word) (defBody s_slope_word) (defScope s_slope_word) .none kV3 dc3 pm3 an3 cd3 ct3), sl3⟩) (c3 : PySem.W.codeIn K cd3 "slope_word" = true) (k3 : PySem.W.keepIn K (.ref f3) = true)
    (a4 : PySem.W.nsIn K mainGlobals "how_many_pieces" = some (some (.ref f4))) (l4 : K.lookup f4 = some ⟨oc4, od4, .func (PySem.W.fnOf "how_many_pieces" "how_many_pieces" (defArgs s_how_many_pieces) (defBody s_how_many_pieces) (defScope s_how_many_pieces) .none kV4 dc4 pm4 an4 cd4 ct4), sl4⟩) (c4 : PySem.W.codeIn K cd4 "how_many_pieces" = true) (k4 : PySem.W.keepIn K (.ref f4) = true)
    (a5 : PySem.W.nsIn K mainGlobals "first_repeat" = some (some (.ref f5))) (l5 : K.lookup f5 = some ⟨oc5, od5, .func (PySem.W.fnOf "first_repeat" "first_repeat" (defArgs s_first_repeat) (defBody s_first_repeat) (defScope s_first_repeat) .none kV5 dc5 pm5 an5 cd5 ct5), sl5⟩) (c5 : PySem.W.codeIn K cd5 "first_repeat" = true) (k5 : PySem.W.keepIn K (.ref f5) = true)
    (a6 : PySem.W.nsIn K mainGlobals "_law_start" = some (some (.ref f6))) (l6 : K.lookup f6 = some ⟨oc6, od6, .func (PySem.W.fnOf "_law_start" "_law_start" (defArgs s_law_start) (defBody s_law_start) (defScope s_law_start) .none kV6 dc6 pm6 an6 cd6 ct6), sl6⟩) (c6 : PySem.W.codeIn K cd6 "_law_start" = true) (k6 : PySem.W.keepIn K (.ref f6) = true)
    (a7 : PySem.W.nsIn K mainGlobals "_law_fill" = some (some (.ref f7))) (l7 : K.lookup f7 = some ⟨oc7, od7, .func (PySem.W.fnOf "_law_fill" "_law_fill" (defArgs s_law_fill) (defBody s_law_fill) (defScope s_law_fill) .none kV7 dc7 pm7 an7 cd7 ct7), sl7⟩) (c7 : PySem.W.codeIn K cd7 "_law_fill" = true) (k7 : PySem.W.keepIn K (.ref f7) = true)
    (a8 : PySem.W.nsIn K mainGlobals "_law_take" = some (some (.ref f8))) (l8 : K.lookup f8 = some ⟨oc8, od8, .func (PySem.W.fnOf "_law_take" "_law_take" (defArgs s_law_take) (defBody s_law_take) (defScope s_law_take) .none kV8 dc8 pm8 an8 cd8 ct8), sl8⟩) (c8 : PySem.W.codeIn K cd8 "_law_take" = true) (k8 : PySem.W.keepIn K (.ref f8) = true)
    (a9 : PySem.W.nsIn K mainGlobals "_law_shuffled" = some (some (.ref f9))) (l9 : K.lookup f9 = some ⟨oc9, od9, .func (PySem.W.fnOf "_law_shuffled" "_law_shuffled" (defArgs s_law_shuffled) (defBody s_law_shuffled) (defScope s_law_shuffled) .none kV9 dc9 pm9 an9 cd9 ct9), sl9⟩) (c9 : PySem.W.codeIn K cd9 "_law_shuffled" = true) (k9 : PySem.W.keepIn K (.ref f9) = true)
    (a10 : PySem.W.nsIn K mainGlobals "_law_word" = some (some (.ref f10))) (l10 : K.lookup f10 = some ⟨oc10, od10, .func (PySem.W.fnOf "_law_word" "_law_word" (defArgs s_law_word) (defBody s_law_word) (defScope s_law_word) .none kV10 dc10 pm10 an10 cd10 ct10), sl10⟩) (c10 : PySem.W.codeIn K cd10 "_law_word" = true) (k10 : PySem.W.keepIn K (.ref f10) = true)
    (a11 : PySem.W.nsIn K mainGlobals "_law_pieces" = some (some (.ref f11))) (l11 : K.lookup f11 = some ⟨oc11, od11, .func (PySem.W.fnOf "_law_pieces" "_law_pieces" (defArgs s_law_pieces) (defBody s_law_pieces) (defScope s_law_pieces) .none kV11 dc11 pm11 an11 cd11 ct11), sl11⟩) (c11 : PySem.W.codeIn K cd11 "_law_pieces" = true) (k11 : PySem.W.keepIn K (.ref f11) = true)
    (a12 : PySem.W.nsIn K mainGlobals "_law_least" = some (some (.ref f12))) (l12 : K.lookup f12 = some ⟨oc12, od12, .func (PySem.W.fnOf "_law_least" "_law_least" (defArgs s_law_least) (defBody s_law_least) (defScope s_law_least) .none kV12 dc12 pm12 an12 cd12 ct12), sl12⟩) (c12 : PySem.W.codeIn K cd12 "_law_least" = true) (k12 : PySem.W.keepIn K (.ref f12) = true)
    (a13 : PySem.W.nsIn K mainGlobals "_law_holds" = some (some (.ref f13))) (l13 : K.lookup f13 = some ⟨oc13, od13, .func (PySem.W.fnOf "_law_holds" "_law_holds" (defArgs s_law_holds) (defBody s_law_holds) (defScope s_law_holds) .none kV13 dc13 pm13 an13 cd13 ct13), sl13⟩) (c13 : PySem.W.codeIn K cd13 "_law_holds" = true) (k13 : PySem.W.keepIn K (.ref f13) = true)
    (a14 : PySem.W.nsIn K mainGlobals "_law_divisor" = some (some (.ref f14))) (l14 : K.lookup f14 = some ⟨oc14, od14, .func (PySem.W.fnOf "_law_divisor" "_law_divisor" (defArgs s_law_divisor) (defBody s_law_divisor) (defScope s_law_divisor) .none kV14 dc14 pm14 an14 cd14 ct14), sl14⟩) (c14 : PySem.W.codeIn K cd14 "_law_divisor" = true) (k14 : PySem.W.keepIn K (.ref f14) = true)
    (a15 : PySem.W.nsIn K mainGlobals "_law_repeat" = some (some (.ref f15))) (l15 : K.lookup f15 = some ⟨oc15, od15, .func (PySem.W.fnOf "_law_repeat" "_law_repeat" (defArgs s_law_repeat) (defBody s_law_repeat) (defScope s_law_repeat) .none kV15 dc15 pm15 an15 cd15 ct15), sl15⟩) (c15 : PySem.W.codeIn K cd15 "_law_repeat" = true) (k15 : PySem.W.keepIn K (.ref f15) = true)
    (a16 : PySem.W.nsIn K mainGlobals "law" = some (some (.ref f16))) (l16 : K.lookup f16 = some ⟨oc16, od16, .func (PySem.W.fnOf "law" "law" (defArgs s_law) (defBody s_law) (defScope s_law) .none kV16 dc16 pm16 an16 cd16 ct16), sl16⟩) (c16 : PySem.W.codeIn K cd16 "law" = true) (k16 : PySem.W.keepIn K (.ref f16) = true)
    (z0 : PySem.W.nsIn K mainGlobals "all" = some none) (z1 : PySem.W.nsIn K mainGlobals "int" = some none) (z2 : PySem.W.nsIn K mainGlobals "isinstance" = some none) (z3 : PySem.W.nsIn K mainGlobals "len" = some none) (z4 : PySem.W.nsIn K mainGlobals "list" = some none) (z5 : PySem.W.nsIn K mainGlobals "max" = some none) (z6 : PySem.W.nsIn K mainGlobals "min" = some none) (z7 : PySem.W.nsIn K mainGlobals "range" = some none) (z8 : PySem.W.nsIn K mainGlobals "repr" = some none) (z9 : PySem.W.nsIn K mainGlobals "set" = some none) (z10 : PySem.W.nsIn K mainGlobals "sorted" = some none) (z11 : PySem.W.nsIn K mainGlobals "str" = some none) (z12 : PySem.W.nsIn K mainGlobals "tuple" = some none) :
    ∃ fd : FuncData, (∀ (s : Shared) (v : Value), BindsTo s fd ⟨[v], []⟩ [("script", v)]) ∧ ∀ base : Heap, K.In base → base.Ns mainGlobals mg → FnG l.prog w K mg base 4 fa fd ["script"] (spOf K 1 fn_law) := by
  have e := hfa.symm.trans (PySem.W.mg_of X G a16)
  cases e
  have BB : Bu mg := ⟨PySem.W.mg_none_of X G z0, PySem.W.mg_none_of X G z1, PySem.W.mg_none_of X G z2, PySem.W.mg_none_of X G z3, PySem.W.mg_none_of X G z4, PySem.W.mg_none_of X G z5, PySem.W.mg_none_of X G z6, PySem.W.mg_none_of X G z7, PySem.W.mg_none_of X G z8, PySem.W.mg_none_of X G z9, PySem.W.mg_none_of X G z10, PySem.W.mg_none_of X G z11, PySem.W.mg_none_of X G z12⟩
  have F0 := fun_mk (st := s_pieces) l0 c0 k0
  have F1 := fun_mk (st := s_balanced_paper) l1 c1 k1
  have F2 := fun_mk (st := s_judge_balanced) l2 c2 k2
  have F3 := fun_mk (st := s_slope_word) l3 c3 k3
  have F4 := fun_mk (st := s_how_many_pieces) l4 c4 k4
  have F5 := fun_mk (st := s_first_repeat) l5 c5 k5
  have F6 := fun_mk (st := s_law_start) l6 c6 k6
  have F7 := fun_mk (st := s_law_fill) l7 c7 k7
  have F8 := fun_mk (st := s_law_take) l8 c8 k8
  have F9 := fun_mk (st := s_law_shuffled) l9 c9 k9
  have F10 := fun_mk (st := s_law_word) l10 c10 k10
  have F11 := fun_mk (st := s_law_pieces) l11 c11 k11
  have F12 := fun_mk (st := s_law_least) l12 c12 k12
  have F13 := fun_mk (st := s_law_holds) l13 c13 k13
  have F14 := fun_mk (st := s_law_divisor) l14 c14 k14
  have F15 := fun_mk (st := s_law_repeat) l15 c15 k15
  have F16 := fun_mk (st := s_law) l16 c16 k16
  refine ⟨PySem.W.fnOf "law" "law" (defArgs s_law) (defBody s_law) (defScope s_law) .none kV16 dc16 pm16 an16 cd16 ct16, fun s v => .of_eq rfl, fun base _ _ => ?_⟩
  have h_pieces : DefOk l.prog w K mg base "pieces" ["word", "n"] 1 fn_pieces := ⟨_, _, PySem.W.mg_of X G a0, F0.kp, F0.binds (ps := ["word", "n"]) fun _ _ _ _ _ _ us hl => match us, hl with | [_, _], _ => rfl, ok_pieces F0 BB⟩
  have h_balanced_paper : DefOk l.prog w K mg base "balanced_paper" ["word"] 2 fn_balanced_paper := ⟨_, _, PySem.W.mg_of X G a1, F1.kp, F1.binds (ps := ["word"]) fun _ _ _ _ _ _ us hl => match us, hl with | [_], _ => rfl, ok_balanced_paper F1 BB h_pieces⟩
  have h_judge_balanced : DefOk l.prog w K mg base "judge_balanced" ["word", "value"] 3 fn_judge_balanced := ⟨_, _, PySem.W.mg_of X G a2, F2.kp, F2.binds (ps := ["word", "value"]) fun _ _ _ _ _ _ us hl => match us, hl with | [_, _], _ => rfl, ok_judge_balanced F2 BB h_balanced_paper⟩
  have h_slope_word : DefOk l.prog w K mg base "slope_word" ["p", "q"] 1 fn_slope_word := ⟨_, _, PySem.W.mg_of X G a3, F3.kp, F3.binds (ps := ["p", "q"]) fun _ _ _ _ _ _ us hl => match us, hl with | [_, _], _ => rfl, ok_slope_word F3 BB⟩
  have h_how_many_pieces : DefOk l.prog w K mg base "how_many_pieces" ["word"] 2 fn_how_many_pieces := ⟨_, _, PySem.W.mg_of X G a4, F4.kp, F4.binds (ps := ["word"]) fun _ _ _ _ _ _ us hl => match us, hl with | [_], _ => rfl, ok_how_many_pieces F4 BB h_pieces⟩
  have h_first_repeat : DefOk l.prog w K mg base "first_repeat" ["word"] 1 fn_first_repeat := ⟨_, _, PySem.W.mg_of X G a5, F5.kp, F5.binds (ps := ["word"]) fun _ _ _ _ _ _ us hl => match us, hl with | [_], _ => rfl, ok_first_repeat F5 BB⟩
  have h_law_start : DefOk l.prog w K mg base "_law_start" ["script"] 1 fn_law_start := ⟨_, _, PySem.W.mg_of X G a6, F6.kp, F6.binds (ps := ["script"]) fun _ _ _ _ _ _ us hl => match us, hl with | [_], _ => rfl, ok_law_start F6 BB⟩
  have h_law_fill : DefOk l.prog w K mg base "_law_fill" ["c"] 1 fn_law_fill := ⟨_, _, PySem.W.mg_of X G a7, F7.kp, F7.binds (ps := ["c"]) fun _ _ _ _ _ _ us hl => match us, hl with | [_], _ => rfl, ok_law_fill F7 BB⟩
  have h_law_take : DefOk l.prog w K mg base "_law_take" ["c", "many"] 2 fn_law_take := ⟨_, _, PySem.W.mg_of X G a8, F8.kp, F8.binds (ps := ["c", "many"]) fun _ _ _ _ _ _ us hl => match us, hl with | [_, _], _ => rfl, ok_law_take F8 BB h_law_fill⟩
  have h_law_shuffled : DefOk l.prog w K mg base "_law_shuffled" ["c", "items"] 3 fn_law_shuffled := ⟨_, _, PySem.W.mg_of X G a9, F9.kp, F9.binds (ps := ["c", "items"]) fun _ _ _ _ _ _ us hl => match us, hl with | [_, _], _ => rfl, ok_law_shuffled F9 BB h_law_take⟩
  have h_law_word : DefOk l.prog w K mg base "_law_word" ["c", "letters", "most"] 3 fn_law_word := ⟨_, _, PySem.W.mg_of X G a10, F10.kp, F10.binds (ps := ["c", "letters", "most"]) fun _ _ _ _ _ _ us hl => match us, hl with | [_, _, _], _ => rfl, ok_law_word F10 BB h_law_take⟩
  have h_law_pieces : DefOk l.prog w K mg base "_law_pieces" ["word", "size"] 1 fn_law_pieces := ⟨_, _, PySem.W.mg_of X G a11, F11.kp, F11.binds (ps := ["word", "size"]) fun _ _ _ _ _ _ us hl => match us, hl with | [_, _], _ => rfl, ok_law_pieces F11 BB⟩
  have h_law_least : DefOk l.prog w K mg base "_law_least" ["word"] 2 fn_law_least := ⟨_, _, PySem.W.mg_of X G a12, F12.kp, F12.binds (ps := ["word"]) fun _ _ _ _ _ _ us hl => match us, hl with | [_], _ => rfl, ok_law_least F12 BB h_law_pieces⟩
  have h_law_holds : DefOk l.prog w K mg base "_law_holds" ["word", "value"] 3 fn_law_holds := ⟨_, _, PySem.W.mg_of X G a13, F13.kp, F13.binds (ps := ["word", "value"]) fun _ _ _ _ _ _ us hl => match us, hl with | [_, _], _ => rfl, ok_law_holds F13 BB h_law_least⟩
  have h_law_divisor : DefOk l.prog w K mg base "_law_divisor" ["a", "b"] 1 fn_law_divisor := ⟨_, _, PySem.W.mg_of X G a14, F14.kp, F14.binds (ps := ["a", "b"]) fun _ _ _ _ _ _ us hl => match us, hl with | [_, _], _ => rfl, ok_law_divisor F14 BB⟩
  have h_law_repeat : DefOk l.prog w K mg base "_law_repeat" ["word"] 2 fn_law_repeat := ⟨_, _, PySem.W.mg_of X G a15, F15.kp, F15.binds (ps := ["word"]) fun _ _ _ _ _ _ us hl => match us, hl with | [_], _ => rfl, ok_law_repeat F15 BB h_law_pieces⟩
  exact ok_law F16 BB h_balanced_paper h_judge_balanced h_slope_word h_how_many_pieces h_first_repeat h_law_start h_law_take h_law_word h_law_pieces h_law_least h_law_holds h_law_divisor h_law_repeat
end signworth_k22_slopes
open PySem PySem.W PyProof.Rows
set_option maxHeartbeats 0 in
theorem PySem.Challenge.cw_signworth_k22_slopes_holds : PySem.Challenge.rw_signworth_k22_slopes.Holds := by
  w_on; o_law; k_head; (case hw => w_witness2)
  k_fill
  refine MP.walk_ofG (l := PySem.Challenge.rw_signworth_k22_slopes) (n := 63) (k := 4) (x := "script") (sp := fun w => MP.spOf _ 1 signworth_k22_slopes.fn_law) rfl (by decide) rfl ⟨rfl, by decide, by decide⟩ (fun w h Y => PySem.W.kIn_of Y) ?F (fun w H a ns hl hO hS => MP.law_sp signworth_k22_slopes.law_true H a ns hl hO hS)
  case F =>
    intro w mg fa h KX G hmg
    refine' signworth_k22_slopes.all_mk KX G hmg ?a0 ?l0 ?c0 ?k0 ?a1 ?l1 ?c1 ?k1 ?a2 ?l2 ?c2 ?k2 ?a3 ?l3 ?c3 ?k3 ?a4 ?l4 ?c4 ?k4 ?a5 ?l5 ?c5 ?k5 ?a6 ?l6 ?c6 ?k6 ?a7 ?l7 ?c7 ?k7 ?a8 ?l8 ?c8 ?k8 ?a9 ?l9 ?c9 ?k9 ?a10 ?l10 ?c10 ?k10 ?a11 ?l11 ?c11 ?k11 ?a12 ?l12 ?c12 ?k12 ?a13 ?l13 ?c13 ?k13 ?a14 ?l14 ?c14 ?k14 ?a15 ?l15 ?c15 ?k15 ?a16 ?l16 ?c16 ?k16 ?z0 ?z1 ?z2 ?z3 ?z4 ?z5 ?z6 ?z7 ?z8 ?z9 ?z10 ?z11 ?z12
    (case a0 => k_is)
    (case l0 => k_is)
    (case c0 => k_is)
    (case k0 => k_is)
    (case a1 => k_is)
    (case l1 => k_is)
    (case c1 => k_is)
    (case k1 => k_is)
    (case a2 => k_is)
    (case l2 => k_is)
    (case c2 => k_is)
    (case k2 => k_is)
    (case a3 => k_is)
    (case l3 => k_is)
    (case c3 => k_is)
    (case k3 => k_is)
    (case a4 => k_is)
    (case l4 => k_is)
    (case c4 => k_is)
    (case k4 => k_is)
    (case a5 => k_is)
    (case l5 => k_is)
    (case c5 => k_is)
    (case k5 => k_is)
    (case a6 => k_is)
    (case l6 => k_is)
    (case c6 => k_is)
    (case k6 => k_is)
    (case a7 => k_is)
    (case l7 => k_is)
    (case c7 => k_is)
    (case k7 => k_is)
    (case a8 => k_is)
    (case l8 => k_is)
    (case c8 => k_is)
    (case k8 => k_is)
    (case a9 => k_is)
    (case l9 => k_is)
    (case c9 => k_is)
    (case k9 => k_is)
    (case a10 => k_is)
    (case l10 => k_is)
    (case c10 => k_is)
    (case k10 => k_is)
    (case a11 => k_is)
    (case l11 => k_is)
    (case c11 => k_is)
    (case k11 => k_is)
    (case a12 => k_is)
    (case l12 => k_is)
    (case c12 => k_is)
    (case k12 => k_is)
    (case a13 => k_is)
    (case l13 => k_is)
    (case c13 => k_is)
    (case k13 => k_is)
    (case a14 => k_is)
    (case l14 => k_is)
    (case c14 => k_is)
    (case k14 => k_is)
    (case a15 => k_is)
    (case l15 => k_is)
    (case c15 => k_is)
    (case k15 => k_is)
    (case a16 => k_is)
    (case l16 => k_is)
    (case c16 => k_is)
    (case k16 => k_is)
    (case z0 => k_is)
    (case z1 => k_is)
    (case z2 => k_is)
    (case z3 => k_is)
    (case z4 => k_is)
    (case z5 => k_is)
    (case z6 => k_is)
    (case z7 => k_is)
    (case z8 => k_is)
    (case z9 => k_is)
    (case z10 => k_is)
    (case z11 => k_is)
    (case z12 => k_is)
