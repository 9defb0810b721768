import PyProof.Rows.All
import Wide.All
import OpenK.AllK
import Wide.FinOn
import HandS.ForMost
import HandS.ForExc
import KE.KeyNested
import HandS.TryMany
import HandS.Defaults
import HandS.WordsExc
import HandS.IsInst
import HandS.TupAny
import HandS.TupLe
import HandS.Star
import KE.KDictKeyed
import HandS.Walk
import HandS.Zip
import HandS.Rev
import PyProof.ListNew
import HandS.ReCall
import HandS.TupMul
import HandS.Ends
import HandS.HeadEnd
import HandS.Head0
import HandS.Head1
import HandS.Head2
import HandS.HeadHook1
import HandS.HeadHook2
import PySem.Challenge.RW_laurelhall_k40_gaps_that_rules_rank
set_option Elab.async false
set_option linter.all false
set_option maxRecDepth 100000
set_option maxHeartbeats 0
/-! the data layer, part a: data, ghosts, slots, the relation of slots to the abstract heap -/
namespace LD
open PySem PySem.Spec PyProof.Rows L2

/-- immutable data -/
inductive D where
  | non | bl (b : Bool) | int (i : Int) | str (s : Str)
  | tup (xs : List D) | lst (xs : List D) | dct (kvs : List (D × D)) | set (xs : List D)
  | ty (n : String) | gl (x : Str)
  deriving Inhabited

/-- a slot: not assigned; shared; owned here; lent to us -/
inductive Sl where
  | un | sh (d : D) | ow (d : D) | io (d : D)
  deriving Inhabited
abbrev Sls := List Sl
/-- a result: shared; a new object that nobody else has; what stands in a slot -/
inductive Rv where
  | sh (d : D) | ow (d : D) | bo (i : Nat)
  deriving Inhabited
/-- an exception: its class's name, its own fields -/
structure Ex where
  c : Str
  fs : List (Str × D) := []
  deriving Inhabited
/-- an outcome -/
inductive Ou (α : Type) where
  | ok (a : α) (S : Sls) | ex (e : Ex) (S : Sls) | bad
  deriving Inhabited
@[inline] def Ou.bind {α β : Type} (x : Ou α) (f : α → Sls → Ou β) : Ou β :=
  match x with
  | .ok a S => f a S
  | .ex e S => .ex e S
  | .bad => .bad
@[simp] theorem Ou.bind_ok {α β : Type} (a : α) (S : Sls) (f : α → Sls → Ou β) : (Ou.ok a S).bind f = f a S := rfl
@[simp] theorem Ou.bind_ex {α β : Type} (e : Ex) (S : Sls) (f : α → Sls → Ou β) : (Ou.ex e S : Ou α).bind f = .ex e S := rfl
@[simp] theorem Ou.bind_bad {α β : Type} (f : α → Sls → Ou β) : (Ou.bad : Ou α).bind f = .bad := rfl

/-! ### keys of dicts and sets -/
mutual
def keyOf : D → Option NestedKey
  | .non => some .none
  | .bl b => some (.num (if b = true then 1 else 0))
  | .int i => some (.num i)
  | .str s => some (.text s)
  | .tup xs => (keysOf xs).map .tup
  | _ => none
def keysOf : List D → Option (List NestedKey)
  | [] => some []
  | x :: xs => (keyOf x).bind fun k => (keysOf xs).map (k :: ·)
end

/-- a text that may stand here -/
def okS (x : Str) : Bool := PyData.strOk x && decide (x.length ≤ sizeLine)
/-- the module: program, world, written part, names; constants told as data -/
structure Mo where
  P : Program
  w : World
  K : PySem.W.Frag
  mg : Str → Option Value
  C : Addr → Option D
abbrev Gh := Addr → Option D
def GLe (G G' : Gh) : Prop := ∀ a d, G a = some d → G' a = some d
theorem GLe.refl (G : Gh) : GLe G G := fun _ _ h => h
theorem GLe.trans {G G1 G2 : Gh} (a : GLe G G1) (b : GLe G1 G2) : GLe G G2 := fun c d h => b c d (a c d h)
def gset (G : Gh) (a : Addr) (d : D) : Gh := fun b => if b = a then some d else G b
theorem gset_same {G : Gh} {a : Addr} {d : D} : gset G a d a = some d := by unfold gset; rw [if_pos rfl]
theorem gset_ne {G : Gh} {a b : Addr} {d : D} (h : b ≠ a) : gset G a d b = G b := by unfold gset; rw [if_neg h]
theorem GLe.gset {G : Gh} {a : Addr} {d : D} (h : G a = none) : GLe G (gset G a d) := fun b e q => by
  by_cases hb : b = a
  · subst hb; rw [h] at q; cases q
  · rw [gset_ne hb]; exact q

/-- a list that may be read: tracked, or the written part's own -/
def LsK (K : PySem.W.Frag) (H : Hp) (a : Addr) (xs : List V) : Prop := Rd H a (.lst xs) ∨ ∃ (its : Array Value) (n : Nat), K.lookup a = some { cls := .type "list", data := .seq its n } ∧ its.size ≤ sizeLine ∧ Vals xs its.toList
theorem LsK.sq {K : PySem.W.Frag} {H : Hp} {a : Addr} {xs : List V} (h : LsK K H a xs) : SqL K H a xs := h.imp id fun ⟨its, n, h1, h2, h3⟩ => ⟨_, its, n, h1, rfl, rfl, rfl, h2, h3⟩
section
variable (M : Mo)
/-- a value that is (for good) the data d -/
def RV (G : Gh) : V → D → Prop
  | .non, d => d = .non
  | .bl b, d => d = .bl b
  | .int i, d => d = .int i
  | .str s, d => d = .str s ∧ okS s = true
  | .ty n, d => d = .ty n
  | .ref a, d => G a = some d ∨ M.C a = some d
  | _, _ => False
abbrev RVs (G : Gh) : List V → List D → Prop := Paired (RV M G)
/-- the raw entries of a dict -/
abbrev Ents := List (Int × Value × Value)
def entOf (e : Int × Value × Value) : DictEntry := ⟨e.1, e.2.1, e.2.2⟩
def dictObj (es : Ents) (o : Obj) : Prop := es.length ≤ sizeLine ∧ o.ExactDict ∧ ∃ arr ep, o.data = .dict arr ep ∧ arr.toList = es.map entOf
def isDict (a : Addr) (es : Ents) (h : Heap) : Prop := (a == sysModules) = false ∧ ∃ o, h.get? a = some o ∧ dictObj es o
def VV (G : Gh) (u : Value) (d : D) : Prop := ∃ v, RelV v u ∧ RV M G v d
def EntR (G : Gh) (e : Int × Value × Value) (kv : D × D) : Prop := VV M G e.2.1 kv.1 ∧ VV M G e.2.2 kv.2 ∧ ∃ k, keyOf kv.1 = some k ∧ e.1 = k.hash M.w ∧ k.depth ≤ 8
def Dct (H : Hp) (a : Addr) (es : Ents) : Prop :=
  H a = some (.ext (isDict a es)) ∨ ((a == sysModules) = false ∧ ∃ o, M.K.lookup a = some o ∧ dictObj es o)
/-- what stands at a is (now) the data d -/
def Hold (G : Gh) (H : Hp) (a : Addr) : D → Prop
  | .tup ds => ∃ vs, SqT M.K H a vs ∧ RVs M G vs ds
  | .lst ds => ∃ vs, LsK M.K H a vs ∧ RVs M G vs ds
  | .dct kvs => ∃ es, Dct M H a es ∧ Paired (EntR M G) es kvs ∧ (kvs.map fun p => keyOf p.1).Nodup
  | .gl x => M.mg x = some (.ref a)
  | _ => False
/-- .. and may be changed -/
def HoldO (G : Gh) (H : Hp) (a : Addr) : D → Prop
  | .lst ds => ∃ vs, H a = some (.lst vs) ∧ RVs M G vs ds
  | .dct kvs => ∃ es, H a = some (.ext (isDict a es)) ∧ Paired (EntR M G) es kvs ∧ (kvs.map fun p => keyOf p.1).Nodup
  | _ => False
end

section
variable {M : Mo} {G G' : Gh} {H H' : Hp} {a b : Addr} {d e : D} {v : V}
theorem RV.mono (h : RV M G v d) (g : GLe G G') : RV M G' v d := by
  cases v <;> first | exact h | exact h.imp (g _ _) id
theorem RVs.mono {vs : List V} {ds : List D} (h : RVs M G vs ds) (g : GLe G G') : RVs M G' vs ds := Paired.mapP h fun _ _ r => RV.mono r g
theorem VV.mono {u : Value} (h : VV M G u d) (g : GLe G G') : VV M G' u d := let ⟨v, r, q⟩ := h; ⟨v, r, q.mono g⟩
theorem EntR.mono {x : Int × Value × Value} {kv : D × D} (h : EntR M G x kv) (g : GLe G G') : EntR M G' x kv := ⟨h.1.mono g, h.2.1.mono g, h.2.2⟩
theorem SqT.same {K : PySem.W.Frag} {xs : List V} (e : H' a = H a) (h : SqT K H a xs) : SqT K H' a xs := by
  refine h.elim (fun q => .inl ?_) .inr
  rcases q with q | ⟨o, q⟩
  · exact .inl (e.trans q)
  · exact .inr ⟨o, e.trans q⟩
theorem Rd.same {u : HO} (e : H' a = H a) (h : Rd H a u) : Rd H' a u := by
  rcases h with h | ⟨o, h⟩
  · exact .inl (e.trans h)
  · exact .inr ⟨o, e.trans h⟩
theorem LsK.same {K : PySem.W.Frag} {xs : List V} (e : H' a = H a) (h : LsK K H a xs) : LsK K H' a xs := h.imp (Rd.same e) id
theorem Hold.mono (h : Hold M G H a d) (g : GLe G G') (e : H' a = H a) : Hold M G' H' a d := by
  cases d with
  | tup ds => obtain ⟨vs, q, r⟩ := h; exact ⟨vs, SqT.same e q, RVs.mono r g⟩
  | lst ds => obtain ⟨vs, q, r⟩ := h; exact ⟨vs, LsK.same e q, RVs.mono r g⟩
  | dct kvs => obtain ⟨es, q, r, n⟩ := h; exact ⟨es, q.imp (fun z => e.trans z) id, Paired.mapP r fun _ _ x => x.mono g, n⟩
  | gl x => exact h
  | _ => exact h
theorem HoldO.mono (h : HoldO M G H a d) (g : GLe G G') (e : H' a = H a) : HoldO M G' H' a d := by
  cases d with
  | lst ds => obtain ⟨vs, q, r⟩ := h; exact ⟨vs, e.trans q, RVs.mono r g⟩
  | dct kvs => obtain ⟨es, q, r, n⟩ := h; exact ⟨es, e.trans q, Paired.mapP r fun _ _ x => x.mono g, n⟩
  | _ => exact h
theorem HoldO.hold (h : HoldO M G H a d) : Hold M G H a d := by
  cases d with
  | lst ds => obtain ⟨vs, q, r⟩ := h; exact ⟨vs, .inl (.inl q), r⟩
  | dct kvs => obtain ⟨es, q, r, n⟩ := h; exact ⟨es, .inl q, r, n⟩
  | _ => exact h.elim
theorem HoldO.trk (h : HoldO M G H a d) : ∃ o, H a = some o := by
  cases d with
  | lst ds => obtain ⟨vs, q, r⟩ := h; exact ⟨_, q⟩
  | dct kvs => obtain ⟨es, q, r, n⟩ := h; exact ⟨_, q⟩
  | _ => exact h.elim
theorem upd_old {p : Addr} {o : HO} (np : H p = none) (h : ∃ u, H a = some u) : upd H p o a = H a := by
  obtain ⟨u, hu⟩ := h
  exact upd_ne (ne_of_none hu np)
end

/-- the entry of a def: the heap; what was lent (slot, address); what was told -/
structure En where
  H : Hp
  L : List (Nat × Addr)
  G : Gh
/-- what a slot is -/
def SlOk (M : Mo) (N : En) (G : Gh) (σ : L2.St) (H : Hp) (i : Nat) : Sl → Prop
  | .un => True
  | .sh d => ∃ v, σ[i]? = some (some v) ∧ RV M G v d
  | .ow d => ∃ a, σ[i]? = some (some (.ref a)) ∧ G a = none ∧ HoldO M G H a d ∧ N.H a = none
  | .io d => ∃ a, σ[i]? = some (some (.ref a)) ∧ G a = none ∧ HoldO M G H a d ∧ (i, a) ∈ N.L
def Sl.mine : Sl → Bool
  | .ow _ => true
  | .io _ => true
  | _ => false
/-- the slots S are so, in σ and H -/
structure SR (M : Mo) (N : En) (G : Gh) (S : Sls) (σ : L2.St) (H : Hp) : Prop where
  con : ∀ a d, G a = some d → Hold M G H a d
  cc : ∀ a d, M.C a = some d → ∀ G H, Hold M G H a d
  trk : ∀ a d, G a = some d → ∃ o, H a = some o
  old : ∀ a d, G a = some d → N.G a = some d ∨ N.H a = none
  keep : ∀ a o, N.H a = some o → (∀ i, (i, a) ∉ N.L) → H a = some o
  lent : ∀ i a, (i, a) ∈ N.L → ∃ o, H a = some o
  len : S.length = σ.length
  sl : ∀ (i : Nat) (s : Sl), S[i]? = some s → SlOk M N G σ H i s
  sep : ∀ (i j : Nat) (s t : Sl) (a : Addr), i ≠ j → S[i]? = some s → S[j]? = some t → s.mine = true → t.mine = true → σ[i]? = some (some (.ref a)) → σ[j]? ≠ some (some (.ref a))
/-- what a result is -/
def RR (M : Mo) (N : En) (G : Gh) (H : Hp) (S : Sls) (σ : L2.St) (v : V) : Rv → Prop
  | .sh d => RV M G v d
  | .ow d => ∃ a, v = .ref a ∧ G a = none ∧ N.H a = none ∧ HoldO M G H a d ∧ ∀ (i : Nat) (s : Sl), S[i]? = some s → s.mine = true → σ[i]? ≠ some (some (.ref a))
  | .bo i => σ[i]? = some (some v)
/-- what a value is now -/
def VH (M : Mo) (G : Gh) (H : Hp) : V → D → Prop
  | .ref a, d => (RV M G (.ref a) d ∧ Hold M G H a d) ∨ HoldO M G H a d
  | v, d => RV M G v d

def peek (S : Sls) : Rv → Option D
  | .sh d => some d
  | .ow d => some d
  | .bo i => match S[i]? with
    | some (.sh d) => some d
    | some (.ow d) => some d
    | some (.io d) => some d
    | _ => none
/-- a new object is nobody else's any more -/
def Rv.hold : Rv → Rv
  | .ow d => .sh d
  | r => r
/-- a result is handed on: it is shared from then on -/
def frz (S : Sls) : Rv → Option (D × Sls)
  | .sh d => some (d, S)
  | .ow d => some (d, S)
  | .bo i => match S[i]? with
    | some (.sh d) => some (d, S)
    | some (.ow d) => some (d, S.set i (.sh d))
    | _ => none

section
variable {M : Mo} {N : En} {G G' : Gh} {S S' : Sls} {σ : L2.St} {H H' : Hp} {a p : Addr} {d : D} {v : V} {r : Rv}
theorem RV.vh (R : SR M N G S σ H) (h : RV M G v d) : VH M G H v d := by
  cases v <;> first | exact h | skip
  refine .inl ⟨h, ?_⟩
  rcases h with h | h
  · exact R.con _ _ h
  · exact R.cc _ _ h _ _
theorem VH.hold (h : VH M G H (.ref a) d) : Hold M G H a d := h.elim (·.2) (·.hold)
theorem SR.peek (R : SR M N G S σ H) (h : RR M N G H S σ v r) (q : peek S r = some d) : VH M G H v d := by
  cases r with
  | sh e => cases q; exact RV.vh R h
  | ow e =>
    cases q
    obtain ⟨a, rfl, _, _, ho, _⟩ := h
    exact .inr ho
  | bo i =>
    have hv : σ[i]? = some (some v) := h
    unfold LD.peek at q
    dsimp only at q
    split at q <;> first | (cases q; done) | skip
    all_goals
      rename_i e hS
      cases q
      have z := R.sl i _ hS
      obtain ⟨w, h1, h2⟩ := z
      rw [hv] at h1
      cases h1
      first
        | exact RV.vh R h2
        | exact .inr h2.2.1
theorem SR.fresh (R : SR M N G S σ H) (np : H p = none) : G p = none := by
  cases e : G p with
  | none => rfl
  | some d => obtain ⟨o, z⟩ := R.trk p d e; rw [np] at z; cases z
theorem SR.fresh0 (R : SR M N G S σ H) (np : H p = none) : N.H p = none := by
  cases e : N.H p with
  | none => rfl
  | some o =>
    by_cases hl : ∃ i, (i, p) ∈ N.L
    · obtain ⟨i, hi⟩ := hl
      obtain ⟨u, z⟩ := R.lent i p hi
      rw [np] at z; cases z
    · have z := R.keep p o e fun i hi => hl ⟨i, hi⟩
      rw [np] at z; cases z
/-- the heap changes where nothing is told -/
theorem SR.step (R : SR M N G S σ H) (g : GLe G G') (con : ∀ a d, G' a = some d → G a = none → Hold M G' H' a d ∧ (∃ o, H' a = some o) ∧ N.H a = none) (h1 : ∀ a d, G a = some d → H' a = H a)
    (h2 : ∀ a o, N.H a = some o → (∀ i, (i, a) ∉ N.L) → H' a = H a) (hl : ∀ i a, (i, a) ∈ N.L → ∃ o, H' a = some o)
    (h3 : ∀ (i : Nat) (s : Sl) (a : Addr), S[i]? = some s → s.mine = true → σ[i]? = some (some (.ref a)) → H' a = H a ∧ G' a = none) : SR M N G' S σ H' where
  con := fun a d e => by
    cases q : G a with
    | none => exact (con a d e q).1
    | some d' =>
      have z := g a d' q
      rw [e] at z; cases z
      exact (R.con a d q).mono g (h1 a d q)
  cc := R.cc
  trk := fun a d e => by
    cases q : G a with
    | none => exact (con a d e q).2.1
    | some d' => rw [h1 a d' q]; exact R.trk a d' q
  old := fun a d e => by
    cases q : G a with
    | none => exact .inr (con a d e q).2.2
    | some d' =>
      have z := g a d' q
      rw [e] at z; cases z
      exact R.old a d q
  keep := fun a o e hl => (h2 a o e hl).trans (R.keep a o e hl)
  lent := hl
  len := R.len
  sl := fun i s e => by
    have z := R.sl i s e
    cases s with
    | un => exact z
    | sh d => obtain ⟨v, q1, q2⟩ := z; exact ⟨v, q1, q2.mono g⟩
    | ow d =>
      obtain ⟨a, q1, q2, q3, q4⟩ := z
      obtain ⟨k1, k2⟩ := h3 i _ a e rfl q1
      exact ⟨a, q1, k2, q3.mono g k1, q4⟩
    | io d =>
      obtain ⟨a, q1, q2, q3, q4⟩ := z
      obtain ⟨k1, k2⟩ := h3 i _ a e rfl q1
      exact ⟨a, q1, k2, q3.mono g k1, q4⟩
  sep := R.sep
/-- the address of a slot of ours -/
theorem SR.mine (R : SR M N G S σ H) {i : Nat} {s : Sl} (e : S[i]? = some s) (m : s.mine = true) (q : σ[i]? = some (some (.ref a))) : ∃ d, HoldO M G H a d ∧ G a = none := by
  have z := R.sl i s e
  cases s with
  | un => cases m
  | sh d => cases m
  | ow d => obtain ⟨b, q1, q2, q3, q4⟩ := z; rw [q] at q1; cases q1; exact ⟨d, q3, q2⟩
  | io d => obtain ⟨b, q1, q2, q3, q4⟩ := z; rw [q] at q1; cases q1; exact ⟨d, q3, q2⟩
theorem SR.mineTrk (R : SR M N G S σ H) {i : Nat} {s : Sl} (e : S[i]? = some s) (m : s.mine = true) (q : σ[i]? = some (some (.ref a))) : ∃ o, H a = some o :=
  let ⟨_, h, _⟩ := R.mine e m q; h.trk
theorem SR.mineG (R : SR M N G S σ H) {i : Nat} {s : Sl} (e : S[i]? = some s) (m : s.mine = true) (q : σ[i]? = some (some (.ref a))) : G a = none :=
  let ⟨_, _, h⟩ := R.mine e m q; h
/-- a new object at p -/
theorem SR.grow (R : SR M N G S σ H) (np : H p = none) (o : HO) : SR M N G S σ (upd H p o) :=
  R.step (GLe.refl G) (fun a d e n => by rw [n] at e; cases e) (fun a d e => upd_old np (R.trk a d e)) (fun a o e hl => upd_old np ⟨o, R.keep a o e hl⟩)
    (fun i a hl => by rw [upd_old np (R.lent i a hl)]; exact R.lent i a hl)
    fun i s a e m q => ⟨upd_old np (R.mineTrk e m q), R.mineG e m q⟩
/-- .. told for good -/
theorem SR.tell (R : SR M N G S σ H) (hp : G p = none) (h0 : N.H p = none) (ht : ∃ o, H p = some o) (hh : Hold M (gset G p d) H p d) (hs : ∀ (i : Nat) (s : Sl), S[i]? = some s → s.mine = true → σ[i]? ≠ some (some (.ref p))) : SR M N (gset G p d) S σ H :=
  R.step (GLe.gset hp) (fun a d' e n => by
    by_cases ha : a = p
    · subst ha; rw [gset_same] at e; cases e; exact ⟨hh, ht, h0⟩
    · rw [gset_ne ha, n] at e; cases e) (fun _ _ _ => rfl) (fun _ _ _ _ => rfl) R.lent fun i s a e m q => ⟨rfl, by
      have hne : a ≠ p := fun z => hs i s e m (by rw [← z]; exact q)
      rw [gset_ne hne]
      exact R.mineG e m q⟩
theorem SR.noMine (R : SR M N G S σ H) (np : H p = none) : ∀ (i : Nat) (s : Sl), S[i]? = some s → s.mine = true → σ[i]? ≠ some (some (.ref p)) := fun i s e m q => by
  obtain ⟨u, z⟩ := R.mineTrk e m q
  rw [np] at z; cases z
theorem SR.grow_tell (R : SR M N G S σ H) (np : H p = none) {o : HO} (hh : Hold M (gset G p d) (upd H p o) p d) : SR M N (gset G p d) S σ (upd H p o) :=
  (R.grow np o).tell (R.fresh np) (R.fresh0 np) ⟨o, upd_same⟩ hh (R.noMine np)
/-- a new object, ours -/
theorem SR.grow_own (R : SR M N G S σ H) (np : H p = none) {o : HO} (hh : HoldO M G (upd H p o) p d) : SR M N G S σ (upd H p o) ∧ RR M N G (upd H p o) S σ (.ref p) (.ow d) :=
  ⟨R.grow np o, p, rfl, R.fresh np, R.fresh0 np, hh, R.noMine np⟩
/-- hold a result: an owned new object is told for good -/
theorem SR.hold (R : SR M N G S σ H) (h : RR M N G H S σ v r) : ∃ G', SR M N G' S σ H ∧ GLe G G' ∧ RR M N G' H S σ v r.hold := by
  cases r with
  | sh d => exact ⟨G, R, GLe.refl G, h⟩
  | bo i => exact ⟨G, R, GLe.refl G, h⟩
  | ow d =>
    obtain ⟨a, rfl, q1, q2, q3, q4⟩ := h
    exact ⟨gset G a d, R.tell q1 q2 q3.trk (q3.hold.mono (GLe.gset q1) rfl) q4, GLe.gset q1, .inl gset_same⟩
theorem peek_hold (S : Sls) (r : Rv) : LD.peek S r.hold = LD.peek S r := by cases r <;> rfl
/-- what is held stays -/
theorem RR.keep (h : RR M N G H S σ v r.hold) (g : GLe G G') : RR M N G' H' S' σ v r.hold := by
  cases r with
  | sh d => exact RV.mono h g
  | ow d => exact RV.mono h g
  | bo i => exact h
/-- a slot of ours is shared from now on -/
theorem SR.frzSlot (R : SR M N G S σ H) {i : Nat} (e : S[i]? = some (.ow d)) (q : σ[i]? = some (some (.ref a))) : SR M N (gset G a d) (S.set i (.sh d)) σ H := by
  obtain ⟨b, q1, q2, q3, q4⟩ := R.sl i _ e
  rw [q] at q1; cases q1
  have hi : i < S.length := (List.getElem?_eq_some_iff.mp e).1
  have g := GLe.gset (d := d) q2
  have other : ∀ (j : Nat) (s : Sl) (c : Addr), j ≠ i → S[j]? = some s → s.mine = true → σ[j]? = some (some (.ref c)) → gset G a d c = none := fun j s c hj ej m qj => by
    have hne : c ≠ a := fun z => by subst z; exact R.sep i j _ s c (Ne.symm hj) e ej rfl m q qj
    rw [gset_ne hne]
    exact R.mineG ej m qj
  refine ⟨fun b d' eb => ?_, R.cc, fun b d' eb => ?_, fun b d' eb => ?_, R.keep, R.lent, by rw [List.length_set]; exact R.len, fun j s ej => ?_, fun j k s t b hjk ej ek mj mk qj qk => ?_⟩
  · by_cases hb : b = a
    · subst hb; rw [gset_same] at eb; cases eb; exact q3.hold.mono g rfl
    · rw [gset_ne hb] at eb; exact (R.con b d' eb).mono g rfl
  · by_cases hb : b = a
    · subst hb; exact q3.trk
    · rw [gset_ne hb] at eb; exact R.trk b d' eb
  · by_cases hb : b = a
    · subst hb; exact .inr q4
    · rw [gset_ne hb] at eb; exact R.old b d' eb
  · by_cases hj : j = i
    · subst hj
      rw [List.getElem?_set_self hi] at ej
      cases ej
      exact ⟨.ref a, q, .inl gset_same⟩
    · rw [List.getElem?_set_ne (Ne.symm hj)] at ej
      have z := R.sl j s ej
      cases s with
      | un => exact z
      | sh d' => obtain ⟨w, z1, z2⟩ := z; exact ⟨w, z1, z2.mono g⟩
      | ow d' => obtain ⟨c, z1, z2, z3, z4⟩ := z; exact ⟨c, z1, other j _ c hj ej rfl z1, z3.mono g rfl, z4⟩
      | io d' => obtain ⟨c, z1, z2, z3, z4⟩ := z; exact ⟨c, z1, other j _ c hj ej rfl z1, z3.mono g rfl, z4⟩
  · have hj : j ≠ i := fun z => by subst z; rw [List.getElem?_set_self hi] at ej; cases ej; cases mj
    have hk : k ≠ i := fun z => by subst z; rw [List.getElem?_set_self hi] at ek; cases ek; cases mk
    rw [List.getElem?_set_ne (Ne.symm hj)] at ej
    rw [List.getElem?_set_ne (Ne.symm hk)] at ek
    exact R.sep j k s t b hjk ej ek mj mk qj qk
theorem SR.frz (R : SR M N G S σ H) (h : RR M N G H S σ v r) (q : frz S r = some (d, S')) : ∃ G', SR M N G' S' σ H ∧ GLe G G' ∧ RV M G' v d := by
  cases r with
  | sh e => cases q; exact ⟨G, R, GLe.refl G, h⟩
  | ow e => cases q; exact R.hold h
  | bo i =>
    have hv : σ[i]? = some (some v) := h
    unfold LD.frz at q
    dsimp only at q
    split at q <;> first | (cases q; done) | skip
    · rename_i e hS
      cases q
      obtain ⟨w, h1, h2⟩ := R.sl i _ hS
      rw [hv] at h1; cases h1
      exact ⟨G, R, GLe.refl G, h2⟩
    · rename_i e hS
      cases q
      obtain ⟨a, h1, h2, h3, h4⟩ := id (R.sl i _ hS)
      rw [hv] at h1; cases h1
      exact ⟨gset G a d, R.frzSlot hS hv, GLe.gset h2, .inl gset_same⟩
/-- a name is stored: what stood there before is forgotten -/
theorem SR.store (R : SR M N G S σ H) {i : Nat} {s : Sl} (hi : i < S.length) (hio : ∀ d, S[i]? ≠ some (.io d)) (hs : SlOk M N G (σ.set i (some v)) H i s)
    (hn : s.mine = true → ∀ (j : Nat) (t : Sl) (a : Addr), v = .ref a → S[j]? = some t → t.mine = true → j ≠ i → σ[j]? ≠ some (some (.ref a))) : SR M N G (S.set i s) (σ.set i (some v)) H := by
  have hσ : i < σ.length := by rw [← R.len]; exact hi
  refine ⟨R.con, R.cc, R.trk, R.old, R.keep, R.lent, by rw [List.length_set, List.length_set]; exact R.len, fun j t ej => ?_, fun j k t u b hjk ej ek mj mk qj qk => ?_⟩
  · by_cases hj : j = i
    · subst hj
      rw [List.getElem?_set_self hi] at ej
      cases ej
      exact hs
    · rw [List.getElem?_set_ne (Ne.symm hj)] at ej
      have z := R.sl j t ej
      have hg : (σ.set i (some v))[j]? = σ[j]? := List.getElem?_set_ne (Ne.symm hj)
      cases t with
      | un => exact z
      | sh d' => obtain ⟨w, z1, z2⟩ := z; exact ⟨w, hg.trans z1, z2⟩
      | ow d' => obtain ⟨c, z1, z2, z3, z4⟩ := z; exact ⟨c, hg.trans z1, z2, z3, z4⟩
      | io d' => obtain ⟨c, z1, z2, z3, z4⟩ := z; exact ⟨c, hg.trans z1, z2, z3, z4⟩
  · by_cases hj : j = i
    · subst hj
      have hk : k ≠ j := Ne.symm hjk
      rw [List.getElem?_set_self hi] at ej
      cases ej
      rw [List.getElem?_set_ne (Ne.symm hk)] at ek
      rw [List.getElem?_set_ne (Ne.symm hk)] at qk
      rw [List.getElem?_set_self hσ] at qj
      cases qj
      exact hn mj k u b rfl ek mk hk qk
    · rw [List.getElem?_set_ne (Ne.symm hj)] at ej
      rw [List.getElem?_set_ne (Ne.symm hj)] at qj
      by_cases hk : k = i
      · subst hk
        rw [List.getElem?_set_self hi] at ek
        cases ek
        rw [List.getElem?_set_self hσ] at qk
        cases qk
        exact hn mk j t b rfl ej mj hj qj
      · rw [List.getElem?_set_ne (Ne.symm hk)] at ek
        rw [List.getElem?_set_ne (Ne.symm hk)] at qk
        exact R.sep j k t u b hjk ej ek mj mk qj qk
/-- the object of a slot of ours is changed -/
theorem SR.write (R : SR M N G S σ H) {i : Nat} {e : D} {o : HO} (hS : S[i]? = some (.ow e)) (q : σ[i]? = some (some (.ref a))) (hh : HoldO M G (upd H a o) a d) : SR M N G (S.set i (.ow d)) σ (upd H a o) := by
  obtain ⟨b, q1, q2, q3, q4⟩ := R.sl i _ hS
  rw [q] at q1; cases q1
  have hi : i < S.length := (List.getElem?_eq_some_iff.mp hS).1
  have hG : ∀ b d', G b = some d' → upd H a o b = H b := fun b d' eb => upd_ne fun z => by rw [z, q2] at eb; cases eb
  have other : ∀ (j : Nat) (s : Sl) (c : Addr), j ≠ i → S[j]? = some s → s.mine = true → σ[j]? = some (some (.ref c)) → upd H a o c = H c := fun j s c hj ej m qj =>
    upd_ne fun z => by subst z; exact R.sep i j _ s c (Ne.symm hj) hS ej rfl m q qj
  refine ⟨fun b d' eb => (R.con b d' eb).mono (GLe.refl G) (hG b d' eb), R.cc, fun b d' eb => ?_, R.old, fun b u eb hl => ?_, fun j b hl => ?_, by rw [List.length_set]; exact R.len, fun j s ej => ?_, fun j k s t b hjk ej ek mj mk qj qk => ?_⟩
  · rw [hG b d' eb]; exact R.trk b d' eb
  · rw [upd_ne (fun z => by rw [z, q4] at eb; cases eb)]; exact R.keep b u eb hl
  · by_cases hb : b = a
    · subst hb; exact ⟨o, upd_same⟩
    · rw [upd_ne hb]; exact R.lent j b hl
  · by_cases hj : j = i
    · subst hj
      rw [List.getElem?_set_self hi] at ej
      cases ej
      exact ⟨a, q, q2, hh, q4⟩
    · rw [List.getElem?_set_ne (Ne.symm hj)] at ej
      have z := R.sl j s ej
      cases s with
      | un => exact z
      | sh d' => exact z
      | ow d' => obtain ⟨c, z1, z2, z3, z4⟩ := z; exact ⟨c, z1, z2, z3.mono (GLe.refl G) (other j _ c hj ej rfl z1), z4⟩
      | io d' => obtain ⟨c, z1, z2, z3, z4⟩ := z; exact ⟨c, z1, z2, z3.mono (GLe.refl G) (other j _ c hj ej rfl z1), z4⟩
  · have mi : ∀ (j : Nat) (s : Sl), (S.set i (.ow d))[j]? = some s → s.mine = true → ∃ s', S[j]? = some s' ∧ s'.mine = true := fun j s ej mj => by
      by_cases hj : j = i
      · subst hj; exact ⟨_, hS, rfl⟩
      · rw [List.getElem?_set_ne (Ne.symm hj)] at ej; exact ⟨s, ej, mj⟩
    obtain ⟨s', ej', mj'⟩ := mi j s ej mj
    obtain ⟨t', ek', mk'⟩ := mi k t ek mk
    exact R.sep j k s' t' b hjk ej' ek' mj' mk' qj qk
theorem SR.writeIo (R : SR M N G S σ H) {i : Nat} {e : D} {o : HO} (hS : S[i]? = some (.io e)) (q : σ[i]? = some (some (.ref a))) (hh : HoldO M G (upd H a o) a d) : SR M N G (S.set i (.io d)) σ (upd H a o) := by
  obtain ⟨b, q1, q2, q3, q4⟩ := R.sl i _ hS
  rw [q] at q1; cases q1
  have hi : i < S.length := (List.getElem?_eq_some_iff.mp hS).1
  have hG : ∀ b d', G b = some d' → upd H a o b = H b := fun b d' eb => upd_ne fun z => by rw [z, q2] at eb; cases eb
  have other : ∀ (j : Nat) (s : Sl) (c : Addr), j ≠ i → S[j]? = some s → s.mine = true → σ[j]? = some (some (.ref c)) → upd H a o c = H c := fun j s c hj ej m qj =>
    upd_ne fun z => by subst z; exact R.sep i j _ s c (Ne.symm hj) hS ej rfl m q qj
  refine ⟨fun b d' eb => (R.con b d' eb).mono (GLe.refl G) (hG b d' eb), R.cc, fun b d' eb => ?_, R.old, fun b u eb hl => ?_, fun j b hl => ?_, by rw [List.length_set]; exact R.len, fun j s ej => ?_, fun j k s t b hjk ej ek mj mk qj qk => ?_⟩
  · rw [hG b d' eb]; exact R.trk b d' eb
  · rw [upd_ne (fun z => hl i (by rw [z]; exact q4))]; exact R.keep b u eb hl
  · by_cases hb : b = a
    · subst hb; exact ⟨o, upd_same⟩
    · rw [upd_ne hb]; exact R.lent j b hl
  · by_cases hj : j = i
    · subst hj
      rw [List.getElem?_set_self hi] at ej
      cases ej
      exact ⟨a, q, q2, hh, q4⟩
    · rw [List.getElem?_set_ne (Ne.symm hj)] at ej
      have z := R.sl j s ej
      cases s with
      | un => exact z
      | sh d' => exact z
      | ow d' => obtain ⟨c, z1, z2, z3, z4⟩ := z; exact ⟨c, z1, z2, z3.mono (GLe.refl G) (other j _ c hj ej rfl z1), z4⟩
      | io d' => obtain ⟨c, z1, z2, z3, z4⟩ := z; exact ⟨c, z1, z2, z3.mono (GLe.refl G) (other j _ c hj ej rfl z1), z4⟩
  · have mi : ∀ (j : Nat) (s : Sl), (S.set i (.io d))[j]? = some s → s.mine = true → ∃ s', S[j]? = some s' ∧ s'.mine = true := fun j s ej mj => by
      by_cases hj : j = i
      · subst hj; exact ⟨_, hS, rfl⟩
      · rw [List.getElem?_set_ne (Ne.symm hj)] at ej; exact ⟨s, ej, mj⟩
    obtain ⟨s', ej', mj'⟩ := mi j s ej mj
    obtain ⟨t', ek', mk'⟩ := mi k t ek mk
    exact R.sep j k s' t' b hjk ej' ek' mj' mk' qj qk
end
end LD
/-! the data layer, part b: judgements; names, constants, operators, arguments, tests -/
namespace LD
open PySem PySem.Spec PyProof.Rows L2

abbrev E := Sls → Ou Rv
abbrev Es := Sls → Ou (List Rv)
abbrev T := Sls → Ou Bool
/-- a statement's outcome -/
inductive Out where
  | nx (S : Sls) | rt (r : Rv) (S : Sls) | bk (S : Sls) | ct (S : Sls) | ex (e : Ex) (S : Sls) | bad
  deriving Inhabited
abbrev B := Sls → Out
def mo (X : Cx) (C : Addr → Option D) : Mo := ⟨X.prog, X.w, X.K, X.mg, C⟩
/-- an exception's class and own dict -/
def ExIs (M : Mo) (G : Gh) (H : Hp) (e : Ex) (cls : Value) (dd : Option Addr) : Prop :=
  ((∃ C, cls = .ref C ∧ M.mg e.c = some (.ref C)) ∨ ∃ n : String, cls = .type n ∧ e.c = Str.ofString n ∧ M.mg e.c = none) ∧
  ((e.fs = [] ∧ dd = none) ∨ ∃ x fv, dd = some x ∧ H x = some (.xd fv) ∧ Paired (fun (p : Str × V) (q : Str × D) => p.1 = q.1 ∧ RV M G p.2 q.2) fv e.fs)

def Po {α β : Type} (M : Mo) (W : WX) (σ : L2.St) (N : En) (rel : Gh → Hp → Sls → β → α → Prop) (G : Gh) (o : Ou α) (Q : β → Hp → Prop) : Prop :=
  match o with
  | .ok a S' => ∀ v G' H', SR M N G' S' σ H' → GLe G G' → rel G' H' S' v a → Q v H'
  | .ex e S' => ∀ cls dd G' H', SR M N G' S' σ H' → GLe G G' → ExIs M G' H' e cls dd → W cls dd σ H'
  | .bad => False
/-- what is held: it stays -/
def HR (M : Mo) (G : Gh) (σ : L2.St) (v : V) : Rv → Prop
  | .sh d => RV M G v d
  | .bo i => σ[i]? = some (some v)
  | .ow _ => False
abbrev relE (M : Mo) (N : En) (σ : L2.St) : Gh → Hp → Sls → V → Rv → Prop := fun G H S v r => RR M N G H S σ v r
abbrev relA (M : Mo) (σ : L2.St) : Gh → Hp → Sls → List V → List Rv → Prop := fun G _ _ vs rs => Paired (HR M G σ) vs rs
abbrev relT : Gh → Hp → Sls → Bool → Bool → Prop := fun _ _ _ b c => b = c

section
variable {M : Mo} {W : WX} {σ : L2.St} {N : En} {G G1 : Gh} {H : Hp} {S : Sls}
theorem Po.up {α β : Type} {rel : Gh → Hp → Sls → β → α → Prop} {o : Ou α} {Q : β → Hp → Prop} (h : Po M W σ N rel G o Q) (g : GLe G G1) : Po M W σ N rel G1 o Q := by
  cases o with
  | ok a S' => exact fun v G' H' R g' r => h v G' H' R (g.trans g') r
  | ex e S' => exact fun c d G' H' R g' r => h c d G' H' R (g.trans g') r
  | bad => exact h
theorem Po.bind {α α' β β' : Type} {rel : Gh → Hp → Sls → β → α → Prop} {rel' : Gh → Hp → Sls → β' → α' → Prop} {x : Ou α} {k : α → Sls → Ou α'} {Q : β' → Hp → Prop} {Q1 : β → Hp → Prop}
    (h : Po M W σ N rel' G (x.bind k) Q) (hk : ∀ a S1 v G1 H1, SR M N G1 S1 σ H1 → GLe G G1 → rel G1 H1 S1 v a → Po M W σ N rel' G1 (k a S1) Q → Q1 v H1) : Po M W σ N rel G x Q1 := by
  cases x with
  | ok a S1 => exact fun v G1 H1 R g r => hk a S1 v G1 H1 R g r (Po.up h g)
  | ex e S' => exact h
  | bad => exact h.elim
theorem HR.mono {v : V} {r : Rv} (h : HR M G σ v r) (g : GLe G G1) : HR M G1 σ v r := by
  cases r with
  | sh d => exact RV.mono h g
  | bo i => exact h
  | ow d => exact h
theorem RR.held {v : V} {r : Rv} (h : RR M N G H S σ v r.hold) : HR M G σ v r.hold := by cases r <;> exact h
theorem HR.rr {v : V} {r : Rv} (h : HR M G σ v r) : RR M N G H S σ v r := by
  cases r with
  | sh d => exact h
  | bo i => exact h
  | ow d => exact h.elim
/-- hold, then go on -/
theorem Po.bindH {α' β' : Type} {rel' : Gh → Hp → Sls → β' → α' → Prop} {x : Ou Rv} {k : Rv → Sls → Ou α'} {Q : β' → Hp → Prop} {Q1 : V → Hp → Prop}
    (h : Po M W σ N rel' G (x.bind k) Q) (hk : ∀ a S1 v G1 H1, SR M N G1 S1 σ H1 → GLe G G1 → HR M G1 σ v a.hold → Po M W σ N rel' G1 (k a S1) Q → Q1 v H1) : Po M W σ N (relE M N σ) G x Q1 :=
  Po.bind h fun a S1 v G1 H1 R g r p => by
    obtain ⟨G2, R2, g2, r2⟩ := R.hold r
    exact hk a S1 v G2 H1 R2 (g.trans g2) r2.held (Po.up p g2)
end

def tE (M : Mo) (W : WX) (t : E) : TE := fun σ H Q => ∃ N G S, SR M N G S σ H ∧ Po M W σ N (relE M N σ) G (t S) Q
def tA (M : Mo) (W : WX) (t : Es) : TA := fun σ H Q => ∃ N G S, SR M N G S σ H ∧ Po M W σ N (relA M σ) G (t S) Q
def tT (M : Mo) (W : WX) (t : T) : TT := fun σ H Q => ∃ N G S, SR M N G S σ H ∧ Po M W σ N relT G (t S) Q
def PoS (M : Mo) (W : WX) (N : En) (G : Gh) (o : Out) (Ds : Ends) : Prop :=
  match o with
  | .nx S' => ∀ σ' G' H', SR M N G' S' σ' H' → GLe G G' → Ds.nx σ' H'
  | .bk S' => ∀ σ' G' H', SR M N G' S' σ' H' → GLe G G' → Ds.bk σ' H'
  | .ct S' => ∀ σ' G' H', SR M N G' S' σ' H' → GLe G G' → Ds.ct σ' H'
  | .rt r S' => ∀ v σ' G' H', SR M N G' S' σ' H' → GLe G G' → RR M N G' H' S' σ' v r → Ds.rt v H'
  | .ex e S' => ∀ cls dd σ' G' H', SR M N G' S' σ' H' → GLe G G' → ExIs M G' H' e cls dd → W cls dd σ' H'
  | .bad => False
def tB (M : Mo) (W : WX) (t : B) : TS := fun Ds σ H => ∃ N G S, SR M N G S σ H ∧ PoS M W N G (t S) Ds
theorem PoS.up {M : Mo} {W : WX} {N : En} {G G1 : Gh} {o : Out} {Ds : Ends} (h : PoS M W N G o Ds) (g : GLe G G1) : PoS M W N G1 o Ds := by
  cases o with
  | nx S' => exact fun σ' G' H' R g' => h σ' G' H' R (g.trans g')
  | bk S' => exact fun σ' G' H' R g' => h σ' G' H' R (g.trans g')
  | ct S' => exact fun σ' G' H' R g' => h σ' G' H' R (g.trans g')
  | rt r S' => exact fun v σ' G' H' R g' q => h v σ' G' H' R (g.trans g') q
  | ex e S' => exact fun c d σ' G' H' R g' q => h c d σ' G' H' R (g.trans g') q
  | bad => exact h

structure DE (C : Addr → Option D) (X : Cx) (W : WX) (e : Expr) (t : E) : Prop where
  run : PE X e (tE (mo X C) W t)
structure DA (C : Addr → Option D) (X : Cx) (W : WX) (es : List Expr) (t : Es) : Prop where
  run : PA X es (tA (mo X C) W t)
structure DT (C : Addr → Option D) (X : Cx) (W : WX) (e : Expr) (t : T) : Prop where
  run : PT X e (tT (mo X C) W t)
structure DW (C : Addr → Option D) (X : Cx) (W : WX) (e : Expr) (t : T) : Prop where
  run : PW X e (tT (mo X C) W t)
structure DS (C : Addr → Option D) (X : Cx) (W : WX) (s : Stmt) (t : B) : Prop where
  run : PS X s (tB (mo X C) W t)
structure DSs (C : Addr → Option D) (X : Cx) (W : WX) (s : List Stmt) (t : B) : Prop where
  run : PSs X s (tB (mo X C) W t)

section
variable {X : Cx} {e : Expr} {es : List Expr} {st : Stmt} {sts : List Stmt}
theorem PE.imp {t t' : TE} (h : PE X e t) (i : ∀ σ H Q, t' σ H Q → t σ H Q) : PE X e t' := ⟨fun pins s σ H Q I q => h.run pins s σ H Q I (i σ H Q q)⟩
theorem PT.imp {t t' : TT} (h : PT X e t) (i : ∀ σ H Q, t' σ H Q → t σ H Q) : PT X e t' := ⟨fun pins s σ H Q I q => h.run pins s σ H Q I (i σ H Q q)⟩
theorem PW.imp {t t' : TT} (h : PW X e t) (i : ∀ σ H Q, t' σ H Q → t σ H Q) : PW X e t' := ⟨fun wh pins s σ H Q I q => h.run wh pins s σ H Q I (i σ H Q q)⟩
theorem PA.imp {t t' : TA} (h : PA X es t) (i : ∀ σ H Q, t' σ H Q → t σ H Q) : PA X es t' := ⟨fun pos pins s σ H Q I q => h.run pos pins s σ H Q I (i σ H Q q)⟩
theorem PS.imp {t t' : TS} (h : PS X st t) (i : ∀ Ds σ H, t' Ds σ H → t Ds σ H) : PS X st t' := ⟨fun pins s σ H Ds I q => h.run pins s σ H Ds I (i Ds σ H q)⟩
theorem PSs.imp {t t' : TS} (h : PSs X sts t) (i : ∀ Ds σ H, t' Ds σ H → t Ds σ H) : PSs X sts t' := ⟨fun pins s σ H Ds I q => h.run pins s σ H Ds I (i Ds σ H q)⟩
end

/-! ### what a name tells; constants -/
def eName (i : Nat) : E := fun S => match S[i]? with
  | some (.sh d) => .ok (.sh d) S
  | some (.ow _) => .ok (.bo i) S
  | some (.io _) => .ok (.bo i) S
  | _ => .bad
def eC (d : D) : E := fun S => .ok (.sh d) S
section
variable {C : Addr → Option D} {X : Cx} {W : WX} {e a b : Expr} {es : List Expr} {pos : Pos}
theorem de_name (i : Nat) {x : Str} (h : PE X (.Name x pos) (tVar i)) : DE C X W (.Name x pos) (eName i) := ⟨PE.imp h fun σ H Q ⟨N, G, S, R, p⟩ => by
  unfold eName at p
  split at p
  · rename_i d hS
    obtain ⟨v, h1, h2⟩ := R.sl i _ hS
    exact ⟨v, h1, p v G H R (GLe.refl G) h2⟩
  · rename_i d hS
    obtain ⟨a, h1, h2⟩ := R.sl i _ hS
    exact ⟨.ref a, h1, p (.ref a) G H R (GLe.refl G) h1⟩
  · rename_i d hS
    obtain ⟨a, h1, h2⟩ := R.sl i _ hS
    exact ⟨.ref a, h1, p (.ref a) G H R (GLe.refl G) h1⟩
  · exact p.elim⟩
theorem de_c {v : V} {d : D} (h : PE X e (tC v)) (r : ∀ G, RV (mo X C) G v d) : DE C X W e (eC d) := ⟨PE.imp h fun σ H Q ⟨N, G, S, R, p⟩ => p v G H R (GLe.refl G) (r G)⟩
theorem de_int {i : Int} {j : Nat} : DE C X W (.Constant (.int i) j pos) (eC (.int i)) := de_c pe_int fun _ => rfl
theorem de_str {x : Str} {j : Nat} (h : okS x = true := by decide +kernel) : DE C X W (.Constant (.str x) j pos) (eC (.str x)) := de_c pe_str fun _ => ⟨rfl, h⟩
theorem de_bl {x : Bool} {j : Nat} : DE C X W (.Constant (.bool x) j pos) (eC (.bl x)) := de_c pe_bl fun _ => rfl
theorem de_non {j : Nat} : DE C X W (.Constant .none j pos) (eC .non) := de_c pe_non fun _ => rfl

/-! ### operators -/
def ans (S : Sls) : Option Rv → Ou Rv
  | some r => .ok r S
  | none => .bad
def on2 (f : D → D → Option Rv) (S : Sls) (r1 r2 : Rv) : Ou Rv :=
  match peek S r1, peek S r2 with
  | some d, some e => ans S (f d e)
  | _, _ => .bad
def eBin (f : D → D → Option Rv) (t1 t2 : E) : E := fun S => (t1 S).bind fun r1 S1 => (t2 S1).bind fun r2 S2 => on2 f S2 r1 r2
def on1 (f : D → Option Rv) (S : Sls) (r : Rv) : Ou Rv :=
  match peek S r with
  | some d => ans S (f d)
  | _ => .bad
def eUn (f : D → Option Rv) (t : E) : E := fun S => (t S).bind fun r S1 => on1 f S1 r
/-- f is what the operation of reading r does -/
def OpD (C : Addr → Option D) (X : Cx) (r : R2) (f : D → D → Option Rv) : Prop := ∀ (N : En) (G : Gh) (S : Sls) (σ : L2.St) (H : Hp) (v u : V) (d e : D) (res : Rv) (Q : VK),
  SR (mo X C) N G S σ H → VH (mo X C) G H v d → VH (mo X C) G H u e → f d e = some res → (∀ v' G' H', SR (mo X C) N G' S σ H' → GLe G G' → RR (mo X C) N G' H' S σ v' res → Q v' H') → r v u H Q
def UnD (C : Addr → Option D) (X : Cx) (r : V → Hp → VK → Prop) (f : D → Option Rv) : Prop := ∀ (N : En) (G : Gh) (S : Sls) (σ : L2.St) (H : Hp) (v : V) (d : D) (res : Rv) (Q : VK),
  SR (mo X C) N G S σ H → VH (mo X C) G H v d → f d = some res → (∀ v' G' H', SR (mo X C) N G' S σ H' → GLe G G' → RR (mo X C) N G' H' S σ v' res → Q v' H') → r v H Q
/-- an operation on data -/
def rD (C : Addr → Option D) (X : Cx) (f : D → D → Option Rv) : R2 := fun x y H Q => ∃ (N : En) (G : Gh) (S : Sls) (σ : L2.St) (d e : D) (res : Rv), SR (mo X C) N G S σ H ∧ VH (mo X C) G H x d ∧ VH (mo X C) G H y e ∧ f d e = some res ∧
  ∀ v' G' H', SR (mo X C) N G' S σ H' → GLe G G' → RR (mo X C) N G' H' S σ v' res → Q v' H'
def OD (C : Addr → Option D) (X : Cx) (op : Value → Value → Sem Value) (f : D → D → Option Rv) : Prop := OpR X op (rD C X f)
theorem rD_opd (C : Addr → Option D) (X : Cx) (f : D → D → Option Rv) : OpD C X (rD C X f) f := fun N G S σ H v u d e res Q R h1 h2 h3 h4 => ⟨N, G, S, σ, d, e, res, R, h1, h2, h3, h4⟩
theorem od_of {C : Addr → Option D} {X : Cx} {op : Value → Value → Sem Value} {r : R2} {f : D → D → Option Rv} (ho : OpR X op r) (hf : OpD C X r f) : OD C X op f := fun pins s σ H x y v u Q I rx ry ⟨N, G, S, τ, d, e, res, R, h1, h2, h3, h4⟩ =>
  ho pins s σ H x y v u Q I rx ry (hf N G S τ H x y d e res Q R h1 h2 h3 h4)
def orF (f g : D → D → Option Rv) : D → D → Option Rv := fun d e => match f d e with
  | some r => some r
  | none => g d e
theorem OD.or {C : Addr → Option D} {X : Cx} {op : Value → Value → Sem Value} {f g : D → D → Option Rv} (h1 : OD C X op f) (h2 : OD C X op g) : OD C X op (orF f g) := fun pins s σ H x y v u Q I rx ry ⟨N, G, S, τ, d, e, res, R, q1, q2, q3, q4⟩ => by
  unfold orF at q3
  cases hf : f d e with
  | some r => rw [hf] at q3; cases q3; exact h1 pins s σ H x y v u Q I rx ry ⟨N, G, S, τ, d, e, _, R, q1, q2, hf, q4⟩
  | none => rw [hf] at q3; exact h2 pins s σ H x y v u Q I rx ry ⟨N, G, S, τ, d, e, res, R, q1, q2, q3, q4⟩
def uD (C : Addr → Option D) (X : Cx) (f : D → Option Rv) : V → Hp → VK → Prop := fun x H Q => ∃ (N : En) (G : Gh) (S : Sls) (σ : L2.St) (d : D) (res : Rv), SR (mo X C) N G S σ H ∧ VH (mo X C) G H x d ∧ f d = some res ∧
  ∀ v' G' H', SR (mo X C) N G' S σ H' → GLe G G' → RR (mo X C) N G' H' S σ v' res → Q v' H'
theorem uD_und (C : Addr → Option D) (X : Cx) (f : D → Option Rv) : UnD C X (uD C X f) f := fun N G S σ H v d res Q R h1 h3 h4 => ⟨N, G, S, σ, d, res, R, h1, h3, h4⟩
theorem on2_run {M : Mo} {N : En} {G : Gh} {S : Sls} {σ : L2.St} {H : Hp} {v u : V} {r1 r2 : Rv} {f : D → D → Option Rv} {Q : VK} {P : Prop} (R : SR M N G S σ H) (h1 : RR M N G H S σ v r1) (h2 : RR M N G H S σ u r2)
    (p : Po M W σ N (relE M N σ) G (on2 f S r1 r2) Q) (k : ∀ d e res, VH M G H v d → VH M G H u e → f d e = some res → (∀ v' G' H', SR M N G' S σ H' → GLe G G' → RR M N G' H' S σ v' res → Q v' H') → P) : P := by
  unfold on2 at p
  split at p
  · rename_i d e q1 q2
    cases hf : f d e with
    | none => rw [hf] at p; exact p.elim
    | some res =>
      rw [hf] at p
      exact k d e res (R.peek h1 q1) (R.peek h2 q2) hf p
  · exact p.elim
theorem on1_run {M : Mo} {N : En} {G : Gh} {S : Sls} {σ : L2.St} {H : Hp} {v : V} {r : Rv} {f : D → Option Rv} {Q : VK} {P : Prop} (R : SR M N G S σ H) (h1 : RR M N G H S σ v r)
    (p : Po M W σ N (relE M N σ) G (on1 f S r) Q) (k : ∀ d res, VH M G H v d → f d = some res → (∀ v' G' H', SR M N G' S σ H' → GLe G G' → RR M N G' H' S σ v' res → Q v' H') → P) : P := by
  unfold on1 at p
  split at p
  · rename_i d q1
    cases hf : f d with
    | none => rw [hf] at p; exact p.elim
    | some res =>
      rw [hf] at p
      exact k d res (R.peek h1 q1) hf p
  · exact p.elim
theorem on2_hold {f : D → D → Option Rv} {S : Sls} {r1 r2 : Rv} : on2 f S r1.hold r2 = on2 f S r1 r2 := by unfold on2; rw [peek_hold]
theorem bin_read {r : R2} {f : D → D → Option Rv} {t1 t2 : E} (hf : OpD C X r f) {σ : L2.St} {H : Hp} {Q : VK} (h : tE (mo X C) W (eBin f t1 t2) σ H Q) : tOp r (tE (mo X C) W t1) (tE (mo X C) W t2) σ H Q := by
  obtain ⟨N, G, S, R, p⟩ := h
  refine ⟨N, G, S, R, Po.bindH p fun r1 S1 v1 G1 H1 R1 g1 h1 p1 => ⟨N, G1, S1, R1, Po.bind p1 fun r2 S2 v2 G2 H2 R2 g2 h2 p2 => ?_⟩⟩
  rw [← on2_hold] at p2
  exact on2_run R2 ((h1.mono g2).rr) h2 p2 fun d e res q1 q2 q3 q4 => hf N G2 S2 σ H2 v1 v2 d e res Q R2 q1 q2 q3 q4
theorem de_bin {op : Operator} {f : D → D → Option Rv} {t1 t2 : E} (ho : OD C X (binaryOp op) f) (ha : DE C X W a t1) (hb : DE C X W b t2) : DE C X W (.BinOp a op b pos) (eBin f t1 t2) :=
  ⟨PE.imp (pe_op ho ha.run hb.run) fun _ _ _ => bin_read (rD_opd C X f)⟩
theorem de_cmp {op : CmpOp} {f : D → D → Option Rv} {t1 t2 : E} (ho : OD C X (compareOp op) f) (ha : DE C X W a t1) (hb : DE C X W b t2) (hm : behindInMarks op b = false) : DE C X W (.Compare a [op] [b] pos) (eBin f t1 t2) :=
  ⟨PE.imp (pe_cmpR ho ha.run hb.run hm) fun _ _ _ => bin_read (rD_opd C X f)⟩
theorem de_un {op : UnaryOp} {r : V → Hp → VK → Prop} {f : D → Option Rv} {t : E} (ho : UnR X (unaryOp op) r) (hf : UnD C X r f) (ha : DE C X W a t) : DE C X W (.UnaryOp op a pos) (eUn f t) :=
  ⟨PE.imp (pe_un ho ha.run) fun σ H Q ⟨N, G, S, R, p⟩ => ⟨N, G, S, R, Po.bind p fun r1 S1 v1 G1 H1 R1 g1 h1 p1 => on1_run R1 h1 p1 fun d res q1 q2 q3 => hf N G1 S1 σ H1 v1 d res Q R1 q1 q2 q3⟩⟩

/-! ### tests -/
def asB (S : Sls) (r : Rv) : Ou Bool :=
  match peek S r with
  | some (.bl b) => .ok b S
  | _ => .bad
/-- an expression that gives True or False, as a test -/
def tOf (t : E) : T := fun S => (t S).bind fun r S1 => asB S1 r
theorem vh_bl {M : Mo} {G : Gh} {H : Hp} {v : V} {b : Bool} (h : VH M G H v (.bl b)) : v = .bl b := by
  cases v <;> first | (cases h; rfl) | (exact h.hold.elim) | (exact absurd h.1 (by intro z; cases z)) | (exact h.elim) | (cases h; done)
theorem asB_run {M : Mo} {N : En} {G : Gh} {S : Sls} {σ : L2.St} {H : Hp} {v : V} {r : Rv} {Q : Bool → Hp → Prop} (R : SR M N G S σ H) (h1 : RR M N G H S σ v r) (p : Po M W σ N relT G (asB S r) Q) : ∃ b, v = .bl b ∧ Q b H := by
  unfold asB at p
  split at p
  · rename_i b q
    exact ⟨b, vh_bl (R.peek h1 q), p b G H R (GLe.refl G) rfl⟩
  · exact p.elim
theorem tof_read {t : E} {σ : L2.St} {H : Hp} {Q : Bool → Hp → Prop} {M : Mo} (h : tT M W (tOf t) σ H Q) : tE M W t σ H fun x H1 => ∃ c, x = .bl c ∧ Q c H1 := by
  obtain ⟨N, G, S, R, p⟩ := h
  exact ⟨N, G, S, R, Po.bind p fun r1 S1 v1 G1 H1 R1 g1 h1 p1 => asB_run R1 h1 p1⟩
theorem dt_val {t : E} (h : DE C X W e t) (he : ∀ whole, isTrue e X.env whole = (do let v ← whole; standAt e.pos; holding [v] (truthy v)) := by intro _; rfl) : DT C X W e (tOf t) :=
  ⟨PT.imp (pt_val h.run he) fun _ _ _ => tof_read⟩
theorem dt_cmp {op : CmpOp} {f : D → D → Option Rv} {t1 t2 : E} (ho : OD C X (compareOp op) f) (ha : DE C X W a t1) (hb : DE C X W b t2) (hm : behindInMarks op b = false) : DT C X W (.Compare a [op] [b] pos) (tOf (eBin f t1 t2)) :=
  ⟨PT.imp (pt_cmpR ho ha.run hb.run hm) fun _ _ Q h => bin_read (Q := fun x H1 => ∃ k, x = .bl k ∧ Q k H1) (rD_opd C X f) (tof_read h)⟩
def tNotT (t : T) : T := fun S => (t S).bind fun b S1 => .ok (!b) S1
def tAndT (t u : T) : T := fun S => (t S).bind fun b S1 => if b = true then u S1 else .ok false S1
def tOrT (t u : T) : T := fun S => (t S).bind fun b S1 => if b = true then .ok true S1 else u S1
theorem dt_not {t : T} (h : DT C X W a t) : DT C X W (.UnaryOp .Not a pos) (tNotT t) :=
  ⟨PT.imp (pt_not h.run) fun σ H Q ⟨N, G, S, R, p⟩ => ⟨N, G, S, R, Po.bind p fun b S1 v1 G1 H1 R1 g1 h1 p1 => by
    have e : v1 = b := h1
    subst e
    exact p1 (!v1) G1 H1 R1 (GLe.refl _) rfl⟩⟩
theorem dw_and1 {t : T} (h : DT C X W a t) : DW C X W (.BoolOp .And [a] pos) t := ⟨pw_and1 h.run⟩
theorem dw_or1 {t : T} (h : DT C X W a t) : DW C X W (.BoolOp .Or [a] pos) t := ⟨pw_or1 h.run⟩
theorem dw_and {rest : List Expr} {t u : T} (ha : DT C X W a t) (hb : DW C X W (.BoolOp .And (b :: rest) pos) u) : DW C X W (.BoolOp .And (a :: b :: rest) pos) (tAndT t u) :=
  ⟨PW.imp (pw_and ha.run hb.run) fun σ H Q ⟨N, G, S, R, p⟩ => ⟨N, G, S, R, Po.bind p fun c S1 v1 G1 H1 R1 g1 h1 p1 => by
    have e : v1 = c := h1
    subst e
    cases v1 with
    | true => rw [if_pos rfl] at p1 ⊢; exact ⟨N, G1, S1, R1, p1⟩
    | false => rw [if_neg Bool.false_ne_true] at p1 ⊢; exact p1 false G1 H1 R1 (GLe.refl _) rfl⟩⟩
theorem dw_or {rest : List Expr} {t u : T} (ha : DT C X W a t) (hb : DW C X W (.BoolOp .Or (b :: rest) pos) u) : DW C X W (.BoolOp .Or (a :: b :: rest) pos) (tOrT t u) :=
  ⟨PW.imp (pw_or ha.run hb.run) fun σ H Q ⟨N, G, S, R, p⟩ => ⟨N, G, S, R, Po.bind p fun c S1 v1 G1 H1 R1 g1 h1 p1 => by
    have e : v1 = c := h1
    subst e
    cases v1 with
    | true => rw [if_pos rfl] at p1 ⊢; exact p1 true G1 H1 R1 (GLe.refl _) rfl
    | false => rw [if_neg Bool.false_ne_true] at p1 ⊢; exact ⟨N, G1, S1, R1, p1⟩⟩⟩
theorem DW.dt {t : T} (h : DW C X W e t) : DT C X W e t := ⟨h.run.pt⟩
/-- a if t else b -/
def eIf (t : T) (a b : E) : E := fun S => (t S).bind fun c S1 => if c = true then a S1 else b S1
theorem de_if {c : Expr} {t : T} {t1 t2 : E} (hc : DT C X W c t) (ha : DE C X W a t1) (hb : DE C X W b t2) : DE C X W (.IfExp c a b pos) (eIf t t1 t2) :=
  ⟨PE.imp (pe_ifExp hc.run ha.run hb.run) fun σ H Q ⟨N, G, S, R, p⟩ => ⟨N, G, S, R, Po.bind p fun c S1 v1 G1 H1 R1 g1 h1 p1 => by
    have e : v1 = c := h1
    subst e
    cases v1 with
    | true => rw [if_pos rfl] at p1 ⊢; exact ⟨N, G1, S1, R1, p1⟩
    | false => rw [if_neg Bool.false_ne_true] at p1 ⊢; exact ⟨N, G1, S1, R1, p1⟩⟩⟩

/-! ### arguments -/
def aNil : Es := fun S => .ok [] S
def aCons (t : E) (ts : Es) : Es := fun S => (t S).bind fun r S1 => (ts S1).bind fun rs S2 => .ok (r.hold :: rs) S2
theorem da_nil : DA C X W [] aNil := ⟨PA.imp pa_nil fun σ H Q ⟨N, G, S, R, p⟩ => p [] G H R (GLe.refl G) .nil⟩
theorem da_cons {t : E} {ts : Es} (ha : DE C X W e t) (hr : DA C X W es ts) (hs : starEach (e :: es) X.env = (false, eval e X.env) :: starEach es X.env := by rfl) : DA C X W (e :: es) (aCons t ts) :=
  ⟨PA.imp (pa_cons ha.run hr.run hs) fun σ H Q ⟨N, G, S, R, p⟩ => ⟨N, G, S, R, Po.bindH p fun r S1 v1 G1 H1 R1 g1 h1 p1 => ⟨N, G1, S1, R1, Po.bind p1 fun rs S2 vs G2 H2 R2 g2 h2 p2 =>
    p2 (v1 :: vs) G2 H2 R2 (GLe.refl _) (.cons (h1.mono g2) h2)⟩⟩⟩
def peeks (S : Sls) : List Rv → Option (List D)
  | [] => some []
  | r :: rs => match peek S r, peeks S rs with
    | some x, some xs => some (x :: xs)
    | _, _ => none
/-- a built-in's call -/
def onL (f : List D → Option Rv) (S : Sls) (rs : List Rv) : Ou Rv :=
  match peeks S rs with
  | some ds => ans S (f ds)
  | none => .bad
def eB (f : List D → Option Rv) (ts : Es) : E := fun S => (ts S).bind fun rs S1 => onL f S1 rs
def CallD (C : Addr → Option D) (X : Cx) (r : List V → Hp → VK → Prop) (f : List D → Option Rv) : Prop := ∀ (N : En) (G : Gh) (S : Sls) (σ : L2.St) (H : Hp) (vs : List V) (ds : List D) (res : Rv) (Q : VK),
  SR (mo X C) N G S σ H → Paired (VH (mo X C) G H) vs ds → f ds = some res → (∀ v' G' H', SR (mo X C) N G' S σ H' → GLe G G' → RR (mo X C) N G' H' S σ v' res → Q v' H') → r vs H Q
theorem SR.peeks {M : Mo} {N : En} {G : Gh} {S : Sls} {σ : L2.St} {H : Hp} (R : SR M N G S σ H) : ∀ {vs : List V} {rs : List Rv} {ds : List D}, Paired (HR M G σ) vs rs → peeks S rs = some ds → Paired (VH M G H) vs ds
  | _, _, _, .nil, q => by cases q; exact .nil
  | _, _, _, .cons (b := r) (l₂ := rs) h t, q => by
    unfold LD.peeks at q
    split at q
    · rename_i d ds q1 q2
      cases q
      exact .cons (R.peek (N := N) h.rr q1) (SR.peeks R t q2)
    · cases q
/-- a built-in's call, on data -/
def cD (C : Addr → Option D) (X : Cx) (f : List D → Option Rv) : List V → Hp → VK → Prop := fun vs H Q => ∃ (N : En) (G : Gh) (S : Sls) (σ : L2.St) (ds : List D) (res : Rv), SR (mo X C) N G S σ H ∧ Paired (VH (mo X C) G H) vs ds ∧ f ds = some res ∧
  ∀ v' G' H', SR (mo X C) N G' S σ H' → GLe G G' → RR (mo X C) N G' H' S σ v' res → Q v' H'
def CD (C : Addr → Option D) (X : Cx) (fv : Value) (f : List D → Option Rv) : Prop := CallR X fv (cD C X f)
theorem cD_cd (C : Addr → Option D) (X : Cx) (f : List D → Option Rv) : CallD C X (cD C X f) f := fun N G S σ H vs ds res Q R h1 h3 h4 => ⟨N, G, S, σ, ds, res, R, h1, h3, h4⟩
theorem cd_of {C : Addr → Option D} {X : Cx} {fv : Value} {r : List V → Hp → VK → Prop} {f : List D → Option Rv} (ho : CallR X fv r) (hf : CallD C X r f) : CD C X fv f := fun pins s σ H xs us Q I rx ⟨N, G, S, τ, ds, res, R, h1, h3, h4⟩ =>
  ho pins s σ H xs us Q I rx (hf N G S τ H xs ds res Q R h1 h3 h4)
def orL (f g : List D → Option Rv) : List D → Option Rv := fun ds => match f ds with
  | some r => some r
  | none => g ds
theorem CD.or {C : Addr → Option D} {X : Cx} {fv : Value} {f g : List D → Option Rv} (h1 : CD C X fv f) (h2 : CD C X fv g) : CD C X fv (orL f g) := fun pins s σ H xs us Q I rx ⟨N, G, S, τ, ds, res, R, q1, q3, q4⟩ => by
  unfold orL at q3
  cases hf : f ds with
  | some r => rw [hf] at q3; cases q3; exact h1 pins s σ H xs us Q I rx ⟨N, G, S, τ, ds, _, R, q1, hf, q4⟩
  | none => rw [hf] at q3; exact h2 pins s σ H xs us Q I rx ⟨N, G, S, τ, ds, res, R, q1, q3, q4⟩
theorem b_read {r : List V → Hp → VK → Prop} {f : List D → Option Rv} {ts : Es} (hf : CallD C X r f) {σ : L2.St} {H : Hp} {Q : VK} (h : tE (mo X C) W (eB f ts) σ H Q) : tCB r (tA (mo X C) W ts) σ H Q := by
  obtain ⟨N, G, S, R, p⟩ := h
  refine ⟨N, G, S, R, Po.bind p fun rs S1 vs G1 H1 R1 g1 h1 p1 => ?_⟩
  unfold onL at p1
  split at p1
  · rename_i ds q
    cases hfd : f ds with
    | none => rw [hfd] at p1; exact p1.elim
    | some res =>
      rw [hfd] at p1
      exact hf N G1 S1 σ H1 vs ds res Q R1 (R1.peeks h1 q) hfd p1
  · exact p1.elim
theorem de_callB {x : Str} {i : String} {p : Pos} {f : List D → Option Rv} {ts : Es} (hc : CD C X (.builtin i) f) (hg : Gl X x) (hm : X.mg x = none) (hv : bootBuiltins x = some (.builtin i)) (ha : DA C X W (e :: es) ts) (hn : x ≠ "__name__" := by decide)
    (hdb : (x == ("__debug__" : Str)) = false := by decide) (he : starEach (e :: es) X.env = (false, eval e X.env) :: starEach es X.env := by rfl) (hpl : (backTo pos (starEach es X.env)).any (·.1) = false := by rfl) : DE C X W (.Call (.Name x p) (e :: es) [] pos) (eB f ts) :=
  ⟨PE.imp (pe_callB hc hg hm hv ha.run hn hdb he hpl) fun _ _ _ => b_read (cD_cd C X f)⟩
theorem de_callTy {x : Str} {i : String} {p : Pos} {f : List D → Option Rv} {ts : Es} (hc : CD C X (.type i) f) (hg : Gl X x) (hm : X.mg x = none) (hv : bootBuiltins x = some (.type i)) (ha : DA C X W (e :: es) ts) (hn : x ≠ "__name__" := by decide)
    (hdb : (x == ("__debug__" : Str)) = false := by decide) (he : starEach (e :: es) X.env = (false, eval e X.env) :: starEach es X.env := by rfl) (hpl : (backTo pos (starEach es X.env)).any (·.1) = false := by rfl) : DE C X W (.Call (.Name x p) (e :: es) [] pos) (eB f ts) :=
  ⟨PE.imp (pe_callTy hc hg hm hv ha.run hn hdb he hpl) fun _ _ _ => b_read (cD_cd C X f)⟩
end
end LD
/-! the data layer, part c: statements, targets, loops -/
namespace LD
open PySem PySem.Spec PyProof.Rows L2

/-! ### storing a name -/
/-- the slot i gets the result -/
def stor (S : Sls) (i : Nat) (r : Rv) : Option Sls :=
  match S[i]? with
  | none => none
  | some (.io _) => none
  | some _ => match r with
    | .sh d => some (S.set i (.sh d))
    | .ow d => some (S.set i (.ow d))
    | .bo j => match frz S (.bo j) with
      | some (d, S') => some (S'.set i (.sh d))
      | none => none
section
variable {M : Mo} {N : En} {G G' : Gh} {S S' : Sls} {σ : L2.St} {H : Hp} {a p : Addr} {d : D} {v : V} {r : Rv} {i : Nat}
theorem frz_len (q : frz S r = some (d, S')) : S'.length = S.length := by
  cases r with
  | sh e => cases q; rfl
  | ow e => cases q; rfl
  | bo j =>
    unfold frz at q
    dsimp only at q
    split at q <;> first | (cases q; done) | (cases q; first | rfl | exact List.length_set)
theorem frz_io (q : frz S r = some (d, S')) {j : Nat} {e : D} (h : S'[j]? = some (.io e)) : S[j]? = some (.io e) := by
  cases r with
  | sh e => cases q; exact h
  | ow e => cases q; exact h
  | bo k =>
    unfold frz at q
    dsimp only at q
    split at q
    · cases q; exact h
    · rename_i e' hS
      cases q
      by_cases hj : j = k
      · subst hj
        rw [List.getElem?_set_self (List.getElem?_eq_some_iff.mp hS).1] at h
        cases h
      · rw [List.getElem?_set_ne (Ne.symm hj)] at h; exact h
    · cases q
theorem SR.stor (R : SR M N G S σ H) (h : RR M N G H S σ v r) (q : stor S i r = some S') : ∃ G', SR M N G' S' (σ.set i (some v)) H ∧ GLe G G' := by
  unfold LD.stor at q
  split at q <;> first | (cases q; done) | skip
  rename_i s hio hS
  have hi : i < S.length := (List.getElem?_eq_some_iff.mp hS).1
  have hσ : i < σ.length := by rw [← R.len]; exact hi
  have nio : ∀ d, S[i]? ≠ some (.io d) := fun d z => by rw [hS] at z; cases z; exact hio d rfl
  cases r with
  | sh e =>
    cases q
    exact ⟨G, R.store hi nio ⟨v, List.getElem?_set_self hσ, h⟩ (by intro z; cases z), GLe.refl G⟩
  | ow e =>
    cases q
    obtain ⟨a, rfl, q1, q2, q3, q4⟩ := h
    refine ⟨G, R.store hi nio ⟨a, List.getElem?_set_self hσ, q1, q3, q2⟩ (fun _ j t b e1 e2 e3 hj => ?_), GLe.refl G⟩
    cases e1
    exact q4 j t e2 e3
  | bo j =>
    dsimp only at q
    split at q <;> first | (cases q; done) | skip
    rename_i e S1 hf
    cases q
    obtain ⟨G1, R1, g1, r1⟩ := R.frz h hf
    refine ⟨G1, R1.store (by rw [frz_len hf]; exact hi) (fun d z => nio d (frz_io hf z)) ⟨v, List.getElem?_set_self hσ, r1⟩ (by intro z; cases z), g1⟩
end

/-! ### blocks -/
def sNx : B := fun S => .nx S
def sSeq (t u : B) : B := fun S => match t S with
  | .nx S1 => u S1
  | o => o
def sBk : B := fun S => .bk S
def sCt : B := fun S => .ct S
def outOf {α : Type} (x : Ou α) (k : α → Sls → Out) : Out := match x with
  | .ok a S => k a S
  | .ex e S => .ex e S
  | .bad => .bad
@[simp] theorem outOf_ok {α : Type} (a : α) (S : Sls) (k : α → Sls → Out) : outOf (.ok a S) k = k a S := rfl
@[simp] theorem outOf_ex {α : Type} (e : Ex) (S : Sls) (k : α → Sls → Out) : outOf (.ex e S : Ou α) k = .ex e S := rfl
@[simp] theorem outOf_bad {α : Type} (k : α → Sls → Out) : outOf (.bad : Ou α) k = .bad := rfl
def sDrop (t : E) : B := fun S => outOf (t S) fun _ S1 => .nx S1
def sRet (t : E) : B := fun S => outOf (t S) fun r S1 => .rt r S1
def sRetN : B := fun S => .rt (.sh .non) S
def sIf (c : T) (t u : B) : B := fun S => outOf (c S) fun b S1 => if b = true then t S1 else u S1
def ofO : Option Sls → Out
  | some S => .nx S
  | none => .bad
def sSet (i : Nat) (t : E) : B := fun S => outOf (t S) fun r S1 => ofO (stor S1 i r)
/-- never come to -/
def sNever : B := fun _ => .bad

theorem Po.out {α β : Type} {M : Mo} {W : WX} {σ : L2.St} {N : En} {rel : Gh → Hp → Sls → β → α → Prop} {G : Gh} {x : Ou α} {k : α → Sls → Out} {Ds : Ends} {Q1 : β → Hp → Prop}
    (h : PoS M W N G (outOf x k) Ds) (hk : ∀ a S1 v G1 H1, SR M N G1 S1 σ H1 → GLe G G1 → rel G1 H1 S1 v a → PoS M W N G1 (k a S1) Ds → Q1 v H1) : Po M W σ N rel G x Q1 := by
  cases x with
  | ok a S1 => exact fun v G1 H1 R g r => hk a S1 v G1 H1 R g r (PoS.up h g)
  | ex e S' => exact fun c d G' H' R g q => h c d σ G' H' R g q
  | bad => exact h.elim

section
variable {C : Addr → Option D} {X : Cx} {W : WX} {e a b : Expr} {es : List Expr} {st : Stmt} {sts : List Stmt} {pos : Pos} {t u : B} {te : E}
theorem dss_nil : DSs C X W [] sNx := ⟨PSs.imp pss_nil fun Ds σ H ⟨N, G, S, R, p⟩ => p σ G H R (GLe.refl G)⟩
theorem seq_read {M : Mo} {Ds : Ends} {σ : L2.St} {H : Hp} (h : tB M W (sSeq t u) Ds σ H) : tSeq (tB M W t) (tB M W u) Ds σ H := by
  obtain ⟨N, G, S, R, p⟩ := h
  refine ⟨N, G, S, R, ?_⟩
  unfold sSeq at p
  cases q : t S with
  | nx S1 => rw [q] at p; exact fun σ' G' H' R' g => ⟨N, G', S1, R', PoS.up p g⟩
  | rt r S1 => rw [q] at p; exact p
  | bk S1 => rw [q] at p; exact p
  | ct S1 => rw [q] at p; exact p
  | ex e S1 => rw [q] at p; exact p
  | bad => rw [q] at p; exact p
theorem dss_cons (h1 : DS C X W st t) (h2 : DSs C X W sts u) : DSs C X W (st :: sts) (sSeq t u) := ⟨PSs.imp (pss_cons h1.run h2.run) fun _ _ _ => seq_read⟩
theorem dss_one (h1 : DS C X W st t) : DSs C X W [st] t := ⟨pss_one h1.run⟩
theorem ds_pass : DS C X W (.Pass pos) sNx := ⟨PS.imp ps_pass fun Ds σ H ⟨N, G, S, R, p⟩ => p σ G H R (GLe.refl G)⟩
theorem ds_break : DS C X W (.Break pos) sBk := ⟨PS.imp ps_break fun Ds σ H ⟨N, G, S, R, p⟩ => p σ G H R (GLe.refl G)⟩
theorem ds_continue : DS C X W (.Continue pos) sCt := ⟨PS.imp ps_continue fun Ds σ H ⟨N, G, S, R, p⟩ => p σ G H R (GLe.refl G)⟩
theorem ds_expr (he : DE C X W e te) (hs : swapsWith e none pos.line X.env = pure false := by rfl) : DS C X W (.Expr e pos) (sDrop te) :=
  ⟨PS.imp (ps_expr he.run hs) fun Ds σ H ⟨N, G, S, R, p⟩ => ⟨N, G, S, R, Po.out p fun r S1 v G1 H1 R1 g1 h1 p1 => p1 σ G1 H1 R1 (GLe.refl _)⟩⟩
theorem ds_ret (he : DE C X W e te) : DS C X W (.Return (some e) pos) (sRet te) :=
  ⟨PS.imp (ps_ret he.run) fun Ds σ H ⟨N, G, S, R, p⟩ => ⟨N, G, S, R, Po.out p fun r S1 v G1 H1 R1 g1 h1 p1 => p1 v σ G1 H1 R1 (GLe.refl _) h1⟩⟩
theorem ds_retN : DS C X W (.Return none pos) sRetN := ⟨PS.imp ps_retN fun Ds σ H ⟨N, G, S, R, p⟩ => p .non σ G H R (GLe.refl _) rfl⟩
theorem ds_if {c : Expr} {x y : List Stmt} {tc : T} (hc : DT C X W c tc) (ha : DSs C X W x t) (hb : DSs C X W y u) : DS C X W (.If c x y pos) (sIf tc t u) :=
  ⟨PS.imp (ps_if hc.run ha.run hb.run) fun Ds σ H ⟨N, G, S, R, p⟩ => ⟨N, G, S, R, Po.out p fun c S1 v G1 H1 R1 g1 h1 p1 => by
    have e : v = c := h1
    subst e
    cases v with
    | true => rw [if_pos rfl] at p1 ⊢; exact ⟨N, G1, S1, R1, p1⟩
    | false => rw [if_neg Bool.false_ne_true] at p1 ⊢; exact ⟨N, G1, S1, R1, p1⟩⟩⟩
theorem ofO_run {M : Mo} {N : En} {G : Gh} {Ds : Ends} {o : Option Sls} (p : PoS M W N G (ofO o) Ds) : ∃ S, o = some S ∧ PoS M W N G (.nx S) Ds := by
  cases o with
  | some S => exact ⟨S, rfl, p⟩
  | none => exact p.elim
theorem ds_set {i : Nat} {x : Str} {pos' : Pos} (h : PS X (.Assign [.Name x pos'] e pos) (tAsg (tE (mo X C) W te) (gName i))) : DS C X W (.Assign [.Name x pos'] e pos) (sSet i te) :=
  ⟨PS.imp h fun Ds σ H ⟨N, G, S, R, p⟩ => ⟨N, G, S, R, Po.out p fun r S1 v G1 H1 R1 g1 h1 p1 => by
    obtain ⟨S2, q, p2⟩ := ofO_run p1
    obtain ⟨G2, R2, g2⟩ := R1.stor h1 q
    exact p2 _ G2 H1 R2 g2⟩⟩
end

/-! ### targets -/
/-- a target's store: of data that is told for good -/
abbrev Tg := D → Sls → Option Sls
def tG (M : Mo) (t : Tg) : TG := fun v σ H Q => ∃ N G S d S', SR M N G S σ H ∧ RV M G v d ∧ t d S = some S' ∧ ∀ σ' G' H', SR M N G' S' σ' H' → GLe G G' → Q σ' H'
structure DG (C : Addr → Option D) (X : Cx) (tg : Expr) (t : Tg) : Prop where
  run : PG X tg (tG (mo X C) t)
abbrev Tgs := List D → Sls → Option Sls
def tGs (M : Mo) (t : Tgs) : TGs := fun vs σ H Q => ∃ N G S ds S', SR M N G S σ H ∧ RVs M G vs ds ∧ t ds S = some S' ∧ ∀ σ' G' H', SR M N G' S' σ' H' → GLe G G' → Q σ' H'
structure DGs (C : Addr → Option D) (X : Cx) (tg : List Expr) (t : Tgs) : Prop where
  run : PGs X tg (tGs (mo X C) t)
def gN (i : Nat) : Tg := fun d S => stor S i (.sh d)
def gNilD : Tgs := fun ds S => match ds with
  | [] => some S
  | _ => none
def gConsD (t : Tg) (u : Tgs) : Tgs := fun ds S => match ds with
  | [] => none
  | d :: r => (t d S).bind (u r)
/-- (a, b, ..) = a tuple or a list of that length -/
def gT (n : Nat) (t : Tgs) : Tg := fun d S => match d with
  | .tup ds => if ds.length = n then t ds S else none
  | .lst ds => if ds.length = n then t ds S else none
  | _ => none
section
variable {X : Cx} {tg : Expr} {tgs : List Expr}
theorem PG.imp {t t' : TG} (h : PG X tg t) (i : ∀ v σ H Q, t' v σ H Q → t v σ H Q) : PG X tg t' := ⟨fun pins s σ H v u Q I r q => h.run pins s σ H v u Q I r (i v σ H Q q)⟩
theorem PGs.imp {t t' : TGs} (h : PGs X tgs t) (i : ∀ v σ H Q, t' v σ H Q → t v σ H Q) : PGs X tgs t' := ⟨fun pins s σ H v u Q I r q => h.run pins s σ H v u Q I r (i v σ H Q q)⟩
theorem PG.or {t t' : TG} (h : PG X tg t) (h' : PG X tg t') : PG X tg (fun v σ H Q => t v σ H Q ∨ t' v σ H Q) := ⟨fun pins s σ H v u Q I r q => q.elim (h.run pins s σ H v u Q I r) (h'.run pins s σ H v u Q I r)⟩
variable {C : Addr → Option D} {pos : Pos}
theorem dg_name {i : Nat} {x : Str} (h : PG X (.Name x pos) (gName i)) : DG C X (.Name x pos) (gN i) :=
  ⟨PG.imp h fun v σ H Q ⟨N, G, S, d, S', R, r, q, k⟩ => by
    obtain ⟨G1, R1, g1⟩ := R.stor (r := .sh d) r q
    exact k _ G1 H R1 g1⟩
theorem dgs_nil : DGs C X [] gNilD := ⟨PGs.imp pgs_nil fun vs σ H Q ⟨N, G, S, ds, S', R, r, q, k⟩ => by
  cases r with
  | nil => cases q; exact ⟨rfl, k σ G H R (GLe.refl _)⟩
  | cons _ _ => cases q⟩
theorem dgs_cons {t : Tg} {u : Tgs} (h1 : DG C X tg t) (h2 : DGs C X tgs u) (hs : (assignEach (tg :: tgs) X.env).map (·.2) = assign tg X.env :: (assignEach tgs X.env).map (·.2) := by rfl) : DGs C X (tg :: tgs) (gConsD t u) :=
  ⟨PGs.imp (pgs_cons h1.run h2.run hs) fun vs σ H Q ⟨N, G, S, ds, S', R, r, q, k⟩ => by
    cases r with
    | nil => cases q
    | @cons v d vr dr r rr =>
      obtain ⟨S1, q1, q2⟩ := Option.bind_eq_some_iff.mp q
      exact ⟨v, vr, rfl, N, G, S, d, S1, R, r, q1, fun σ1 G1 H1 R1 g1 => ⟨N, G1, S1, dr, S', R1, RVs.mono rr g1, q2, fun σ2 G2 H2 R2 g2 => k σ2 G2 H2 R2 (g1.trans g2)⟩⟩⟩
theorem dg_tup {k : Nat} {t : Tgs} {n : Nat} (hc : X.calm = true) (h : DGs C X tgs t) (hn : (assignEach tgs X.env).length = n := by rfl) (hst : (assignEach tgs X.env).findIdx? (·.1) = none := by rfl) : DG C X (.Tuple tgs k pos) (gT n t) :=
  ⟨PG.imp (PG.or (pg_tup hc h.run hn hst) (pg_lst hc h.run hn hst)) fun v σ H Q ⟨N, G, S, d, S', R, r, q, k⟩ => by
    have hv := r.vh R
    unfold gT at q
    cases d with
    | tup ds =>
      dsimp only at q
      split at q
      · rename_i hl
        obtain ⟨a, rfl⟩ : ∃ a, v = .ref a := by
          cases v <;> first | exact ⟨_, rfl⟩ | (exact absurd hv (by intro z; first | exact z.hold | exact z | (cases z.1; done) | (cases z; done)))
        obtain ⟨vs, h1, h2⟩ := hv.hold
        exact .inl ⟨a, vs, rfl, h1, by rw [Paired.length h2]; exact hl, N, G, S, ds, S', R, h2, q, k⟩
      · cases q
    | lst ds =>
      dsimp only at q
      split at q
      · rename_i hl
        obtain ⟨a, rfl⟩ : ∃ a, v = .ref a := by
          cases v <;> first | exact ⟨_, rfl⟩ | (exact absurd hv (by intro z; first | exact z.hold | exact z | (cases z.1; done) | (cases z; done)))
        obtain ⟨vs, h1, h2⟩ := hv.hold
        exact .inr ⟨a, vs, rfl, h1.sq, by rw [Paired.length h2]; exact hl, N, G, S, ds, S', R, h2, q, k⟩
      · cases q
    | _ => cases q⟩
/-- target = e, any target -/
def sAsg (g : Tg) (te : E) : B := fun S => outOf (te S) fun r S1 => match frz S1 r with
  | some (d, S2) => ofO (g d S2)
  | none => .bad
theorem asg_run {M : Mo} {W : WX} {N : En} {G : Gh} {S : Sls} {σ : L2.St} {H : Hp} {v : V} {r : Rv} {g : Tg} {Ds : Ends} (R : SR M N G S σ H) (h : RR M N G H S σ v r)
    (p : PoS M W N G (match frz S r with
      | some (d, S2) => ofO (g d S2)
      | none => .bad) Ds) : tG M g v σ H Ds.nx := by
  cases hf : frz S r with
  | none => rw [hf] at p; exact p.elim
  | some ds =>
    obtain ⟨d, S2⟩ := ds
    rw [hf] at p
    obtain ⟨S3, q, p2⟩ := ofO_run p
    obtain ⟨G1, R1, g1, r1⟩ := R.frz h hf
    exact ⟨N, G1, S2, d, S3, R1, r1, q, fun σ' G' H' R' g' => p2 σ' G' H' R' (g1.trans g')⟩
theorem ds_asg {W : WX} {e : Expr} {te : E} {g : Tg} (he : DE C X W e te) (hg : DG C X tg g) (hs : swapsWithSole [tg] e pos.line X.env = pure false := by rfl) (hw : swappedStores [tg] e X.env = pure none := by rfl)
    (h1 : (assignEach [tg] X.env).map (·.2) = [assign tg X.env] := by rfl) : DS C X W (.Assign [tg] e pos) (sAsg g te) :=
  ⟨PS.imp (ps_asg he.run hg.run hs hw h1) fun Ds σ H ⟨N, G, S, R, p⟩ => ⟨N, G, S, R, Po.out p fun r S1 v G1 H1 R1 g1 h1 p1 => asg_run R1 h1 p1⟩⟩
/-- name op= e -/
def sAug (i : Nat) (f : D → D → Option Rv) (te : E) : B := fun S => match peek S (.bo i) with
  | none => .bad
  | some _ => outOf (te S) fun r S1 => outOf (on2 f S1 (.bo i) r) fun r2 S2 => ofO (stor S2 i r2)
theorem peek_bo {M : Mo} {N : En} {G : Gh} {S : Sls} {σ : L2.St} {H : Hp} {i : Nat} {d : D} (R : SR M N G S σ H) (q : peek S (.bo i) = some d) : ∃ v, σ[i]? = some (some v) := by
  unfold peek at q
  dsimp only at q
  split at q <;> first | (cases q; done) | skip
  all_goals
    rename_i e hS
    obtain ⟨w, h1, _⟩ := R.sl i _ hS
    exact ⟨_, h1⟩
theorem ds_aug {W : WX} {i : Nat} {x : Str} {e : Expr} {te : E} {op : Operator} {ti : TIp} {f : D → D → Option Rv} {pos' : Pos} (h : PS X (.AugAssign (.Name x pos') op e pos) (tAug i (tE (mo X C) W te) ti)) (hf : OpD C X ti f) :
    DS C X W (.AugAssign (.Name x pos') op e pos) (sAug i f te) :=
  ⟨PS.imp h fun Ds σ H ⟨N, G, S, R, p⟩ => by
    unfold sAug at p
    cases q : peek S (.bo i) with
    | none => rw [q] at p; exact p.elim
    | some d =>
      rw [q] at p
      obtain ⟨v, hv⟩ := peek_bo R q
      refine ⟨v, hv, N, G, S, R, Po.out p fun r S1 u G1 H1 R1 g1 h1 p1 => ?_⟩
      have p2 := Po.out (σ := σ) (rel := relE (mo X C) N σ) (Q1 := fun z H2 => Ds.nx (σ.set i (some z)) H2) p1 fun r2 S2 z G2 H2 R2 g2 h2 p2 => by
        obtain ⟨S3, q3, p3⟩ := ofO_run p2
        obtain ⟨G3, R3, g3⟩ := R2.stor h2 q3
        exact p3 _ G3 H2 R3 g3
      exact on2_run R1 (show RR (mo X C) N G1 H1 S1 σ v (.bo i) from hv) h1 p2 fun d e res q1 q2 q3 q4 => hf N G1 S1 σ H1 v u d e res _ R1 q1 q2 q3 q4⟩
end
end LD
/-! the data layer, part d: while, for -/
namespace LD
open PySem PySem.Spec PyProof.Rows L2

/-! ### while -/
/-- behind a turn -/
def again (o : Out) (k : B) : Out := match o with
  | .nx S => k S
  | .ct S => k S
  | .bk S => .nx S
  | .rt r S => .rt r S
  | .ex e S => .ex e S
  | .bad => .bad
@[simp] theorem again_nx (S : Sls) (k : B) : again (.nx S) k = k S := rfl
@[simp] theorem again_ct (S : Sls) (k : B) : again (.ct S) k = k S := rfl
@[simp] theorem again_bk (S : Sls) (k : B) : again (.bk S) k = .nx S := rfl
@[simp] theorem again_rt (r : Rv) (S : Sls) (k : B) : again (.rt r S) k = .rt r S := rfl
@[simp] theorem again_ex (e : Ex) (S : Sls) (k : B) : again (.ex e S) k = .ex e S := rfl
@[simp] theorem again_bad (k : B) : again .bad k = .bad := rfl
def whStep (c : T) (b k : B) : B := fun S => outOf (c S) fun q S1 => if q = true then again (b S1) k else .nx S1
def whN (c : T) (b : B) : Nat → B
  | 0 => fun _ => .bad
  | n + 1 => whStep c b (whN c b n)
open Classical in
noncomputable def sWhile (c : T) (b : B) : B := fun S => if h : ∃ n, whN c b n S ≠ .bad then whN c b (choose h) S else .bad
theorem again_mono {o : Out} {k k' : B} (h : ∀ S, k S ≠ .bad → k' S = k S) (n : again o k ≠ .bad) : again o k' = again o k := by
  cases o with
  | nx S => exact h S n
  | ct S => exact h S n
  | _ => rfl
theorem whStep_mono {c : T} {b k k' : B} {S : Sls} (h : ∀ S, k S ≠ .bad → k' S = k S) (n : whStep c b k S ≠ .bad) : whStep c b k' S = whStep c b k S := by
  unfold whStep at n ⊢
  cases q : c S with
  | bad => rfl
  | ex e S1 => rfl
  | ok v S1 =>
    rw [q, outOf_ok] at n
    rw [outOf_ok, outOf_ok]
    cases v with
    | false => rfl
    | true => rw [if_pos rfl] at n; rw [if_pos rfl, if_pos rfl]; exact again_mono h n
theorem whN_succ (c : T) (b : B) : ∀ (n : Nat) (S : Sls), whN c b n S ≠ .bad → whN c b (n + 1) S = whN c b n S
  | 0, S, h => absurd rfl h
  | n + 1, S, h => whStep_mono (whN_succ c b n) h
theorem whN_le {c : T} {b : B} {n m : Nat} {S : Sls} (h : whN c b n S ≠ .bad) (l : n ≤ m) : whN c b m S = whN c b n S := by
  induction m with
  | zero => have e : n = 0 := by omega
            subst e; rfl
  | succ m ih =>
    by_cases e : n = m + 1
    · subst e; rfl
    · have z := ih (by omega)
      rw [whN_succ c b m S (by rw [z]; exact h), z]
theorem sWhile_of {c : T} {b : B} {n : Nat} {S : Sls} {o : Out} (h : whN c b n S = o) (hb : o ≠ .bad) : sWhile c b S = o := by
  have hn : whN c b n S ≠ .bad := by rw [h]; exact hb
  have ex : ∃ n, whN c b n S ≠ .bad := ⟨n, hn⟩
  unfold sWhile
  rw [dif_pos ex]
  have hc := Classical.choose_spec ex
  rw [← h]
  rcases Nat.le_total n (Classical.choose ex) with l | l
  · exact whN_le hn l
  · exact (whN_le hc l).symm
theorem sWhile_ex {c : T} {b : B} {S : Sls} (h : sWhile c b S ≠ .bad) : ∃ n, whN c b n S = sWhile c b S := by
  unfold sWhile at h ⊢
  split at h
  · rename_i ex; exact ⟨_, by rw [dif_pos ex]⟩
  · exact absurd rfl h
theorem sWhile_ge (c : T) (b : B) (S : Sls) (h : whStep c b (sWhile c b) S ≠ .bad) : sWhile c b S = whStep c b (sWhile c b) S := by
  have key : ∀ S2, sWhile c b S2 ≠ .bad → ∃ n, whN c b n S2 = sWhile c b S2 := fun S2 => sWhile_ex
  cases q : c S with
  | bad => unfold whStep at h; rw [q] at h; exact absurd rfl h
  | ex e S1 => exact sWhile_of (n := 1) (by show whStep c b _ S = _; unfold whStep; rw [q]; rfl) h
  | ok v S1 =>
    cases v with
    | false => exact sWhile_of (n := 1) (by show whStep c b _ S = _; unfold whStep; rw [q]; rfl) h
    | true =>
      have e0 : ∀ k, whStep c b k S = again (b S1) k := fun k => by unfold whStep; rw [q, outOf_ok, if_pos rfl]
      rw [e0] at h ⊢
      cases q2 : b S1 with
      | nx S2 =>
        rw [q2] at h
        obtain ⟨n, hn⟩ := key S2 h
        exact sWhile_of (n := n + 1) (by show whStep c b _ S = _; rw [e0, q2]; exact hn) h
      | ct S2 =>
        rw [q2] at h
        obtain ⟨n, hn⟩ := key S2 h
        exact sWhile_of (n := n + 1) (by show whStep c b _ S = _; rw [e0, q2]; exact hn) h
      | bad => rw [q2] at h; exact absurd rfl h
      | _ => rw [q2] at h; exact sWhile_of (n := 1) (by show whStep c b _ S = _; rw [e0, q2]; rfl) h
theorem sWhile_eq (c : T) (b : B) (S : Sls) : sWhile c b S = whStep c b (sWhile c b) S := by
  by_cases h : whStep c b (sWhile c b) S = .bad
  · rw [h]
    by_cases hs : sWhile c b S = .bad
    · exact hs
    · exfalso
      obtain ⟨n, hn⟩ := sWhile_ex hs
      have hs' : whN c b n S ≠ .bad := by rw [hn]; exact hs
      cases n with
      | zero => exact hs' rfl
      | succ n =>
        have z := whStep_mono (c := c) (b := b) (S := S) (k := whN c b n) (k' := sWhile c b) (fun S2 h2 => sWhile_of rfl h2) hs'
        rw [h] at z
        exact hs' z.symm
  · exact sWhile_ge c b S h

section
variable {C : Addr → Option D} {X : Cx} {W : WX} {pos : Pos}
theorem ds_while {c : Expr} {body : List Stmt} {tc : T} {tb : B} (hp : PassesOwn (model X.prog X.w) X.A X.env X.xe) (hc : DT C X W c tc) (hb : DSs C X W body tb) : DS C X W (.While c body [] pos) (sWhile tc tb) :=
  ⟨PS.imp (ps_while hp hc.run hb.run) fun Ds σ H ⟨N, G, S, R, p⟩ => by
    have hne : sWhile tc tb S ≠ .bad := by intro z; rw [z] at p; exact p
    obtain ⟨n, hn⟩ := sWhile_ex hne
    rw [← hn] at p
    refine ⟨fun m σ H => ∃ G S, SR (mo X C) N G S σ H ∧ PoS (mo X C) W N G (whN tc tb m S) Ds, ⟨n, G, S, R, p⟩, ?_⟩
    rintro m σ1 H1 ⟨G1, S1, R1, p1⟩
    cases m with
    | zero => exact p1.elim
    | succ m =>
      refine ⟨N, G1, S1, R1, Po.out (show PoS (mo X C) W N G1 (outOf (tc S1) fun q S2 => if q = true then again (tb S2) (whN tc tb m) else .nx S2) Ds from p1) fun k S2 v G2 H2 R2 g2 h2 p2 => ?_⟩
      have e : v = k := h2
      subst e
      cases v with
      | false => rw [if_neg Bool.false_ne_true] at p2 ⊢; exact p2 σ1 G2 H2 R2 (GLe.refl _)
      | true =>
        rw [if_pos rfl] at p2 ⊢
        refine ⟨fun σ' H' => ∃ G S, SR (mo X C) N G S σ' H' ∧ PoS (mo X C) W N G (whN tc tb m S) Ds, fun σ' H' h => ⟨m, Nat.lt_succ_self m, h⟩, N, G2, S2, R2, ?_⟩
        cases q : tb S2 with
        | nx S3 => rw [q] at p2; exact fun σ' G' H' R' g' => ⟨G', S3, R', PoS.up p2 g'⟩
        | ct S3 => rw [q] at p2; exact fun σ' G' H' R' g' => ⟨G', S3, R', PoS.up p2 g'⟩
        | bk S3 => rw [q] at p2; exact p2
        | rt r S3 => rw [q] at p2; exact p2
        | ex e S3 => rw [q] at p2; exact p2
        | bad => rw [q] at p2; exact p2.elim⟩
end

/-! ### what is walked -/
abbrev I := Sls → Ou (List D)
/-- the iterator J hands out ds, while what is told stands -/
def Walk (M : Mo) (G0 : Gh) (J : It) (ds : List D) : Prop := ∀ (N : En) (i : Nat) (G : Gh) (S : Sls) (σ : L2.St) (H : Hp), SR M N G S σ H → GLe G0 G →
  (∀ d, ds[i]? = some d → J.go i H ∧ ∀ x H', J.yld i H x H' → ∃ G', SR M N G' S σ H' ∧ GLe G G' ∧ RV M G' x d) ∧ (ds.length ≤ i → J.stop i H)
theorem Walk.up {M : Mo} {G0 G1 : Gh} {J : It} {ds : List D} (h : Walk M G0 J ds) (g : GLe G0 G1) : Walk M G1 J ds := fun N i G S σ H R g' => h N i G S σ H R (g.trans g')
abbrev relI (M : Mo) : Gh → Hp → Sls → It → List D → Prop := fun G _ _ J ds => Walk M G J ds
def tI (M : Mo) (W : WX) (t : I) : TI := fun σ H R => ∃ N G S, SR M N G S σ H ∧ Po M W σ N (relI M) G (t S) R
structure DI (C : Addr → Option D) (X : Cx) (W : WX) (tg iter : Expr) (t : I) : Prop where
  run : PI X tg iter (tI (mo X C) W t)
def forStep (g : Tg) (b : B) (d : D) (k : B) : B := fun S => match g d S with
  | none => .bad
  | some S1 => again (b S1) k
def forL (g : Tg) (b : B) : List D → B
  | [] => sNx
  | d :: ds => forStep g b d (forL g b ds)
theorem forL_nil (g : Tg) (b : B) (S : Sls) : forL g b [] S = .nx S := rfl
theorem forL_cons (g : Tg) (b : B) (d : D) (ds : List D) (S : Sls) : forL g b (d :: ds) S = forStep g b d (forL g b ds) S := rfl
def sFor (t : I) (g : Tg) (b : B) : B := fun S => outOf (t S) fun ds S1 => forL g b ds S1
section
variable {C : Addr → Option D} {X : Cx} {W : WX} {pos : Pos} {tg iter : Expr}
theorem PI.imp {t t' : TI} (h : PI X tg iter t) (i : ∀ σ H R, t' σ H R → t σ H R) : PI X tg iter t' := ⟨fun pins s σ H R I q => h.run pins s σ H R I (i σ H R q)⟩
theorem ds_for {body : List Stmt} {t : I} {g : Tg} {tb : B} (hp : PassesOwn (model X.prog X.w) X.A X.env X.xe) (hc : X.calm = true) (hi : DI C X W tg iter t) (hg : DG C X tg g) (hb : DSs C X W body tb)
    (hs : ∀ x, foldedSetIterable iter X.env x = pure x := by intro _; rfl) : DS C X W (.For tg iter body [] pos) (sFor t g tb) :=
  ⟨PS.imp (ps_for hp hc hi.run hg.run hb.run hs) fun Ds σ H ⟨N, G, S, R, p⟩ => ⟨N, G, S, R, Po.out p fun ds S1 J G1 H1 R1 g1 h1 p1 => by
    refine ⟨fun i m σ H => ∃ G S, SR (mo X C) N G S σ H ∧ GLe G1 G ∧ i ≤ ds.length ∧ m = ds.length - i ∧ PoS (mo X C) W N G (forL g tb (ds.drop i) S) Ds, ⟨ds.length, G1, S1, R1, GLe.refl _, Nat.zero_le _, rfl, p1⟩, ?_⟩
    rintro i m σ2 H2 ⟨G2, S2, R2, g2, hle, rfl, p2⟩
    obtain ⟨w1, w2⟩ := h1 N i G2 S2 σ2 H2 R2 g2
    by_cases hi : i < ds.length
    · obtain ⟨d, hd⟩ : ∃ d, ds[i]? = some d := ⟨ds[i], List.getElem?_eq_getElem hi⟩
      have hdr : ds.drop i = d :: ds.drop (i + 1) := by
        rw [List.drop_eq_getElem_cons hi]
        have e : ds[i] = d := Option.some.inj ((List.getElem?_eq_getElem hi).symm.trans hd)
        rw [e]
      rw [hdr, forL_cons] at p2
      unfold forStep at p2
      obtain ⟨go, yl⟩ := w1 d hd
      refine .inr ⟨go, fun σ' H' => ∃ G S, SR (mo X C) N G S σ' H' ∧ GLe G1 G ∧ PoS (mo X C) W N G (forL g tb (ds.drop (i + 1)) S) Ds,
        fun σ' H' ⟨G', S', R', g', p'⟩ => ⟨ds.length - (i + 1), by omega, G', S', R', g', hi, rfl, p'⟩, fun x H' y => ?_⟩
      obtain ⟨G3, R3, g3, r3⟩ := yl x H' y
      cases q : g d S2 with
      | none => rw [q] at p2; exact p2.elim
      | some S3 =>
        rw [q] at p2
        replace p2 : PoS (mo X C) W N G2 (again (tb S3) (forL g tb (ds.drop (i + 1)))) Ds := p2
        refine ⟨N, G3, S2, d, S3, R3, r3, q, fun σ4 G4 H4 R4 g4 => ⟨N, G4, S3, R4, ?_⟩⟩
        have p3 := PoS.up p2 (g3.trans g4)
        cases q2 : tb S3 with
        | nx S5 => rw [q2] at p3; exact fun σ' G' H' R' g' => ⟨G', S5, R', ((g2.trans g3).trans g4).trans g', PoS.up p3 g'⟩
        | ct S5 => rw [q2] at p3; exact fun σ' G' H' R' g' => ⟨G', S5, R', ((g2.trans g3).trans g4).trans g', PoS.up p3 g'⟩
        | bk S5 => rw [q2] at p3; exact p3
        | rt r S5 => rw [q2] at p3; exact p3
        | ex e S5 => rw [q2] at p3; exact p3
        | bad => rw [q2] at p3; exact p3.elim
    · have e : i = ds.length := by omega
      subst e
      rw [List.drop_length, forL_nil] at p2
      exact .inl ⟨w2 (Nat.le_refl _), p2 σ2 G2 H2 R2 (GLe.refl _)⟩⟩⟩
/-- a list or a tuple, told for good, walked -/
def seqItems : D → Option (List D)
  | .tup ds => some ds
  | .lst ds => some ds
  | _ => none
/-- .. by an expression -/
def iSeq (f : D → Option (List D)) (t : E) : I := fun S => (t S).bind fun r S1 => match frz S1 r with
  | some (d, S2) => match f d with
    | some ds => .ok ds S2
    | none => .bad
  | none => .bad
theorem Paired.at2 {α β : Type} {F : α → β → Prop} : ∀ {l₁ : List α} {l₂ : List β} {i : Nat} {x : α} {y : β}, Paired F l₁ l₂ → l₁[i]? = some x → l₂[i]? = some y → F x y
  | _, _, _, _, _, .nil, h, _ => by simp at h
  | _, _, 0, _, _, .cons r _, h, h2 => by simp at h h2; subst h h2; exact r
  | _, _, i + 1, _, _, .cons _ t, h, h2 => Paired.at2 (i := i) t (by simpa using h) (by simpa using h2)
end
end LD
/-! the data layer, part e: defs and calls; raise, try -/
namespace LD
open PySem PySem.Spec PyProof.Rows L2

/-- a call's outcome: the answer (shared, or a new object), the arguments behind it -/
inductive FOut where
  | ret (r : Sl) (A : Sls) | ex (e : Ex) (A : Sls) | bad
  deriving Inhabited
abbrev F := Sls → FOut
/-- the arguments behind the body: what was lent is as the body left it -/
def backA : Sls → Sls → Option Sls
  | [], _ => some []
  | .io _ :: as, .io d :: ss => (backA as ss).map (.io d :: ·)
  | .sh d :: as, _ :: ss => (backA as ss).map (.sh d :: ·)
  | _, _ => none
def retSl (S : Sls) : Rv → Option Sl
  | .sh d => some (.sh d)
  | .ow d => some (.ow d)
  | .bo i => match S[i]? with
    | some (.sh d) => some (.sh d)
    | some (.ow d) => some (.ow d)
    | _ => none
def fRet (args S : Sls) (s : Option Sl) : FOut := match s, backA args S with
  | some s, some A => .ret s A
  | _, _ => .bad
def fin (args : Sls) : Out → FOut
  | .nx S => fRet args S (some (.sh .non))
  | .rt r S => fRet args S (retSl S r)
  | .ex e S => match backA args S with
    | some A => .ex e A
    | none => .bad
  | _ => .bad
/-- a def by its body: n parameters, k names -/
def semF (n k : Nat) (t : B) : F := fun args => if args.length = n then fin args (t (args ++ List.replicate (k - n) .un)) else .bad

def RetR (M : Mo) (N : En) (G : Gh) (H : Hp) (v : V) : Sl → Prop
  | .sh d => RV M G v d
  | .ow d => ∃ a, v = .ref a ∧ G a = none ∧ N.H a = none ∧ HoldO M G H a d
  | _ => False
def FPost (M : Mo) (N : En) (G : Gh) (τ : L2.St) (o : FOut) (Q : VK) (Ex : XK) : Prop := match o with
  | .ret r A => ∀ v G' H', SR M N G' A τ H' → GLe G G' → RetR M N G' H' v r → Q v H'
  | .ex e A => ∀ cls dd G' H', SR M N G' A τ H' → GLe G G' → ExIs M G' H' e cls dd → Ex cls dd H'
  | .bad => False
/-- the promise of a def whose meaning is f -/
def spF (M : Mo) (f : F) : Sp := fun vs H Q Ex => ∃ L G args, SR M ⟨H, L, G⟩ G args (vs.map some) H ∧
  (∀ i a, (i, a) ∈ L → ∃ d, args[i]? = some (.io d) ∧ vs[i]? = some (.ref a)) ∧ FPost M ⟨H, L, G⟩ G (vs.map some) (f args) Q Ex
/-- the wish of a def's body about exceptions -/
abbrev wE (Ex : XK) : WX := fun cls dd _ H => Ex cls dd H

section
variable {M : Mo} {N : En} {G G' : Gh} {H H' : Hp} {σ τ : L2.St} {S A args : Sls}
theorem backA_at : ∀ {args S A : Sls}, backA args S = some A → ∀ (i : Nat) (s : Sl), A[i]? = some s →
    (∃ d e, args[i]? = some (.io d) ∧ S[i]? = some (.io e) ∧ s = .io e) ∨ ∃ d, args[i]? = some (.sh d) ∧ s = .sh d
  | [], _, _, h, i, s, e => by cases h; simp at e
  | .io d :: as, .io e :: ss, A, h, i, s, q => by
    obtain ⟨A', h1, h2⟩ := Option.map_eq_some_iff.mp h
    subst h2
    cases i with
    | zero => simp at q; subst q; exact .inl ⟨d, e, by simp, by simp, rfl⟩
    | succ i => simpa using backA_at h1 i s (by simpa using q)
  | .sh d :: as, x :: ss, A, h, i, s, q => by
    obtain ⟨A', h1, h2⟩ := Option.map_eq_some_iff.mp (show (backA as ss).map (.sh d :: ·) = some A by cases x <;> exact h)
    subst h2
    cases i with
    | zero => simp at q; subst q; exact .inr ⟨d, by simp, rfl⟩
    | succ i => simpa using backA_at h1 i s (by simpa using q)
  | .io d :: as, [], A, h, i, s, q => by cases h
  | .sh d :: as, [], A, h, i, s, q => by cases h
  | .io d :: as, .un :: ss, A, h, i, s, q => by cases h
  | .io d :: as, .sh _ :: ss, A, h, i, s, q => by cases h
  | .io d :: as, .ow _ :: ss, A, h, i, s, q => by cases h
  | .un :: as, [], A, h, i, s, q => by cases h
  | .un :: as, _ :: ss, A, h, i, s, q => by cases h
  | .ow d :: as, [], A, h, i, s, q => by cases h
  | .ow d :: as, _ :: ss, A, h, i, s, q => by cases h
theorem backA_len : ∀ {args S A : Sls}, backA args S = some A → A.length = args.length
  | [], _, _, empty => by cases empty; rfl
  | .io d :: as, .io e :: ss, A, h => by
    obtain ⟨A', h1, h2⟩ := Option.map_eq_some_iff.mp h
    subst h2
    simp [backA_len h1]
  | .sh d :: as, x :: ss, A, h => by
    obtain ⟨A', h1, h2⟩ := Option.map_eq_some_iff.mp (show (backA as ss).map (.sh d :: ·) = some A by cases x <;> exact h)
    subst h2
    simp [backA_len h1]
  | .io d :: as, [], A, h => by cases h
  | .sh d :: as, [], A, h => by cases h
  | .io d :: as, .un :: ss, A, h => by cases h
  | .io d :: as, .sh _ :: ss, A, h => by cases h
  | .io d :: as, .ow _ :: ss, A, h => by cases h
  | .un :: as, [], A, h => by cases h
  | .un :: as, _ :: ss, A, h => by cases h
  | .ow d :: as, [], A, h => by cases h
  | .ow d :: as, _ :: ss, A, h => by cases h
/-- behind the body: the arguments again -/
theorem SR.back (R0 : SR M N G args τ H) (R : SR M N G' S σ H') (g : GLe G G') (hL : ∀ i a, (i, a) ∈ N.L → ∃ d, args[i]? = some (.io d) ∧ τ[i]? = some (some (.ref a))) (h : backA args S = some A) : SR M N G' A τ H' where
  con := R.con
  cc := R.cc
  trk := R.trk
  old := R.old
  keep := R.keep
  lent := R.lent
  len := by rw [backA_len h]; exact R0.len
  sl := fun i s e => by
    rcases backA_at h i s e with ⟨d, e', q1, q2, rfl⟩ | ⟨d, q1, rfl⟩
    · obtain ⟨a, z1, z2, z3, z4⟩ := R.sl i _ q2
      obtain ⟨d', y1, y2⟩ := hL i a z4
      exact ⟨a, y2, z2, z3, z4⟩
    · obtain ⟨v, z1, z2⟩ := R0.sl i _ q1
      exact ⟨v, z1, z2.mono g⟩
  sep := fun i j s t a hij ei ej mi mj qi qj => by
    rcases backA_at h i s ei with ⟨d, e', q1, q2, rfl⟩ | ⟨d, q1, rfl⟩
    · rcases backA_at h j t ej with ⟨d', e'', y1, y2, rfl⟩ | ⟨d', y1, rfl⟩
      · exact R0.sep i j _ _ a hij q1 y1 rfl rfl qi qj
      · cases mj
    · cases mi
theorem SR.ret (R : SR M N G S σ H) {v : V} {r : Rv} {s : Sl} (h : RR M N G H S σ v r) (q : retSl S r = some s) : RetR M N G H v s := by
  cases r with
  | sh d => cases q; exact h
  | ow d => cases q; obtain ⟨a, q1, q2, q3, q4, _⟩ := h; exact ⟨a, q1, q2, q3, q4⟩
  | bo i =>
    have hv : σ[i]? = some (some v) := h
    unfold retSl at q
    dsimp only at q
    split at q <;> first | (cases q; done) | skip
    · rename_i e hS
      cases q
      obtain ⟨w, h1, h2⟩ := R.sl i _ hS
      rw [hv] at h1; cases h1
      exact h2
    · rename_i e hS
      cases q
      obtain ⟨a, h1, h2, h3, h4⟩ := R.sl i _ hS
      rw [hv] at h1; cases h1
      exact ⟨a, rfl, h2, h4, h3⟩
/-- a body's end is a call's end -/
theorem fin_post {M : Mo} {N : En} {G : Gh} {τ : L2.St} {H : Hp} {args : Sls} {o : Out} {Q : VK} {Ex : XK} (R0 : SR M N G args τ H) (hL : ∀ i a, (i, a) ∈ N.L → ∃ d, args[i]? = some (.io d) ∧ τ[i]? = some (some (.ref a)))
    (h : FPost M N G τ (fin args o) Q Ex) : PoS M (wE Ex) N G o { nx := fun _ H' => Q .non H', rt := Q } := by
  cases o with
  | nx S =>
    intro σ' G' H' R g
    replace h : FPost M N G τ (fRet args S (some (.sh .non))) Q Ex := h
    unfold fRet at h
    cases hb : backA args S with
    | none => rw [hb] at h; exact h.elim
    | some A => rw [hb] at h; exact h .non G' H' (R0.back R g hL hb) g rfl
  | rt r S =>
    intro v σ' G' H' R g q
    replace h : FPost M N G τ (fRet args S (retSl S r)) Q Ex := h
    unfold fRet at h
    cases hr : retSl S r with
    | none => rw [hr] at h; exact h.elim
    | some s =>
      rw [hr] at h
      cases hb : backA args S with
      | none => rw [hb] at h; exact h.elim
      | some A => rw [hb] at h; exact h v G' H' (R0.back R g hL hb) g (R.ret q hr)
  | ex e S =>
    intro cls dd σ' G' H' R g q
    replace h : FPost M N G τ (match backA args S with
      | some A => .ex e A
      | none => .bad) Q Ex := h
    cases hb : backA args S with
    | none => rw [hb] at h; exact h.elim
    | some A => rw [hb] at h; exact h cls dd G' H' (R0.back R g hL hb) g q
  | bk S => exact h.elim
  | ct S => exact h.elim
  | bad => exact h.elim
/-- the body's start -/
theorem SR.start (R : SR M N G args τ H) (k : Nat) : SR M N G (args ++ List.replicate k .un) (τ ++ List.replicate k none) H where
  con := R.con
  cc := R.cc
  trk := R.trk
  old := R.old
  keep := R.keep
  lent := R.lent
  len := by rw [List.length_append, List.length_append, R.len, List.length_replicate, List.length_replicate]
  sl := fun i s e => by
    by_cases hi : i < args.length
    · rw [List.getElem?_append_left hi] at e
      have hτ : (τ ++ List.replicate k none)[i]? = τ[i]? := List.getElem?_append_left (by rw [← R.len]; exact hi)
      have z := R.sl i s e
      cases s with
      | un => exact z
      | sh d => obtain ⟨v, z1, z2⟩ := z; exact ⟨v, hτ.trans z1, z2⟩
      | ow d => obtain ⟨v, z1, z2⟩ := z; exact ⟨v, hτ.trans z1, z2⟩
      | io d => obtain ⟨v, z1, z2⟩ := z; exact ⟨v, hτ.trans z1, z2⟩
    · rw [List.getElem?_append_right (by omega)] at e
      have z := List.eq_of_mem_replicate (List.mem_of_getElem? e)
      subst z
      trivial
  sep := fun i j s t a hij ei ej mi mj qi qj => by
    have lt : ∀ (i : Nat) (s : Sl), (args ++ List.replicate k .un)[i]? = some s → s.mine = true → i < args.length := fun i s e m => by
      rcases Nat.lt_or_ge i args.length with h | h
      · exact h
      · rw [List.getElem?_append_right h] at e
        have z := List.eq_of_mem_replicate (List.mem_of_getElem? e)
        subst z
        cases m
    have hi := lt i s ei mi
    have hj := lt j t ej mj
    rw [List.getElem?_append_left hi] at ei
    rw [List.getElem?_append_left hj] at ej
    rw [List.getElem?_append_left (by rw [← R.len]; exact hi)] at qi
    rw [List.getElem?_append_left (by rw [← R.len]; exact hj)] at qj
    exact R.sep i j s t a hij ei ej mi mj qi qj
end

/-! ### the rule for a def: as FnOk, where no text of an object is under way -/
structure FnG (P : Program) (w : World) (K : PySem.W.Frag) (mg : Str → Option Value) (base : Heap) (k : Nat) (f : Addr) (fd : FuncData) (ps : List Str) (sp : Sp) : Prop where
  len : ∀ vs H Q Ex, sp vs H Q Ex → vs.length = ps.length
  go : ∀ (A : Around) (outer : List Env) (s : Shared) (H : Hp) (args : Args) (us : List Value) (vs : List V) (Q : VK) (Ex : XK), Room k A → A.guards = some [] → Env0 P w K mg base A outer s H →
    BindsTo s fd args (ps.zip us) → Vals vs us → sp vs H Q Ex → codeAny (model P w) A (.call (.ref f) args) (CR (L2.CX P w) outer P w H s Q Ex) s
theorem FnG.mono {P : Program} {w : World} {K : PySem.W.Frag} {mg : Str → Option Value} {base : Heap} {j k : Nat} {f : Addr} {fd : FuncData} {ps : List Str} {sp : Sp} (F : FnG P w K mg base j f fd ps sp) (h : j ≤ k) : FnG P w K mg base k f fd ps sp :=
  ⟨F.len, fun A o s H a us vs Q Ex r => F.go A o s H a us vs Q Ex (r.mono h)⟩
section
variable {P : Program} {w : World} {K : PySem.W.Frag} {mg : Str → Option Value} {base : Heap} {C : Addr → Option D}
/-- a def by its body -/
theorem fnG_of {x qual : Str} {f : Addr} {fd : FuncData} {Nn ps : List Str} {k : Nat} {sp : Sp} {par : Arguments} {bd : List Stmt} {sc : Scope} {dvs : List V} {kws : List (Str × V)} (Fu : FunD K x qual par bd sc dvs kws f fd) (Sc : FnScope Nn ps sc)
    (len : ∀ vs H Q Ex, sp vs H Q Ex → vs.length = ps.length)
    (der : ∀ (cdv : Value) (A : Around) (outer : List Env) (s : Shared) (H : Hp) (vs : List V) (Q : VK) (Ex : XK), Room k (A.deeper (envOfC qual sc s.heap.objs.size f cdv)) → A.guards = some [] → sp vs H Q Ex →
      ∃ t, PSs (cxOf (L2.CX P w) P w K mg base Nn qual sc f cdv A outer s H Ex) bd t ∧ t { nx := fun _ H' => Q .non H', rt := Q } (L2.start Nn vs) H) : FnG P w K mg base (k + 1) f fd ps sp := by
  obtain ⟨oc, od, dV, kV, doc, pm, an, cdv, ct, osl, rfl, hf, hcode, _, _⟩ := Fu.ex
  constructor
  · exact len
  intro A outer s H args us vs Q Ex room gd en bind rel want
  have inK : K.In s.heap := en.mod.kin.keeps fun b o e => (en.bs b o e).1
  have params : ∀ y ∈ ps.zip us, sc.names.lookup y.1 = some .local ∨ (sc.names.lookup y.1 = some .cell ∧ ((cellsFrom (s.heap.objs.size + 1) sc.names []).lookup y.1).isSome = true) := by
    rintro ⟨n, v⟩ hy
    exact (Sc.par n (List.of_mem_zip hy).1).imp id fun q => ⟨q, PySem.W.cellsFrom_some _ _ _ (.inl q)⟩
  refine codeAny_call_function room.depth (inK _ _ hf) rfl Sc.co Sc.gen rfl (PySem.W.codeRec_of inK hcode) (bind _ _ _ _ (wpAny_newFunctionEnv_cells Sc.kind params ?_))
  intro env he s1 x1
  subst he
  obtain ⟨t, ht, hq⟩ := der cdv A outer s H vs Q Ex (room.deeper _) gd want
  have I0 : Inv (cxOf (L2.CX P w) P w K mg base Nn qual sc f cdv A outer s H Ex) [] (L2.start Nn vs) H s1 := inv_start Sc room.hd en (len _ _ _ _ want) rel x1
  have nl : s.heap.NoLimit := en.mod.nolimit.keeps fun b o e => (en.bs b o e).1
  refine ⟨nl.keeps x1.toInCall.keep, codeAny_func (wpAny_mono (ht.run [] s1 (L2.start Nn vs) H _ I0 hq) (fun fl s' res => ?_) fun _ _ res => res)⟩
  cases fl with
  | brk => obtain ⟨_, _, _, z⟩ := res; exact z.elim
  | cont => obtain ⟨_, _, _, z⟩ := res; exact z.elim
  | ret u => obtain ⟨v, σ', H', J, rv, q⟩ := res; exact ⟨v, H', J.os, J.bare, J.base, J.hok, rv, q⟩
  | next => obtain ⟨σ', H', J, q⟩ := res; exact ⟨.non, H', J.os, J.bare, J.base, J.hok, rfl, q⟩
/-- THE RULE for a def -/
theorem fn_D {x qual : Str} {f : Addr} {fd : FuncData} {Nn ps : List Str} {k n m : Nat} {t : B} {par : Arguments} {bd : List Stmt} {sc : Scope} {dvs : List V} {kws : List (Str × V)} (Fu : FunD K x qual par bd sc dvs kws f fd) (Sc : FnScope Nn ps sc) (hn : ps.length = n) (hm : Nn.length = m)
    (der : ∀ (cdv : Value) (A : Around) (outer : List Env) (s : Shared) (H : Hp) (Ex : XK), Room k (A.deeper (envOfC qual sc s.heap.objs.size f cdv)) → A.guards = some [] →
      DSs C (cxOf (L2.CX P w) P w K mg base Nn qual sc f cdv A outer s H Ex) (wE Ex) bd t) :
    FnG P w K mg base (k + 1) f fd ps (spF ⟨P, w, K, mg, C⟩ (semF n m t)) := by
  have hlen : ∀ vs H Q Ex, spF ⟨P, w, K, mg, C⟩ (semF n m t) vs H Q Ex → vs.length = n := fun vs H Q Ex h => by
    obtain ⟨L, G, args, R, hL, hp⟩ := h
    have e : args.length = n := by
      by_cases e : args.length = n
      · exact e
      · unfold semF at hp
        rw [if_neg e] at hp
        exact hp.elim
    have z := R.len
    rw [List.length_map] at z
    omega
  refine fnG_of Fu Sc (fun vs H Q Ex h => by rw [hn]; exact hlen vs H Q Ex h) fun cdv A outer s H vs Q Ex hr hg h => ⟨_, (der cdv A outer s H Ex hr hg).run, ?_⟩
  have hv := hlen vs H Q Ex h
  obtain ⟨L, G, args, R, hL, hp⟩ := h
  have ha : args.length = n := by
    have z := R.len
    rw [List.length_map] at z
    omega
  unfold semF at hp
  rw [if_pos ha] at hp
  have hst : L2.start Nn vs = vs.map some ++ List.replicate (m - n) none := by
    unfold L2.start
    rw [hm, hv]
  have hL' : ∀ i a, (i, a) ∈ (⟨H, L, G⟩ : En).L → ∃ d, args[i]? = some (.io d) ∧ (vs.map some)[i]? = some (some (.ref a)) := fun i a h => by
    obtain ⟨d, h1, h2⟩ := hL i a h
    exact ⟨d, h1, by rw [List.getElem?_map, h2]; rfl⟩
  have fp := fin_post R hL' hp
  refine ⟨⟨H, L, G⟩, G, args ++ List.replicate (m - n) Sl.un, ?_, fp⟩
  rw [hst]
  exact R.start (m - n)
end
/-- the call of such a def by its name -/
theorem pe_callG {X : Cx} {k : Nat} {f : Addr} {fd : FuncData} {ps : List Str} {sp : Sp} {Es : L2.St → XK} {x : Str} {p pos : Pos} {e : Expr} {es : List Expr} {t : TA} (F : FnG X.prog X.w X.K X.mg X.base k f fd ps sp) (hr : Room k X.A) (gd : X.A.guards = some []) (hg : Gl X x)
    (hm : X.mg x = some (.ref f)) (hk : PySem.W.keepIn X.K (.ref f) = true) (hb : Binds X.K fd ps []) (hx : ∀ σ, PassesAt (L2.CX X.prog X.w) X σ (Es σ)) (ha : PA X (e :: es) t) (hdb : (x == ("__debug__" : Str)) = false := by decide)
    (he : starEach (e :: es) X.env = (false, eval e X.env) :: starEach es X.env := by rfl) (hpl : (backTo pos (starEach es X.env)).any (·.1) = false := by rfl) : PE X (.Call (.Name x p) (e :: es) [] pos) (tCallS sp Es t) := by
  constructor
  intro pins s σ H Q I h
  refine wpAny_Call_Name_kw (ld_glob I hg hm (PySem.W.callWith_K (h₀ := X.base) I.ok.mod.kin hk (thn (ha.run pos pins s σ H _ I h) ?_) he hpl) hdb)
  rintro us s1 ⟨vs, H1, J, rel, want⟩
  refine ⟨J.kIn, wpAny_call (codeAny_mono (F.go X.A X.stack s1 H1 ⟨us, []⟩ us vs Q (Es σ) hr gd J.env0 ?_ rel want) fun r s' res => ?_)⟩
  · have b := hb s1 us J.kIn (by rw [List.append_nil, ← rel.length]; exact F.len _ _ _ _ want)
    rwa [List.append_nil] at b
  · rcases r with e | fl
    · exact hx σ pins H1 s1 e s' J res
    · cases fl <;> first | exact res.elim | exact J.after res

/-! ### calls -/
def frzs : Sls → List Rv → Option (List D × Sls)
  | S, [] => some ([], S)
  | S, r :: rs => match frz S r with
    | some (d, S1) => match frzs S1 rs with
      | some (ds, S2) => some (d :: ds, S2)
      | none => none
    | none => none
def rvOf : Sl → Option Rv
  | .sh d => some (.sh d)
  | .ow d => some (.ow d)
  | _ => none
def fAns (S : Sls) : FOut → Ou Rv
  | .ret r _ => ans S (rvOf r)
  | .ex e _ => .ex e S
  | .bad => .bad
/-- f(..), nothing lent -/
def eCall (f : F) (ts : Es) : E := fun S => (ts S).bind fun rs S1 => match frzs S1 rs with
  | some (ds, S2) => fAns S2 (f (ds.map .sh))
  | none => .bad
theorem SR.frzs {M : Mo} {N : En} {σ : L2.St} {H : Hp} : ∀ {rs : List Rv} {vs : List V} {G : Gh} {S S' : Sls} {ds : List D}, SR M N G S σ H → Paired (HR M G σ) vs rs → frzs S rs = some (ds, S') →
    ∃ G', SR M N G' S' σ H ∧ GLe G G' ∧ RVs M G' vs ds
  | [], _, G, S, S', ds, R, h, q => by cases h; cases q; exact ⟨G, R, GLe.refl _, .nil⟩
  | r :: rs, _, G, S, S', ds, R, h, q => by
    cases h with
    | cons h t =>
      unfold LD.frzs at q
      cases q1 : LD.frz S r with
      | none => rw [q1] at q; cases q
      | some p =>
        obtain ⟨d, S1⟩ := p
        rw [q1] at q
        obtain ⟨G1, R1, g1, r1⟩ := R.frz h.rr q1
        dsimp only at q
        cases q2 : LD.frzs S1 rs with
        | none => rw [q2] at q; cases q
        | some p2 =>
          obtain ⟨ds', S2⟩ := p2
          rw [q2] at q
          cases q
          obtain ⟨G2, R2, g2, r2⟩ := SR.frzs R1 (Paired.mapP t fun _ _ z => z.mono g1) q2
          exact ⟨G2, R2, g1.trans g2, .cons (r1.mono g2) r2⟩
theorem SR.callee {M : Mo} {N : En} {G : Gh} {S : Sls} {σ : L2.St} {H : Hp} (R : SR M N G S σ H) {vs : List V} {ds : List D} (h : RVs M G vs ds) : SR M ⟨H, [], G⟩ G (ds.map .sh) (vs.map some) H where
  con := R.con
  cc := R.cc
  trk := R.trk
  old := fun _ _ e => .inl e
  keep := fun _ _ e _ => e
  lent := fun _ _ e => by cases e
  len := by rw [List.length_map, List.length_map, Paired.length h]
  sl := fun i s e => by
    rw [List.getElem?_map] at e
    obtain ⟨d, h1, h2⟩ := Option.map_eq_some_iff.mp e
    subst h2
    have hi : i < vs.length := by rw [Paired.length h]; exact (List.getElem?_eq_some_iff.mp h1).1
    have hv : vs[i]? = some vs[i] := List.getElem?_eq_getElem hi
    exact ⟨vs[i], by rw [List.getElem?_map, hv]; rfl, Paired.at2 h hv h1⟩
  sep := fun i j s t a _ ei _ mi _ _ _ => by
    rw [List.getElem?_map] at ei
    obtain ⟨d, _, h2⟩ := Option.map_eq_some_iff.mp ei
    subst h2
    cases mi
/-- behind a call -/
theorem SR.after {M : Mo} {N : En} {L : List (Nat × Addr)} {G G' : Gh} {S A : Sls} {σ τ : L2.St} {H H' : Hp} (R : SR M N G S σ H) (R' : SR M ⟨H, L, G⟩ G' A τ H') (g : GLe G G')
    (hL : ∀ i a, (i, a) ∈ L → G a = none ∧ (∀ (j : Nat) (s : Sl), S[j]? = some s → s.mine = true → σ[j]? ≠ some (some (.ref a))) ∧ (N.H a = none ∨ ∃ j, (j, a) ∈ N.L)) : SR M N G' S σ H' := by
  have nl : ∀ a d, G a = some d → ∀ i, (i, a) ∉ L := fun a d e i h => by rw [(hL i a h).1] at e; cases e
  have same : ∀ a o, H a = some o → (∀ i, (i, a) ∉ L) → H' a = H a := fun a o e h => by rw [e]; exact R'.keep a o e h
  refine R.step g (fun a d e n => ⟨R'.con a d e, R'.trk a d e, ?_⟩) (fun a d e => ?_) (fun a o e h => ?_) (fun i a h => ?_) (fun i s a e m q => ?_)
  · rcases R'.old a d e with z | z
    · have z' : G a = some d := z
      rw [n] at z'; cases z'
    · exact R.fresh0 z
  · obtain ⟨o, ho⟩ := R.trk a d e
    exact same a o ho (nl a d e)
  · refine same a o (R.keep a o e h) fun i hi => ?_
    rcases (hL i a hi).2.2 with z | ⟨j, z⟩
    · rw [e] at z; cases z
    · exact h j z
  · obtain ⟨o, ho⟩ := R.lent i a h
    by_cases hl : ∃ j, (j, a) ∈ L
    · obtain ⟨j, hj⟩ := hl; exact R'.lent j a hj
    · exact ⟨o, R'.keep a o ho fun j hj => hl ⟨j, hj⟩⟩
  · obtain ⟨o, ho⟩ := R.mineTrk e m q
    have h1 : ∀ j, (j, a) ∉ L := fun j hj => (hL j a hj).2.1 i s e m q
    refine ⟨same a o ho h1, ?_⟩
    cases z : G' a with
    | none => rfl
    | some d =>
      rcases R'.old a d z with y | y
      · have y' : G a = some d := y
        rw [R.mineG e m q] at y'; cases y'
      · have y' : H a = none := y
        rw [ho] at y'; cases y'
theorem RetR.rr {M : Mo} {N : En} {L : List (Nat × Addr)} {G G' : Gh} {S : Sls} {σ : L2.St} {H H' : Hp} {v : V} {s : Sl} {r : Rv} (R : SR M N G S σ H) (h : RetR M ⟨H, L, G⟩ G' H' v s) (q : rvOf s = some r) : RR M N G' H' S σ v r := by
  cases s with
  | sh d => cases q; exact h
  | ow d =>
    cases q
    obtain ⟨a, e, h1, h2, h3⟩ := h
    exact ⟨a, e, h1, R.fresh0 h2, h3, R.noMine h2⟩
  | un => cases q
  | io d => cases q

section
variable {C : Addr → Option D} {X : Cx} {W : WX} {e a b : Expr} {es : List Expr} {pos p : Pos}
theorem de_call {k : Nat} {f : Addr} {fd : FuncData} {ps : List Str} {fs : F} {x : Str} {ts : Es} (Fn : FnG X.prog X.w X.K X.mg X.base k f fd ps (spF (mo X C) fs)) (hr : Room k X.A) (gd : X.A.guards = some []) (hg : Gl X x) (hm : X.mg x = some (.ref f))
    (hk : PySem.W.keepIn X.K (.ref f) = true) (hb : Binds X.K fd ps []) (tk : Takes X W) (ha : DA C X W (e :: es) ts) (hdb : (x == ("__debug__" : Str)) = false := by decide) (he : starEach (e :: es) X.env = (false, eval e X.env) :: starEach es X.env := by rfl)
    (hpl : (backTo pos (starEach es X.env)).any (·.1) = false := by rfl) : DE C X W (.Call (.Name x p) (e :: es) [] pos) (eCall fs ts) :=
  ⟨PE.imp (pe_callG Fn hr gd hg hm hk hb (fun σ => passAt tk σ) ha.run hdb he hpl) fun σ H Q ⟨N, G, S, R, pp⟩ => ⟨N, G, S, R, Po.bind pp fun rs S1 vs G1 H1 R1 g1 h1 p1 => by
    cases q : frzs S1 rs with
    | none => rw [q] at p1; exact p1.elim
    | some z =>
      obtain ⟨ds, S2⟩ := z
      rw [q] at p1
      obtain ⟨G2, R2, g2, r2⟩ := R1.frzs h1 q
      replace p1 : Po (mo X C) W σ N (relE (mo X C) N σ) G2 (fAns S2 (fs (ds.map .sh))) Q := Po.up p1 g2
      refine ⟨[], G2, ds.map .sh, R2.callee r2, (fun i a h => by cases h), ?_⟩
      cases hf : fs (ds.map .sh) with
      | bad => rw [hf] at p1; exact p1.elim
      | ret r A =>
        rw [hf] at p1
        intro v G' H' R' g' hret
        unfold fAns at p1
        dsimp only at p1
        cases hrv : rvOf r with
        | none => rw [hrv] at p1; exact p1.elim
        | some rv =>
          rw [hrv] at p1
          exact p1 v G' H' (R2.after R' g' (fun i a h => by cases h)) g' (by
            cases r with
            | sh d => cases hrv; exact hret
            | ow d => cases hrv; obtain ⟨a, e1, h1, h2, h3⟩ := hret; exact ⟨a, e1, h1, R2.fresh0 h2, h3, R2.noMine h2⟩
            | un => cases hrv
            | io d => cases hrv)
      | ex e A =>
        rw [hf] at p1
        intro cls dd G' H' R' g' hex
        exact p1 cls dd G' H' (R2.after R' g' (fun i a h => by cases h)) g' hex⟩⟩
end
end LD
/-! the data layer, part f: numbers, texts, comparisons, len, isinstance, displays, subscripts -/
namespace LD
open PySem PySem.Spec PyProof.Rows L2

theorem SqL.ofRd {K : PySem.W.Frag} {H : Hp} {a : Addr} {xs : List V} (h : Rd H a (.lst xs)) : SqL K H a xs := .inl h
/-! ### what a value is that is such data -/
section
variable {M : Mo} {G : Gh} {H : Hp} {v : V}
theorem vh_int {i : Int} (h : VH M G H v (.int i)) : v = .int i := by
  cases v <;> first | (cases h; rfl) | (exact h.hold.elim) | (exact absurd h.1 (by intro z; cases z)) | (exact h.elim) | (cases h; done)
theorem vh_str {x : Str} (h : VH M G H v (.str x)) : v = .str x := by
  cases v <;> first | (cases h; rfl) | (cases h.1; rfl) | (exact h.hold.elim) | (exact absurd h.1 (by intro z; cases z)) | (exact h.elim) | (cases h; done)
theorem vh_strOk {x : Str} (h : VH M G H v (.str x)) : okS x = true := by
  have e := vh_str h
  subst e
  exact h.2
theorem vh_non (h : VH M G H v .non) : v = .non := by
  cases v <;> first | (cases h; rfl) | rfl | (exact h.hold.elim) | (exact absurd h.1 (by intro z; cases z)) | (exact h.elim) | (cases h; done)
theorem vh_ty {n : String} (h : VH M G H v (.ty n)) : v = .ty n := by
  cases v <;> first | (cases h; rfl) | (exact h.hold.elim) | (exact absurd h.1 (by intro z; cases z)) | (exact h.elim) | (cases h; done)
theorem vh_tup {ds : List D} (h : VH M G H v (.tup ds)) : ∃ a vs, v = .ref a ∧ SqT M.K H a vs ∧ RVs M G vs ds := by
  cases v <;> first | (obtain ⟨vs, h1, h2⟩ := h.hold; exact ⟨_, vs, rfl, h1, h2⟩) | (exact h.hold.elim) | (exact absurd h.1 (by intro z; cases z)) | (exact h.elim) | (cases h; done)
theorem vh_lst {ds : List D} (h : VH M G H v (.lst ds)) : ∃ a vs, v = .ref a ∧ LsK M.K H a vs ∧ RVs M G vs ds := by
  cases v <;> first | (obtain ⟨vs, h1, h2⟩ := h.hold; exact ⟨_, vs, rfl, h1, h2⟩) | (exact h.hold.elim) | (exact absurd h.1 (by intro z; cases z)) | (exact h.elim) | (cases h; done)
theorem vh_dct {kvs : List (D × D)} (h : VH M G H v (.dct kvs)) : ∃ a es, v = .ref a ∧ Dct M H a es ∧ Paired (EntR M G) es kvs ∧ (kvs.map fun p => keyOf p.1).Nodup := by
  cases v <;> first | (obtain ⟨vs, h1, h2, h3⟩ := h.hold; exact ⟨_, vs, rfl, h1, h2, h3⟩) | (exact h.hold.elim) | (exact absurd h.1 (by intro z; cases z)) | (exact h.elim) | (cases h; done)
theorem vh_set {xs : List D} (h : VH M G H v (.set xs)) : False := by
  cases v <;> first | (exact h.hold) | (exact h.hold.elim) | (exact absurd h.1 (by intro z; cases z)) | (exact h.elim) | (cases h; done)
theorem vh_rv {d : D} (h : VH M G H v d) (hn : ∀ a, ¬ HoldO M G H a d) : RV M G v d := by
  cases v <;> first | exact h | skip
  exact h.elim (·.1) fun z => absurd z (hn _)
theorem vh_gl {x : Str} (h : VH M G H v (.gl x)) : ∃ a, v = .ref a ∧ M.mg x = some (.ref a) := by
  cases v <;> first | (exact ⟨_, rfl, h.hold⟩) | (exact h.hold.elim) | (exact absurd h.1 (by intro z; cases z)) | (exact h.elim) | (cases h; done)
end

/-! ### data as the library's data -/
mutual
def toP : D → Option PyData
  | .non => some .none
  | .bl b => some (.bool b)
  | .int i => some (.int i)
  | .str s => some (.str s)
  | .tup xs => (toPs xs).map .tuple
  | .lst xs => (toPs xs).map .list
  | .dct kvs => (toPkv kvs).map .dict
  | _ => none
def toPs : List D → Option (List PyData)
  | [] => some []
  | x :: xs => (toP x).bind fun p => (toPs xs).map (p :: ·)
def toPkv : List (D × D) → Option (List (PyData × PyData))
  | [] => some []
  | (k, v) :: xs => (toP k).bind fun p => (toP v).bind fun q => (toPkv xs).map ((p, q) :: ·)
end
section
variable {X : Cx} {C : Addr → Option D} {pins : List (Addr × Obj)} {σ : L2.St} {H : Hp} {s : Shared} {G : Gh}
theorem dct_obj {a : Addr} {es : Ents} (I : Inv X pins σ H s) (h : Dct (mo X C) H a es) : (a == sysModules) = false ∧ ∃ o, s.heap.get? a = some o ∧ dictObj es o := by
  rcases h with h | ⟨hs, o, hk, ho⟩
  · obtain ⟨⟨h1, o, h2, h3⟩, _⟩ := I.hok a _ h
    exact ⟨h1, o, h2, h3⟩
  · exact ⟨hs, o, I.kIn a o hk, ho⟩
mutual
theorem rv_reads (I : Inv X pins σ H s) (con : ∀ a d, G a = some d → Hold (mo X C) G H a d) (cc : ∀ a d, C a = some d → ∀ G H, Hold (mo X C) G H a d) : ∀ (d : D) (p : PyData) (v : V) (u : Value), RV (mo X C) G v d → RelV v u → toP d = some p → ∃ as, Reads s.heap u p as := fun d p v u hv ru hp => by
  have hh : VH (mo X C) G H v d := by
    cases v <;> first | exact hv | skip
    exact .inl ⟨hv, hv.elim (con _ _) fun z => cc _ _ z G H⟩
  exact vh_reads I con cc d p v u hh ru hp
theorem vh_reads (I : Inv X pins σ H s) (con : ∀ a d, G a = some d → Hold (mo X C) G H a d) (cc : ∀ a d, C a = some d → ∀ G H, Hold (mo X C) G H a d) : ∀ (d : D) (p : PyData) (v : V) (u : Value), VH (mo X C) G H v d → RelV v u → toP d = some p → ∃ as, Reads s.heap u p as
  | .non, p, v, u, h, r, q => by cases q; rw [vh_non h] at r; cases r; exact ⟨_, .none⟩
  | .bl b, p, v, u, h, r, q => by cases q; rw [vh_bl h] at r; cases r; exact ⟨_, .bool b⟩
  | .int i, p, v, u, h, r, q => by cases q; rw [vh_int h] at r; obtain ⟨t, rfl⟩ := r; exact ⟨_, .int i t⟩
  | .str x, p, v, u, h, r, q => by cases q; rw [vh_str h] at r; obtain ⟨t, rfl⟩ := r; exact ⟨_, .str x t⟩
  | .tup ds, p, v, u, h, r, q => by
    obtain ⟨ps, q1, rfl⟩ := Option.map_eq_some_iff.mp (show (toPs ds).map PyData.tuple = some p from q)
    obtain ⟨a, vs, rfl, h1, h2⟩ := vh_tup h
    cases r
    obtain ⟨its, rv, ⟨o, ho, hc, n, hd⟩, _⟩ := I.tuple h1
    obtain ⟨as, hr⟩ := rvs_reads I con cc ds ps vs its h2 rv q1
    exact ⟨_, .tuple ho hc hd hr⟩
  | .lst ds, p, v, u, h, r, q => by
    obtain ⟨ps, q1, rfl⟩ := Option.map_eq_some_iff.mp (show (toPs ds).map PyData.list = some p from q)
    obtain ⟨a, vs, rfl, h1, h2⟩ := vh_lst h
    cases r
    obtain ⟨its, rv, ⟨o, n, ho, hc, _, hd⟩, _⟩ := I.list h1.sq
    obtain ⟨as, hr⟩ := rvs_reads I con cc ds ps vs its h2 rv q1
    exact ⟨_, .list ho hc hd hr⟩
  | .dct kvs, p, v, u, h, r, q => by
    obtain ⟨ps, q1, rfl⟩ := Option.map_eq_some_iff.mp (show (toPkv kvs).map PyData.dict = some p from q)
    obtain ⟨a, es, rfl, h1, h2, _⟩ := vh_dct h
    cases r
    obtain ⟨_, o, ho, _, ⟨hc, _, _⟩, arr, ep, hd, he⟩ := dct_obj I h1
    obtain ⟨⟨as, r1⟩, bs, r2⟩ := ents_reads I con cc kvs ps es h2 q1
    refine ⟨_, .dict (es := arr) ho hc hd (as := as) (bs := bs) ?_ ?_⟩
    · rw [he, List.map_map]; exact r1
    · rw [he, List.map_map]; exact r2
  | .set _, p, v, u, h, r, q => by cases q
  | .ty _, p, v, u, h, r, q => by cases q
  | .gl _, p, v, u, h, r, q => by cases q
theorem rvs_reads (I : Inv X pins σ H s) (con : ∀ a d, G a = some d → Hold (mo X C) G H a d) (cc : ∀ a d, C a = some d → ∀ G H, Hold (mo X C) G H a d) : ∀ (ds : List D) (ps : List PyData) (vs : List V) (us : List Value), RVs (mo X C) G vs ds → Vals vs us → toPs ds = some ps → ∃ as, ReadsAll s.heap us ps as
  | [], ps, vs, us, h, r, q => by cases q; cases h; cases r; exact ⟨_, .nil⟩
  | d :: ds, ps, vs, us, h, r, q => by
    obtain ⟨p, q1, q2⟩ := Option.bind_eq_some_iff.mp (show (toP d).bind (fun p => (toPs ds).map (p :: ·)) = some ps from q)
    obtain ⟨ps', q3, rfl⟩ := Option.map_eq_some_iff.mp q2
    cases h with
    | cons h1 h2 =>
      cases r with
      | cons r1 r2 =>
        obtain ⟨as, z1⟩ := rv_reads I con cc d p _ _ h1 r1 q1
        obtain ⟨bs, z2⟩ := rvs_reads I con cc ds ps' _ _ h2 r2 q3
        exact ⟨_, .cons z1 z2⟩
theorem ents_reads (I : Inv X pins σ H s) (con : ∀ a d, G a = some d → Hold (mo X C) G H a d) (cc : ∀ a d, C a = some d → ∀ G H, Hold (mo X C) G H a d) : ∀ (kvs : List (D × D)) (ps : List (PyData × PyData)) (es : Ents), Paired (EntR (mo X C) G) es kvs → toPkv kvs = some ps →
    (∃ as, ReadsAll s.heap (es.map ((·.key) ∘ entOf)) (ps.map (·.1)) as) ∧ ∃ bs, ReadsAll s.heap (es.map ((·.val) ∘ entOf)) (ps.map (·.2)) bs
  | [], ps, es, h, q => by cases q; cases h; exact ⟨⟨_, .nil⟩, _, .nil⟩
  | (k, v) :: kvs, ps, es, h, q => by
    obtain ⟨p, q1, q2⟩ := Option.bind_eq_some_iff.mp (show (toP k).bind (fun p => (toP v).bind fun q => (toPkv kvs).map ((p, q) :: ·)) = some ps from q)
    obtain ⟨p', q3, q4⟩ := Option.bind_eq_some_iff.mp q2
    obtain ⟨ps', q5, rfl⟩ := Option.map_eq_some_iff.mp q4
    cases h with
    | cons h1 h2 =>
      obtain ⟨⟨x, rx, vx⟩, ⟨y, ry, vy⟩, _⟩ := h1
      obtain ⟨as, z1⟩ := rv_reads I con cc k p x _ vx rx q1
      obtain ⟨bs, z2⟩ := rv_reads I con cc v p' y _ vy ry q3
      obtain ⟨⟨as', w1⟩, bs', w2⟩ := ents_reads I con cc kvs ps' _ h2 q5
      exact ⟨⟨_, .cons z1 w1⟩, _, .cons z2 w2⟩
end
end
end LD
/-! the data layer, part g: operators, comparisons, subscripts, slices -/
namespace LD
open PySem PySem.Spec PyProof.Rows L2

/-! ### texts -/
theorem okS_iff {x : Str} : okS x = true ↔ (∀ c ∈ x.cps.toList, c < 0x110000) ∧ x.length ≤ sizeLine := by
  unfold okS PyData.strOk
  rw [Bool.and_eq_true, decide_eq_true_eq, Array.all_eq_true_iff_forall_mem]
  constructor
  · rintro ⟨h1, h2⟩; exact ⟨fun c hc => of_decide_eq_true (h1 c (Array.mem_toList_iff.mp hc)), h2⟩
  · rintro ⟨h1, h2⟩; exact ⟨fun c hc => decide_eq_true (h1 c (Array.mem_toList_iff.mpr hc)), h2⟩
theorem okS_len {x : Str} (h : okS x = true) : x.length ≤ sizeLine := (okS_iff.mp h).2
theorem okS_add {x y : Str} (hx : okS x = true) (hy : okS y = true) (h : x.length + y.length ≤ sizeLine) : okS (x ++ y) = true := by
  refine okS_iff.mpr ⟨fun c hc => ?_, ?_⟩
  · have e : (x ++ y).cps.toList = x.cps.toList ++ y.cps.toList := by
      show (x.cps ++ y.cps).toList = _
      simp
    rw [e] at hc
    rcases List.mem_append.mp hc with z | z
    · exact (okS_iff.mp hx).1 c z
    · exact (okS_iff.mp hy).1 c z
  · have e : (x ++ y).length = x.length + y.length := by
      show (x.cps ++ y.cps).size = _
      simp [Str.length]
    omega
theorem okS_sub {x : Str} {l : List Nat} (hx : okS x = true) (h : ∀ c ∈ l, c ∈ x.cps.toList) (hl : l.length ≤ sizeLine) : okS ⟨l.toArray⟩ = true :=
  okS_iff.mpr ⟨fun c hc => (okS_iff.mp hx).1 c (h c (by simpa using hc)), by simpa [Str.length] using hl⟩
theorem okS_sign {x : Str} {c : Nat} (hx : okS x = true) (h : c ∈ x.cps.toList) : okS ⟨#[c]⟩ = true :=
  okS_sub (l := [c]) hx (fun d hd => by rw [List.mem_singleton.mp hd]; exact h) (by show 1 ≤ sizeLine; decide)

/-! ### results -/
section
variable {M : Mo} {N : En} {G : Gh} {S : Sls} {σ : L2.St} {H : Hp} {Q : VK}
theorem SR.newTup (R : SR M N G S σ H) {vs : List V} {ds : List D} (r : RVs M G vs ds) (q : ∀ v' G' H', SR M N G' S σ H' → GLe G G' → RR M N G' H' S σ v' (.sh (.tup ds)) → Q v' H') : ∀ p, H p = none → Q (.ref p) (upd H p (.tup vs)) := fun p np =>
  q (.ref p) (gset G p (.tup ds)) _ (R.grow_tell np ⟨vs, .inl (.inl upd_same), RVs.mono r (GLe.gset (R.fresh np))⟩) (GLe.gset (R.fresh np)) (.inl gset_same)
theorem SR.newLst (R : SR M N G S σ H) {vs : List V} {ds : List D} (r : RVs M G vs ds) (q : ∀ v' G' H', SR M N G' S σ H' → GLe G G' → RR M N G' H' S σ v' (.ow (.lst ds)) → Q v' H') : ∀ p, H p = none → Q (.ref p) (upd H p (.lst vs)) := fun p np =>
  let z := R.grow_own (o := .lst vs) (d := .lst ds) np ⟨vs, upd_same, r⟩
  q (.ref p) G _ z.1 (GLe.refl _) z.2
theorem RVs.append {vs ws : List V} {ds es : List D} (h : RVs M G vs ds) (k : RVs M G ws es) : RVs M G (vs ++ ws) (ds ++ es) := by
  induction h with
  | nil => exact k
  | cons r _ ih => exact .cons r ih
theorem RVs.take : ∀ (n : Nat) {vs : List V} {ds : List D}, RVs M G vs ds → RVs M G (vs.take n) (ds.take n)
  | 0, _, _, _ => .nil
  | _ + 1, _, _, .nil => .nil
  | n + 1, _, _, .cons r t => .cons r (RVs.take n t)
theorem RVs.drop : ∀ (n : Nat) {vs : List V} {ds : List D}, RVs M G vs ds → RVs M G (vs.drop n) (ds.drop n)
  | 0, _, _, h => h
  | _ + 1, _, _, .nil => .nil
  | n + 1, _, _, .cons r t => RVs.drop n t
theorem RVs.set {v : V} {d : D} (r : RV M G v d) : ∀ (n : Nat) {vs : List V} {ds : List D}, RVs M G vs ds → RVs M G (vs.set n v) (ds.set n d)
  | _, _, _, .nil => .nil
  | 0, _, _, .cons _ t => .cons r t
  | n + 1, _, _, .cons q t => .cons q (RVs.set r n t)
theorem RVs.rep {vs : List V} {ds : List D} (h : RVs M G vs ds) : ∀ n, RVs M G (List.replicate n vs).flatten (List.replicate n ds).flatten
  | 0 => .nil
  | n + 1 => by
    simp only [List.replicate_succ, List.flatten_cons]
    exact h.append (RVs.rep h n)
end

/-! ### numbers -/
def fI (g : Int → Int → Int) : D → D → Option Rv
  | .int i, .int j => some (.sh (.int (g i j)))
  | _, _ => none
def fIc (c : Int → Int → Bool) (g : Int → Int → Int) : D → D → Option Rv
  | .int i, .int j => if c i j = true then some (.sh (.int (g i j))) else none
  | _, _ => none
section
variable {C : Addr → Option D} {X : Cx}
theorem od_i {op : Value → Value → Sem Value} {g : Int → Int → Int} (ho : OpR X op (rI0 fun i j => .int (g i j))) : OD C X op (fI g) := od_of ho fun N G S σ H v u d e res Q R h1 h2 h3 q => by
  cases d with
  | int i => cases e with
    | int j => cases h3; rw [vh_int h1, vh_int h2]; exact ⟨i, j, rfl, rfl, q _ G H R (GLe.refl _) rfl⟩
    | _ => cases h3
  | _ => cases h3
theorem od_ic {op : Value → Value → Sem Value} {c : Int → Int → Bool} {Cn : Int → Int → Prop} {g : Int → Int → Int} (ho : OpR X op (rI Cn fun i j => .int (g i j))) (hc : ∀ i j, c i j = true → Cn i j) : OD C X op (fIc c g) := od_of ho fun N G S σ H v u d e res Q R h1 h2 h3 q => by
  cases d with
  | int i => cases e with
    | int j =>
      replace h3 : (if c i j = true then some (Rv.sh (.int (g i j))) else none) = some res := h3
      split at h3
      · rename_i hcc
        cases h3; rw [vh_int h1, vh_int h2]; exact ⟨i, j, rfl, rfl, hc i j hcc, q _ G H R (GLe.refl _) rfl⟩
      · cases h3
    | _ => cases h3
  | _ => cases h3
def dAdd : D → D → Option Rv
  | .int i, .int j => some (.sh (.int (i + j)))
  | .str x, .str y => if x.length + y.length ≤ sizeLine then some (.sh (.str (x ++ y))) else none
  | .tup xs, .tup ys => if xs.length + ys.length ≤ sizeLine then some (.sh (.tup (xs ++ ys))) else none
  | .lst xs, .lst ys => if xs.length + ys.length ≤ sizeLine then some (.ow (.lst (xs ++ ys))) else none
  | _, _ => none
theorem Inv.lstR {pins : List (Addr × Obj)} {σ : L2.St} {H : Hp} {s : Shared} {l : Addr} {xs : List V} (I : Inv X pins σ H s) (h : LsK X.K H l xs) : xs.length ≤ sizeLine ∧ ∃ (its : List Value) (n : Nat), Vals xs its ∧ xs.length = its.length ∧ s.heap.get? l = some { cls := .type "list", data := .seq its.toArray n } := by
  rcases h with h | ⟨its, n, hk, hz, r⟩
  · have k := h.ok I.hok
    exact ⟨k.1, k.2.elim fun its ⟨n, r, e⟩ => ⟨its, n, r, r.length, e⟩⟩
  · have hl : xs.length = its.toList.length := r.length
    have hl2 : its.toList.length = its.size := Array.length_toList
    exact ⟨by omega, its.toList, n, r, hl, I.kIn l _ hk⟩
theorem op_catR : OpR X (binaryOp .Add) (fun x y H Q => ∃ l b xs zs, x = .ref l ∧ y = .ref b ∧ LsK X.K H l xs ∧ LsK X.K H b zs ∧ xs.length + zs.length ≤ sizeLine ∧ ∀ p, H p = none → Q (.ref p) (upd H p (.lst (xs ++ zs)))) := by
  rintro pins s σ H _ _ v u Q I rx ry ⟨a, b, xs, ys, rfl, rfl, la, lb, fits, q⟩
  cases rx; cases ry
  obtain ⟨_, as, na, ra, ea, oa⟩ := Inv.lstR I la
  obtain ⟨_, bs, nb, rb, eb, ob⟩ := Inv.lstR I lb
  have joined : as.toArray ++ bs.toArray = (as ++ bs).toArray := by simp
  have few : (xs ++ ys).length ≤ sizeLine := by simpa using fits
  refine PySem.P.add_list oa ob ?_ (by simp only [List.size_toArray]; omega)
  rw [joined]
  exact ⟨.ref _, _, L2.Inv.lnew (t' := s.toks) I (ra.append rb) few, rfl, q _ I.fresh⟩
theorem od_add : OD C X (binaryOp .Add) dAdd := fun pins s σ H x y v u Q I rx ry ⟨N, G, S, τ, d, e, res, R, h1, h2, h3, q⟩ => by
  cases d with
  | int i => cases e with
    | int j => cases h3; rw [vh_int h1] at rx; rw [vh_int h2] at ry; exact op_add pins s σ H _ _ v u Q I rx ry ⟨i, j, rfl, rfl, q _ G H R (GLe.refl _) rfl⟩
    | _ => cases h3
  | str a => cases e with
    | str b =>
      replace h3 : (if a.length + b.length ≤ sizeLine then some (Rv.sh (.str (a ++ b))) else none) = some res := h3
      split at h3
      · rename_i hl
        cases h3
        have k1 := vh_strOk h1
        have k2 := vh_strOk h2
        rw [vh_str h1] at rx; rw [vh_str h2] at ry
        exact op_add_str pins s σ H _ _ v u Q I rx ry ⟨a, b, rfl, rfl, hl, q _ G H R (GLe.refl _) ⟨rfl, okS_add k1 k2 hl⟩⟩
      · cases h3
    | _ => cases h3
  | tup xs => cases e with
    | tup ys =>
      replace h3 : (if xs.length + ys.length ≤ sizeLine then some (Rv.sh (.tup (xs ++ ys))) else none) = some res := h3
      split at h3
      · rename_i hl
        cases h3
        obtain ⟨a, vs, rfl, ha, ra⟩ := vh_tup h1
        obtain ⟨b, ws, rfl, hb, rb⟩ := vh_tup h2
        have e1 := Paired.length ra
        have e2 := Paired.length rb
        exact op_catA pins s σ H _ _ v u Q I rx ry ⟨a, b, vs, ws, rfl, rfl, ha, hb, by omega, fun z => by
          subst z
          cases ra
          exact q _ G H R (GLe.refl _) (vh_rv h2 fun _ z => z), fun z1 z2 => by
          subst z2
          cases rb
          rw [List.append_nil] at q
          exact q _ G H R (GLe.refl _) (vh_rv h1 fun _ z => z), fun _ _ => R.newTup (ra.append rb) q⟩
      · cases h3
    | _ => cases h3
  | lst xs => cases e with
    | lst ys =>
      replace h3 : (if xs.length + ys.length ≤ sizeLine then some (Rv.ow (.lst (xs ++ ys))) else none) = some res := h3
      split at h3
      · rename_i hl
        cases h3
        obtain ⟨a, vs, rfl, ha, ra⟩ := vh_lst h1
        obtain ⟨b, ws, rfl, hb, rb⟩ := vh_lst h2
        have e1 := Paired.length ra
        have e2 := Paired.length rb
        exact op_catR pins s σ H _ _ v u Q I rx ry ⟨a, b, vs, ws, rfl, rfl, ha, hb, by omega, R.newLst (ra.append rb) q⟩
      · cases h3
    | _ => cases h3
  | _ => cases h3

theorem od_sub : OD C X (binaryOp .Sub) (fI fun i j => i - j) := od_i op_sub
def cMul (i j : Int) : Bool := decide (i.natAbs < 2 ^ 64) || decide (j.natAbs < 2 ^ 64)
theorem od_mulI : OD C X (binaryOp .Mult) (fIc cMul fun i j => i * j) := od_ic op_mul fun i j h => by
  have h' : i.natAbs < 2 ^ 64 ∨ j.natAbs < 2 ^ 64 := by simpa [cMul] using h
  unfold CMul
  omega
theorem od_mod : OD C X (binaryOp .Mod) (fIc (fun _ j => decide (0 < j)) fun i j => i % j) := od_ic op_mod fun _ _ h => of_decide_eq_true h
def cDiv (_ j : Int) : Bool := decide (0 < j ∧ j < 1073741824)
theorem od_fdiv : OD C X (binaryOp .FloorDiv) (fIc cDiv fun i j => i / j) := od_ic op_fdiv fun _ j h => of_decide_eq_true (p := 0 < j ∧ j < 1073741824) h
def cPow (i j : Int) : Bool := decide (0 ≤ j ∧ j ≤ 1000000 ∧ i.natAbs < 2 ^ 64)
theorem od_pow : OD C X (binaryOp .Pow) (fIc cPow fun i j => i ^ j.toNat) := od_ic op_pow fun i j h => of_decide_eq_true (p := 0 ≤ j ∧ j ≤ 1000000 ∧ i.natAbs < 2 ^ 64) h
def dNeg : D → Option Rv
  | .int i => some (.sh (.int (-i)))
  | _ => none
theorem ud_neg : UnR X (unaryOp .USub) (uD C X dNeg) := fun pins s σ H x v Q I rx ⟨N, G, S, τ, d, res, R, h1, h3, q⟩ => by
  cases d with
  | int i => cases h3; rw [vh_int h1] at rx; exact un_neg pins s σ H _ v Q I rx ⟨i, rfl, q _ G H R (GLe.refl _) rfl⟩
  | _ => cases h3
/-! ### order -/
def dLt : D → D → Option Bool
  | .int i, .int j => some (decide (i < j))
  | .str x, .str y => some (decide (x.cps.toList < y.cps.toList))
  | _, _ => none
def dLe : D → D → Option Bool
  | .int i, .int j => some (decide (i ≤ j))
  | .str x, .str y => some (!decide (y.cps.toList < x.cps.toList))
  | _, _ => none
def rvB : Option Bool → Option Rv
  | some b => some (.sh (.bl b))
  | none => none
def fB (g : D → D → Option Bool) : D → D → Option Rv := fun d e => rvB (g d e)
theorem od_lt : OD C X (compareOp .Lt) (fB dLt) := fun pins s σ H x y v u Q I rx ry ⟨N, G, S, τ, d, e, res, R, h1, h2, h3, q⟩ => by
  cases d with
  | int i => cases e with
    | int j => cases h3; rw [vh_int h1] at rx; rw [vh_int h2] at ry; exact L2.op_lt pins s σ H _ _ v u Q I rx ry ⟨i, j, rfl, rfl, q _ G H R (GLe.refl _) rfl⟩
    | _ => cases h3
  | str i => cases e with
    | str j => cases h3; rw [vh_str h1] at rx; rw [vh_str h2] at ry; exact L2.op_lt_str pins s σ H _ _ v u Q I rx ry ⟨i, j, rfl, rfl, q _ G H R (GLe.refl _) rfl⟩
    | _ => cases h3
  | _ => cases h3
theorem od_gt : OD C X (compareOp .Gt) (fB fun d e => dLt e d) := fun pins s σ H x y v u Q I rx ry ⟨N, G, S, τ, d, e, res, R, h1, h2, h3, q⟩ => by
  cases d with
  | int i => cases e with
    | int j => cases h3; rw [vh_int h1] at rx; rw [vh_int h2] at ry; exact L2.op_gt pins s σ H _ _ v u Q I rx ry ⟨i, j, rfl, rfl, q _ G H R (GLe.refl _) rfl⟩
    | _ => cases h3
  | str i => cases e with
    | str j => cases h3; rw [vh_str h1] at rx; rw [vh_str h2] at ry; exact L2.op_gt_str pins s σ H _ _ v u Q I rx ry ⟨i, j, rfl, rfl, q _ G H R (GLe.refl _) rfl⟩
    | _ => cases h3
  | _ => cases e <;> cases h3
theorem od_le : OD C X (compareOp .LtE) (fB dLe) := fun pins s σ H x y v u Q I rx ry ⟨N, G, S, τ, d, e, res, R, h1, h2, h3, q⟩ => by
  cases d with
  | int i => cases e with
    | int j => cases h3; rw [vh_int h1] at rx; rw [vh_int h2] at ry; exact L2.op_le pins s σ H _ _ v u Q I rx ry ⟨i, j, rfl, rfl, q _ G H R (GLe.refl _) rfl⟩
    | _ => cases h3
  | str i => cases e with
    | str j => cases h3; rw [vh_str h1] at rx; rw [vh_str h2] at ry; exact L2.op_le_str pins s σ H _ _ v u Q I rx ry ⟨i, j, rfl, rfl, q _ G H R (GLe.refl _) rfl⟩
    | _ => cases h3
  | _ => cases h3
theorem od_ge : OD C X (compareOp .GtE) (fB fun d e => dLe e d) := fun pins s σ H x y v u Q I rx ry ⟨N, G, S, τ, d, e, res, R, h1, h2, h3, q⟩ => by
  cases d with
  | int i => cases e with
    | int j => cases h3; rw [vh_int h1] at rx; rw [vh_int h2] at ry; exact L2.op_ge pins s σ H _ _ v u Q I rx ry ⟨i, j, rfl, rfl, q _ G H R (GLe.refl _) rfl⟩
    | _ => cases h3
  | str i => cases e with
    | str j => cases h3; rw [vh_str h1] at rx; rw [vh_str h2] at ry; exact L2.op_ge_str pins s σ H _ _ v u Q I rx ry ⟨i, j, rfl, rfl, q _ G H R (GLe.refl _) rfl⟩
    | _ => cases h3
  | _ => cases e <;> cases h3
/-! ### == -/
mutual
def dep : D → Nat
  | .tup xs => deps xs + 1
  | .lst xs => deps xs + 1
  | .dct kvs => depkv kvs + 1
  | .set xs => deps xs + 1
  | _ => 0
def deps : List D → Nat
  | [] => 0
  | x :: xs => max (dep x) (deps xs)
def depkv : List (D × D) → Nat
  | [] => 0
  | (k, v) :: xs => max (max (dep k) (dep v)) (depkv xs)
end
mutual
/-- Python's == of numbers, truth values, texts, None, tuples, lists -/
def eqD : D → D → Bool
  | .non, .non => true
  | .bl a, .bl b => a == b
  | .bl a, .int j => (if a = true then 1 else 0) == j
  | .int i, .int j => i == j
  | .int i, .bl b => i == (if b = true then 1 else 0)
  | .str x, .str y => x == y
  | .tup xs, .tup ys => eqDs xs ys
  | .lst xs, .lst ys => eqDs xs ys
  | _, _ => false
def eqDs : List D → List D → Bool
  | [], [] => true
  | x :: xs, y :: ys => eqD x y && eqDs xs ys
  | _, _ => false
end
mutual
/-- numbers, truth values, texts, None, tuples and lists of such -/
def plainD : D → Bool
  | .non => true
  | .bl _ => true
  | .int _ => true
  | .str _ => true
  | .tup xs => plainDs xs
  | .lst xs => plainDs xs
  | _ => false
def plainDs : List D → Bool
  | [] => true
  | x :: xs => plainD x && plainDs xs
end
mutual
theorem plain_toP {M : Mo} {G : Gh} {H : Hp} (con : ∀ a d, G a = some d → Hold M G H a d) (cc : ∀ a d, M.C a = some d → ∀ G H, Hold M G H a d) : ∀ (d : D) (v : V), VH M G H v d → plainD d = true → ∃ p, toP d = some p ∧ p.canLay0 = true ∧ p.depth = dep d
  | .non, _, _, _ => ⟨_, rfl, rfl, rfl⟩
  | .bl b, _, _, _ => ⟨_, rfl, rfl, rfl⟩
  | .int i, _, _, _ => ⟨_, rfl, rfl, rfl⟩
  | .str x, v, h, _ => ⟨.str x, rfl, by
    have z := vh_strOk h
    unfold okS at z
    rw [Bool.and_eq_true] at z
    exact z.1, rfl⟩
  | .tup xs, v, h, hp => by
    obtain ⟨a, vs, _, _, r⟩ := vh_tup h
    obtain ⟨ps, h1, h2, h3⟩ := plains_toP con cc xs vs r hp
    exact ⟨.tuple ps, by show (toPs xs).map _ = _; rw [h1]; rfl, h2, by show PyData.depthAll ps + 1 = deps xs + 1; rw [h3]⟩
  | .lst xs, v, h, hp => by
    obtain ⟨a, vs, _, _, r⟩ := vh_lst h
    obtain ⟨ps, h1, h2, h3⟩ := plains_toP con cc xs vs r hp
    exact ⟨.list ps, by show (toPs xs).map _ = _; rw [h1]; rfl, h2, by show PyData.depthAll ps + 1 = deps xs + 1; rw [h3]⟩
  | .dct _, _, _, hp => by cases hp
  | .set _, _, _, hp => by cases hp
  | .ty _, _, _, hp => by cases hp
  | .gl _, _, _, hp => by cases hp
theorem plains_toP {M : Mo} {G : Gh} {H : Hp} (con : ∀ a d, G a = some d → Hold M G H a d) (cc : ∀ a d, M.C a = some d → ∀ G H, Hold M G H a d) : ∀ (ds : List D) (vs : List V), RVs M G vs ds → plainDs ds = true → ∃ ps, toPs ds = some ps ∧ PyData.canLayAll0 ps = true ∧ PyData.depthAll ps = deps ds
  | [], _, _, _ => ⟨[], rfl, rfl, rfl⟩
  | d :: ds, _, h, hp => by
    have hp' : plainD d = true ∧ plainDs ds = true := by
      have z : (plainD d && plainDs ds) = true := hp
      rw [Bool.and_eq_true] at z
      exact z
    cases h with
    | @cons v _ vs _ r rr =>
      have hh : VH M G H v d := by
        cases v <;> first | exact r | skip
        exact .inl ⟨r, r.elim (con _ _) fun z => cc _ _ z G H⟩
      obtain ⟨p, h1, h2, h3⟩ := plain_toP con cc d v hh hp'.1
      obtain ⟨ps, k1, k2, k3⟩ := plains_toP con cc ds vs rr hp'.2
      refine ⟨p :: ps, ?_, ?_, ?_⟩
      · show (toP d).bind (fun p => (toPs ds).map (p :: ·)) = _
        rw [h1, k1]; rfl
      · show (p.canLay0 && PyData.canLayAll0 ps) = true
        rw [h2, k2]; rfl
      · show max p.depth (PyData.depthAll ps) = max (dep d) (deps ds)
        rw [h3, k3]
end
mutual
theorem eqv_eqD : ∀ (d e : D) (p q : PyData), plainD d = true → plainD e = true → toP d = some p → toP e = some q → PyData.eqv p q = eqD d e
  | .non, e, p, q, _, he, h1, h2 => by cases h1; cases e <;> first | (cases h2; rfl) | (cases he; done) | (obtain ⟨ps, _, rfl⟩ := Option.map_eq_some_iff.mp (show (toPs _).map _ = some q from h2); rfl)
  | .bl b, e, p, q, _, he, h1, h2 => by cases h1; cases e <;> first | (cases h2; rfl) | (cases he; done) | (obtain ⟨ps, _, rfl⟩ := Option.map_eq_some_iff.mp (show (toPs _).map _ = some q from h2); rfl)
  | .int b, e, p, q, _, he, h1, h2 => by cases h1; cases e <;> first | (cases h2; rfl) | (cases he; done) | (obtain ⟨ps, _, rfl⟩ := Option.map_eq_some_iff.mp (show (toPs _).map _ = some q from h2); rfl)
  | .str b, e, p, q, _, he, h1, h2 => by cases h1; cases e <;> first | (cases h2; rfl) | (cases he; done) | (obtain ⟨ps, _, rfl⟩ := Option.map_eq_some_iff.mp (show (toPs _).map _ = some q from h2); rfl)
  | .tup xs, e, p, q, hd, he, h1, h2 => by
    obtain ⟨ps, k1, rfl⟩ := Option.map_eq_some_iff.mp (show (toPs xs).map _ = some p from h1)
    cases e with
    | tup ys =>
      obtain ⟨qs, k2, rfl⟩ := Option.map_eq_some_iff.mp (show (toPs ys).map _ = some q from h2)
      exact eqv_eqDs xs ys ps qs hd he k1 k2
    | lst ys => obtain ⟨qs, k2, rfl⟩ := Option.map_eq_some_iff.mp (show (toPs ys).map _ = some q from h2); rfl
    | _ => first | (cases h2; rfl) | (cases he; done)
  | .lst xs, e, p, q, hd, he, h1, h2 => by
    obtain ⟨ps, k1, rfl⟩ := Option.map_eq_some_iff.mp (show (toPs xs).map _ = some p from h1)
    cases e with
    | lst ys =>
      obtain ⟨qs, k2, rfl⟩ := Option.map_eq_some_iff.mp (show (toPs ys).map _ = some q from h2)
      exact eqv_eqDs xs ys ps qs hd he k1 k2
    | tup ys => obtain ⟨qs, k2, rfl⟩ := Option.map_eq_some_iff.mp (show (toPs ys).map _ = some q from h2); rfl
    | _ => first | (cases h2; rfl) | (cases he; done)
  | .dct _, _, _, _, hd, _, _, _ => by cases hd
  | .set _, _, _, _, hd, _, _, _ => by cases hd
  | .ty _, _, _, _, hd, _, _, _ => by cases hd
  | .gl _, _, _, _, hd, _, _, _ => by cases hd
theorem eqv_eqDs : ∀ (ds es : List D) (ps qs : List PyData), plainDs ds = true → plainDs es = true → toPs ds = some ps → toPs es = some qs → PyData.eqvAll ps qs = eqDs ds es
  | [], [], _, _, _, _, h1, h2 => by cases h1; cases h2; rfl
  | [], e :: es, _, qs, _, _, h1, h2 => by
    cases h1
    obtain ⟨q, _, k⟩ := Option.bind_eq_some_iff.mp (show (toP e).bind (fun p => (toPs es).map (p :: ·)) = some qs from h2)
    obtain ⟨qs', _, rfl⟩ := Option.map_eq_some_iff.mp k
    rfl
  | d :: ds, [], ps, _, _, _, h1, h2 => by
    cases h2
    obtain ⟨q, _, k⟩ := Option.bind_eq_some_iff.mp (show (toP d).bind (fun p => (toPs ds).map (p :: ·)) = some ps from h1)
    obtain ⟨qs', _, rfl⟩ := Option.map_eq_some_iff.mp k
    rfl
  | d :: ds, e :: es, ps, qs, hd, he, h1, h2 => by
    obtain ⟨p, k1, k⟩ := Option.bind_eq_some_iff.mp (show (toP d).bind (fun p => (toPs ds).map (p :: ·)) = some ps from h1)
    obtain ⟨ps', k2, rfl⟩ := Option.map_eq_some_iff.mp k
    obtain ⟨q, l1, l⟩ := Option.bind_eq_some_iff.mp (show (toP e).bind (fun p => (toPs es).map (p :: ·)) = some qs from h2)
    obtain ⟨qs', l2, rfl⟩ := Option.map_eq_some_iff.mp l
    have hd' : (plainD d && plainDs ds) = true := hd
    have he' : (plainD e && plainDs es) = true := he
    rw [Bool.and_eq_true] at hd' he'
    show (PyData.eqv p q && PyData.eqvAll ps' qs') = (eqD d e && eqDs ds es)
    rw [eqv_eqD d e p q hd'.1 he'.1 k1 l1, eqv_eqDs ds es ps' qs' hd'.2 he'.2 k2 l2]
end
def okEq (d : D) : Bool := plainD d && decide (dep d ≤ 64)
def dEq (d e : D) : Option Bool := if (okEq d && okEq e) = true then some (eqD d e) else none
def dNe (d e : D) : Option Bool := if (okEq d && okEq e) = true then some (!eqD d e) else none
theorem okEq_data {pins : List (Addr × Obj)} {σ τ : L2.St} {H : Hp} {s : Shared} {N : En} {G : Gh} {S : Sls} {v : V} {u : Value} {d : D} (I : Inv X pins σ H s) (R : SR (mo X C) N G S τ H) (h : VH (mo X C) G H v d) (r : RelV v u) (k : okEq d = true) :
    ∃ p as, toP d = some p ∧ Reads s.heap u p as ∧ SeqAt.shaped p = true := by
  unfold okEq at k
  rw [Bool.and_eq_true, decide_eq_true_eq] at k
  obtain ⟨p, h1, h2, h3⟩ := plain_toP R.con R.cc d v h k.1
  obtain ⟨as, hr⟩ := vh_reads I R.con R.cc d p v u h r h1
  refine ⟨p, as, h1, hr, ?_⟩
  unfold SeqAt.shaped
  rw [h2, h3, decide_eq_true k.2]
  rfl
theorem od_eq (hu : X.A.units + 64 < cLine) : OD C X (compareOp .Eq) (fB dEq) := fun pins s σ H x y v u Q I rx ry ⟨N, G, S, τ, d, e, res, R, h1, h2, h3, q⟩ => by
  unfold fB dEq at h3
  split at h3
  · rename_i k
    rw [Bool.and_eq_true] at k
    cases h3
    obtain ⟨p, as, t1, r1, s1⟩ := okEq_data I R h1 rx k.1
    obtain ⟨p', bs, t2, r2, s2⟩ := okEq_data I R h2 ry k.2
    refine SeqAt.compareEq_shaped r1 r2 s1 s2 hu ⟨.bl _, H, I, rfl, ?_⟩
    have k1 := k.1
    have k2 := k.2
    unfold okEq at k1 k2
    rw [Bool.and_eq_true] at k1 k2
    rw [eqv_eqD d e p p' k1.1 k2.1 t1 t2]
    exact q _ G H R (GLe.refl _) rfl
  · cases h3
theorem od_ne (hu : X.A.units + 64 < cLine) : OD C X (compareOp .NotEq) (fB dNe) := fun pins s σ H x y v u Q I rx ry ⟨N, G, S, τ, d, e, res, R, h1, h2, h3, q⟩ => by
  unfold fB dNe at h3
  split at h3
  · rename_i k
    rw [Bool.and_eq_true] at k
    cases h3
    obtain ⟨p, as, t1, r1, s1⟩ := okEq_data I R h1 rx k.1
    obtain ⟨p', bs, t2, r2, s2⟩ := okEq_data I R h2 ry k.2
    refine SeqAt.compareNe_shaped r1 r2 s1 s2 hu ⟨.bl _, H, I, rfl, ?_⟩
    have k1 := k.1
    have k2 := k.2
    unfold okEq at k1 k2
    rw [Bool.and_eq_true] at k1 k2
    rw [eqv_eqD d e p p' k1.1 k2.1 t1 t2]
    exact q _ G H R (GLe.refl _) rfl
  · cases h3
/-! ### is -/
def isNon : D → Bool
  | .non => true
  | _ => false
def dIs (d e : D) : Option Bool := match e with
  | .non => some (isNon d)
  | .bl b => match d with
    | .bl a => some (decide (a = b))
    | _ => none
  | _ => none
def dIsN (d e : D) : Option Bool := (dIs d e).map (!·)
theorem vh_isN {M : Mo} {G : Gh} {H : Hp} {v : V} {d : D} (h : VH M G H v d) : decide (v = .non) = isNon d := by
  cases d with
  | non => have e := vh_non h; subst e; rfl
  | _ => cases v <;> first | rfl | (exact absurd h (by intro z; cases z; done))
theorem od_is : OD C X (compareOp .Is) (fB dIs) := fun pins s σ H x y v u Q I rx ry ⟨N, G, S, τ, d, e, res, R, h1, h2, h3, q⟩ => by
  cases e with
  | non =>
    cases h3
    rw [vh_non h2] at ry
    exact op_isN pins s σ H _ _ v u Q I rx ry ⟨rfl, by rw [vh_isN h1]; exact q _ G H R (GLe.refl _) rfl⟩
  | bl b => cases d with
    | bl a => cases h3; rw [vh_bl h1] at rx; rw [vh_bl h2] at ry; exact op_is_bl pins s σ H _ _ v u Q I rx ry ⟨a, b, rfl, rfl, q _ G H R (GLe.refl _) rfl⟩
    | _ => cases h3
  | _ => cases h3
theorem od_isN : OD C X (compareOp .IsNot) (fB dIsN) := fun pins s σ H x y v u Q I rx ry ⟨N, G, S, τ, d, e, res, R, h1, h2, h3, q⟩ => by
  cases e with
  | non =>
    cases h3
    rw [vh_non h2] at ry
    exact op_notN pins s σ H _ _ v u Q I rx ry ⟨rfl, by rw [vh_isN h1]; exact q _ G H R (GLe.refl _) rfl⟩
  | bl b => cases d with
    | bl a => cases h3; rw [vh_bl h1] at rx; rw [vh_bl h2] at ry; exact op_isnot_bl pins s σ H _ _ v u Q I rx ry ⟨a, b, rfl, rfl, q _ G H R (GLe.refl _) rfl⟩
    | _ => cases h3
  | _ => cases h3
/-! ### subscripts -/
def dIx : D → D → Option Rv
  | .lst xs, .int i => (atI xs i).map .sh
  | .tup xs, .int i => (atI xs i).map .sh
  | .str z, .int i => (atI z.cps.toList i).map fun c => .sh (.str ⟨#[c]⟩)
  | _, _ => none
theorem atI_rel {M : Mo} {G : Gh} {vs : List V} {ds : List D} (r : RVs M G vs ds) {i : Int} {d : D} (h : atI ds i = some d) : ∃ v, atI vs i = some v ∧ RV M G v d := by
  unfold atI at h ⊢
  obtain ⟨j, h1, h2⟩ := Option.bind_eq_some_iff.mp h
  have hj : j < vs.length := by rw [Paired.length r]; exact (List.getElem?_eq_some_iff.mp h2).1
  refine ⟨vs[j], ?_, Paired.at2 r (List.getElem?_eq_getElem hj) h2⟩
  rw [Paired.length r, h1, Option.bind_some, List.getElem?_eq_getElem hj]
theorem atI_mem {α : Type} {xs : List α} {i : Int} {x : α} (h : atI xs i = some x) : x ∈ xs := by
  unfold atI at h
  obtain ⟨j, h1, h2⟩ := Option.bind_eq_some_iff.mp h
  exact List.mem_of_getElem? h2
theorem ix_D : IxR X (rD C X dIx) := fun value slice pins s σ H x y v u Q I rx ry ⟨N, G, S, τ, d, e, res, R, h1, h2, h3, q⟩ hs => by
  cases d with
  | lst xs => cases e with
    | int i =>
      obtain ⟨d, k1, rfl⟩ := Option.map_eq_some_iff.mp (show (atI xs i).map _ = some res from h3)
      obtain ⟨a, vs, rfl, ha, ra⟩ := vh_lst h1
      obtain ⟨w, k2, k3⟩ := atI_rel ra k1
      rw [vh_int h2] at ry
      exact ix_list value slice pins s σ H _ _ v u Q I rx ry ⟨a, vs, i, w, rfl, rfl, ha.sq, k2, q _ G H R (GLe.refl _) k3⟩ hs
    | _ => cases h3
  | tup xs => cases e with
    | int i =>
      obtain ⟨d, k1, rfl⟩ := Option.map_eq_some_iff.mp (show (atI xs i).map _ = some res from h3)
      obtain ⟨a, vs, rfl, ha, ra⟩ := vh_tup h1
      obtain ⟨w, k2, k3⟩ := atI_rel ra k1
      rw [vh_int h2] at ry
      exact ix_tup value slice pins s σ H _ _ v u Q I rx ry ⟨a, vs, i, w, rfl, rfl, ha, k2, q _ G H R (GLe.refl _) k3⟩ hs
    | _ => cases h3
  | str z => cases e with
    | int i =>
      obtain ⟨c, k1, rfl⟩ := Option.map_eq_some_iff.mp (show (atI z.cps.toList i).map _ = some res from h3)
      have k := vh_strOk h1
      rw [vh_str h1] at rx
      rw [vh_int h2] at ry
      exact ix_str value slice pins s σ H _ _ v u Q I rx ry ⟨z, i, c, rfl, rfl, okS_len k, k1, q _ G H R (GLe.refl _) ⟨rfl, okS_sign k (atI_mem k1)⟩⟩ hs
    | _ => cases h3
  | _ => cases h3
/-! ### slices -/
def cutL {α : Type} (xs : List α) (lo hi : Option Int) : List α := (xs.drop (HT.sIx xs.length 0 lo)).take (HT.sIx xs.length xs.length hi - HT.sIx xs.length 0 lo)
def dSl (lo hi : Option Int) : D → Option Rv
  | .lst xs => some (.ow (.lst (cutL xs lo hi)))
  | .tup xs => some (.sh (.tup (cutL xs lo hi)))
  | .str z => some (.sh (.str ⟨(cutL z.cps.toList lo hi).toArray⟩))
  | _ => none
theorem cutL_sub {α : Type} {xs : List α} {lo hi : Option Int} {x : α} (h : x ∈ cutL xs lo hi) : x ∈ xs := List.mem_of_mem_drop (List.mem_of_mem_take h)
theorem cutL_len {α : Type} (xs : List α) (lo hi : Option Int) : (cutL xs lo hi).length ≤ xs.length := by
  simp only [cutL, List.length_take, List.length_drop]
  omega
theorem cutL_rel {M : Mo} {G : Gh} {vs : List V} {ds : List D} (r : RVs M G vs ds) (lo hi : Option Int) : RVs M G (cutV vs lo hi) (cutL ds lo hi) := by
  unfold cutV cutL
  rw [Paired.length r]
  exact (r.drop _).take _
/-- the slice as a reading -/
def slD (C : Addr → Option D) (X : Cx) : V → Option Int → Option Int → Hp → VK → Prop := fun x lo hi H Q => ∃ (N : En) (G : Gh) (S : Sls) (σ : L2.St) (d : D) (res : Rv), SR (mo X C) N G S σ H ∧ VH (mo X C) G H x d ∧ dSl lo hi d = some res ∧
  ∀ v' G' H', SR (mo X C) N G' S σ H' → GLe G G' → RR (mo X C) N G' H' S σ v' res → Q v' H'
theorem sl_D : SlR X (slD C X) := fun pins s σ H x v vl vu lo hi sl Q I rx hs pl pu ⟨N, G, S, τ, d, res, R, h1, h3, q⟩ => by
  cases d with
  | lst xs =>
    cases h3
    obtain ⟨a, vs, rfl, ha, ra⟩ := vh_lst h1
    exact sl_list pins s σ H _ v vl vu lo hi sl Q I rx hs pl pu ⟨a, vs, rfl, ha.sq, R.newLst (cutL_rel ra lo hi) q⟩
  | tup xs =>
    cases h3
    obtain ⟨a, vs, rfl, ha, ra⟩ := vh_tup h1
    refine sl_tupA pins s σ H _ v vl vu lo hi sl Q I rx hs pl pu ⟨a, vs, rfl, ha, fun z => ?_, fun _ => R.newTup (cutL_rel ra lo hi) q⟩
    have e : cutL xs lo hi = xs := by
      rw [Paired.length ra] at z
      unfold cutL
      rw [z.1, z.2, List.drop_zero, Nat.sub_zero, List.take_length]
    rw [e] at q
    exact q _ G H R (GLe.refl _) (vh_rv h1 fun _ z => z)
  | str z =>
    cases h3
    have k := vh_strOk h1
    rw [vh_str h1] at rx
    refine sl_str pins s σ H _ v vl vu lo hi sl Q I rx hs pl pu ⟨z, rfl, okS_len k, ?_⟩
    have e : cutS z lo hi = ⟨(cutL z.cps.toList lo hi).toArray⟩ := by
      unfold cutS cutL
      rw [show z.cps.toList.length = z.length from Array.length_toList]
    rw [e]
    refine q _ G H R (GLe.refl _) ⟨rfl, okS_sub k (fun c hc => cutL_sub hc) ?_⟩
    have := cutL_len z.cps.toList lo hi
    have := okS_len k
    have same : z.cps.toList.length = z.length := Array.length_toList
    omega
  | _ => cases h3
end
end LD
/-! the data layer, part h: rules for subscripts, chains, and, or, displays, built-ins -/
namespace LD
open PySem PySem.Spec PyProof.Rows L2
section
variable {C : Addr → Option D} {X : Cx} {W : WX} {e a b c : Expr} {es : List Expr} {pos p2 p : Pos} {t t1 t2 t3 : E}
theorem de_ix (ha : DE C X W a t1) (hb : DE C X W b t2) (hs : PlainIx b) : DE C X W (.Subscript a b pos) (eBin dIx t1 t2) :=
  ⟨PE.imp (pe_ix ix_D ha.run hb.run hs) fun _ _ _ => bin_read (rD_opd C X dIx)⟩
/-! ### slices -/
abbrev O := Sls → Ou (Option Int)
abbrev relO : Gh → Hp → Sls → Option Int → Option Int → Prop := fun _ _ _ b c => b = c
structure DO (C : Addr → Option D) (X : Cx) (W : WX) (e : Option Expr) (t : O) : Prop where
  run : PO X e (fun σ H Q => ∃ N G S, SR (mo X C) N G S σ H ∧ Po (mo X C) W σ N relO G (t S) Q)
def oNo : O := fun S => .ok none S
def asI (S : Sls) (r : Rv) : Ou (Option Int) := match peek S r with
  | some (.int i) => .ok (some i) S
  | _ => .bad
def oSo (t : E) : O := fun S => (t S).bind fun r S1 => asI S1 r
theorem PO.imp {e : Option Expr} {t t' : TO} (h : PO X e t) (i : ∀ σ H Q, t' σ H Q → t σ H Q) : PO X e t' := ⟨fun pins s σ H Q I q => h.run pins s σ H Q I (i σ H Q q)⟩
theorem do_no : DO C X W none oNo := ⟨PO.imp po_none fun σ H Q ⟨N, G, S, R, q⟩ => q none G H R (GLe.refl _) rfl⟩
theorem do_so (h : DE C X W e t) : DO C X W (some e) (oSo t) := ⟨PO.imp (po_some h.run) fun σ H Q ⟨N, G, S, R, q⟩ => ⟨N, G, S, R, Po.bind q fun r S1 v G1 H1 R1 g1 h1 q1 => by
  unfold asI at q1
  split at q1
  · rename_i i hp
    have z := vh_int (R1.peek h1 hp)
    exact ⟨i, z, q1 (some i) G1 H1 R1 (GLe.refl _) rfl⟩
  · exact q1.elim⟩⟩
def eSl (t : E) (lo hi : O) : E := fun S => (t S).bind fun r S1 => (lo S1).bind fun l S2 => (hi S2).bind fun h S3 => on1 (dSl l h) S3 r
theorem on1_hold {f : D → Option Rv} {S : Sls} {r : Rv} : on1 f S r.hold = on1 f S r := by unfold on1; rw [peek_hold]
theorem de_sl {lo hi : Option Expr} {tl th : O} (he : DE C X W e t) (hl : DO C X W lo tl) (hh : DO C X W hi th) : DE C X W (.Subscript e (.Slice lo hi none p2) pos) (eSl t tl th) :=
  ⟨PE.imp (pe_slice (sl_D (C := C)) he.run hl.run hh.run) fun σ H Q ⟨N, G, S, R, q⟩ => ⟨N, G, S, R, Po.bindH q fun r S1 v G1 H1 R1 g1 h1 q1 => ⟨N, G1, S1, R1, Po.bind q1 fun l S2 l' G2 H2 R2 g2 h2 q2 =>
    ⟨N, G2, S2, R2, Po.bind q2 fun u S3 u' G3 H3 R3 g3 h3 q3 => by
      have e1 : l' = l := h2
      have e2 : u' = u := h3
      subst e1 e2
      rw [← on1_hold] at q3
      exact on1_run R3 ((h1.mono (g2.trans g3)).rr) q3 fun d res k1 k2 k3 => ⟨N, G3, S3, σ, d, res, R3, k1, k2, k3⟩⟩⟩⟩⟩
/-! ### a < b < c -/
def eChain (f f' : D → D → Option Rv) (t1 t2 t3 : E) : E := fun S => (t1 S).bind fun r1 S1 => (t2 S1).bind fun r2 S2 => (on2 f S2 r1 r2.hold).bind fun r S3 => match peek S3 r with
  | some (.bl true) => (t3 S3).bind fun r3 S5 => on2 f' S5 r2.hold r3
  | some (.bl false) => .ok (.sh (.bl false)) S3
  | _ => .bad
theorem on2_run' {M : Mo} {N : En} {G : Gh} {S : Sls} {σ : L2.St} {H : Hp} {v u : V} {r1 r2 : Rv} {f : D → D → Option Rv} {Q : VK} (R : SR (mo X C) N G S σ H) (h1 : RR (mo X C) N G H S σ v r1) (h2 : RR (mo X C) N G H S σ u r2)
    (q : Po (mo X C) W σ N (relE (mo X C) N σ) G (on2 f S r1 r2) Q) : rD C X f v u H Q := on2_run R h1 h2 q fun d e res k1 k2 k3 k4 => ⟨N, G, S, σ, d, e, res, R, k1, k2, k3, k4⟩
theorem chain_read {f f' : D → D → Option Rv} {σ : L2.St} {H : Hp} {Q : VK} (h : tE (mo X C) W (eChain f f' t1 t2 t3) σ H Q) : tChain (rD C X f) (rD C X f') (tE (mo X C) W t1) (tE (mo X C) W t2) (tE (mo X C) W t3) σ H Q := by
  obtain ⟨N, G, S, R, q⟩ := h
  refine ⟨N, G, S, R, Po.bindH q fun r1 S1 v1 G1 H1 R1 g1 h1 q1 => ⟨N, G1, S1, R1, Po.bindH q1 fun r2 S2 v2 G2 H2 R2 g2 h2 q2 => ?_⟩⟩
  rw [← on2_hold] at q2
  refine on2_run' (M := mo X C) (N := N) (W := W) R2 (h1.mono g2).rr h2.rr (Po.bind q2 fun r S3 v3 G3 H3 R3 g3 h3 q3 => ?_)
  split at q3
  · rename_i hp
    have e := vh_bl (R3.peek h3 hp)
    subst e
    refine ⟨true, rfl, ?_⟩
    rw [if_pos rfl]
    exact ⟨N, G3, S3, R3, Po.bind q3 fun r3 S5 v5 G5 H5 R5 g5 h5 q5 => on2_run' (M := mo X C) (W := W) R5 ((h2.mono (g3.trans g5)).rr) h5 q5⟩
  · rename_i hp
    have e := vh_bl (R3.peek h3 hp)
    subst e
    refine ⟨false, rfl, ?_⟩
    rw [if_neg (by decide)]
    exact q3 _ G3 H3 R3 (GLe.refl _) rfl
  · exact q3.elim
theorem de_chain {op op' : CmpOp} {f f' : D → D → Option Rv} (ho : OD C X (compareOp op) f) (ho' : OD C X (compareOp op') f') (ha : DE C X W a t1) (hb : DE C X W b t2) (hc : DE C X W c t3) (hm : lastMarks [op, op'] [b, c] = false) : DE C X W (.Compare a [op, op'] [b, c] pos) (eChain f f' t1 t2 t3) :=
  ⟨PE.imp (pe_chain ho ho' ha.run hb.run hc.run hm) fun _ _ _ => chain_read⟩
theorem dt_chain {op op' : CmpOp} {f f' : D → D → Option Rv} (ho : OD C X (compareOp op) f) (ho' : OD C X (compareOp op') f') (ha : DE C X W a t1) (hb : DE C X W b t2) (hc : DE C X W c t3) (hm : lastMarks [op, op'] [b, c] = false) : DT C X W (.Compare a [op, op'] [b, c] pos) (tOf (eChain f f' t1 t2 t3)) :=
  ⟨PT.imp (pt_chain ho ho' ha.run hb.run hc.run hm) fun _ _ Q h => chain_read (Q := fun x H1 => ∃ k, x = .bl k ∧ Q k H1) (tof_read h)⟩
/-- a < b < c < d -/
def eChain3 (f f' f'' : D → D → Option Rv) (t1 t2 t3 t4 : E) : E := fun S => (t1 S).bind fun r1 S1 => (t2 S1).bind fun r2 S2 => (on2 f S2 r1 r2.hold).bind fun r S3 => match peek S3 r with
  | some (.bl true) => (t3 S3).bind fun r3 S4 => (on2 f' S4 r2.hold r3.hold).bind fun r' S5 => match peek S5 r' with
    | some (.bl true) => (t4 S5).bind fun r4 S6 => on2 f'' S6 r3.hold r4
    | some (.bl false) => .ok (.sh (.bl false)) S5
    | _ => .bad
  | some (.bl false) => .ok (.sh (.bl false)) S3
  | _ => .bad
def tChain3 (r r' r'' : R2) (ta tb tc td : TE) : TE := fun σ H Q => ta σ H fun x H1 => tb σ H1 fun y H2 => r x y H2 fun z H3 => ∃ k, z = .bl k ∧
  (if k = true then tc σ H3 fun w' H4 => r' y w' H4 fun z' H5 => ∃ k', z' = .bl k' ∧ (if k' = true then td σ H5 fun u' H6 => r'' w' u' H6 Q else Q (.bl false) H5) else Q (.bl false) H3)
theorem pe_chain3 {d : Expr} {op op' op'' : CmpOp} {r r' r'' : R2} {ta tb tc td : TE} (ho : OpR X (compareOp op) r) (ho' : OpR X (compareOp op') r') (ho'' : OpR X (compareOp op'') r'') (ha : PE X a ta) (hb : PE X b tb) (hc : PE X c tc) (hd : PE X d td)
    (hm : lastMarks [op, op', op''] [b, c, d] = false) : PE X (.Compare a [op, op', op''] [b, c, d] pos) (tChain3 r r' r'' ta tb tc td) := by
  refine ⟨fun pins s σ H Q I h => Compare_chain (thn (ha.run pins s σ H _ I h) fun v s1 ⟨x, H1, I1, r1, q1⟩ => chain_link (thn (hb.run pins s1 σ H1 _ I1 q1) fun u s2 ⟨y, H2, I2, r2, q2⟩ =>
    thn (ho pins s2 σ H2 x y v u _ I2 r1 r2 q2) fun d s3 ⟨z, H3, I3, r3, k, e, q3⟩ => ?_)) hm⟩
  subst e; cases r3
  refine wpAny_truthy_bool ?_
  cases k with
  | false => refine ite_ff ?_; exact ⟨.bl false, H3, I3, rfl, q3⟩
  | true =>
    refine ite_tt (chain_link (thn (hc.run pins s3 σ H3 _ I3 q3) fun w' s4 ⟨y', H4, I4, r4, q4⟩ => thn (ho' pins s4 σ H4 y y' u w' _ I4 r2 r4 q4) fun d' s5 ⟨z', H5, I5, r5, k', e', q5⟩ => ?_))
    subst e'; cases r5
    refine wpAny_truthy_bool ?_
    cases k' with
    | false => exact ite_ff ⟨.bl false, H5, I5, rfl, q5⟩
    | true => exact ite_tt (chain_last (thn (hd.run pins s5 σ H5 _ I5 q5) fun w2 s6 ⟨z2, H6, I6, r6, q6⟩ => ho'' pins s6 σ H6 y' z2 w' w2 Q I6 r4 r6 q6))
theorem de_chain3 {d : Expr} {op op' op'' : CmpOp} {f f' f'' : D → D → Option Rv} {t4 : E} (ho : OD C X (compareOp op) f) (ho' : OD C X (compareOp op') f') (ho'' : OD C X (compareOp op'') f'') (ha : DE C X W a t1) (hb : DE C X W b t2) (hc : DE C X W c t3) (hd : DE C X W d t4)
    (hm : lastMarks [op, op', op''] [b, c, d] = false) : DE C X W (.Compare a [op, op', op''] [b, c, d] pos) (eChain3 f f' f'' t1 t2 t3 t4) :=
  ⟨PE.imp (pe_chain3 ho ho' ho'' ha.run hb.run hc.run hd.run hm) fun σ H Q ⟨N, G, S, R, q⟩ => ⟨N, G, S, R, Po.bindH q fun r1 S1 v1 G1 H1 R1 g1 h1 q1 => ⟨N, G1, S1, R1, Po.bindH q1 fun r2 S2 v2 G2 H2 R2 g2 h2 q2 => by
    rw [← on2_hold] at q2
    refine on2_run' (M := mo X C) (N := N) (W := W) R2 (h1.mono g2).rr h2.rr (Po.bind q2 fun r S3 v3 G3 H3 R3 g3 h3 q3 => ?_)
    split at q3
    · rename_i hp
      have e := vh_bl (R3.peek h3 hp)
      subst e
      refine ⟨true, rfl, ?_⟩
      rw [if_pos rfl]
      refine ⟨N, G3, S3, R3, Po.bindH q3 fun r3 S4 v4 G4 H4 R4 g4 h4 q4 => ?_⟩
      refine on2_run' (M := mo X C) (N := N) (W := W) R4 (h2.mono (g3.trans g4)).rr h4.rr (Po.bind q4 fun r' S5 v5 G5 H5 R5 g5 h5 q5 => ?_)
      split at q5
      · rename_i hp
        have e := vh_bl (R5.peek h5 hp)
        subst e
        refine ⟨true, rfl, ?_⟩
        rw [if_pos rfl]
        exact ⟨N, G5, S5, R5, Po.bind q5 fun r4 S6 v6 G6 H6 R6 g6 h6 q6 => on2_run' (M := mo X C) (W := W) R6 ((h4.mono (g5.trans g6)).rr) h6 q6⟩
      · rename_i hp
        have e := vh_bl (R5.peek h5 hp)
        subst e
        refine ⟨false, rfl, ?_⟩
        rw [if_neg (by decide)]
        exact q5 _ G5 H5 R5 (GLe.refl _) rfl
      · exact q5.elim
    · rename_i hp
      have e := vh_bl (R3.peek h3 hp)
      subst e
      refine ⟨false, rfl, ?_⟩
      rw [if_neg (by decide)]
      exact q3 _ G3 H3 R3 (GLe.refl _) rfl
    · exact q3.elim⟩⟩⟩
end
/-! ### truth -/
def truth : D → Option Bool
  | .non => some false
  | .bl b => some b
  | .int i => some (i != 0)
  | .str x => some (x.length != 0)
  | .tup xs => some (!xs.isEmpty)
  | .lst xs => some (!xs.isEmpty)
  | .dct kvs => some (!kvs.isEmpty)
  | _ => none
/-- the truth of data: to be told of the value by the abstract heap -/
def TruD (C : Addr → Option D) (X : Cx) : Prop := ∀ (pins : List (Addr × Obj)) (s : Shared) (σ : L2.St) (H : Hp) (x : V) (v : Value) (Q : Bool → Hp → Prop) (N : En) (G : Gh) (S : Sls) (τ : L2.St) (d : D) (k : Bool), Inv X pins σ H s → RelV x v →
  SR (mo X C) N G S τ H → VH (mo X C) G H x d → truth d = some k → Q k H → wpAny (model X.prog X.w) X.A (truthy v) (TP X pins σ Q) X.xe s
def asT (S : Sls) (r : Rv) : Ou Bool := match (peek S r).bind truth with
  | some b => .ok b S
  | none => .bad
def tTru (t : E) : T := fun S => (t S).bind fun r S1 => asT S1 r
theorem asT_run {M : Mo} {W : WX} {N : En} {G : Gh} {S : Sls} {σ : L2.St} {H : Hp} {v : V} {r : Rv} {Q : Bool → Hp → Prop} (R : SR M N G S σ H) (h1 : RR M N G H S σ v r) (q : Po M W σ N relT G (asT S r) Q) : ∃ d b, VH M G H v d ∧ truth d = some b ∧ Q b H := by
  unfold asT at q
  cases hp : peek S r with
  | none => rw [hp] at q; exact q.elim
  | some d =>
    rw [hp, Option.bind_some] at q
    cases ht : truth d with
    | none => rw [ht] at q; exact q.elim
    | some b => rw [ht] at q; exact ⟨d, b, R.peek h1 hp, ht, q b G H R (GLe.refl _) rfl⟩
section
variable {C : Addr → Option D} {X : Cx} {W : WX} {e a b c : Expr} {es : List Expr} {pos p2 p : Pos} {t t1 t2 t3 : E}
theorem dt_tru (T0 : TruD C X) (h : DE C X W e t) (he : ∀ whole, isTrue e X.env whole = (do let v ← whole; standAt e.pos; holding [v] (truthy v)) := by intro _; rfl) : DT C X W e (tTru t) :=
  ⟨⟨fun pins s σ H Q I ⟨N, G, S, R, q⟩ => isTrue_plain (thn (h.run.run pins s σ H (fun x H1 => ∃ N G S d b, SR (mo X C) N G S σ H1 ∧ VH (mo X C) G H1 x d ∧ truth d = some b ∧ Q b H1) I ⟨N, G, S, R, Po.bind q fun r S1 v G1 H1 R1 g1 h1 q1 => by
      obtain ⟨d, b, k1, k2, k3⟩ := asT_run R1 h1 q1
      exact ⟨N, G1, S1, d, b, R1, k1, k2, k3⟩⟩) fun v s1 ⟨x, H1, I1, r1, N1, G1, S1, d, b, R1, k1, k2, k3⟩ => T0 pins s1 σ H1 x v Q N1 G1 S1 σ d b I1 r1 R1 k1 k2 k3) (he _)⟩⟩
/-- x and y, x or y, as values -/
def eAndV (t u : E) : E := fun S => (t S).bind fun r S1 => (asT S1 r).bind fun k S2 => if k = true then u S2 else .ok r.hold S2
def eOrV (t u : E) : E := fun S => (t S).bind fun r S1 => (asT S1 r).bind fun k S2 => if k = true then .ok r.hold S2 else u S2
theorem asT_S {S S' : Sls} {r : Rv} {b : Bool} (h : asT S r = .ok b S') : S' = S := by
  unfold asT at h
  split at h
  · cases h; rfl
  · cases h
theorem asT_ex {S S' : Sls} {r : Rv} {e : Ex} (h : asT S r = .ex e S') : False := by
  unfold asT at h
  split at h <;> cases h
theorem asT_bind {M : Mo} {W : WX} {N : En} {G : Gh} {S : Sls} {σ : L2.St} {H : Hp} {v : V} {r : Rv} {α β : Type} {rel : Gh → Hp → Sls → β → α → Prop} {k : Bool → Sls → Ou α} {Q : β → Hp → Prop} (R : SR M N G S σ H) (h1 : RR M N G H S σ v r) (q : Po M W σ N rel G ((asT S r).bind k) Q) :
    ∃ d b, VH M G H v d ∧ truth d = some b ∧ Po M W σ N rel G (k b S) Q := by
  unfold asT at q
  cases hp : peek S r with
  | none => rw [hp] at q; exact q.elim
  | some d =>
    rw [hp, Option.bind_some] at q
    cases ht : truth d with
    | none => rw [ht] at q; exact q.elim
    | some b => rw [ht] at q; exact ⟨d, b, R.peek h1 hp, ht, q⟩
theorem asT_hold {S : Sls} {r : Rv} : asT S r.hold = asT S r := by unfold asT; rw [peek_hold]
theorem de_one {op : BoolOp} (h : DE C X W a t) : DE C X W (.BoolOp op [a] pos) t := ⟨pe_one h.run⟩
theorem de_and {rest : List Expr} (T0 : TruD C X) (ha : DE C X W a t1) (hb : DE C X W (.BoolOp .And (b :: rest) pos) t2) : DE C X W (.BoolOp .And (a :: b :: rest) pos) (eAndV t1 t2) :=
  ⟨⟨fun pins s σ H Q I ⟨N, G, S, R, q⟩ => BoolOp_and (thn (ha.run.run pins s σ H (fun x H1 => ∃ (G : Gh) (S : Sls) (r : Rv) (d : D) (k : Bool), SR (mo X C) N G S σ H1 ∧ HR (mo X C) G σ x r.hold ∧ VH (mo X C) G H1 x d ∧ truth d = some k ∧ Po (mo X C) W σ N (relE (mo X C) N σ) G (if k = true then t2 S else .ok r.hold S) Q) I
      ⟨N, G, S, R, Po.bindH q fun r S1 v G1 H1 R1 g1 h1 q1 => by
        rw [← asT_hold] at q1
        obtain ⟨d, k, k1, k2, k3⟩ := asT_bind R1 h1.rr q1
        exact ⟨G1, S1, r, d, k, R1, h1, k1, k2, k3⟩⟩)
      fun v s1 ⟨x, H1, I1, r1, G1, S1, r, d, k, R1, h1, k1, k2, k3⟩ => thn (T0 pins s1 σ H1 x v (fun c H2 => c = k ∧ H2 = H1) N G1 S1 σ d k I1 r1 R1 k1 k2 ⟨rfl, rfl⟩) fun c s2 ⟨H2, I2, e1, e2⟩ => by
        subst e1 e2
        cases c with
        | true => exact hb.run.run pins s2 σ H2 Q I2 ⟨N, G1, S1, R1, k3⟩
        | false => exact ⟨x, H2, I2, r1, k3 x G1 H2 R1 (GLe.refl _) h1.rr⟩)⟩⟩
theorem de_or {rest : List Expr} (T0 : TruD C X) (ha : DE C X W a t1) (hb : DE C X W (.BoolOp .Or (b :: rest) pos) t2) : DE C X W (.BoolOp .Or (a :: b :: rest) pos) (eOrV t1 t2) :=
  ⟨⟨fun pins s σ H Q I ⟨N, G, S, R, q⟩ => BoolOp_or (thn (ha.run.run pins s σ H (fun x H1 => ∃ (G : Gh) (S : Sls) (r : Rv) (d : D) (k : Bool), SR (mo X C) N G S σ H1 ∧ HR (mo X C) G σ x r.hold ∧ VH (mo X C) G H1 x d ∧ truth d = some k ∧ Po (mo X C) W σ N (relE (mo X C) N σ) G (if k = true then .ok r.hold S else t2 S) Q) I
      ⟨N, G, S, R, Po.bindH q fun r S1 v G1 H1 R1 g1 h1 q1 => by
        rw [← asT_hold] at q1
        obtain ⟨d, k, k1, k2, k3⟩ := asT_bind R1 h1.rr q1
        exact ⟨G1, S1, r, d, k, R1, h1, k1, k2, k3⟩⟩)
      fun v s1 ⟨x, H1, I1, r1, G1, S1, r, d, k, R1, h1, k1, k2, k3⟩ => thn (T0 pins s1 σ H1 x v (fun c H2 => c = k ∧ H2 = H1) N G1 S1 σ d k I1 r1 R1 k1 k2 ⟨rfl, rfl⟩) fun c s2 ⟨H2, I2, e1, e2⟩ => by
        subst e1 e2
        cases c with
        | false => exact hb.run.run pins s2 σ H2 Q I2 ⟨N, G1, S1, R1, k3⟩
        | true => exact ⟨x, H2, I2, r1, k3 x G1 H2 R1 (GLe.refl _) h1.rr⟩)⟩⟩
/-- not x, as a value -/
def eNotV (t : E) : E := fun S => (t S).bind fun r S1 => (asT S1 r).bind fun k S2 => .ok (.sh (.bl (!k))) S2
theorem de_not (T0 : TruD C X) (ha : DE C X W a t) : DE C X W (.UnaryOp .Not a pos) (eNotV t) :=
  ⟨⟨fun pins s σ H Q I ⟨N, G, S, R, q⟩ => UnaryOp_ (thn (ha.run.run pins s σ H (fun x H1 => ∃ G S d k, SR (mo X C) N G S σ H1 ∧ VH (mo X C) G H1 x d ∧ truth d = some k ∧ Q (.bl (!k)) H1) I
      ⟨N, G, S, R, Po.bind q fun r S1 v G1 H1 R1 g1 h1 q1 => by
        obtain ⟨d, k, k1, k2, k3⟩ := asT_bind R1 h1 q1
        exact ⟨G1, S1, d, k, R1, k1, k2, k3 _ G1 H1 R1 (GLe.refl _) rfl⟩⟩)
      fun v s1 ⟨x, H1, I1, r1, G1, S1, d, k, R1, k1, k2, k3⟩ => not_of (thn (T0 pins s1 σ H1 x v (fun c H2 => Q (.bl (!c)) H2) N G1 S1 σ d k I1 r1 R1 k1 k2 k3) fun c s2 ⟨H2, I2, q2⟩ => ⟨.bl (!c), H2, I2, rfl, q2⟩))⟩⟩
/-! ### displays -/
def aStar (t : E) (ts : Es) : Es := fun S => (t S).bind fun r S1 => match frz S1 r with
  | some (d, S2) => match seqItems d with
    | some ds => (ts S2).bind fun rs S3 => .ok (ds.map .sh ++ rs) S3
    | none => .bad
  | none => .bad
theorem HR.appendSh {M : Mo} {G : Gh} {σ : L2.St} {ws : List V} {rs : List Rv} (k : Paired (HR M G σ) ws rs) : ∀ {vs : List V} {ds : List D}, RVs M G vs ds → Paired (HR M G σ) (vs ++ ws) (ds.map .sh ++ rs)
  | _, _, .nil => k
  | _, _, .cons r t => .cons r (HR.appendSh k t)
theorem da_star {ts : Es} (ha : DE C X W e t) (hr : DA C X W es ts) (hs : starEach (.Starred e p :: es) X.env = (true, eval e X.env) :: starEach es X.env := by rfl) : DA C X W (.Starred e p :: es) (aStar t ts) :=
  ⟨PA.imp (StX.pa_star ha.run hr.run hs) fun σ H Q ⟨N, G, S, R, q⟩ => ⟨N, G, S, R, Po.bind q fun r S1 v G1 H1 R1 g1 h1 q1 => by
    cases hf : frz S1 r with
    | none => rw [hf] at q1; exact q1.elim
    | some z =>
      obtain ⟨d, S2⟩ := z
      rw [hf] at q1
      obtain ⟨G2, R2, g2, r2⟩ := R1.frz h1 hf
      dsimp only at q1
      have hv := r2.vh R2
      cases d with
      | tup ds =>
        replace q1 : Po (mo X C) W σ N (relA (mo X C) σ) G2 ((ts S2).bind fun rs S3 => .ok (ds.map .sh ++ rs) S3) Q := Po.up q1 g2
        obtain ⟨a, vs, rfl, k1, k2⟩ := vh_tup hv
        exact ⟨a, vs, rfl, .inl k1, N, G2, S2, R2, Po.bind q1 fun rs S3 ws G3 H3 R3 g3 h3 q3 => q3 _ G3 H3 R3 (GLe.refl _) (HR.appendSh h3 (RVs.mono k2 g3))⟩
      | lst ds =>
        replace q1 : Po (mo X C) W σ N (relA (mo X C) σ) G2 ((ts S2).bind fun rs S3 => .ok (ds.map .sh ++ rs) S3) Q := Po.up q1 g2
        obtain ⟨a, vs, rfl, k1, k2⟩ := vh_lst hv
        exact ⟨a, vs, rfl, .inr k1.sq, N, G2, S2, R2, Po.bind q1 fun rs S3 ws G3 H3 R3 g3 h3 q3 => q3 _ G3 H3 R3 (GLe.refl _) (HR.appendSh h3 (RVs.mono k2 g3))⟩
      | _ => exact q1.elim⟩⟩
def eTup (ts : Es) : E := fun S => (ts S).bind fun rs S1 => match frzs S1 rs with
  | some (ds, S2) => if ds.length ≤ sizeLine then .ok (.sh (.tup ds)) S2 else .bad
  | none => .bad
def eLst (ts : Es) : E := fun S => (ts S).bind fun rs S1 => match frzs S1 rs with
  | some (ds, S2) => if ds.length ≤ sizeLine then .ok (.ow (.lst ds)) S2 else .bad
  | none => .bad
theorem de_tup {ts : Es} {k : Nat} (h : DA C X W es ts) : DE C X W (.Tuple es k pos) (eTup ts) :=
  ⟨PE.imp (pe_tup h.run) fun σ H Q ⟨N, G, S, R, q⟩ => ⟨N, G, S, R, Po.bind q fun rs S1 vs G1 H1 R1 g1 h1 q1 => by
    cases hf : frzs S1 rs with
    | none => rw [hf] at q1; exact q1.elim
    | some z =>
      obtain ⟨ds, S2⟩ := z
      rw [hf] at q1
      obtain ⟨G2, R2, g2, r2⟩ := R1.frzs h1 hf
      replace q1 : Po (mo X C) W σ N (relE (mo X C) N σ) G2 (if ds.length ≤ sizeLine then .ok (.sh (.tup ds)) S2 else .bad) Q := Po.up q1 g2
      split at q1
      · rename_i hl
        exact ⟨by rw [Paired.length r2]; exact hl, R2.newTup r2 q1⟩
      · exact q1.elim⟩⟩
theorem de_lst {ts : Es} (h : DA C X W es ts) : DE C X W (.List es pos) (eLst ts) :=
  ⟨PE.imp (pe_lst h.run) fun σ H Q ⟨N, G, S, R, q⟩ => ⟨N, G, S, R, Po.bind q fun rs S1 vs G1 H1 R1 g1 h1 q1 => by
    cases hf : frzs S1 rs with
    | none => rw [hf] at q1; exact q1.elim
    | some z =>
      obtain ⟨ds, S2⟩ := z
      rw [hf] at q1
      obtain ⟨G2, R2, g2, r2⟩ := R1.frzs h1 hf
      replace q1 : Po (mo X C) W σ N (relE (mo X C) N σ) G2 (if ds.length ≤ sizeLine then .ok (.ow (.lst ds)) S2 else .bad) Q := Po.up q1 g2
      split at q1
      · rename_i hl
        exact ⟨by rw [Paired.length r2]; exact hl, R2.newLst r2 q1⟩
      · exact q1.elim⟩⟩
end
end LD
/-! the data layer, part i: truth, len, isinstance, int, str, abs, list, tuple, sum, all, any, min, max -/
namespace LD
open PySem PySem.Spec PyProof.Rows L2
theorem dct_raw {X : Cx} {C : Addr → Option D} {pins : List (Addr × Obj)} {σ : L2.St} {H : Hp} {s : Shared} {a : Addr} {es : Ents} (I : Inv X pins σ H s) (h : Dct (mo X C) H a es) :
    (a == sysModules) = false ∧ es.length ≤ sizeLine ∧ ∃ arr ep, s.heap.DictRaw a arr ep ∧ arr.toList = es.map entOf ∧ arr.size = es.length := by
  obtain ⟨hs, o, ho, hz, hc, arr, ep, hd, he⟩ := dct_obj I h
  refine ⟨hs, hz, arr, ep, ⟨o, ho, hc, hd⟩, he, ?_⟩
  have en := congrArg List.length he
  simpa using en
section
variable {P : Program} {w : World} {A : Around} {EE : Value → Shared → Prop} {s : Shared}
/-- len of a dict of which only the entries are known -/
theorem len_body_raw {a : Addr} {ents : Array DictEntry} {ep : Nat} {R : Value → Shared → Prop} (ne : (a == sysModules) = false) (raw : s.heap.DictRaw a ents ep) (few : ents.size ≤ sizeLine)
    (q : R (.int ents.size (s.toks + 1)) { s with toks := s.toks + 1 + 1 }) : wpAny (model P w) A (Builtin.«len» ⟨[.ref a], []⟩) (fun fin s' => ∃ r, fin = .done (.ret r) ∧ R r s') EE s := by
  have big := L2.line63
  have nn : ¬ ((ents.size : Nat) : Int) < 0 := by omega
  have nb : ¬ ((ents.size : Nat) : Int) ≥ 2 ^ 63 := by omega
  unfold Builtin.«len»
  refine wpAny_bind (wpAny_pure (wpAny_bind (wpAny_callSpecial?_slot (name := Str.ofString "__len__") raw.typeIs F.slot_dict_len (call_len_raw ne raw ?_))))
  show wpAny (model P w) A _ _ EE { s with toks := s.toks + 1 }
  refine wpAny_bind (wpAny_holding (wpAny_pure (wpAny_bind (wpAny_letGo ?_))))
  show wpAny _ _ (if ((ents.size : Nat) : Int) < 0 then _ else _) _ _ _
  rw [if_neg nn]
  show wpAny _ _ (if ((ents.size : Nat) : Int) ≥ 2 ^ 63 then _ else _) _ _ _
  rw [if_neg nb]
  refine wpAny_bind (wpAny_mkInt (wpAny_pure ⟨_, rfl, q⟩))
theorem len_raw {a : Addr} {ents : Array DictEntry} {ep : Nat} {R : Value → Shared → Prop} (ne : (a == sysModules) = false) (raw : s.heap.DictRaw a ents ep) (few : ents.size ≤ sizeLine)
    (q : R (.int ents.size (s.toks + 1)) { s with toks := s.toks + 1 + 1 }) : wpAny (model P w) A (call (.builtin "len") [.ref a]) R EE s :=
  Calls.call_function_entry kind_len plain_len entry_len (args_len1 _) (len_body_raw ne raw few q)
theorem truthy_raw {a : Addr} {ents : Array DictEntry} {ep : Nat} {R : Bool → Shared → Prop} (ne : (a == sysModules) = false) (raw : s.heap.DictRaw a ents ep) (few : ents.size ≤ sizeLine)
    (q : R ((ents.size : Int) != 0) { s with toks := s.toks + 1 + 1 }) : wpAny (model P w) A (truthy (.ref a)) R EE s := by
  have body := len_body_raw (P := P) (w := w) (A := A.in1) (EE := EE) (R := fun r s' => r = .int ents.size (s.toks + 1) ∧ R ((ents.size : Int) != 0) s') ne raw few ⟨rfl, q⟩
  have told : wpAny (model P w) A (runValue (.builtin "len" ⟨[.ref a], []⟩)) (fun r s' => r = .int ents.size (s.toks + 1) ∧ R ((ents.size : Int) != 0) s') EE s :=
    wpAny_runValue (codeAny_builtin entry_len (by rw [Around.under_plainId plain_len]; exact wpAny_mono body (fun fin s' ⟨r, e, hq⟩ => by subst e; exact hq) fun _ _ e => e))
  have last : ∀ {k : Value → Sem Bool}, (∀ s', R ((ents.size : Int) != 0) s' → wpAny (model P w) A (k (.int ents.size (s.toks + 1))) R EE s') → wpAny (model P w) A (runValue (.builtin "len" ⟨[.ref a], []⟩) >>= k) R EE s := fun {k} hk =>
    wpAny_bind (wpAny_mono told (fun r s' ⟨e, hq⟩ => by subst e; exact hk s' hq) fun _ _ e => e)
  unfold truthy
  refine wpAny_bind (wpAny_callSpecial?_none (name := Str.ofString "__bool__") raw.typeIs noBool_dict (wpAny_bind (wpAny_specialOf (name := Str.ofString "__len__") raw.typeIs F.slot_dict_len.lookup ?_)))
  exact last fun s1 h1 => wpAny_pure h1
end
section
variable {C : Addr → Option D} {X : Cx}
theorem tru_D : TruD C X := fun pins s σ H x v Q N G S τ d k I rx R h1 ht q => by
  cases d with
  | non => cases ht; rw [vh_non h1] at rx; exact tru_ok pins s σ H _ v Q I rx ⟨_, rfl, q⟩
  | bl b => cases ht; rw [vh_bl h1] at rx; exact tru_ok pins s σ H _ v Q I rx ⟨_, rfl, q⟩
  | int i => cases ht; rw [vh_int h1] at rx; exact tru_ok pins s σ H _ v Q I rx ⟨_, rfl, q⟩
  | str y =>
    cases ht
    have hk := vh_strOk h1
    rw [vh_str h1] at rx
    refine tru_ok pins s σ H _ v Q I rx ⟨_, ⟨okS_len hk, rfl⟩, ?_⟩
    have e : (((y.length : Nat) : Int) != 0) = (y.length != 0) := by
      cases y.length with
      | zero => rfl
      | succ n => rw [show (((n + 1 : Nat) : Int) != 0) = true by rw [bne_iff_ne]; omega]; rfl
    rw [e]
    exact q
  | tup xs =>
    cases ht
    obtain ⟨a, vs, rfl, ha, ra⟩ := vh_tup h1
    refine tru_ok pins s σ H _ v Q I rx ⟨_, .inr (.inl ⟨vs, ha, rfl⟩), ?_⟩
    have e : vs.isEmpty = xs.isEmpty := by cases ra <;> rfl
    rw [e]; exact q
  | lst xs =>
    cases ht
    obtain ⟨a, vs, rfl, ha, ra⟩ := vh_lst h1
    refine tru_ok pins s σ H _ v Q I rx ⟨_, .inl ⟨vs, ha.sq, rfl⟩, ?_⟩
    have e : vs.isEmpty = xs.isEmpty := by cases ra <;> rfl
    rw [e]; exact q
  | dct kvs =>
    cases ht
    obtain ⟨a, es, rfl, ha, ra, _⟩ := vh_dct h1
    cases rx
    obtain ⟨hs, hz, arr, ep, hr, he, hl⟩ := dct_raw I ha
    refine truthy_raw hs hr (by omega) ⟨H, I.tok _, ?_⟩
    have e : (((arr.size : Nat) : Int) != 0) = !kvs.isEmpty := by
      rw [hl, Paired.length ra]
      cases kvs with
      | nil => rfl
      | cons p r => rw [show (((List.length (p :: r) : Nat) : Int) != 0) = true by rw [bne_iff_ne, List.length_cons]; omega]; rfl
    rw [e]
    exact q
  | _ => cases ht
/-! ### len -/
def dLen : List D → Option Rv
  | [.str z] => some (.sh (.int z.length))
  | [.tup xs] => some (.sh (.int xs.length))
  | [.lst xs] => some (.sh (.int xs.length))
  | [.dct kvs] => some (.sh (.int kvs.length))
  | _ => none
theorem paired_one {M : Mo} {G : Gh} {H : Hp} {vs : List V} {d : D} (h : Paired (VH M G H) vs [d]) : ∃ v, vs = [v] ∧ VH M G H v d := by
  cases h with
  | cons r t => cases t; exact ⟨_, rfl, r⟩
theorem paired_two {M : Mo} {G : Gh} {H : Hp} {vs : List V} {d e : D} (h : Paired (VH M G H) vs [d, e]) : ∃ v u, vs = [v, u] ∧ VH M G H v d ∧ VH M G H u e := by
  cases h with
  | cons r t => cases t with
    | cons r' t' => cases t'; exact ⟨_, _, rfl, r, r'⟩
theorem cd_len : CD C X (.builtin "len") dLen := fun pins s σ H xs us Q I rx ⟨N, G, S, τ, ds, res, R, h1, h3, q⟩ => by
  unfold dLen at h3
  split at h3 <;> first | (cases h3; done) | skip
  · cases h3
    obtain ⟨v, rfl, h⟩ := paired_one h1
    have hk := vh_strOk h
    rw [vh_str h] at rx
    exact call_len pins s σ H _ us Q I rx ⟨_, _, rfl, ⟨okS_len hk, rfl⟩, q _ G H R (GLe.refl _) rfl⟩
  · cases h3
    obtain ⟨v, rfl, h⟩ := paired_one h1
    obtain ⟨a, vs, rfl, ha, ra⟩ := vh_tup h
    refine call_len_seq pins s σ H _ us Q I rx ⟨a, vs, rfl, .inr ha, ?_⟩
    rw [Paired.length ra]
    exact q _ G H R (GLe.refl _) rfl
  · cases h3
    obtain ⟨v, rfl, h⟩ := paired_one h1
    obtain ⟨a, vs, rfl, ha, ra⟩ := vh_lst h
    refine call_len_seq pins s σ H _ us Q I rx ⟨a, vs, rfl, .inl ha.sq, ?_⟩
    rw [Paired.length ra]
    exact q _ G H R (GLe.refl _) rfl
  · cases h3
    obtain ⟨v, rfl, h⟩ := paired_one h1
    obtain ⟨a, es, rfl, ha, ra, _⟩ := vh_dct h
    obtain ⟨u, rfl, ru⟩ := vals1 rx
    cases ru
    obtain ⟨hs, hz, arr, ep, hr, he, hl⟩ := dct_raw I ha
    refine len_raw hs hr (by omega) ⟨.int arr.size, H, I.tok _, ⟨_, rfl⟩, ?_⟩
    rw [hl, Paired.length ra]
    exact q _ G H R (GLe.refl _) rfl
/-! ### isinstance -/
/-- the built-in types of data -/
def tyName : D → Option String
  | .non => some "NoneType"
  | .bl _ => some "bool"
  | .int _ => some "int"
  | .str _ => some "str"
  | .tup _ => some "tuple"
  | .lst _ => some "list"
  | .dct _ => some "dict"
  | _ => none
/-- int has bool below it; the others have none of these -/
def isSubT (t n : String) : Bool := t == n || (t == "bool" && n == "int")
def dIsi (n : String) : List D → Option Rv
  | [d, .ty m] => if m = n then (tyName d).map fun t => .sh (.bl (isSubT t n)) else none
  | _ => none
/-- what must be told of a built-in class's name: by kit_ty -/
def IsiOk (K : PySem.W.Frag) (n : String) : Prop := ∀ t ∈ ["NoneType", "bool", "int", "str", "tuple", "list", "dict"], PySem.W.kitOne K (.type t) (.type n) = some (isSubT t n)
theorem cd_isi {n : String} (ok : IsiOk X.K n) : CD C X (.builtin "isinstance") (dIsi n) := fun pins s σ H xs us Q I rx ⟨N, G, S, τ, ds, res, R, h1, h3, q⟩ => by
  unfold dIsi at h3
  split at h3 <;> first | (cases h3; done) | skip
  rename_i d m
  split at h3 <;> first | (cases h3; done) | skip
  rename_i hm
  subst hm
  obtain ⟨t, ht, rfl⟩ := Option.map_eq_some_iff.mp h3
  obtain ⟨v, u, rfl, h, h2⟩ := paired_two h1
  have e2 := vh_ty h2
  subst e2
  have fin : ∀ {T : Value}, T = .type t → TyX X.K H v T → t ∈ ["NoneType", "bool", "int", "str", "tuple", "list", "dict"] → wpAny (model X.prog X.w) X.A (call (.builtin "isinstance") us) (EP X pins σ Q) X.xe s := fun {T} e ty hmem => by
    subst e
    exact call_isi pins s σ H _ us Q I rx ⟨v, .ty m, .type t, .type m, isSubT t m, rfl, .ty m, ty, ok t hmem, q _ G H R (GLe.refl _) rfl⟩
  cases d with
  | non => cases ht; have e := vh_non h; subst e; exact fin rfl (.base .non) (by decide)
  | bl b => cases ht; have e := vh_bl h; subst e; exact fin rfl (.base (.bl b)) (by decide)
  | int i => cases ht; have e := vh_int h; subst e; exact fin rfl (.base (.int i)) (by decide)
  | str y => cases ht; have e := vh_str h; subst e; exact fin rfl (.base (.str y)) (by decide)
  | tup ys =>
    cases ht
    obtain ⟨a, vs, rfl, ha, ra⟩ := vh_tup h
    refine fin rfl ?_ (by decide)
    rcases ha with (ha | ⟨o, ha⟩) | ⟨o, its, k, hk, hc, _⟩
    · exact .base (.tup ha)
    · exact .fTuple ha
    · exact .kTuple hk hc
  | lst ys =>
    cases ht
    obtain ⟨a, vs, rfl, ha, ra⟩ := vh_lst h
    rcases ha with (ha | ⟨o, ha⟩) | ⟨its, n, hk, _⟩
    · exact fin rfl (.base (.lst ha)) (by decide)
    · exact fin rfl (.base (.frz ha)) (by decide)
    · obtain ⟨u1, u2, rfl, r1, r2⟩ := vals2 rx
      obtain rfl : u1 = .ref a := r1
      obtain rfl : u2 = .type m := r2
      exact PySem.W.kia_one PySem.W.kitx_list I.kIn ⟨_, I.kIn a _ hk, rfl⟩ (ok "list" (by decide)) (fun z => nomatch z) fun tk => ⟨.bl _, H, I.tok tk, rfl, q _ G H R (GLe.refl _) rfl⟩
  | dct kvs =>
    cases ht
    obtain ⟨a, es, rfl, ha, ra, _⟩ := vh_dct h
    obtain ⟨hs, hz, arr, ep, ⟨o, ho, hc, hd⟩, _⟩ := dct_raw I ha
    obtain ⟨u1, u2, rfl, r1, r2⟩ := vals2 rx
    obtain rfl : u1 = .ref a := r1
    obtain rfl : u2 = .type m := r2
    exact PySem.W.kia_one PySem.W.kitx_dict I.kIn ⟨o, ho, hc.1⟩ (ok "dict" (by decide)) (fun z => nomatch z) fun tk => ⟨.bl _, H, I.tok tk, rfl, q _ G H R (GLe.refl _) rfl⟩
  | _ => cases ht
/-! ### int, abs, str, list, tuple -/
def dInt : List D → Option Rv
  | [.int i] => some (.sh (.int i))
  | [.bl b] => some (.sh (.int (if b = true then 1 else 0)))
  | _ => none
theorem cd_int : CD C X (.type "int") dInt := fun pins s σ H xs us Q I rx ⟨N, G, S, τ, ds, res, R, h1, h3, q⟩ => by
  unfold dInt at h3
  split at h3 <;> first | (cases h3; done) | skip
  · cases h3
    obtain ⟨v, rfl, h⟩ := paired_one h1
    rw [vh_int h] at rx
    exact call_int1 pins s σ H _ us Q I rx (.inl ⟨_, rfl, q _ G H R (GLe.refl _) rfl⟩)
  · cases h3
    obtain ⟨v, rfl, h⟩ := paired_one h1
    rw [vh_bl h] at rx
    exact call_int1 pins s σ H _ us Q I rx (.inr ⟨_, rfl, q _ G H R (GLe.refl _) rfl⟩)
def dAbs : List D → Option Rv
  | [.int i] => some (.sh (.int (if i < 0 then -i else i)))
  | _ => none
theorem cd_abs : CD C X (.builtin "abs") dAbs := fun pins s σ H xs us Q I rx ⟨N, G, S, τ, ds, res, R, h1, h3, q⟩ => by
  unfold dAbs at h3
  split at h3 <;> first | (cases h3; done) | skip
  cases h3
  obtain ⟨v, rfl, h⟩ := paired_one h1
  rw [vh_int h] at rx
  exact call_abs pins s σ H _ us Q I rx ⟨_, rfl, q _ G H R (GLe.refl _) rfl⟩
def dList : List D → Option Rv
  | [.lst xs] => some (.ow (.lst xs))
  | [.tup xs] => some (.ow (.lst xs))
  | _ => none
theorem cd_list : CD C X (.type "list") dList := fun pins s σ H xs us Q I rx ⟨N, G, S, τ, ds, res, R, h1, h3, q⟩ => by
  unfold dList at h3
  split at h3 <;> first | (cases h3; done) | skip
  · cases h3
    obtain ⟨v, rfl, h⟩ := paired_one h1
    obtain ⟨a, vs, rfl, ha, ra⟩ := vh_lst h
    exact call_list_of pins s σ H _ us Q I rx ⟨a, vs, rfl, .inl ha.sq, R.newLst ra q⟩
  · cases h3
    obtain ⟨v, rfl, h⟩ := paired_one h1
    obtain ⟨a, vs, rfl, ha, ra⟩ := vh_tup h
    exact call_list_of pins s σ H _ us Q I rx ⟨a, vs, rfl, .inr ha, R.newLst ra q⟩
def dTuple : List D → Option Rv
  | [.lst xs] => some (.sh (.tup xs))
  | [.tup xs] => some (.sh (.tup xs))
  | _ => none
theorem cd_tuple : CD C X (.type "tuple") dTuple := fun pins s σ H xs us Q I rx ⟨N, G, S, τ, ds, res, R, h1, h3, q⟩ => by
  unfold dTuple at h3
  split at h3 <;> first | (cases h3; done) | skip
  · cases h3
    obtain ⟨v, rfl, h⟩ := paired_one h1
    obtain ⟨a, vs, rfl, ha, ra⟩ := vh_lst h
    exact call_tuple_of pins s σ H _ us Q I rx ⟨a, vs, rfl, .inl ⟨ha.sq, R.newTup ra q⟩⟩
  · cases h3
    obtain ⟨v, rfl, h⟩ := paired_one h1
    have hr := vh_rv h fun _ z => z
    obtain ⟨a, vs, rfl, ha, ra⟩ := vh_tup h
    exact call_tuple_of pins s σ H _ us Q I rx ⟨a, vs, rfl, .inr ⟨ha, q _ G H R (GLe.refl _) hr⟩⟩
/-! ### sum, all, any -/
def asInts : List D → Option (List Int)
  | [] => some []
  | .int i :: r => (asInts r).map (i :: ·)
  | _ => none
def asBls : List D → Option (List Bool)
  | [] => some []
  | .bl i :: r => (asBls r).map (i :: ·)
  | _ => none
theorem RVs.ints {M : Mo} {N : En} {G : Gh} {S : Sls} {σ : L2.St} {H : Hp} (R : SR M N G S σ H) : ∀ {vs : List V} {ds : List D} {ns : List Int}, RVs M G vs ds → asInts ds = some ns → vs = ns.map V.int
  | _, _, _, .nil, h => by cases h; rfl
  | _, _, _, .cons (b := d) (l₂ := ds) r t, h => by
    cases d with
    | int i =>
      obtain ⟨ns, h1, rfl⟩ := Option.map_eq_some_iff.mp (show (asInts ds).map (i :: ·) = some _ from h)
      have e := RVs.ints R t h1
      rw [e, vh_int (RV.vh R r)]; rfl
    | _ => cases h
theorem RVs.bls {M : Mo} {N : En} {G : Gh} {S : Sls} {σ : L2.St} {H : Hp} (R : SR M N G S σ H) : ∀ {vs : List V} {ds : List D} {ns : List Bool}, RVs M G vs ds → asBls ds = some ns → vs = ns.map V.bl
  | _, _, _, .nil, h => by cases h; rfl
  | _, _, _, .cons (b := d) (l₂ := ds) r t, h => by
    cases d with
    | bl i =>
      obtain ⟨ns, h1, rfl⟩ := Option.map_eq_some_iff.mp (show (asBls ds).map (i :: ·) = some _ from h)
      have e := RVs.bls R t h1
      rw [e, vh_bl (RV.vh R r)]; rfl
    | _ => cases h
end
end LD
/-! the data layer, part j: sum, all, any; what is walked; comprehensions -/
namespace LD
open PySem PySem.Spec PyProof.Rows L2
section
variable {C : Addr → Option D} {X : Cx}
def dSum : List D → Option Rv
  | [.lst xs] => (asInts xs).map fun ns => .sh (.int ns.sum)
  | _ => none
def dAll : List D → Option Rv
  | [.lst xs] => (asBls xs).map fun ns => .sh (.bl (ns.all id))
  | _ => none
def dAny : List D → Option Rv
  | [.lst xs] => (asBls xs).map fun ns => .sh (.bl (ns.any id))
  | _ => none
theorem cd_sum (hc : X.calm = true) : CD C X (.builtin "sum") dSum := fun pins s σ H xs us Q I rx ⟨N, G, S, τ, ds, res, R, h1, h3, q⟩ => by
  unfold dSum at h3
  split at h3 <;> first | (cases h3; done) | skip
  obtain ⟨ns, hn, rfl⟩ := Option.map_eq_some_iff.mp h3
  obtain ⟨v, rfl, h⟩ := paired_one h1
  obtain ⟨a, vs, rfl, ha, ra⟩ := vh_lst h
  rw [RVs.ints R ra hn] at ha
  exact cr_sum hc pins s σ H _ us Q I rx ⟨a, ns, rfl, ha.sq, q _ G H R (GLe.refl _) rfl⟩
theorem cd_all (hc : X.calm = true) : CD C X (.builtin "all") dAll := fun pins s σ H xs us Q I rx ⟨N, G, S, τ, ds, res, R, h1, h3, q⟩ => by
  unfold dAll at h3
  split at h3 <;> first | (cases h3; done) | skip
  obtain ⟨ns, hn, rfl⟩ := Option.map_eq_some_iff.mp h3
  obtain ⟨v, rfl, h⟩ := paired_one h1
  obtain ⟨a, vs, rfl, ha, ra⟩ := vh_lst h
  rw [RVs.bls R ra hn] at ha
  exact cr_all hc pins s σ H _ us Q I rx ⟨a, ns, rfl, ha.sq, q _ G H R (GLe.refl _) rfl⟩
theorem cd_any (hc : X.calm = true) : CD C X (.builtin "any") dAny := fun pins s σ H xs us Q I rx ⟨N, G, S, τ, ds, res, R, h1, h3, q⟩ => by
  unfold dAny at h3
  split at h3 <;> first | (cases h3; done) | skip
  obtain ⟨ns, hn, rfl⟩ := Option.map_eq_some_iff.mp h3
  obtain ⟨v, rfl, h⟩ := paired_one h1
  obtain ⟨a, vs, rfl, ha, ra⟩ := vh_lst h
  rw [RVs.bls R ra hn] at ha
  exact cr_any hc pins s σ H _ us Q I rx ⟨a, ns, rfl, ha.sq, q _ G H R (GLe.refl _) rfl⟩
def dMax2 : List D → Option Rv
  | [.int i, .int j] => some (.sh (.int (if j > i then j else i)))
  | _ => none
def dMin2 : List D → Option Rv
  | [.int i, .int j] => some (.sh (.int (if j < i then j else i)))
  | _ => none
theorem cd_max2 (hc : X.calm = true) : CD C X (.builtin "max") dMax2 := fun pins s σ H xs us Q I rx ⟨N, G, S, τ, ds, res, R, h1, h3, q⟩ => by
  unfold dMax2 at h3
  split at h3 <;> first | (cases h3; done) | skip
  cases h3
  obtain ⟨v, u, rfl, h, h2⟩ := paired_two h1
  rw [vh_int h, vh_int h2] at rx
  exact call_max2 hc pins s σ H _ us Q I rx ⟨_, _, rfl, q _ G H R (GLe.refl _) rfl⟩
theorem cd_min2 (hc : X.calm = true) : CD C X (.builtin "min") dMin2 := fun pins s σ H xs us Q I rx ⟨N, G, S, τ, ds, res, R, h1, h3, q⟩ => by
  unfold dMin2 at h3
  split at h3 <;> first | (cases h3; done) | skip
  cases h3
  obtain ⟨v, u, rfl, h, h2⟩ := paired_two h1
  rw [vh_int h, vh_int h2] at rx
  exact call_min2 hc pins s σ H _ us Q I rx ⟨_, _, rfl, q _ G H R (GLe.refl _) rfl⟩
end

/-! ### what is walked -/
section
variable {M : Mo} {N : En} {G : Gh} {a b : Addr} {ds es : List D}
abbrev Told (M : Mo) (G : Gh) (a : Addr) (d : D) : Prop := G a = some d ∨ M.C a = some d
theorem Told.hold {G1 : Gh} {S : Sls} {σ : L2.St} {H : Hp} {d : D} (R : SR M N G1 S σ H) (h : Told M G a d) (g : GLe G G1) : Hold M G1 H a d := h.elim (fun z => R.con a _ (g a _ z)) fun z => R.cc a _ z G1 H
theorem told_of {d : D} {H : Hp} (h : RV M G (.ref a) d) : Told M G a d := h
/-- a walk that leaves the heap, over values that stand for ds -/
theorem walk_at {J : It} {ds : List D} (h : ∀ (N : En) (i : Nat) (G1 : Gh) (S : Sls) (σ : L2.St) (H : Hp), SR M N G1 S σ H → GLe G G1 → ∃ vs, RVs M G1 vs ds ∧
    (∀ v, vs[i]? = some v → J.go i H ∧ ∀ x H', J.yld i H x H' → H' = H ∧ x = v) ∧ (vs.length ≤ i → J.stop i H)) : Walk M G J ds := fun N i G1 S σ H R g => by
  obtain ⟨vs, h1, h2, h3⟩ := h N i G1 S σ H R g
  refine ⟨fun d hd => ?_, fun hl => h3 (by rw [Paired.length h1]; exact hl)⟩
  have hi : i < vs.length := by rw [Paired.length h1]; exact (List.getElem?_eq_some_iff.mp hd).1
  have hv : vs[i]? = some vs[i] := List.getElem?_eq_getElem hi
  obtain ⟨go, y⟩ := h2 _ hv
  refine ⟨go, fun x H' yy => ?_⟩
  obtain ⟨rfl, rfl⟩ := y x H' yy
  exact ⟨G1, R, GLe.refl _, Paired.at2 h1 hv hd⟩
theorem walk_tup (h : Told M G a (.tup ds)) : Walk M G (Itt M.K a) ds := walk_at fun N i G1 S σ H R g => by
  obtain ⟨vs, h1, h2⟩ := Told.hold R h g
  exact ⟨vs, h2, fun v hv => ⟨⟨vs, v, h1, hv⟩, fun x H' y => ⟨y.1, Option.some.inj ((y.2 vs h1).symm.trans hv)⟩⟩, fun hl => ⟨vs, h1, hl⟩⟩
theorem walk_lst (h : Told M G a (.lst ds)) : Walk M G (Itl M.K a) ds := walk_at fun N i G1 S σ H R g => by
  obtain ⟨vs, h1, h2⟩ := Told.hold R h g
  exact ⟨vs, h2, fun v hv => ⟨⟨vs, v, h1.sq, hv⟩, fun x H' y => ⟨y.1, Option.some.inj ((y.2 vs (h1.sq)).symm.trans hv)⟩⟩, fun hl => ⟨vs, h1.sq, hl⟩⟩
theorem rev_at {α : Type} {vs : List α} {i : Nat} {v : α} (hv : vs.reverse[i]? = some v) : i < vs.length ∧ vs[vs.length - 1 - i]? = some v := by
  have hi : i < vs.length := by rw [← List.length_reverse]; exact (List.getElem?_eq_some_iff.mp hv).1
  rw [List.getElem?_reverse hi] at hv
  exact ⟨hi, hv⟩
theorem RVs.rev {M : Mo} {G : Gh} {vs : List V} {ds : List D} (h : RVs M G vs ds) : RVs M G vs.reverse ds.reverse := by
  induction h with
  | nil => exact .nil
  | cons r t ih => rw [List.reverse_cons, List.reverse_cons]; exact RVs.append ih (.cons r .nil)
theorem walk_revL (h : Told M G a (.lst ds)) {n : Nat} (hn : n = ds.length) : Walk M G (Itv M.K a n) ds.reverse := walk_at fun N i G1 S σ H R g => by
  obtain ⟨vs, h1, h2⟩ := Told.hold R h g
  have hl : n = vs.length := by rw [hn, Paired.length h2]
  subst hl
  refine ⟨vs.reverse, RVs.rev h2, fun v hv => ?_, fun hl => ?_⟩
  · obtain ⟨hi, hv⟩ := rev_at hv
    exact ⟨⟨hi, vs, v, h1.sq, hv⟩, fun x H' y => ⟨y.1, Option.some.inj ((y.2 vs (h1.sq)).symm.trans hv)⟩⟩
  · rw [List.length_reverse] at hl; exact hl
theorem walk_revT (h : Told M G a (.tup ds)) {n : Nat} (hn : n = ds.length) : Walk M G (RT.ItvT M.K a n) ds.reverse := walk_at fun N i G1 S σ H R g => by
  obtain ⟨vs, h1, h2⟩ := Told.hold R h g
  have hl : n = vs.length := by rw [hn, Paired.length h2]
  subst hl
  refine ⟨vs.reverse, RVs.rev h2, fun v hv => ?_, fun hl => ?_⟩
  · obtain ⟨hi, hv⟩ := rev_at hv
    exact ⟨⟨hi, vs, v, h1, hv⟩, fun x H' y => ⟨y.1, Option.some.inj ((y.2 vs h1).symm.trans hv)⟩⟩
  · rw [List.length_reverse] at hl; exact hl
def rangeD (lo : Int) (n : Nat) : List D := (List.range n).map fun (i : Nat) => D.int (lo + i)
theorem walk_rng {lo : Int} {n : Nat} : Walk M G (Itr lo n) (rangeD lo n) := fun N i G1 S σ H R g => by
  unfold rangeD
  refine ⟨fun d hd => ?_, fun hl => ?_⟩
  · rw [List.getElem?_map] at hd
    obtain ⟨j, hj, rfl⟩ := Option.map_eq_some_iff.mp hd
    have hi : i < n := by
      have z := (List.getElem?_eq_some_iff.mp hj).1
      rwa [List.length_range] at z
    have e : j = i := by
      rw [List.getElem?_range hi] at hj
      exact (Option.some.inj hj).symm
    subst e
    refine ⟨hi, fun x H' y => ?_⟩
    obtain ⟨rfl, rfl⟩ := y
    exact ⟨G1, R, GLe.refl _, rfl⟩
  · rw [List.length_map, List.length_range] at hl
    exact hl
theorem walk_str {x : Str} (hx : okS x = true) : Walk M G (Its x) (x.cps.toList.map fun c => D.str ⟨#[c]⟩) := fun N i G1 S σ H R g => by
  refine ⟨fun d hd => ?_, fun hl => ?_⟩
  · rw [List.getElem?_map] at hd
    obtain ⟨c, hc, rfl⟩ := Option.map_eq_some_iff.mp hd
    rw [Array.getElem?_toList] at hc
    have hi : i < x.cps.size := (Array.getElem?_eq_some_iff.mp hc).1
    refine ⟨hi, fun v H' y => ?_⟩
    obtain ⟨rfl, c', h1, rfl⟩ := y
    rw [hc] at h1; cases h1
    exact ⟨G1, R, GLe.refl _, rfl, okS_sign hx (List.mem_of_getElem? (by rw [Array.getElem?_toList]; exact hc))⟩
  · rw [List.length_map, Array.length_toList] at hl
    exact hl
def zipD (as bs : List D) : List D := List.zipWith (fun a b => D.tup [a, b]) as bs
theorem zip_at {as bs : List D} {i : Nat} {d : D} (h : (zipD as bs)[i]? = some d) : ∃ x y, as[i]? = some x ∧ bs[i]? = some y ∧ d = .tup [x, y] := by
  unfold zipD at h
  rw [List.getElem?_zipWith] at h
  split at h
  · rename_i x y h1 h2
    exact ⟨x, y, h1, h2, (Option.some.inj h).symm⟩
  · cases h
theorem zip_len {as bs : List D} : (zipD as bs).length = min as.length bs.length := by unfold zipD; rw [List.length_zipWith]
/-- a new pair is told for good -/
theorem SR.pair {S : Sls} {σ : L2.St} {H : Hp} {T : Addr} {x y : V} {c d : D} (R : SR M N G S σ H) (np : H T = none) (r1 : RV M G x c) (r2 : RV M G y d) :
    ∃ G', SR M N G' S σ (upd H T (.tup [x, y])) ∧ GLe G G' ∧ RV M G' (.ref T) (.tup [c, d]) := by
  have g := GLe.gset (d := D.tup [c, d]) (R.fresh np)
  exact ⟨_, R.grow_tell np (d := .tup [c, d]) ⟨[x, y], .inl (.inl upd_same), .cons (r1.mono g) (.cons (r2.mono g) .nil)⟩, g, .inl gset_same⟩
theorem walk_zipL (h : Told M G a (.lst ds)) (h' : Told M G b (.lst es)) : Walk M G (Itz M.K a b) (zipD ds es) := fun N i G1 S σ H R g => by
  obtain ⟨vs, h1, h2⟩ := Told.hold R h g
  obtain ⟨us, k1, k2⟩ := Told.hold R h' g
  refine ⟨fun d hd => ?_, fun hl => ?_⟩
  · obtain ⟨x, y, hx, hy, rfl⟩ := zip_at hd
    have hi : i < vs.length := by rw [Paired.length h2]; exact (List.getElem?_eq_some_iff.mp hx).1
    have hj : i < us.length := by rw [Paired.length k2]; exact (List.getElem?_eq_some_iff.mp hy).1
    have ev : vs[i]? = some vs[i] := List.getElem?_eq_getElem hi
    have eu : us[i]? = some us[i] := List.getElem?_eq_getElem hj
    refine ⟨⟨vs, us, _, _, h1.sq, k1.sq, ev, eu⟩, fun v H' y => ?_⟩
    obtain ⟨T, p, q, rfl, np, rfl, e1, e2⟩ := y
    have e1 := e1 vs (h1.sq)
    have e2 := e2 us (k1.sq)
    exact R.pair np (Paired.at2 h2 e1 hx) (Paired.at2 k2 e2 hy)
  · rw [zip_len] at hl
    refine ⟨vs, us, h1.sq, k1.sq, ?_⟩
    rw [Paired.length h2, Paired.length k2]
    omega
theorem walk_zipT (h : Told M G a (.tup ds)) (h' : Told M G b (.tup es)) : Walk M G (RZ.ItzT M.K a b) (zipD ds es) := fun N i G1 S σ H R g => by
  obtain ⟨vs, h1, h2⟩ := Told.hold R h g
  obtain ⟨us, k1, k2⟩ := Told.hold R h' g
  refine ⟨fun d hd => ?_, fun hl => ?_⟩
  · obtain ⟨x, y, hx, hy, rfl⟩ := zip_at hd
    have hi : i < vs.length := by rw [Paired.length h2]; exact (List.getElem?_eq_some_iff.mp hx).1
    have hj : i < us.length := by rw [Paired.length k2]; exact (List.getElem?_eq_some_iff.mp hy).1
    have ev : vs[i]? = some vs[i] := List.getElem?_eq_getElem hi
    have eu : us[i]? = some us[i] := List.getElem?_eq_getElem hj
    refine ⟨⟨vs, us, _, _, h1, k1, ev, eu⟩, fun v H' y => ?_⟩
    obtain ⟨T, p, q, rfl, np, rfl, e1, e2⟩ := y
    have e1 := e1 vs h1
    have e2 := e2 us k1
    exact R.pair np (Paired.at2 h2 e1 hx) (Paired.at2 k2 e2 hy)
  · rw [zip_len] at hl
    refine ⟨vs, us, h1, k1, ?_⟩
    rw [Paired.length h2, Paired.length k2]
    omega
def enumD : Nat → List D → List D
  | _, [] => []
  | n, d :: ds => .tup [.int n, d] :: enumD (n + 1) ds
end
end LD
/-! the data layer, part k: list(reversed(a list)) -/
namespace LD
open PySem PySem.Spec PyProof.Rows L2
/-- the heap with a new empty list, as list(...) fills it first -/
def fresh0 : Obj := { cls := .type "list", data := .seq #[] }
def fill0 (h : Heap) : Heap := (h.push fresh0).update h.objs.size (Obj.mapSeq fun _ => (#[] : Array Value))
theorem fill0_own (h : Heap) : (h.push fresh0).get? h.objs.size = some fresh0 := Heap.get?_push_size h rfl
theorem fill0_new (h : Heap) : (fill0 h).get? h.objs.size = some (fresh0.mapSeq fun _ => (#[] : Array Value)) := Heap.get?_update_self _ (fill0_own h) rfl
theorem fill0_old (h : Heap) {b : Addr} {o : Obj} (e : h.get? b = some o) : (fill0 h).get? b = some o := by
  unfold fill0
  rw [Heap.get?_update_other _ _ (Nat.ne_of_gt (Heap.lt_size e))]
  exact Heap.get?_push_of_some fresh0 e
section
variable {P : Program} {w : World} {B : Around} {EE : Value → Shared → Prop} {t : Shared}
/-- the second half: the reversed iterator is drained into the new list n -/
theorem extend_rev {r l n : Addr} {vs : Array Value} {R : Result → Shared → Prop} {Φ : Fin → Shared → Prop} {o0 : Obj} (calm : B.in1.handled = none) (ri : t.heap.IsRevIter r l ((vs.size : Int) - 1)) (li : t.heap.IsList l vs) (lr : l ≠ r) (few : vs.size ≤ sizeLine)
    (nr : n ≠ r) (nl : n ≠ l) (eo : o0 = { cls := .type "list", dict := none, data := .seq #[] 0, slots := #[] }) (own : t.heap.get? n = some o0)
    (again : ∀ c s', c.quiet = true → codeAny (model P w) B c R s' → Φ (.again c) s')
    (q : ∀ (h' : Heap) (tk : Nat) (acc : Array Value) (c : Nat), (∀ b o, b ≠ n → b ≠ r → t.heap.get? b = some o → h'.get? b = some o) → h'.get? n = some { cls := .type "list", dict := none, data := .seq acc c, slots := #[] } →
      ItemsOf (fun i v => vs[vs.size - 1 - i]? = some v) acc vs.size → R (.ok (.ret .none)) { t with heap := h', toks := tk }) :
    wpAny (model P w) B.in1 (Builtin.List.listExtendWith (.ref n) (.ref r) .none) Φ EE t := by
  have ty : t.TypeIs (.ref r) "list_reverseiterator" := ri.typeIs
  have other : (Builtin.List.listSameRef (.ref n) (.ref r) || (Value.type "list_reverseiterator" == Value.type "list") || (Value.type "list_reverseiterator" == Value.type "tuple")) = false := by
    simp [Builtin.List.listSameRef, nr]
  have walk := (Walks.listRev (prog := P) (w := w) (A := B.in1) calm r l lr vs).toS
  have out : n ∉ [r, l] := fun hm => (List.mem_cons.mp hm).elim nr fun hm => nl (List.mem_singleton.mp hm)
  have z0 : ((vs.size : Nat) : Int) - 1 - ((0 : Nat) : Int) = (vs.size : Int) - 1 := by omega
  have loop : codeAny (model P w) B (.builtin "list.extend.loop" ⟨[.ref n, .ref r, .none], []⟩) R t := by
    subst eo
    refine codeAny_extend_loopS walk few n out .none vs.size 0 t #[] 0 rfl (Nat.zero_le _) ⟨Nat.zero_le _, (by rw [z0]; exact ri), li⟩ own (ItemsOf.nil _) fun t1 acc c mv fin its => ?_
    rw [Moved.eq_with mv]
    exact q _ _ acc c (fun b o bn br e => mv.heap b o (fun hm => (List.mem_cons.mp hm).elim bn fun hm => br (List.mem_singleton.mp hm)) e) fin its
  unfold Builtin.List.listExtendWith; refine wpAny_bind (wpAny_typeOf ty ?_)
  rw [other]
  refine wpAny_bind (wpAny_pyIter_revIter ri (wpAny_bind (wpAny_holding ?_)))
  unfold Builtin.List.listLengthHint; refine wpAny_bind (wpAny_specialOf ty RT.nolen_lri ?_)
  show wpAny _ _ (specialOf (Value.ref r) (Str.ofString "__length_hint__") >>= _) _ _ _
  refine wpAny_bind (wpAny_specialOf ty RT.hint_lri ?_)
  have own_name : splitId "list_reverseiterator.__length_hint__" = some ("list_reverseiterator", "__length_hint__") := by decide +kernel
  generalize called : "list_reverseiterator.__length_hint__" = hint
  rw [called] at own_name
  wp_delta
  rw [own_name, ← called]
  refine wpAny_bind (wpAny_isInstance (b := true) ty (by rw [isSubtype_type]; kernel_rfl) (wpAny_pure ?_))
  rw [if_neg (by decide)]
  exact wpAny_pure (again _ _ (plainId_quiet F.plain_extend_loop _) loop)
/-- the whole call: a new empty list, then the drain -/
theorem call_list_rev {A : Around} {it l : Addr} {items : Array Value} {Q : Value → Shared → Prop} (hh : A.handled = none) (hit : t.heap.IsRevIter it l ((items.size : Int) - 1)) (hl : t.heap.IsList l items) (hne : l ≠ it) (hn : items.size ≤ sizeLine)
    (hQ : ∀ (h' : Heap) (tk : Nat) (acc : Array Value) (c : Nat), (∀ b o, b ≠ it → t.heap.get? b = some o → h'.get? b = some o) → h'.get? t.heap.objs.size = some { cls := .type "list", dict := none, data := .seq acc c, slots := #[] } →
      ItemsOf (fun i v => items[items.size - 1 - i]? = some v) acc items.size → Q (.ref t.heap.objs.size) { t with heap := h', toks := tk }) :
    wpAny (model P w) A (call (.type "list") [.ref it]) Q EE t := by
  have ni : t.heap.objs.size ≠ it := fun e => by obtain ⟨o, ho, _⟩ := hit; exact absurd (Heap.lt_size ho) (by rw [← e]; exact Nat.lt_irrefl _)
  have nl : t.heap.objs.size ≠ l := fun e => by obtain ⟨o, ho, _⟩ := hl; exact absurd (Heap.lt_size ho) (by rw [← e]; exact Nat.lt_irrefl _)
  have ri2 : (fill0 t.heap).IsRevIter it l ((items.size : Int) - 1) := hit.at fun o e => fill0_old _ e
  have li2 : (fill0 t.heap).IsList l items := let ⟨o, e, r⟩ := hl; ⟨o, fill0_old _ e, r⟩
  refine callType_codes (Q₁ := fun obj s₁ => obj = .ref t.heap.objs.size ∧ s₁ = { t with heap := t.heap.push fresh0 }) F.called_list (F.typeCall_list_1 _) F.entry_list_init (code_list_new _ ⟨rfl, rfl⟩) ?_
  rintro _ _ ⟨rfl, rfl⟩
  refine ⟨⟨_, fill0_own _, rfl⟩, F.args_list_init_2 _ _, ?_⟩
  show wpAny _ A.in1.in1 (Builtin.List.listItems (.ref t.heap.objs.size) >>= fun old => updateSeq t.heap.objs.size (fun _ => #[]) >>= fun _ => letGo old.toList.reverse >>= fun _ => Builtin.List.listExtendWith (.ref t.heap.objs.size) (.ref it) .none) _ _ _
  unfold Builtin.List.listItems
  refine wpAny_bind (wpAny_bind (wpAny_seqItems (fill0_own t.heap) rfl (wpAny_pure ?_)))
  refine wpAny_bind (wpAny_updateSeq (fill0_own t.heap) rfl (wpAny_bind (wpAny_letGo ?_)))
  refine extend_rev (t := { t with heap := fill0 t.heap }) (B := A.in1) hh ri2 li2 hne hn ni nl rfl (fill0_new _) (fun c s' qu ca => ⟨qu, ca⟩) fun h' tk acc c kp own its => ⟨rfl, ?_⟩
  exact hQ h' tk acc c (fun b o bi e => kp b o (Nat.ne_of_lt (Heap.lt_size e)) bi (fill0_old _ e)) own its
end
end LD
/-! the data layer, part l: what is walked, as expressions; comprehensions -/
namespace LD
open PySem PySem.Spec PyProof.Rows L2

/-! ### what is walked -/
def itemsOf : D → Option (List D)
  | .tup ds => some ds
  | .lst ds => some ds
  | .str x => some (x.cps.toList.map fun c => D.str ⟨#[c]⟩)
  | _ => none
theorem PI.or {X : Cx} {tg e : Expr} {t t' : TI} (h : PI X tg e t) (h' : PI X tg e t') : PI X tg e (fun σ H R => t σ H R ∨ t' σ H R) := ⟨fun pins s σ H R I q => q.elim (h.run pins s σ H R I) (h'.run pins s σ H R I)⟩
/-- behind an expression whose value is told -/
theorem Po.told {M : Mo} {W : WX} {N : En} {G : Gh} {σ : L2.St} {r : Rv} {S S2 : Sls} {d : D} {P : Ou Rv} {Q1 : V → Hp → Prop} (e : P = .ok r S) (hf : frz S r = some (d, S2))
    (k : ∀ v G1 G2 H1, SR M N G2 S2 σ H1 → GLe G G1 → GLe G1 G2 → RV M G2 v d → Q1 v H1) : Po M W σ N (relE M N σ) G P Q1 := by
  subst e
  intro v G1 H1 R1 g1 h1
  obtain ⟨G2, R2, g2, r2⟩ := R1.frz h1 hf
  exact k v G1 G2 H1 R2 g1 g2 r2
section
variable {C : Addr → Option D} {X : Cx} {W : WX} {tg e e2 : Expr} {es : List Expr} {pos p : Pos} {t : E} {ts : Es}
theorem di_seq (he : DE C X W e t) : DI C X W tg e (iSeq itemsOf t) :=
  ⟨PI.imp (PI.or (pi_list he.run) (PI.or (pi_tup he.run) (pi_str he.run))) fun σ H Rr ⟨N, G, S, R, q⟩ => by
    unfold iSeq at q
    cases ht : t S with
    | bad => rw [ht] at q; exact q.elim
    | ex x S1 => rw [ht] at q; exact .inl ⟨N, G, S, R, by rw [ht]; exact q⟩
    | ok r S1 =>
      rw [ht, Ou.bind_ok] at q
      cases hf : frz S1 r with
      | none => rw [hf] at q; exact q.elim
      | some z =>
        obtain ⟨d, S2⟩ := z
        rw [hf] at q
        dsimp only at q
        cases d with
        | lst ds =>
          refine .inl ⟨N, G, S, R, Po.told ht hf fun v G1 G2 H1 R2 g1 g2 r2 => ?_⟩
          obtain ⟨a, vs, rfl, ha, _⟩ := vh_lst (RV.vh R2 r2)
          exact ⟨a, rfl, ⟨vs, ha.sq⟩, q (Itl X.K a) G2 H1 R2 (g1.trans g2) (walk_lst (M := mo X C) r2)⟩
        | tup ds =>
          refine .inr (.inl ⟨N, G, S, R, Po.told ht hf fun v G1 G2 H1 R2 g1 g2 r2 => ?_⟩)
          obtain ⟨a, vs, rfl, ha, _⟩ := vh_tup (RV.vh R2 r2)
          exact ⟨a, rfl, ⟨vs, ha⟩, q (Itt X.K a) G2 H1 R2 (g1.trans g2) (walk_tup (M := mo X C) r2)⟩
        | str x =>
          refine .inr (.inr ⟨N, G, S, R, Po.told ht hf fun v G1 G2 H1 R2 g1 g2 r2 => ?_⟩)
          have hk := vh_strOk (RV.vh R2 r2)
          have e := vh_str (RV.vh R2 r2)
          subst e
          exact ⟨x, rfl, q (Its x) G2 H1 R2 (g1.trans g2) (walk_str hk)⟩
        | _ => exact q.elim⟩
def rngOk (i : Int) : Bool := decide (-(2 ^ 62) ≤ i) && decide (i < 2 ^ 62)
theorem rngOk_iff {i : Int} : rngOk i = true ↔ -(2 ^ 62) ≤ i ∧ i < 2 ^ 62 := by unfold rngOk; simp
def iRng (ts : Es) : I := fun S => (ts S).bind fun rs S1 => match peeks S1 rs with
  | some [.int j] => if rngOk j = true then .ok (rangeD 0 j.toNat) S1 else .bad
  | some [.int i, .int j] => if (rngOk i && rngOk j) = true then .ok (rangeD i (j - i).toNat) S1 else .bad
  | _ => .bad
theorem di_rng1 (hg : Gl X "range") (hm : X.mg "range" = none) (ha : DA C X W [e] ts) (hs : starEach [e] X.env = [(false, eval e X.env)] := by rfl) (h1 : ∀ S rs S1, ts S = .ok rs S1 → ∃ r, rs = [r]) : DI C X W tg (.Call (.Name "range" p) [e] [] pos) (iRng ts) :=
  ⟨PI.imp (pi_range1 hg hm ha.run hs) fun σ H Rr ⟨N, G, S, R, q⟩ => ⟨N, G, S, R, by
    unfold iRng at q
    cases ht : ts S with
    | bad => rw [ht] at q; exact q.elim
    | ex x S1 => rw [ht] at q; exact q
    | ok rs S1 =>
      rw [ht, Ou.bind_ok] at q
      obtain ⟨r, rfl⟩ := h1 S rs S1 ht
      intro vs G1 H1 R1 g1 hv
      split at q <;> first | (exact q.elim) | skip
      · rename_i j hp
        split at q <;> first | (exact q.elim) | skip
        rename_i hj
        obtain ⟨b1, b2⟩ := rngOk_iff.mp hj
        obtain ⟨v, rfl, h⟩ := paired_one (R1.peeks hv hp)
        refine ⟨j, by rw [vh_int h], b1, b2, q _ G1 H1 R1 g1 (walk_rng)⟩
      · rename_i i j hp
        have z := Paired.length hv
        have z2 := Paired.length (R1.peeks hv hp)
        simp at z z2
        omega⟩⟩
theorem di_rng2 (hg : Gl X "range") (hm : X.mg "range" = none) (ha : DA C X W [e, e2] ts) (hs : starEach [e, e2] X.env = [(false, eval e X.env), (false, eval e2 X.env)] := by rfl) (hs2 : starEach [e2] X.env = [(false, eval e2 X.env)] := by rfl)
    (h1 : ∀ S rs S1, ts S = .ok rs S1 → ∃ r u, rs = [r, u]) : DI C X W tg (.Call (.Name "range" p) [e, e2] [] pos) (iRng ts) :=
  ⟨PI.imp (pi_range2 hg hm ha.run hs hs2) fun σ H Rr ⟨N, G, S, R, q⟩ => ⟨N, G, S, R, by
    unfold iRng at q
    cases ht : ts S with
    | bad => rw [ht] at q; exact q.elim
    | ex x S1 => rw [ht] at q; exact q
    | ok rs S1 =>
      rw [ht, Ou.bind_ok] at q
      obtain ⟨r, u, rfl⟩ := h1 S rs S1 ht
      intro vs G1 H1 R1 g1 hv
      split at q <;> first | (exact q.elim) | skip
      · rename_i j hp
        have z := Paired.length hv
        have z2 := Paired.length (R1.peeks hv hp)
        simp at z z2
        omega
      · rename_i i j hp
        split at q <;> first | (exact q.elim) | skip
        rename_i hj
        rw [Bool.and_eq_true] at hj
        obtain ⟨b1, b2⟩ := rngOk_iff.mp hj.1
        obtain ⟨b3, b4⟩ := rngOk_iff.mp hj.2
        obtain ⟨v, u, rfl, h, h2⟩ := paired_two (R1.peeks hv hp)
        refine ⟨i, j, by rw [vh_int h, vh_int h2], ⟨b1, b2, b3, b4⟩, q _ G1 H1 R1 g1 (walk_rng)⟩⟩⟩
theorem aOne_one {t : E} : ∀ S rs S1, aCons t aNil S = .ok rs S1 → ∃ r, rs = [r] := fun S rs S1 h => by
  unfold aCons aNil at h
  cases ht : t S <;> rw [ht] at h <;> cases h
  exact ⟨_, rfl⟩
theorem aTwo_two {t u : E} : ∀ S rs S1, aCons t (aCons u aNil) S = .ok rs S1 → ∃ r s, rs = [r, s] := fun S rs S1 h => by
  unfold aCons aNil at h
  cases ht : t S with
  | ok r S2 =>
    rw [ht, Ou.bind_ok] at h
    cases hu : u S2 with
    | ok r2 S3 => rw [hu] at h; cases h; exact ⟨_, _, rfl⟩
    | ex x S3 => rw [hu] at h; cases h
    | bad => rw [hu] at h; cases h
  | ex x S2 => rw [ht] at h; cases h
  | bad => rw [ht] at h; cases h
def iZip (ts : Es) : I := fun S => (ts S).bind fun rs S1 => match frzs S1 rs with
  | some ([.lst ds, .lst es], S2) => .ok (zipD ds es) S2
  | some ([.tup ds, .tup es], S2) => .ok (zipD ds es) S2
  | _ => .bad
theorem di_zip {elts : List Expr} {kk : Nat} {tpos : Pos} (hg : Gl X "zip") (hm : X.mg "zip" = none) (ha : DA C X W [e, e2] ts)
    (hs : starEach [e, e2] X.env = (false, eval e X.env) :: starEach [e2] X.env := by rfl)
    (hpl : (backTo pos (starEach [e2] X.env)).any (·.1) = false := by rfl) : DI C X W (.Tuple elts kk tpos) (.Call (.Name "zip" p) [e, e2] [] pos) (iZip ts) :=
  ⟨PI.imp (RZ.pi_zipA hg hm ha.run hs hpl) fun σ H Rr ⟨N, G, S, R, q⟩ => ⟨N, G, S, R, by
    unfold iZip at q
    cases ht : ts S with
    | bad => rw [ht] at q; exact q.elim
    | ex x S1 => rw [ht] at q; exact q
    | ok rs S1 =>
      rw [ht, Ou.bind_ok] at q
      intro vs G1 H1 R1 g1 hv
      split at q <;> first | (exact q.elim) | skip
      · rename_i ds es S2 hp
        obtain ⟨G2, R2, g2, r2⟩ := R1.frzs hv hp
        cases r2 with
        | cons r r' => cases r' with
          | cons r' r'' =>
            cases r''
            obtain ⟨a, us, rfl, ha, _⟩ := vh_lst (RV.vh R2 r)
            obtain ⟨b, ws, rfl, hb, _⟩ := vh_lst (RV.vh R2 r')
            exact ⟨a, b, us, ws, rfl, .inl ⟨ha.sq, hb.sq, q _ G2 H1 R2 (g1.trans g2) (walk_zipL (M := mo X C) r r')⟩⟩
      · rename_i ds es S2 hp
        obtain ⟨G2, R2, g2, r2⟩ := R1.frzs hv hp
        cases r2 with
        | cons r r' => cases r' with
          | cons r' r'' =>
            cases r''
            obtain ⟨a, us, rfl, ha, _⟩ := vh_tup (RV.vh R2 r)
            obtain ⟨b, ws, rfl, hb, _⟩ := vh_tup (RV.vh R2 r')
            exact ⟨a, b, us, ws, rfl, .inr ⟨ha, hb, q _ G2 H1 R2 (g1.trans g2) (walk_zipT (M := mo X C) r r')⟩⟩⟩⟩
def iRev (t : E) : I := fun S => (t S).bind fun r S1 => match frz S1 r with
  | some (.lst ds, S2) => .ok ds.reverse S2
  | some (.tup ds, S2) => .ok ds.reverse S2
  | _ => .bad
theorem di_rev (hg : Gl X "reversed") (hm : X.mg "reversed" = none) (he : DE C X W e t) (hs : starEach [e] X.env = (false, eval e X.env) :: starEach [] X.env := by rfl) : DI C X W tg (.Call (.Name "reversed" p) [e] [] pos) (iRev t) :=
  ⟨PI.imp (RT.pi_revA hg hm he.run hs) fun σ H Rr ⟨N, G, S, R, q⟩ => ⟨N, G, S, R, by
    unfold iRev at q
    cases ht : t S with
    | bad => rw [ht] at q; exact q.elim
    | ex x S1 => rw [ht] at q; exact q
    | ok r S1 =>
      rw [ht, Ou.bind_ok] at q
      split at q <;> first | (exact q.elim) | skip
      · rename_i ds S2 hf
        refine Po.told rfl hf fun v G1 G2 H1 R2 g1 g2 r2 => ?_
        obtain ⟨a, vs, rfl, ha, rr⟩ := vh_lst (RV.vh R2 r2)
        exact ⟨a, vs, rfl, .inl ⟨ha.sq, q _ G2 H1 R2 (g1.trans g2) (walk_revL (M := mo X C) r2 (Paired.length rr))⟩⟩
      · rename_i ds S2 hf
        refine Po.told rfl hf fun v G1 G2 H1 R2 g1 g2 r2 => ?_
        obtain ⟨a, vs, rfl, ha, rr⟩ := vh_tup (RV.vh R2 r2)
        exact ⟨a, vs, rfl, .inr ⟨ha, q _ G2 H1 R2 (g1.trans g2) (walk_revT (M := mo X C) r2 (Paired.length rr))⟩⟩⟩⟩
/-- list(reversed(x)), x a list -/
def dRevL : D → Option Rv
  | .lst ds => some (.ow (.lst ds.reverse))
  | _ => none
/-- the heap with the reversed iterator, before list(..) is called on it -/
theorem run_listRev {pins : List (Addr × Obj)} {σ : L2.St} {H1 : Hp} {s1 : Shared} {a : Addr} {xs : List V} {Q : VK} {B : Around} (calm : B.handled = none) (I1 : Inv X pins σ H1 s1) (hq : SqL X.K H1 a xs) (q : ∀ b, H1 b = none → Q (.ref b) (upd H1 b (.lst xs.reverse))) :
    ∃ vs : Array Value, s1.heap.IsList a vs ∧ ∀ EX, wpAny (model X.prog X.w) B (call (.type "list") [.ref s1.heap.objs.size]) (EP X pins σ Q) EX { s1 with heap := s1.heap.push (revObj a ((vs.size : Int) - 1)) } := by
  obtain ⟨us, rel, plain, few⟩ := I1.list hq
  have li := plain.isList
  refine ⟨us.toArray, li, fun EX => ?_⟩
  have below : a < s1.heap.objs.size := let ⟨_, at_a, _⟩ := li; Heap.lt_size at_a
  have fits : us.toArray.size ≤ sizeLine := by simpa [← rel.length] using few
  let hp := s1.heap.push (revObj a ((us.toArray.size : Int) - 1))
  have grown : hp.objs.size = s1.heap.objs.size + 1 := Heap.size_push _ _
  have up : s1.heap.objs.size ≤ s1.heap.objs.size + 1 := Nat.le_succ _
  refine call_list_rev (t := { s1 with heap := hp }) calm ⟨_, Heap.get?_push_size _ rfl, rfl, rfl⟩ (li.push _) (Nat.ne_of_lt below) fits fun h' tk acc c kept own its => ?_
  have own' : h'.get? (s1.heap.objs.size + 1) = some { cls := .type "list", dict := none, data := .seq acc c, slots := #[] } := grown ▸ own
  show EP X pins σ Q (.ref hp.objs.size) _
  rw [grown]
  exact ⟨.ref _, _, I1.laid (t' := tk) (fun b o e => kept b o (Nat.ne_of_lt (Heap.lt_size e)) (Heap.get?_push_of_some _ e)) up (show ObjOk X.prog X.w _ _ _ (.lst xs.reverse) from ⟨by simpa using few, acc.toList, c, RT.vals_rev rel its, by rw [Array.toArray_toList]; exact own'⟩), rfl, q _ (I1.hok.fresh up)⟩
theorem de_listRev {p2 pos2 : Pos} (hc : X.calm = true) (hg : Gl X "list") (hm : X.mg "list" = none) (hg2 : Gl X "reversed") (hm2 : X.mg "reversed" = none) (he : DE C X W e t)
    (h1 : starEach [e] X.env = (false, eval e X.env) :: starEach [] X.env := by rfl)
    (h2 : starEach [.Call (.Name "reversed" p2) [e] [] pos2] X.env = (false, eval (.Call (.Name "reversed" p2) [e] [] pos2) X.env) :: starEach [] X.env := by rfl) :
    DE C X W (.Call (.Name "list" p) [.Call (.Name "reversed" p2) [e] [] pos2] [] pos) (eUn dRevL t) := ⟨⟨fun pins s σ H Q I ⟨N, G, S, R, work⟩ => by
  have arg : tE (mo X C) W t σ H fun v H1 => ∃ (a : Addr) (xs : List V), v = .ref a ∧ SqL X.K H1 a xs ∧ ∀ q, H1 q = none → Q (.ref q) (upd H1 q (.lst xs.reverse)) := by
    refine ⟨N, G, S, R, Po.bind work fun r S1 v G1 H1 R1 g1 v1 p1 => on1_run R1 v1 p1 fun d res q1 q2 q3 => ?_⟩
    unfold dRevL at q2
    split at q2 <;> first | (cases q2; done) | skip
    cases q2
    obtain ⟨a, vs, rfl, ha, rr⟩ := vh_lst q1
    exact ⟨a, vs, rfl, ha.sq, R1.newLst (RVs.rev rr) q3⟩
  refine Call_ (ld_blt I hg hm boot_list (PyProof.Rows.callWith_type1 (args_cons (Call_ (ld_blt I hg2 hm2 PyProof.Rows.boot_reversed (PyProof.Rows.callWith_type1 (args_cons (thn (he.run.run pins s σ H _ I arg) ?_) h1) h1 rfl))) h2) h2 rfl))
  rintro u s1 ⟨_, H1, I1, r1, a, xs, rfl, hq, q⟩
  cases (r1 : u = .ref a)
  have ⟨vs, li, fin⟩ := run_listRev (I1.ok.hd hc) I1 hq q
  exact args_nil (call_reversed_list li (args_nil (fin _)))⟩⟩
end
end LD
/-! the data layer, part m: comprehensions of lists -/
namespace LD
open PySem PySem.Spec PyProof.Rows L2

/-! ### the new list of a comprehension, beside the slots -/
def En.lay (N : En) (a : Addr) (o : HO) : En := ⟨upd N.H a o, N.L, fun b => if b = a then none else N.G b⟩
section
variable {M : Mo} {N : En} {G G' : Gh} {S S' S1 : Sls} {σ : L2.St} {H H' H1 : Hp} {a p : Addr} {d : D} {v : V} {r : Rv} {o o' : HO} {vs : List Nat}
theorem SR.notLent (R : SR M N G S σ H) (np : H p = none) : ∀ i, (i, p) ∉ N.L := fun i h => by
  obtain ⟨u, z⟩ := R.lent i p h
  rw [np] at z; cases z
theorem SR.lay (R : SR M N G S σ H) (np : H p = none) : SR M (N.lay p o) G S σ (upd H p o) := by
  have R1 := R.grow np o
  have n0 := R.fresh0 np
  have nG := R.fresh np
  refine ⟨R1.con, R1.cc, R1.trk, fun b d e => ?_, fun b u e hl => ?_, R1.lent, R1.len, fun i s e => ?_, R1.sep⟩
  · have hb : b ≠ p := fun z => by subst z; rw [nG] at e; cases e
    rcases R.old b d e with z | z
    · exact .inl (by show (if b = p then none else N.G b) = some d; rw [if_neg hb]; exact z)
    · exact .inr (by show upd N.H p o b = none; rw [upd_ne hb]; exact z)
  · by_cases hb : b = p
    · subst hb
      have z : upd N.H b o b = some u := e
      rw [upd_same] at z ⊢
      exact z
    · have z : upd N.H p o b = some u := e
      rw [upd_ne hb] at z
      exact R1.keep b u z hl
  · have z := R1.sl i s e
    cases s with
    | un => exact z
    | sh d => exact z
    | ow d =>
      obtain ⟨b, q1, q2, q3, q4⟩ := z
      refine ⟨b, q1, q2, q3, ?_⟩
      show upd N.H p o b = none
      rw [upd_ne fun y => ?_]
      · exact q4
      · subst y
        exact R.noMine np i _ e rfl q1
    | io d => exact z
theorem SR.layG (R : SR M (N.lay p o) G S σ H) : G p = none := by
  cases e : G p with
  | none => rfl
  | some d =>
    rcases R.old p d e with z | z
    · have z' : (if p = p then none else N.G p) = some d := z
      rw [if_pos rfl] at z'; cases z'
    · have z' : upd N.H p o p = none := z
      rw [upd_same] at z'; cases z'
theorem SR.layAt (R : SR M (N.lay p o) G S σ H) (nl : ∀ i, (i, p) ∉ N.L) : H p = some o := R.keep p o (show upd N.H p o p = some o from upd_same) nl
/-- a slot of ours is not it -/
theorem SR.layMine (R : SR M (N.lay p o) G S σ H) (nl : ∀ i, (i, p) ∉ N.L) {i : Nat} {s : Sl} (e : S[i]? = some s) (m : s.mine = true) : σ[i]? ≠ some (some (.ref p)) := fun q => by
  have z := R.sl i s e
  cases s with
  | un => cases m
  | sh d => cases m
  | ow d =>
    obtain ⟨b, q1, q2, q3, q4⟩ := z
    rw [q] at q1; cases q1
    have z' : upd N.H p o p = none := q4
    rw [upd_same] at z'; cases z'
  | io d =>
    obtain ⟨b, q1, q2, q3, q4⟩ := z
    rw [q] at q1; cases q1
    exact nl i q4
theorem SR.relay (R : SR M (N.lay p o) G S σ H) (nl : ∀ i, (i, p) ∉ N.L) : SR M (N.lay p o') G S σ (upd H p o') := by
  have nG := R.layG
  have ne : ∀ b d, G b = some d → b ≠ p := fun b d e z => by subst z; rw [nG] at e; cases e
  have mn : ∀ (i : Nat) (s : Sl) (b : Addr), S[i]? = some s → s.mine = true → σ[i]? = some (some (.ref b)) → b ≠ p := fun i s b e m q z => by subst z; exact R.layMine nl e m q
  refine ⟨fun b d e => (R.con b d e).mono (GLe.refl G) (upd_ne (ne b d e)), R.cc, fun b d e => by rw [upd_ne (ne b d e)]; exact R.trk b d e, fun b d e => ?_, fun b u e hl => ?_, fun i b h => ?_, R.len, fun i s e => ?_, R.sep⟩
  · rcases R.old b d e with z | z
    · exact .inl z
    · refine .inr ?_
      have z' : upd N.H p o b = none := z
      show upd N.H p o' b = none
      rw [upd_ne (ne b d e)] at z' ⊢
      exact z'
  · by_cases hb : b = p
    · subst hb
      have z : upd N.H b o' b = some u := e
      rw [upd_same] at z ⊢
      exact z
    · have z : upd N.H p o' b = some u := e
      rw [upd_ne hb] at z ⊢
      exact R.keep b u (by show upd N.H p o b = some u; rw [upd_ne hb]; exact z) hl
  · have hb : b ≠ p := fun z => by subst z; exact nl i h
    rw [upd_ne hb]
    exact R.lent i b h
  · have z := R.sl i s e
    cases s with
    | un => exact z
    | sh d => exact z
    | ow d =>
      obtain ⟨b, q1, q2, q3, q4⟩ := z
      have hb := mn i _ b e rfl q1
      refine ⟨b, q1, q2, q3.mono (GLe.refl G) (upd_ne hb), ?_⟩
      have z' : upd N.H p o b = none := q4
      show upd N.H p o' b = none
      rw [upd_ne hb] at z' ⊢
      exact z'
    | io d =>
      obtain ⟨b, q1, q2, q3, q4⟩ := z
      exact ⟨b, q1, q2, q3.mono (GLe.refl G) (upd_ne (mn i _ b e rfl q1)), q4⟩
theorem SR.unlay (R : SR M (N.lay p o) G S σ H) (nl : ∀ i, (i, p) ∉ N.L) (n0 : N.H p = none) : SR M N G S σ H := by
  refine ⟨R.con, R.cc, R.trk, fun b d e => ?_, fun b u e hl => ?_, R.lent, R.len, fun i s e => ?_, R.sep⟩
  · have hb : b ≠ p := fun z => by subst z; rw [R.layG] at e; cases e
    rcases R.old b d e with z | z
    · have z' : (if b = p then none else N.G b) = some d := z
      rw [if_neg hb] at z'
      exact .inl z'
    · have z' : upd N.H p o b = none := z
      rw [upd_ne hb] at z'
      exact .inr z'
  · have hb : b ≠ p := fun z => by subst z; rw [n0] at e; cases e
    exact R.keep b u (by show upd N.H p o b = some u; rw [upd_ne hb]; exact e) hl
  · have z := R.sl i s e
    cases s with
    | un => exact z
    | sh d => exact z
    | ow d =>
      obtain ⟨b, q1, q2, q3, q4⟩ := z
      have hb : b ≠ p := fun y => by subst y; exact R.layMine nl e rfl q1
      refine ⟨b, q1, q2, q3, ?_⟩
      have z' : upd N.H p o b = none := q4
      rw [upd_ne hb] at z'
      exact z'
    | io d => exact z

/-! ### the block's own slots -/
def wipeS (S : Sls) : List Nat → Sls
  | [] => S
  | v :: vs => (wipeS S vs).set v .un
def restS (S0 S : Sls) : List Nat → Sls
  | [] => S
  | v :: vs => (restS S0 S vs).set v (S0.getD v .un)
def freeS (S : Sls) (vs : List Nat) : Bool := vs.all fun i => match S[i]? with
  | some (.ow _) => false
  | some (.io _) => false
  | _ => true
theorem wipeS_len (S : Sls) : ∀ vs : List Nat, (wipeS S vs).length = S.length
  | [] => rfl
  | v :: vs => by unfold wipeS; rw [List.length_set, wipeS_len S vs]
theorem restS_len (S0 S : Sls) : ∀ vs : List Nat, (restS S0 S vs).length = S.length
  | [] => rfl
  | v :: vs => by unfold restS; rw [List.length_set, restS_len S0 S vs]
theorem wipeS_at {S : Sls} {i : Nat} {s : Sl} : ∀ {vs : List Nat}, (wipeS S vs)[i]? = some s → s = .un ∨ (S[i]? = some s ∧ i ∉ vs)
  | [], h => .inr ⟨h, by simp⟩
  | v :: vs, h => by
    unfold wipeS at h
    by_cases hi : v = i
    · subst hi
      by_cases hv : v < (wipeS S vs).length
      · rw [List.getElem?_set_self hv] at h; cases h; exact .inl rfl
      · exact absurd (h.symm.trans (List.getElem?_eq_none (by rw [List.length_set]; omega))) (by simp)
    · have h := (List.getElem?_set_ne hi).symm.trans h
      rcases wipeS_at h with h1 | ⟨h1, h2⟩
      · exact .inl h1
      · exact .inr ⟨h1, by simp only [List.mem_cons, not_or]; exact ⟨fun e => hi e.symm, h2⟩⟩
theorem restS_at {S0 S : Sls} {i : Nat} {s : Sl} : ∀ {vs : List Nat}, (restS S0 S vs)[i]? = some s → (i ∈ vs ∧ s = S0.getD i .un) ∨ (S[i]? = some s ∧ i ∉ vs)
  | [], h => .inr ⟨h, by simp⟩
  | v :: vs, h => by
    unfold restS at h
    by_cases hi : v = i
    · subst hi
      by_cases hv : v < (restS S0 S vs).length
      · rw [List.getElem?_set_self hv] at h; cases h; exact .inl ⟨by simp, rfl⟩
      · exact absurd (h.symm.trans (List.getElem?_eq_none (by rw [List.length_set]; omega))) (by simp)
    · have h := (List.getElem?_set_ne hi).symm.trans h
      rcases restS_at h with ⟨h1, h2⟩ | ⟨h1, h2⟩
      · exact .inl ⟨by simp [h1], h2⟩
      · exact .inr ⟨h1, by simp only [List.mem_cons, not_or]; exact ⟨fun e => hi e.symm, h2⟩⟩
theorem SR.wipe (R : SR M N G S σ H) (vs : List Nat) : SR M N G (wipeS S vs) (wipe σ vs) H where
  con := R.con
  cc := R.cc
  trk := R.trk
  old := R.old
  keep := R.keep
  lent := R.lent
  len := by rw [wipeS_len, wipe_length]; exact R.len
  sl := fun i s e => by
    rcases wipeS_at e with rfl | ⟨h1, h2⟩
    · trivial
    · have z := R.sl i s h1
      have ho : (L2.wipe σ vs)[i]? = σ[i]? := wipe_out h2
      cases s with
      | un => exact z
      | sh d => obtain ⟨v, z1, z2⟩ := z; exact ⟨v, ho.trans z1, z2⟩
      | ow d => obtain ⟨v, z1, z2⟩ := z; exact ⟨v, ho.trans z1, z2⟩
      | io d => obtain ⟨v, z1, z2⟩ := z; exact ⟨v, ho.trans z1, z2⟩
  sep := fun i j s t a hij ei ej mi mj qi qj => by
    rcases wipeS_at ei with rfl | ⟨h1, h2⟩
    · cases mi
    · rcases wipeS_at ej with rfl | ⟨k1, k2⟩
      · cases mj
      · rw [wipe_out h2] at qi
        rw [wipe_out k2] at qj
        exact R.sep i j s t a hij h1 k1 mi mj qi qj
/-- behind the block -/
theorem SR.rest (R1 : SR M N G S1 σ H1) (R : SR M N G' S (L2.wipe σ vs) H) (g : GLe G G') (hf : freeS S1 vs = true) : SR M N G' (restS S1 S vs) σ H where
  con := R.con
  cc := R.cc
  trk := R.trk
  old := R.old
  keep := R.keep
  lent := R.lent
  len := by rw [restS_len, R.len, wipe_length]
  sl := fun i s e => by
    rcases restS_at e with ⟨h1, rfl⟩ | ⟨h1, h2⟩
    · have hfi := List.all_eq_true.mp hf i h1
      cases hS : S1[i]? with
      | none =>
        rw [List.getD_eq_getElem?_getD, hS]
        trivial
      | some t =>
        rw [hS] at hfi
        rw [List.getD_eq_getElem?_getD, hS]
        have z := R1.sl i t hS
        cases t with
        | un => exact z
        | sh d => obtain ⟨v, z1, z2⟩ := z; exact ⟨v, z1, z2.mono g⟩
        | ow d => cases hfi
        | io d => cases hfi
    · have z := R.sl i s h1
      have ho : (L2.wipe σ vs)[i]? = σ[i]? := wipe_out h2
      cases s with
      | un => exact z
      | sh d => obtain ⟨v, z1, z2⟩ := z; exact ⟨v, ho.symm.trans z1, z2⟩
      | ow d => obtain ⟨v, z1, z2⟩ := z; exact ⟨v, ho.symm.trans z1, z2⟩
      | io d => obtain ⟨v, z1, z2⟩ := z; exact ⟨v, ho.symm.trans z1, z2⟩
  sep := fun i j s t a hij ei ej mi mj qi qj => by
    have key : ∀ (i : Nat) (s : Sl), (restS S1 S vs)[i]? = some s → s.mine = true → S[i]? = some s ∧ i ∉ vs := fun i s e m => by
      rcases restS_at e with ⟨h1, rfl⟩ | h
      · exfalso
        have hfi := List.all_eq_true.mp hf i h1
        cases hS : S1[i]? with
        | none => rw [List.getD_eq_getElem?_getD, hS] at m; cases m
        | some t =>
          rw [hS] at hfi
          rw [List.getD_eq_getElem?_getD, hS] at m
          cases t with
          | un => cases m
          | sh d => cases m
          | ow d => cases hfi
          | io d => cases hfi
      · exact h
    obtain ⟨h1, h2⟩ := key i s ei mi
    obtain ⟨k1, k2⟩ := key j t ej mj
    exact R.sep i j s t a hij h1 k1 mi mj (by rw [wipe_out h2]; exact qi) (by rw [wipe_out k2]; exact qj)
end

/-! ### targets in a block -/
def tV (M : Mo) (vs : List Nat) (t : Tg) : TG := fun v σ H Q => ∃ N G S d S', SR M N G S σ H ∧ RV M G v d ∧ t d S = some S' ∧ ∀ σ' G' H', SR M N G' S' σ' H' → GLe G G' → L2.wipe σ' vs = L2.wipe σ vs → Q σ' H'
structure DV (C : Addr → Option D) (X : Cx) (vs : List Nat) (tg : Expr) (t : Tg) : Prop where
  run : PG X tg (tV (mo X C) vs t)
def tVs (M : Mo) (vs : List Nat) (t : Tgs) : TGs := fun us σ H Q => ∃ N G S ds S', SR M N G S σ H ∧ RVs M G us ds ∧ t ds S = some S' ∧ ∀ σ' G' H', SR M N G' S' σ' H' → GLe G G' → L2.wipe σ' vs = L2.wipe σ vs → Q σ' H'
structure DVs (C : Addr → Option D) (X : Cx) (vs : List Nat) (tg : List Expr) (t : Tgs) : Prop where
  run : PGs X tg (tVs (mo X C) vs t)
theorem wipe_set {σ : L2.St} {i : Nat} {x : Option V} : ∀ {vs : List Nat}, i ∈ vs → L2.wipe (σ.set i x) vs = L2.wipe σ vs
  | [], h => by cases h
  | v :: vs, h => by
    unfold L2.wipe
    by_cases hi : i ∈ vs
    · rw [wipe_set hi]
    · have e : i = v := by
        exact (List.mem_cons.mp h).elim id fun e => absurd e hi
      subst e
      have key : ∀ ws : List Nat, (L2.wipe (σ.set i x) ws).set i none = (L2.wipe σ ws).set i none := fun ws => by
        induction ws with
        | nil => unfold L2.wipe; rw [List.set_set]
        | cons w ws ih =>
          unfold L2.wipe
          by_cases hw : w = i
          · subst hw; rw [List.set_set, List.set_set]; exact ih
          · rw [List.set_comm _ _ hw, ih, List.set_comm _ _ (Ne.symm hw)]
      exact key vs
section
variable {X : Cx} {tg : Expr} {tgs : List Expr} {C : Addr → Option D} {pos : Pos} {vs : List Nat}
theorem dv_name {i : Nat} {x : Str} (hi : i ∈ vs) (h : PG X (.Name x pos) (gName i)) : DV C X vs (.Name x pos) (gN i) :=
  ⟨PG.imp h fun v σ H Q ⟨N, G, S, d, S', R, r, q, k⟩ => by
    obtain ⟨G1, R1, g1⟩ := R.stor (r := .sh d) r q
    exact k _ G1 H R1 g1 (wipe_set hi)⟩
theorem dvs_nil : DVs C X vs [] gNilD := ⟨PGs.imp pgs_nil fun us σ H Q ⟨N, G, S, ds, S', R, r, q, k⟩ => by
  cases r with
  | nil => cases q; exact ⟨rfl, k σ G H R (GLe.refl _) rfl⟩
  | cons _ _ => cases q⟩
theorem dvs_cons {t : Tg} {u : Tgs} (h1 : DV C X vs tg t) (h2 : DVs C X vs tgs u) (hs : (assignEach (tg :: tgs) X.env).map (·.2) = assign tg X.env :: (assignEach tgs X.env).map (·.2) := by rfl) : DVs C X vs (tg :: tgs) (gConsD t u) :=
  ⟨PGs.imp (pgs_cons h1.run h2.run hs) fun us σ H Q ⟨N, G, S, ds, S', R, r, q, k⟩ => by
    cases r with
    | nil => cases q
    | @cons v d vr dr r rr =>
      obtain ⟨S1, q1, q2⟩ := Option.bind_eq_some_iff.mp q
      exact ⟨v, vr, rfl, N, G, S, d, S1, R, r, q1, fun σ1 G1 H1 R1 g1 e1 => ⟨N, G1, S1, dr, S', R1, RVs.mono rr g1, q2, fun σ2 G2 H2 R2 g2 e2 => k σ2 G2 H2 R2 (g1.trans g2) (e2.trans e1)⟩⟩⟩
theorem dv_tup {k : Nat} {t : Tgs} {n : Nat} (hc : X.calm = true) (h : DVs C X vs tgs t) (hn : (assignEach tgs X.env).length = n := by rfl) (hst : (assignEach tgs X.env).findIdx? (·.1) = none := by rfl) : DV C X vs (.Tuple tgs k pos) (gT n t) :=
  ⟨PG.imp (PG.or (pg_tup hc h.run hn hst) (pg_lst hc h.run hn hst)) fun v σ H Q ⟨N, G, S, d, S', R, r, q, k⟩ => by
    have hv := r.vh R
    unfold gT at q
    cases d with
    | tup ds =>
      dsimp only at q
      split at q
      · rename_i hl
        obtain ⟨a, us, rfl, h1, h2⟩ := vh_tup hv
        exact .inl ⟨a, us, rfl, h1, by rw [Paired.length h2]; exact hl, N, G, S, ds, S', R, h2, q, k⟩
      · cases q
    | lst ds =>
      dsimp only at q
      split at q
      · rename_i hl
        obtain ⟨a, us, rfl, h1, h2⟩ := vh_lst hv
        exact .inr ⟨a, us, rfl, h1.sq, by rw [Paired.length h2]; exact hl, N, G, S, ds, S', R, h2, q, k⟩
      · cases q
    | _ => cases q⟩
end

/-! ### [elt for target in iter if ..] -/
/-- no exception leaves -/
def noEx {α : Type} : Ou α → Ou α
  | .ex _ _ => .bad
  | o => o
abbrev W0 : WX := fun _ _ _ _ => False
/-- the wish inside a block -/
def lcL (vs : List Nat) (g : Tg) (tt : T) (te : E) : List D → List D → Sls → Ou (List D)
  | [], acc, S => .ok acc S
  | d :: ds, acc, S => match g d S with
    | none => .bad
    | some S1 => (tt S1).bind fun b S2 => if b = true then (te S2).bind fun r S3 => match frz S3 r with
        | some (e, S4) => if acc.length < sizeLine then lcL vs g tt te ds (acc ++ [e]) (wipeS S4 vs) else .bad
        | none => .bad
      else lcL vs g tt te ds acc (wipeS S2 vs)
def tYesT : T := fun S => .ok true S
def eLc (vs : List Nat) (t : I) (g : Tg) (tt : T) (te : E) : E := fun S => (t S).bind fun ds S1 =>
  if freeS S1 vs = true then noEx ((lcL vs g tt te ds [] (wipeS S1 vs)).bind fun acc S2 => .ok (.ow (.lst acc)) (restS S1 S2 vs)) else .bad
end LD
/-! the data layer, part n: comprehensions of lists, the rules -/
namespace LD
open PySem PySem.Spec PyProof.Rows L2
theorem wipe_wipe {σ : L2.St} : ∀ {vs ws : List Nat}, (∀ i ∈ ws, i ∈ vs) → L2.wipe (L2.wipe σ ws) vs = L2.wipe σ vs
  | vs, [], _ => rfl
  | vs, w :: ws, h => by
    show L2.wipe ((L2.wipe σ ws).set w none) vs = _
    rw [wipe_set (h w (by simp)), wipe_wipe fun i hi => h i (by simp [hi])]
theorem restS_mine {S0 S : Sls} {vs : List Nat} (hf : freeS S0 vs = true) {i : Nat} {s : Sl} (e : (restS S0 S vs)[i]? = some s) (m : s.mine = true) : S[i]? = some s ∧ i ∉ vs := by
  rcases restS_at e with ⟨h1, rfl⟩ | h
  · exfalso
    have hfi := List.all_eq_true.mp hf i h1
    cases hS : S0[i]? with
    | none => rw [List.getD_eq_getElem?_getD, hS] at m; cases m
    | some t =>
      rw [hS] at hfi
      rw [List.getD_eq_getElem?_getD, hS] at m
      cases t with
      | un => cases m
      | sh d => cases m
      | ow d => cases hfi
      | io d => cases hfi
  · exact h
section
variable {M : Mo} {W : WX} {vs : List Nat} {t : I} {g : Tg} {tt : T} {te : E}
/-- the end of a comprehension's list -/
theorem SR.lcEnd {N : En} {G1 G2 : Gh} {S1 S2 : Sls} {σ : L2.St} {H1 H2 : Hp} {p : Addr} {av : List V} {acc : List D} (R1 : SR M N G1 S1 σ H1) (np : H1 p = none) (hf : freeS S1 vs = true) (R2 : SR M (N.lay p (.lst av)) G2 S2 (L2.wipe σ vs) H2) (g : GLe G1 G2) (ra : RVs M G2 av acc) :
    SR M N G2 (restS S1 S2 vs) σ H2 ∧ RR M N G2 H2 (restS S1 S2 vs) σ (.ref p) (.ow (.lst acc)) := by
  have nl := R1.notLent np
  refine ⟨SR.rest R1 (R2.unlay nl (R1.fresh0 np)) g hf, p, rfl, R2.layG, R1.fresh0 np, ⟨av, R2.layAt nl, ra⟩, fun i s e m q => ?_⟩
  obtain ⟨h1, h2⟩ := restS_mine hf e m
  exact R2.layMine nl h1 m (by rw [wipe_out h2]; exact q)
theorem lc_read {σ : L2.St} {H : Hp} {Q : VK} (h : tE M W (eLc vs t g tt te) σ H Q) : tLc (tI M W t) (tV M vs g) (tT M W0 tt) (tE M W0 te) vs σ H Q := by
  obtain ⟨N, G, S, R, q⟩ := h
  refine ⟨N, G, S, R, Po.bind q fun ds S1 J G1 H1 R1 g1 h1 p1 => ?_⟩
  intro Da np
  have nl := R1.notLent np
  split at p1 <;> first | exact p1.elim | skip
  rename_i hf
  refine ⟨fun i m H => ∃ G S acc av, SR M (N.lay Da (.lst av)) G S (L2.wipe σ vs) H ∧ GLe G1 G ∧ RVs M G av acc ∧ i ≤ ds.length ∧ m = ds.length - i ∧ Po M W σ N (relE M N σ) G1 (noEx ((lcL vs g tt te (ds.drop i) acc S).bind fun acc S2 => .ok (.ow (.lst acc)) (restS S1 S2 vs))) Q,
    ⟨ds.length, G1, wipeS S1 vs, [], [], (R1.wipe vs).lay np, GLe.refl _, .nil, Nat.zero_le _, rfl, p1⟩, ?_⟩
  rintro i m H2 ⟨G2, S2, acc, av, R2, g2, ra, hle, rfl, p2⟩
  obtain ⟨w1, w2⟩ := h1 (N.lay Da (.lst av)) i G2 S2 (L2.wipe σ vs) H2 R2 g2
  by_cases hi : i < ds.length
  · obtain ⟨d, hd⟩ : ∃ d, ds[i]? = some d := ⟨ds[i], List.getElem?_eq_getElem hi⟩
    have hdr : ds.drop i = d :: ds.drop (i + 1) := by
      rw [List.drop_eq_getElem_cons hi]
      have e : ds[i] = d := Option.some.inj ((List.getElem?_eq_getElem hi).symm.trans hd)
      rw [e]
    rw [hdr] at p2
    unfold lcL at p2
    obtain ⟨go, yl⟩ := w1 d hd
    refine .inr ⟨go, fun H' => ∃ G S acc av, SR M (N.lay Da (.lst av)) G S (L2.wipe σ vs) H' ∧ GLe G1 G ∧ RVs M G av acc ∧ Po M W σ N (relE M N σ) G1 (noEx ((lcL vs g tt te (ds.drop (i + 1)) acc S).bind fun acc S2 => .ok (.ow (.lst acc)) (restS S1 S2 vs))) Q,
      fun H' ⟨G', S', acc', av', R', g', ra', p'⟩ => ⟨ds.length - (i + 1), by omega, G', S', acc', av', R', g', ra', hi, rfl, p'⟩, fun x H' y => ?_⟩
    obtain ⟨G3, R3, g3, r3⟩ := yl x H' y
    cases hg : g d S2 with
    | none => rw [hg] at p2; exact p2.elim
    | some S3 =>
      rw [hg] at p2
      refine ⟨_, G3, S2, d, S3, R3, r3, hg, fun σ4 G4 H4 R4 g4 e4 => ?_⟩
      have e4' : L2.wipe σ4 vs = L2.wipe σ vs := e4.trans (wipe_wipe fun i hi => hi)
      refine ⟨e4', _, G4, S3, R4, ?_⟩
      dsimp only at p2
      cases ht : tt S3 with
      | bad => rw [ht] at p2; exact p2.elim
      | ex e S5 => rw [ht] at p2; exact p2.elim
      | ok b S5 =>
        rw [ht, Ou.bind_ok] at p2
        intro v G5 H5 R5 g5 hv
        have hv : v = b := hv
        subst hv
        cases v with
        | false =>
          rw [if_neg Bool.false_ne_true] at p2 ⊢
          have R6 := R5.wipe vs
          rw [e4'] at R6
          exact ⟨G5, _, acc, av, R6, ((g2.trans g3).trans g4).trans g5, RVs.mono ra ((g3.trans g4).trans g5), p2⟩
        | true =>
          rw [if_pos rfl] at p2 ⊢
          refine ⟨_, G5, S5, R5, ?_⟩
          cases he : te S5 with
          | bad => rw [he] at p2; exact p2.elim
          | ex e S6 => rw [he] at p2; exact p2.elim
          | ok r S6 =>
            rw [he, Ou.bind_ok] at p2
            intro v G6 H6 R6 g6 hr
            cases hfz : frz S6 r with
            | none => rw [hfz] at p2; exact p2.elim
            | some z =>
              obtain ⟨e, S7⟩ := z
              rw [hfz] at p2
              dsimp only at p2
              split at p2 <;> first | exact p2.elim | skip
              rename_i hlen
              obtain ⟨G7, R7, g7, r7⟩ := R6.frz hr hfz
              have gg := ((g3.trans g4).trans g5).trans (g6.trans g7)
              have R8 := R7.wipe vs
              rw [e4'] at R8
              exact ⟨av, R7.layAt nl, by rw [Paired.length ra]; exact hlen, G7, _, acc ++ [e], av ++ [v], R8.relay nl, g2.trans gg, RVs.append (RVs.mono ra gg) (.cons r7 .nil), p2⟩
  · have e : i = ds.length := by omega
    subst e
    rw [List.drop_length] at p2
    obtain ⟨z1, z2⟩ := SR.lcEnd R1 np hf R2 g2 ra
    exact .inl ⟨w2 (Nat.le_refl _), p2 (.ref Da) G2 H2 z1 g2 z2⟩
end
structure DTs (C : Addr → Option D) (X : Cx) (W : WX) (ifs : List Expr) (t : T) : Prop where
  run : PTs X ifs (tT (mo X C) W t)
section
variable {C : Addr → Option D} {X : Cx} {W : WX} {elt tg iter : Expr} {ifs : List Expr} {scope : Scope} {own : List (Str × Nat)} {pos : Pos} {t : I} {g : Tg} {tt : T} {te : E}
theorem dts_nil : DTs C X W [] tYesT := ⟨⟨fun pins s σ H Q I ⟨N, G, S, R, p⟩ => pts_nil.run pins s σ H Q I (p true G H R (GLe.refl _) rfl)⟩⟩
theorem dts_one {c : Expr} (h : DT C X W c tt) : DTs C X W [c] tt := ⟨pts_one h.run⟩
/-- [elt for tg in iter if ..] as a value -/
theorem de_lc (hc : X.calm = true) (hN : X.N.Nodup) (hi : DI C X W tg iter t) (ok : BlkOk X.N X.env.scope scope own)
    (hg : ∀ (s : Shared) (H : Hp) (Ca : Addr) (cl : List (Str × Addr)) (fp : List Addr), DV C (X.blk s H scope (compEnvC scope cl Ca X.env) fp) (own.map (·.2)) tg g)
    (ht : ∀ (s : Shared) (H : Hp) (Ca : Addr) (cl : List (Str × Addr)) (fp : List Addr), DTs C (X.blk s H scope (compEnvC scope cl Ca X.env) fp) W0 ifs tt)
    (he : ∀ (s : Shared) (H : Hp) (Ca : Addr) (cl : List (Str × Addr)) (fp : List Addr), DE C (X.blk s H scope (compEnvC scope cl Ca X.env) fp) W0 elt te) (hs : ∀ x, foldedSetIterable iter X.env x = pure x := by intro _; rfl) :
    DE C X W (.ListComp elt [⟨tg, iter, ifs, 0⟩] scope pos) (eLc (own.map (·.2)) t g tt te) :=
  ⟨PE.imp (pe_lc hc hN hi.run ok (fun s H Ca cl fp => (hg s H Ca cl fp).run) (fun s H Ca cl fp => (ht s H Ca cl fp).run) (fun s H Ca cl fp => (he s H Ca cl fp).run) hs) fun _ _ _ => lc_read⟩
/-- name = [..], on one line -/
theorem ds_setLc {i : Nat} {y : Str} {py spos : Pos} (hc : X.calm = true) (hN : X.N.Nodup) (hy : X.N[i]? = some y) (hyl : X.env.scope.names.lookup y = some .local)
    (hsw : swapsWith (.ListComp elt [⟨tg, iter, ifs, 0⟩] scope pos) (some (.Name y py)) spos.line X.env = pure true) (hi : DI C X W tg iter t) (ok : BlkOk X.N X.env.scope scope own)
    (hg : ∀ (s : Shared) (H : Hp) (Ca : Addr) (cl : List (Str × Addr)) (fp : List Addr), DV C (X.blk s H scope (compEnvC scope cl Ca X.env) fp) (own.map (·.2)) tg g)
    (ht : ∀ (s : Shared) (H : Hp) (Ca : Addr) (cl : List (Str × Addr)) (fp : List Addr), DTs C (X.blk s H scope (compEnvC scope cl Ca X.env) fp) W0 ifs tt)
    (he : ∀ (s : Shared) (H : Hp) (Ca : Addr) (cl : List (Str × Addr)) (fp : List Addr), DE C (X.blk s H scope (compEnvC scope cl Ca X.env) fp) W0 elt te) (hs : ∀ x, foldedSetIterable iter X.env x = pure x := by intro _; rfl) :
    DS C X W (.Assign [.Name y py] (.ListComp elt [⟨tg, iter, ifs, 0⟩] scope pos) spos) (sSet i (eLc (own.map (·.2)) t g tt te)) :=
  ⟨PS.imp (ps_setLc hc hN hy hyl hsw hi.run ok (fun s H Ca cl fp => (hg s H Ca cl fp).run) (fun s H Ca cl fp => (ht s H Ca cl fp).run) (fun s H Ca cl fp => (he s H Ca cl fp).run) hs) fun Ds σ H ⟨N, G, S, R, p⟩ => by
    refine lc_read (Q := fun x H1 => gName i x σ H1 Ds.nx) ⟨N, G, S, R, Po.out p fun r S1 v G1 H1 R1 g1 h1 p1 => ?_⟩
    obtain ⟨S2, q, p2⟩ := ofO_run p1
    obtain ⟨G2, R2, g2⟩ := R1.stor h1 q
    exact p2 _ G2 H1 R2 g2⟩
end

/-! ### two generators -/
def lcO (vs vs1 : List Nat) (g : Tg) (tt : T) (t1 : I) (g1 : Tg) (tt1 : T) (te : E) : List D → List D → Sls → Ou (List D)
  | [], acc, S => .ok acc S
  | d :: ds, acc, S => match g d S with
    | none => .bad
    | some S1 => (tt S1).bind fun b S2 => if b = true then (t1 S2).bind fun ds1 S3 => (lcL vs1 g1 tt1 te ds1 acc (wipeS S3 vs1)).bind fun acc' S4 => lcO vs vs1 g tt t1 g1 tt1 te ds acc' (wipeS S4 vs)
      else lcO vs vs1 g tt t1 g1 tt1 te ds acc (wipeS S2 vs)
def eLc2 (vs vs1 : List Nat) (t : I) (g : Tg) (tt : T) (t1 : I) (g1 : Tg) (tt1 : T) (te : E) : E := fun S => (t S).bind fun ds S1 =>
  if freeS S1 vs = true then noEx ((lcO vs vs1 g tt t1 g1 tt1 te ds [] (wipeS S1 vs)).bind fun acc S2 => .ok (.ow (.lst acc)) (restS S1 S2 vs)) else .bad
section
variable {M : Mo} {W : WX} {vs vs1 : List Nat} {t t1 : I} {g g1 : Tg} {tt tt1 : T} {te : E}
theorem lc2_read (hv : ∀ i ∈ vs1, i ∈ vs) {σ : L2.St} {H : Hp} {Q : VK} (h : tE M W (eLc2 vs vs1 t g tt t1 g1 tt1 te) σ H Q) : tLc2 (tI M W t) (tV M vs g) (tT M W0 tt) (tI M W0 t1) (tV M vs1 g1) (tT M W0 tt1) (tE M W0 te) vs vs1 σ H Q := by
  obtain ⟨N, G, S, R, q⟩ := h
  refine ⟨N, G, S, R, Po.bind q fun ds S1 J G1 H1 R1 ga h1 p1 => ?_⟩
  intro Da np
  have nl := R1.notLent np
  split at p1 <;> first | exact p1.elim | skip
  rename_i hf
  refine ⟨fun i m H => ∃ G S acc av, SR M (N.lay Da (.lst av)) G S (L2.wipe σ vs) H ∧ GLe G1 G ∧ RVs M G av acc ∧ i ≤ ds.length ∧ m = ds.length - i ∧ Po M W σ N (relE M N σ) G1 (noEx ((lcO vs vs1 g tt t1 g1 tt1 te (ds.drop i) acc S).bind fun acc S2 => .ok (.ow (.lst acc)) (restS S1 S2 vs))) Q,
    ⟨ds.length, G1, wipeS S1 vs, [], [], (R1.wipe vs).lay np, GLe.refl _, .nil, Nat.zero_le _, rfl, p1⟩, ?_⟩
  rintro i m H2 ⟨G2, S2, acc, av, R2, g2, ra, hle, rfl, p2⟩
  obtain ⟨w1, w2⟩ := h1 (N.lay Da (.lst av)) i G2 S2 (L2.wipe σ vs) H2 R2 g2
  by_cases hi : i < ds.length
  · obtain ⟨d, hd⟩ : ∃ d, ds[i]? = some d := ⟨ds[i], List.getElem?_eq_getElem hi⟩
    have hdr : ds.drop i = d :: ds.drop (i + 1) := by
      rw [List.drop_eq_getElem_cons hi]
      have e : ds[i] = d := Option.some.inj ((List.getElem?_eq_getElem hi).symm.trans hd)
      rw [e]
    rw [hdr] at p2
    unfold lcO at p2
    obtain ⟨go, yl⟩ := w1 d hd
    refine .inr ⟨go, fun H' => ∃ G S acc av, SR M (N.lay Da (.lst av)) G S (L2.wipe σ vs) H' ∧ GLe G1 G ∧ RVs M G av acc ∧ Po M W σ N (relE M N σ) G1 (noEx ((lcO vs vs1 g tt t1 g1 tt1 te (ds.drop (i + 1)) acc S).bind fun acc S2 => .ok (.ow (.lst acc)) (restS S1 S2 vs))) Q,
      fun H' ⟨G', S', acc', av', R', g', ra', p'⟩ => ⟨ds.length - (i + 1), by omega, G', S', acc', av', R', g', ra', hi, rfl, p'⟩, fun x H' y => ?_⟩
    obtain ⟨G3, R3, g3, r3⟩ := yl x H' y
    cases hg : g d S2 with
    | none => rw [hg] at p2; exact p2.elim
    | some S3 =>
      rw [hg] at p2
      refine ⟨_, G3, S2, d, S3, R3, r3, hg, fun σ4 G4 H4 R4 g4 e4 => ?_⟩
      have e4' : L2.wipe σ4 vs = L2.wipe σ vs := e4.trans (wipe_wipe fun i hi => hi)
      refine ⟨e4', _, G4, S3, R4, ?_⟩
      dsimp only at p2
      cases ht : tt S3 with
      | bad => rw [ht] at p2; exact p2.elim
      | ex e S5 => rw [ht] at p2; exact p2.elim
      | ok b S5 =>
        rw [ht, Ou.bind_ok] at p2
        intro v G5 H5 R5 g5 hb
        have hb : v = b := hb
        subst hb
        cases v with
        | false =>
          rw [if_neg Bool.false_ne_true] at p2 ⊢
          have R6 := R5.wipe vs
          rw [e4'] at R6
          exact ⟨G5, _, acc, av, R6, ((g2.trans g3).trans g4).trans g5, RVs.mono ra ((g3.trans g4).trans g5), p2⟩
        | true =>
          rw [if_pos rfl] at p2 ⊢
          refine ⟨_, G5, S5, R5, ?_⟩
          cases hi1 : t1 S5 with
          | bad => rw [hi1] at p2; exact p2.elim
          | ex e S6 => rw [hi1] at p2; exact p2.elim
          | ok ds1 S6 =>
            rw [hi1, Ou.bind_ok] at p2
            intro J1 G6 H6 R6 g6 wk
            have gg6 := ((g3.trans g4).trans g5).trans g6
            refine ⟨fun j k H => ∃ G S acc av, SR M (N.lay Da (.lst av)) G S (L2.wipe σ4 vs1) H ∧ GLe G6 G ∧ RVs M G av acc ∧ j ≤ ds1.length ∧ k = ds1.length - j ∧
                Po M W σ N (relE M N σ) G1 (noEx (((lcL vs1 g1 tt1 te (ds1.drop j) acc S).bind fun acc' S4 => lcO vs vs1 g tt t1 g1 tt1 te (ds.drop (i + 1)) acc' (wipeS S4 vs)).bind fun acc S2 => .ok (.ow (.lst acc)) (restS S1 S2 vs))) Q,
              ⟨ds1.length, G6, wipeS S6 vs1, acc, av, R6.wipe vs1, GLe.refl _, RVs.mono ra gg6, Nat.zero_le _, rfl, p2⟩, ?_⟩
            rintro j k H7 ⟨G7, S7, acc7, av7, R7, g7, ra7, hlj, rfl, p7⟩
            obtain ⟨u1, u2⟩ := wk _ j G7 S7 (L2.wipe σ4 vs1) H7 R7 g7
            by_cases hj : j < ds1.length
            · obtain ⟨d1, hd1⟩ : ∃ d, ds1[j]? = some d := ⟨ds1[j], List.getElem?_eq_getElem hj⟩
              have hdr1 : ds1.drop j = d1 :: ds1.drop (j + 1) := by
                rw [List.drop_eq_getElem_cons hj]
                have e : ds1[j] = d1 := Option.some.inj ((List.getElem?_eq_getElem hj).symm.trans hd1)
                rw [e]
              rw [hdr1] at p7
              unfold lcL at p7
              obtain ⟨go1, yl1⟩ := u1 d1 hd1
              refine .inr ⟨go1, fun H' => ∃ G S acc av, SR M (N.lay Da (.lst av)) G S (L2.wipe σ4 vs1) H' ∧ GLe G6 G ∧ RVs M G av acc ∧
                  Po M W σ N (relE M N σ) G1 (noEx (((lcL vs1 g1 tt1 te (ds1.drop (j + 1)) acc S).bind fun acc' S4 => lcO vs vs1 g tt t1 g1 tt1 te (ds.drop (i + 1)) acc' (wipeS S4 vs)).bind fun acc S2 => .ok (.ow (.lst acc)) (restS S1 S2 vs))) Q,
                fun H' ⟨G', S', acc', av', R', g', ra', p'⟩ => ⟨ds1.length - (j + 1), by omega, G', S', acc', av', R', g', ra', hj, rfl, p'⟩, fun x1 H8 y1 => ?_⟩
              obtain ⟨G8, R8, g8, r8⟩ := yl1 x1 H8 y1
              cases hg1 : g1 d1 S7 with
              | none => rw [hg1] at p7; exact p7.elim
              | some S8 =>
                rw [hg1] at p7
                refine ⟨_, G8, S7, d1, S8, R8, r8, hg1, fun σ9 G9 H9 R9 g9 e9 => ?_⟩
                have e9' : L2.wipe σ9 vs1 = L2.wipe σ4 vs1 := e9.trans (wipe_wipe fun i hi => hi)
                refine ⟨e9', _, G9, S8, R9, ?_⟩
                dsimp only at p7
                cases ht1 : tt1 S8 with
                | bad => rw [ht1] at p7; exact p7.elim
                | ex e S10 => rw [ht1] at p7; exact p7.elim
                | ok b1 S10 =>
                  rw [ht1, Ou.bind_ok] at p7
                  intro v10 G10 H10 R10 g10 hb1
                  have hb1 : v10 = b1 := hb1
                  subst hb1
                  have gg10 := ((g8.trans g9).trans g10)
                  cases v10 with
                  | false =>
                    rw [if_neg Bool.false_ne_true] at p7 ⊢
                    have R11 := R10.wipe vs1
                    rw [e9'] at R11
                    exact ⟨G10, _, acc7, av7, R11, g7.trans gg10, RVs.mono ra7 gg10, p7⟩
                  | true =>
                    rw [if_pos rfl] at p7 ⊢
                    refine ⟨_, G10, S10, R10, ?_⟩
                    cases he : te S10 with
                    | bad => rw [he] at p7; exact p7.elim
                    | ex e S11 => rw [he] at p7; exact p7.elim
                    | ok r S11 =>
                      rw [he, Ou.bind_ok] at p7
                      intro v11 G11 H11 R11 g11 hr
                      cases hfz : frz S11 r with
                      | none => rw [hfz] at p7; exact p7.elim
                      | some z =>
                        obtain ⟨e, S12⟩ := z
                        rw [hfz] at p7
                        dsimp only at p7
                        split at p7 <;> first | exact p7.elim | skip
                        rename_i hlen
                        obtain ⟨G12, R12, g12, r12⟩ := R11.frz hr hfz
                        have gg := gg10.trans (g11.trans g12)
                        have R13 := R12.wipe vs1
                        rw [e9'] at R13
                        exact ⟨av7, R12.layAt nl, by rw [Paired.length ra7]; exact hlen, G12, _, acc7 ++ [e], av7 ++ [v11], R13.relay nl, g7.trans gg, RVs.append (RVs.mono ra7 gg) (.cons r12 .nil), p7⟩
            · have e : j = ds1.length := by omega
              subst e
              rw [List.drop_length] at p7
              unfold lcL at p7
              rw [Ou.bind_ok] at p7
              have R8 := R7.wipe vs
              rw [wipe_wipe hv, e4'] at R8
              exact .inl ⟨u2 (Nat.le_refl _), G7, _, acc7, av7, R8, (g2.trans gg6).trans g7, ra7, p7⟩
  · have e : i = ds.length := by omega
    subst e
    rw [List.drop_length] at p2
    obtain ⟨z1, z2⟩ := SR.lcEnd R1 np hf R2 g2 ra
    exact .inl ⟨w2 (Nat.le_refl _), p2 (.ref Da) G2 H2 z1 g2 z2⟩
end
section
variable {C : Addr → Option D} {X : Cx} {W : WX} {elt tg iter tg1 iter1 : Expr} {ifs ifs1 : List Expr} {scope : Scope} {own : List (Str × Nat)} {vs1 : List Nat} {pos : Pos} {t t1 : I} {g g1 : Tg} {tt tt1 : T} {te : E}
abbrev AllB (X : Cx) (scope : Scope) (P : Cx → Prop) : Prop := ∀ (s : Shared) (H : Hp) (Ca : Addr) (cl : List (Str × Addr)) (fp : List Addr), P (X.blk s H scope (compEnvC scope cl Ca X.env) fp)
theorem de_lc2 (hc : X.calm = true) (hN : X.N.Nodup) (hi : DI C X W tg iter t) (ok : BlkOk X.N X.env.scope scope own) (hv : ∀ i ∈ vs1, i ∈ own.map (·.2))
    (hg : AllB X scope fun Y => DV C Y (own.map (·.2)) tg g) (ht : AllB X scope fun Y => DTs C Y W0 ifs tt) (hi1 : AllB X scope fun Y => DI C Y W0 tg1 iter1 t1)
    (hg1 : AllB X scope fun Y => DV C Y vs1 tg1 g1) (ht1 : AllB X scope fun Y => DTs C Y W0 ifs1 tt1) (he : AllB X scope fun Y => DE C Y W0 elt te)
    (hs : ∀ x, foldedSetIterable iter X.env x = pure x := by intro _; rfl) (hs1 : ∀ env x, foldedSetIterable iter1 env x = pure x := by intro _ _; rfl) :
    DE C X W (.ListComp elt [⟨tg, iter, ifs, 0⟩, ⟨tg1, iter1, ifs1, 0⟩] scope pos) (eLc2 (own.map (·.2)) vs1 t g tt t1 g1 tt1 te) :=
  ⟨PE.imp (pe_lc2 hc hN hi.run ok hv (fun s H Ca cl fp => (hg s H Ca cl fp).run) (fun s H Ca cl fp => (ht s H Ca cl fp).run) (fun s H Ca cl fp => (hi1 s H Ca cl fp).run) (fun s H Ca cl fp => (hg1 s H Ca cl fp).run)
    (fun s H Ca cl fp => (ht1 s H Ca cl fp).run) (fun s H Ca cl fp => (he s H Ca cl fp).run) hs hs1) fun _ _ _ => lc2_read hv⟩
theorem ds_setLc2 {i : Nat} {y : Str} {py spos : Pos} (hc : X.calm = true) (hN : X.N.Nodup) (hy : X.N[i]? = some y) (hyl : X.env.scope.names.lookup y = some .local)
    (hsw : swapsWith (.ListComp elt [⟨tg, iter, ifs, 0⟩, ⟨tg1, iter1, ifs1, 0⟩] scope pos) (some (.Name y py)) spos.line X.env = pure true) (hi : DI C X W tg iter t) (ok : BlkOk X.N X.env.scope scope own) (hv : ∀ i ∈ vs1, i ∈ own.map (·.2))
    (hg : AllB X scope fun Y => DV C Y (own.map (·.2)) tg g) (ht : AllB X scope fun Y => DTs C Y W0 ifs tt) (hi1 : AllB X scope fun Y => DI C Y W0 tg1 iter1 t1)
    (hg1 : AllB X scope fun Y => DV C Y vs1 tg1 g1) (ht1 : AllB X scope fun Y => DTs C Y W0 ifs1 tt1) (he : AllB X scope fun Y => DE C Y W0 elt te)
    (hs : ∀ x, foldedSetIterable iter X.env x = pure x := by intro _; rfl) (hs1 : ∀ env x, foldedSetIterable iter1 env x = pure x := by intro _ _; rfl) :
    DS C X W (.Assign [.Name y py] (.ListComp elt [⟨tg, iter, ifs, 0⟩, ⟨tg1, iter1, ifs1, 0⟩] scope pos) spos) (sSet i (eLc2 (own.map (·.2)) vs1 t g tt t1 g1 tt1 te)) :=
  ⟨PS.imp (ps_setLc2 hc hN hy hyl hsw hi.run ok hv (fun s H Ca cl fp => (hg s H Ca cl fp).run) (fun s H Ca cl fp => (ht s H Ca cl fp).run) (fun s H Ca cl fp => (hi1 s H Ca cl fp).run) (fun s H Ca cl fp => (hg1 s H Ca cl fp).run)
    (fun s H Ca cl fp => (ht1 s H Ca cl fp).run) (fun s H Ca cl fp => (he s H Ca cl fp).run) hs hs1) fun Ds σ H ⟨N, G, S, R, p⟩ => by
    refine lc2_read hv (Q := fun x H1 => gName i x σ H1 Ds.nx) ⟨N, G, S, R, Po.out p fun r S1 v G1 H1 R1 g1 h1 p1 => ?_⟩
    obtain ⟨S2, q, p2⟩ := ofO_run p1
    obtain ⟨G2, R2, g2⟩ := R1.stor h1 q
    exact p2 _ G2 H1 R2 g2⟩
end
end LD
/-! the data layer, part o: calls that are lent a slot; methods; raise, try -/
namespace LD
open PySem PySem.Spec PyProof.Rows L2

/-! ### a slot is forgotten, and known again -/
section
variable {M : Mo} {N : En} {G G' : Gh} {S S' : Sls} {σ τ : L2.St} {H H' : Hp} {a p : Addr} {d d' : D} {v : V} {r : Rv}
theorem SR.forget (R : SR M N G S σ H) (j : Nat) : SR M N G (S.set j .un) σ H where
  con := R.con
  cc := R.cc
  trk := R.trk
  old := R.old
  keep := R.keep
  lent := R.lent
  len := by rw [List.length_set]; exact R.len
  sl := fun i s e => by
    by_cases h : i = j
    · subst h
      have hi : i < S.length := by
        have z := (List.getElem?_eq_some_iff.mp e).1
        rwa [List.length_set] at z
      rw [List.getElem?_set_self hi] at e
      cases e
      trivial
    · rw [List.getElem?_set_ne (Ne.symm h)] at e
      exact R.sl i s e
  sep := fun i k s t a hik ei ek mi mk qi qk => by
    have key : ∀ (i : Nat) (s : Sl), (S.set j .un)[i]? = some s → s.mine = true → S[i]? = some s := fun i s e m => by
      by_cases h : i = j
      · subst h
        have hi : i < S.length := by
          have z := (List.getElem?_eq_some_iff.mp e).1
          rwa [List.length_set] at z
        rw [List.getElem?_set_self hi] at e
        cases e
        cases m
      · rw [List.getElem?_set_ne (Ne.symm h)] at e
        exact e
    exact R.sep i k s t a hik (key i s ei mi) (key k t ek mk) mi mk qi qk
theorem SR.regain (R : SR M N G S σ H) {j : Nat} {s : Sl} (hs : SlOk M N G σ H j s) (hn : s.mine = true → ∀ (i : Nat) (t : Sl) (a : Addr), i ≠ j → S[i]? = some t → t.mine = true → σ[j]? = some (some (.ref a)) → σ[i]? ≠ some (some (.ref a))) : SR M N G (S.set j s) σ H where
  con := R.con
  cc := R.cc
  trk := R.trk
  old := R.old
  keep := R.keep
  lent := R.lent
  len := by rw [List.length_set]; exact R.len
  sl := fun i t e => by
    by_cases h : i = j
    · subst h
      have hi : i < S.length := by
        have z := (List.getElem?_eq_some_iff.mp e).1
        rwa [List.length_set] at z
      rw [List.getElem?_set_self hi] at e
      cases e
      exact hs
    · rw [List.getElem?_set_ne (Ne.symm h)] at e
      exact R.sl i t e
  sep := fun i k t u b hik ei ek mi mk qi qk => by
    by_cases h : i = j
    · subst h
      have hi : i < S.length := by
        have z := (List.getElem?_eq_some_iff.mp ei).1
        rwa [List.length_set] at z
      rw [List.getElem?_set_self hi] at ei
      cases ei
      rw [List.getElem?_set_ne hik] at ek
      exact hn mi k u b (Ne.symm hik) ek mk qi qk
    · rw [List.getElem?_set_ne (Ne.symm h)] at ei
      by_cases h2 : k = j
      · subst h2
        have hk : k < S.length := by
          have z := (List.getElem?_eq_some_iff.mp ek).1
          rwa [List.length_set] at z
        rw [List.getElem?_set_self hk] at ek
        cases ek
        exact hn mk i t b hik ei mi qk qi
      · rw [List.getElem?_set_ne (Ne.symm h2)] at ek
        exact R.sep i k t u b hik ei ek mi mk qi qk
/-- the callee's start, the first argument lent -/
theorem SR.calleeL (R : SR M N G S σ H) {vs : List V} {ds : List D} (h : RVs M G vs ds) (nG : G a = none) (ho : HoldO M G H a d) : SR M ⟨H, [(0, a)], G⟩ G (.io d :: ds.map .sh) ((V.ref a :: vs).map some) H where
  con := R.con
  cc := R.cc
  trk := R.trk
  old := fun _ _ e => .inl e
  keep := fun _ _ e _ => e
  lent := fun i b e => by
    have e' : (i, b) = (0, a) := by simpa using e
    cases e'
    exact ho.trk
  len := by simp [Paired.length h]
  sl := fun i s e => by
    cases i with
    | zero =>
      have e : s = .io d := by simpa using e.symm
      subst e
      exact ⟨a, rfl, nG, ho, by simp⟩
    | succ i =>
      rw [List.getElem?_cons_succ, List.getElem?_map] at e
      obtain ⟨c, h1, h2⟩ := Option.map_eq_some_iff.mp e
      subst h2
      have hi : i < vs.length := by rw [Paired.length h]; exact (List.getElem?_eq_some_iff.mp h1).1
      have hv : vs[i]? = some vs[i] := List.getElem?_eq_getElem hi
      exact ⟨vs[i], by rw [List.map_cons, List.getElem?_cons_succ, List.getElem?_map, hv]; rfl, Paired.at2 h hv h1⟩
  sep := fun i j s t b hij ei ej mi mj _ _ => by
    have key : ∀ (i : Nat) (s : Sl), (Sl.io d :: ds.map .sh)[i]? = some s → s.mine = true → i = 0 := fun i s e m => by
      cases i with
      | zero => rfl
      | succ i =>
        rw [List.getElem?_cons_succ, List.getElem?_map] at e
        obtain ⟨c, h1, h2⟩ := Option.map_eq_some_iff.mp e
        subst h2
        cases m
    exact absurd ((key i s ei mi).trans (key j t ej mj).symm) hij
end
/-- how a lent slot stands -/
def Sl.with (s : Sl) (d : D) : Sl := match s with
  | .ow _ => .ow d
  | .io _ => .io d
  | s => s
def lAns (S : Sls) (j : Nat) (s : Sl) : FOut → Ou Rv
  | .ret r (.io d :: _) => ans (S.set j (s.with d)) (rvOf r)
  | .ex e (.io d :: _) => .ex e (S.set j (s.with d))
  | _ => .bad
/-- f(x, ..), the first one lent -/
def eCallL (f : F) (ts : Es) : E := fun S => (ts S).bind fun rs S1 => match rs with
  | .bo j :: rs' => match frzs S1 rs' with
    | some (ds, S2) => match S2[j]? with
      | some (.ow d) => lAns S2 j (.ow d) (f (.io d :: ds.map .sh))
      | some (.io d) => lAns S2 j (.io d) (f (.io d :: ds.map .sh))
      | _ => .bad
    | none => .bad
  | _ => .bad
section
variable {M : Mo} {N : En} {G G' : Gh} {S S' A : Sls} {σ τ : L2.St} {H H' : Hp} {a p : Addr} {d d' : D} {v : V} {r : Rv}
/-- what a slot of ours at a is -/
def MineAt (N : En) (j : Nat) (a : Addr) : Sl → Prop
  | .ow _ => N.H a = none
  | .io _ => (j, a) ∈ N.L
  | _ => False
theorem SR.mineAt (R : SR M N G S σ H) {j : Nat} {s : Sl} {d : D} (e : S[j]? = some s) (hs : s = .ow d ∨ s = .io d) : ∃ a, σ[j]? = some (some (.ref a)) ∧ G a = none ∧ HoldO M G H a d ∧ MineAt N j a s := by
  rcases hs with rfl | rfl
  · obtain ⟨a, h1, h2, h3, h4⟩ := R.sl j _ e; exact ⟨a, h1, h2, h3, h4⟩
  · obtain ⟨a, h1, h2, h3, h4⟩ := R.sl j _ e; exact ⟨a, h1, h2, h3, h4⟩
/-- behind a call that was lent slot j -/
theorem SR.afterL (R : SR M N G S σ H) {j : Nat} {s : Sl} {us : List V} {A' : Sls} (e : S[j]? = some s) (hs : s = .ow d ∨ s = .io d) (hσ : σ[j]? = some (some (.ref a))) (R' : SR M ⟨H, [(0, a)], G⟩ G' (.io d' :: A') ((V.ref a :: us).map some) H') (g : GLe G G') :
    SR M N G' (S.set j (s.with d')) σ H' := by
  obtain ⟨b, h1, h2, h3, h4⟩ := R.mineAt e hs
  rw [hσ] at h1
  cases h1
  have hm : s.mine = true := by rcases hs with rfl | rfl <;> rfl
  have oth : ∀ (i : Nat) (t : Sl), i ≠ j → S[i]? = some t → t.mine = true → σ[i]? ≠ some (some (.ref a)) := fun i t hi ei mi qi => R.sep j i s t a (Ne.symm hi) e ei hm mi hσ qi
  have ofSet : ∀ (i : Nat) (t : Sl), (S.set j .un)[i]? = some t → t.mine = true → i ≠ j ∧ S[i]? = some t := fun i t ei mi => by
    by_cases h : i = j
    · subst h
      have hi : i < S.length := (List.getElem?_eq_some_iff.mp e).1
      rw [List.getElem?_set_self hi] at ei
      cases ei
      cases mi
    · rw [List.getElem?_set_ne (Ne.symm h)] at ei
      exact ⟨h, ei⟩
  have R1 := (R.forget j).after R' g fun i c hc => by
    have e' : (i, c) = (0, a) := by simpa using hc
    cases e'
    refine ⟨h2, fun k t ek mk qk => ?_, ?_⟩
    · obtain ⟨hk, ek⟩ := ofSet k t ek mk
      exact oth k t hk ek mk qk
    · rcases hs with rfl | rfl
      · exact .inl h4
      · exact .inr ⟨j, h4⟩
  obtain ⟨b, z1, z2, z3, z4⟩ := R'.sl 0 (.io d') rfl
  have hb : b = a := by
    have z1' : some (some (V.ref a)) = some (some (V.ref b)) := z1
    cases z1'
    rfl
  subst hb
  have R2 := R1.regain (j := j) (s := s.with d') (by
    rcases hs with rfl | rfl
    · exact ⟨_, hσ, z2, z3, h4⟩
    · exact ⟨_, hσ, z2, z3, h4⟩) fun _ i t c hi ei mi qc => by
      rw [hσ] at qc
      cases qc
      exact oth i t hi (ofSet i t ei mi).2 mi
  rw [List.set_set] at R2
  exact R2
end
section
variable {C : Addr → Option D} {X : Cx} {W : WX} {e a b : Expr} {es : List Expr} {pos p : Pos}
theorem de_callL {k : Nat} {f : Addr} {fd : FuncData} {ps : List Str} {fs : F} {x : Str} {ts : Es} (Fn : FnG X.prog X.w X.K X.mg X.base k f fd ps (spF (mo X C) fs)) (hr : Room k X.A) (gd : X.A.guards = some []) (hg : Gl X x) (hm : X.mg x = some (.ref f))
    (hk : PySem.W.keepIn X.K (.ref f) = true) (hb : Binds X.K fd ps []) (tk : Takes X W) (ha : DA C X W (e :: es) ts) (hdb : (x == ("__debug__" : Str)) = false := by decide) (he : starEach (e :: es) X.env = (false, eval e X.env) :: starEach es X.env := by rfl)
    (hpl : (backTo pos (starEach es X.env)).any (·.1) = false := by rfl) : DE C X W (.Call (.Name x p) (e :: es) [] pos) (eCallL fs ts) :=
  ⟨PE.imp (pe_callG Fn hr gd hg hm hk hb (fun σ => passAt tk σ) ha.run hdb he hpl) fun σ H Q ⟨N, G, S, R, pp⟩ => ⟨N, G, S, R, Po.bind pp fun rs S1 vs G1 H1 R1 g1 h1 p1 => by
    cases h1 with
    | nil => exact p1.elim
    | @cons v r us rs' hv ht =>
    cases r with
    | sh d => exact p1.elim
    | ow d => exact p1.elim
    | bo j =>
    have hσ : σ[j]? = some (some v) := hv
    dsimp only at p1
    cases q : frzs S1 rs' with
    | none => rw [q] at p1; exact p1.elim
    | some z =>
      obtain ⟨ds, S2⟩ := z
      rw [q] at p1
      obtain ⟨G2, R2, g2, r2⟩ := R1.frzs ht q
      dsimp only at p1
      have key : ∀ (s : Sl) (d : D), S2[j]? = some s → (s = .ow d ∨ s = .io d) → Po (mo X C) W σ N (relE (mo X C) N σ) G1 (lAns S2 j s (fs (.io d :: ds.map .sh))) Q →
          spF (mo X C) fs (v :: us) H1 Q (WE W σ) := fun s d hj hs p1 => by
        obtain ⟨a, h1, h2, h3, h4⟩ := R2.mineAt hj hs
        rw [hσ] at h1
        cases h1
        replace p1 := Po.up p1 g2
        refine ⟨[(0, a)], G2, .io d :: ds.map .sh, R2.calleeL r2 h2 h3, (fun i c h => by
          have e' : (i, c) = (0, a) := by simpa using h
          cases e'
          exact ⟨d, rfl, rfl⟩), ?_⟩
        cases hf : fs (.io d :: ds.map .sh) with
        | bad => rw [hf] at p1; exact p1.elim
        | ret r A =>
          rw [hf] at p1
          intro w G' H' R' g' hret
          cases A with
          | nil => exact p1.elim
          | cons s0 A' =>
            cases s0 with
            | io d' =>
              unfold lAns at p1
              dsimp only at p1
              have R3 := R2.afterL hj hs hσ R' g'
              cases hrv : rvOf r with
              | none => rw [hrv] at p1; exact p1.elim
              | some rv =>
                rw [hrv] at p1
                refine p1 w G' H' R3 g' ?_
                cases r with
                | sh d => cases hrv; exact hret
                | ow d =>
                  cases hrv
                  obtain ⟨b, e1, k1, k2, k3⟩ := hret
                  have np : H1 b = none := k2
                  refine ⟨b, e1, k1, R2.fresh0 np, k3, fun i t ei mi qi => ?_⟩
                  by_cases h : i = j
                  · subst h
                    rw [hσ] at qi
                    cases qi
                    obtain ⟨o, z⟩ := h3.trk
                    rw [np] at z; cases z
                  · rw [List.getElem?_set_ne (Ne.symm h)] at ei
                    exact R2.noMine np i t ei mi qi
                | un => cases hrv
                | io d => cases hrv
            | un => exact p1.elim
            | sh d' => exact p1.elim
            | ow d' => exact p1.elim
        | ex e A =>
          rw [hf] at p1
          intro cls dd G' H' R' g' hex
          cases A with
          | nil => exact p1.elim
          | cons s0 A' =>
            cases s0 with
            | io d' => exact p1 cls dd G' H' (R2.afterL hj hs hσ R' g') g' hex
            | un => exact p1.elim
            | sh d' => exact p1.elim
            | ow d' => exact p1.elim
      split at p1
      · rename_i d hj; exact key _ d hj (.inl rfl) p1
      · rename_i d hj; exact key _ d hj (.inr rfl) p1
      · exact p1.elim⟩⟩
end

/-! ### raise, try -/
def sRaise (c : Str) : B := fun S => .ex ⟨c, []⟩ S
/-- a class's name -/
def ClsIs (M : Mo) (c : Str) (cls : Value) : Prop := (∃ C, cls = .ref C ∧ M.mg c = some (.ref C)) ∨ ∃ n : String, cls = .type n ∧ c = Str.ofString n ∧ M.mg c = none
/-- no exception leaves a suite -/
def noExO : Out → Out
  | .ex _ _ => .bad
  | o => o
def hdl (em : Str → Str → Option Bool) (e : Ex) (S : Sls) : List (Str × B) → Out
  | [] => .ex e S
  | (h, t) :: r => match em e.c h with
    | some true => noExO (t S)
    | some false => hdl em e S r
    | none => .bad
def sTry (em : Str → Str → Option Bool) (t : B) (hs : List (Str × B)) : B := fun S => match t S with
  | .ex e S1 => hdl em e S1 hs
  | o => o
section
variable {C : Addr → Option D} {X : Cx} {W : WX}
theorem ds_raise {e : Expr} {Ca : Addr} {c : Str} {pos : Pos} (hc : X.calm = true) (tk : Takes X W) (he : PMk X e (fun _ H Q => Q (.ref Ca) none H)) (hm : X.mg c = some (.ref Ca)) : DS C X W (.Raise (some e) none pos) (sRaise c) :=
  ⟨PS.imp (ps_raise hc tk he) fun Ds σ H ⟨N, G, S, R, p⟩ => p (.ref Ca) none σ G H R (GLe.refl _) ⟨.inl ⟨Ca, rfl, hm⟩, .inl ⟨rfl, rfl⟩⟩⟩
/-- what em says of the class that a clause names -/
def EmOk (X : Cx) (em : Str → Str → Option Bool) (x : Str) (c : Value) : Prop := ∀ (ec : Str) (cls : Value) (b : Bool), ((∃ Ca, cls = .ref Ca ∧ X.mg ec = some (.ref Ca)) ∨ ∃ n : String, cls = .type n ∧ ec = Str.ofString n ∧ X.mg ec = none) → em ec x = some b → PySem.W.exmOne X.K cls c = some b
def DHs (C : Addr → Option D) (X : Cx) (W : WX) (em : Str → Str → Option Bool) (hds : List ExceptHandler) (hs : List (Str × B)) : Prop := ∃ l, HdsOk X hds l ∧ ∀ (e : Ex) (Ds : Ends) (N : En) (G : Gh) (S : Sls) (σ : L2.St) (H : Hp) (cls : Value) (dd : Option Addr),
  SR (mo X C) N G S σ H → ExIs (mo X C) G H e cls dd → PoS (mo X C) W N G (hdl em e S hs) Ds → wMany X.K W Ds l cls dd σ H
theorem dhs_nil {em : Str → Str → Option Bool} : DHs C X W em [] [] := ⟨[], .nil, fun e Ds N G S σ H cls dd R x p => p cls dd σ G H R (GLe.refl _) x⟩
theorem dhs_cons {em : Str → Str → Option Bool} {x : Str} {c : Value} {b₀ : Stmt} {suite : List Stmt} {np pos' : Pos} {hds : List ExceptHandler} {t : B} {hs : List (Str × B)} (hc : Names X x c) (ok : EmOk X em x c)
    (hsu : ∀ (a : Addr) (oe : Obj) (pn : List (Addr × Obj)), DSs C (X.suite a ((a, oe) :: pn)) W0 (b₀ :: suite) t) (r : DHs C X W em hds hs) : DHs C X W em (.ExceptHandler (some (.Name x np)) none (b₀ :: suite) pos' :: hds) ((x, t) :: hs) := by
  obtain ⟨l, hl, k⟩ := r
  refine ⟨(c, fun _ _ _ => tB (mo X C) W0 t) :: l, .cons hc (fun a oe cls d pn _ _ => (hsu a oe pn).run) hl, fun e Ds N G S σ H cls dd R x p => ?_⟩
  unfold hdl at p
  cases q : em e.c _ with
  | none => rw [q] at p; exact p.elim
  | some b =>
    rw [q] at p
    refine ⟨b, ok e.c cls b x.1 q, fun hb a na => ?_, fun hb => ?_⟩
    · subst hb
      refine ⟨N, G, S, R, ?_⟩
      dsimp only at p
      cases ht : t S with
      | ex e' S' => rw [ht] at p; exact p.elim
      | bad => rw [ht] at p; exact p
      | nx S' => rw [ht] at p; exact p
      | rt r S' => rw [ht] at p; exact p
      | bk S' => rw [ht] at p; exact p
      | ct S' => rw [ht] at p; exact p
    · subst hb
      exact k e Ds N G S σ H cls dd R x p
theorem ds_try {em : Str → Str → Option Bool} {body : List Stmt} {h₀ : ExceptHandler} {hds : List ExceptHandler} {t : B} {hs : List (Str × B)} {pos : Pos} (hst : X.stack = X.env :: X.outer) (hf : X.env.frame = some X.env.locals) (tk : Takes X W)
    (hb : ∀ (W' : WX) (pn : List (Addr × Obj)) (xe : Value → Shared → Prop), Takes (X.tr pn xe) W' → PassesOwn (model X.prog X.w) X.A X.env xe → DSs C (X.tr pn xe) W' body t)
    (hh : DHs C X W em (h₀ :: hds) hs) : DS C X W (.Try body (h₀ :: hds) [] [] pos) (sTry em t hs) := by
  obtain ⟨l, hl, k⟩ := hh
  refine ⟨PS.imp (ps_try_many (tb := fun W' => tB (mo X C) W' t) hst hf tk (fun W' pn xe tk' po => (hb W' pn xe tk' po).run) hl) fun Ds σ H ⟨N, G, S, R, p⟩ => ⟨N, G, S, R, ?_⟩⟩
  unfold sTry at p
  cases ht : t S with
  | ex e S' =>
    rw [ht] at p
    intro cls dd σ' G' H' R' g' x
    exact k e Ds N G' S' σ' H' cls dd R' x (PoS.up p g')
  | bad => rw [ht] at p; exact p
  | nx S' => rw [ht] at p; exact p
  | rt r S' => rw [ht] at p; exact p
  | bk S' => rw [ht] at p; exact p
  | ct S' => rw [ht] at p; exact p
end
end LD
/-! the data layer, part p: methods of lists; repr; tuple * int, list * int -/
namespace LD
open PySem PySem.Spec PyProof.Rows L2

/-! ### methods that change a slot -/
/-- what the method does: the data itself, the arguments; the answer, the data behind -/
abbrev MF := D → List D → Option (D × D)
def mAns (S : Sls) (j : Nat) (s : Sl) : Option (D × D) → Ou Rv
  | some (r, d) => .ok (.sh r) (S.set j (s.with d))
  | none => .bad
def tyOf : D → Option String
  | .lst _ => some "list"
  | .dct _ => some "dict"
  | _ => none
/-- x.m(..), x a slot of ours that stands for a T -/
def eMut (T : String) (f : MF) (j : Nat) (ts : Es) : E := fun S => match S[j]? with
  | some (.ow d) => if tyOf d = some T then (ts S).bind fun rs S1 => match frzs S1 rs with
      | some (ds, S2) => match S2[j]? with
        | some (.ow d) => mAns S2 j (.ow d) (f d ds)
        | _ => .bad
      | none => .bad
    else .bad
  | some (.io d) => if tyOf d = some T then (ts S).bind fun rs S1 => match frzs S1 rs with
      | some (ds, S2) => match S2[j]? with
        | some (.io d) => mAns S2 j (.io d) (f d ds)
        | _ => .bad
      | none => .bad
    else .bad
  | _ => .bad
/-- f is what the method's reading does -/
def MtOk (C : Addr → Option D) (X : Cx) (r : V → List V → Hp → VK → Prop) (f : MF) : Prop := ∀ (G : Gh) (H : Hp) (a : Addr) (d : D) (vs : List V) (ds : List D) (res d' : D) (Q : VK), HoldO (mo X C) G H a d → RVs (mo X C) G vs ds → f d ds = some (res, d') →
  (∀ v, RV (mo X C) G v res → ∀ o, HoldO (mo X C) G (upd H a o) a d' → Q v (upd H a o)) → r (.ref a) vs H Q
section
variable {M : Mo} {N : En} {G G' : Gh} {S S' A : Sls} {σ τ : L2.St} {H H' : Hp} {a p : Addr} {d d' : D} {v : V} {r : Rv} {o : HO}
theorem SR.writeAny (R : SR M N G S σ H) {j : Nat} {s : Sl} (e : S[j]? = some s) (hs : s = .ow d ∨ s = .io d) (q : σ[j]? = some (some (.ref a))) (hh : HoldO M G (upd H a o) a d') : SR M N G (S.set j (s.with d')) σ (upd H a o) := by
  rcases hs with rfl | rfl
  · exact R.write e q hh
  · exact R.writeIo e q hh
end
section
variable {X : Cx} {C : Addr → Option D}
theorem MtM.mtR {id : String} {r : V → List V → Hp → VK → Prop} (h : MtM X id r) : MtR X id r := h
def tyH (C : Addr → Option D) (X : Cx) (T : String) (x : V) (H : Hp) : Prop := ∃ G d, VH (mo X C) G H x d ∧ tyOf d = some T
theorem ty_ok (C : Addr → Option D) (X : Cx) (T : String) : TyOk X T (tyH C X T) := by
  intro pins σ H s x v I r ty
  obtain ⟨G, d, h, e⟩ := ty
  cases d with
  | lst ds =>
    cases e
    obtain ⟨a, vs, rfl, h1, h2⟩ := vh_lst h
    cases r
    obtain ⟨its, _, pl, _⟩ := I.list h1.sq
    refine ⟨pl.isList.typeIs, fun b e => ?_⟩
    cases e
    obtain ⟨o, _, own, _, dd, _⟩ := pl
    exact ⟨o, own, dd⟩
  | dct kvs =>
    cases e
    obtain ⟨a, es, rfl, h1, h2, _⟩ := vh_dct h
    cases r
    obtain ⟨_, o, ho, _, hc, _⟩ := dct_obj I h1
    refine ⟨⟨o, ho, hc.1⟩, fun b e => ?_⟩
    cases e
    exact ⟨o, ho, hc.2.1⟩
  | _ => cases e
section
variable {W : WX} {e : Expr} {es : List Expr} {T id : String} {name x : Str} {npos apos cpos : Pos} {r : V → List V → Hp → VK → Prop} {f : MF} {ts : Es} {j : Nat}
theorem mut_read (hf : MtOk C X r f) {σ : L2.St} {H : Hp} {Q : VK} (h : tE (mo X C) W (eMut T f j ts) σ H Q) : tMG (tyH C X T) r (tVar j) (tA (mo X C) W ts) σ H Q := by
  obtain ⟨N, G, S, R, p⟩ := h
  unfold eMut at p
  have key : ∀ (s : Sl) (d : D), S[j]? = some s → (s = .ow d ∨ s = .io d) → tyOf d = some T → Po (mo X C) W σ N (relE (mo X C) N σ) G ((ts S).bind fun rs S1 => match frzs S1 rs with
      | some (ds, S2) => match S2[j]? with
        | some s' => if s'.mine = true then match s' with
            | .ow d => mAns S2 j (.ow d) (f d ds)
            | .io d => mAns S2 j (.io d) (f d ds)
            | _ => .bad
          else .bad
        | _ => .bad
      | none => .bad) Q → tMG (tyH C X T) r (tVar j) (tA (mo X C) W ts) σ H Q := fun s d hS hs ht p => by
    obtain ⟨a, h1, h2, h3, h4⟩ := R.mineAt hS hs
    refine ⟨.ref a, h1, ⟨G, d, .inr h3, ht⟩, N, G, S, R, Po.bind p fun rs S1 vs G1 H1 R1 g1 hv p1 => ?_⟩
    cases q : frzs S1 rs with
    | none => rw [q] at p1; exact p1.elim
    | some z =>
      obtain ⟨ds, S2⟩ := z
      rw [q] at p1
      obtain ⟨G2, R2, g2, r2⟩ := R1.frzs hv q
      dsimp only at p1
      have fin : ∀ (s' : Sl) (d' : D), S2[j]? = some s' → (s' = .ow d' ∨ s' = .io d') → Po (mo X C) W σ N (relE (mo X C) N σ) G1 (mAns S2 j s' (f d' ds)) Q → r (.ref a) vs H1 Q := fun s' d' hS' hs' p2 => by
        obtain ⟨b, k1, k2, k3, k4⟩ := R2.mineAt hS' hs'
        rw [h1] at k1
        cases k1
        cases hfd : f d' ds with
        | none => rw [hfd] at p2; exact p2.elim
        | some z =>
          obtain ⟨res, d2⟩ := z
          rw [hfd] at p2
          refine hf G2 H1 a d' vs ds res d2 Q k3 r2 hfd fun v hvr o ho => ?_
          exact p2 v G2 (upd H1 a o) (R2.writeAny hS' hs' h1 ho) g2 hvr
      cases hj : S2[j]? with
      | none => rw [hj] at p1; exact p1.elim
      | some s' =>
        rw [hj] at p1
        cases s' with
        | ow d' => exact fin _ d' hj (.inl rfl) p1
        | io d' => exact fin _ d' hj (.inr rfl) p1
        | un => exact p1.elim
        | sh d' => exact p1.elim
  split at p
  · rename_i d hS
    split at p <;> first | exact p.elim | skip
    rename_i ht
    refine key _ d hS (.inl rfl) ht ?_
    cases hts : ts S with
    | bad => rw [hts] at p; exact p.elim
    | ex e S1 => rw [hts] at p; exact p
    | ok rs S1 =>
      rw [hts, Ou.bind_ok] at p
      rw [Ou.bind_ok]
      cases q : frzs S1 rs with
      | none => rw [q] at p; exact p.elim
      | some z =>
        rw [q] at p
        dsimp only at p ⊢
        split at p
        · rename_i d' hj; rw [hj]; exact p
        · exact p.elim
  · rename_i d hS
    split at p <;> first | exact p.elim | skip
    rename_i ht
    refine key _ d hS (.inr rfl) ht ?_
    cases hts : ts S with
    | bad => rw [hts] at p; exact p.elim
    | ex e S1 => rw [hts] at p; exact p
    | ok rs S1 =>
      rw [hts, Ou.bind_ok] at p
      rw [Ou.bind_ok]
      cases q : frzs S1 rs with
      | none => rw [q] at p; exact p.elim
      | some z =>
        rw [q] at p
        dsimp only at p ⊢
        split at p
        · rename_i d' hj; rw [hj]; exact p
        · exact p.elim
  · exact p.elim
theorem de_mut (pa : PlainAttrs T) (slot : Slot T name id) (hty : typeOf (.builtin id) = pure (.type "method_descriptor")) (hm : MtR X id r) (hf : MtOk C X r f) (ho : PE X (.Name x npos) (tVar j)) (ha : DA C X W (e :: es) ts)
    (hbase : attributeBase (.Name x npos) name X.env (eval (.Name x npos) X.env) = eval (.Name x npos) X.env := by rfl)
    (hfew : ((backTo cpos (starEach (e :: es) X.env)).all (fun x => !x.1) && (backToKw cpos (keywordEach [] X.env)).all (fun x => x.1.isSome) && decide ((e :: es).length + ([] : List Keyword).length + (if ([] : List Keyword).isEmpty then 0 else 1) < 30)) = true := by rfl)
    (hline : (apos.endLine == cpos.line) = true := by rfl) (hs : starEach (e :: es) X.env = (false, eval e X.env) :: starEach es X.env := by rfl)
    (hplain : (backTo cpos (starEach es X.env)).any (·.1) = false := by rfl) :
    DE C X W (.Call (.Attribute (.Name x npos) name apos) (e :: es) [] cpos) (eMut T f j ts) :=
  ⟨PE.imp (pe_mG (ty_ok C X T) pa slot hty hm ho ha.run hbase hfew hline hs hplain) fun _ _ _ => mut_read hf⟩
theorem de_mut0 (pa : PlainAttrs T) (slot : Slot T name id) (hty : typeOf (.builtin id) = pure (.type "method_descriptor")) (hm : MtR X id r) (hf : MtOk C X r f) (ho : PE X (.Name x npos) (tVar j))
    (hbase : attributeBase (.Name x npos) name X.env (eval (.Name x npos) X.env) = eval (.Name x npos) X.env := by rfl) (hline : (apos.endLine == cpos.line) = true := by rfl) :
    DE C X W (.Call (.Attribute (.Name x npos) name apos) [] [] cpos) (eMut T f j aNil) :=
  ⟨PE.imp (pe_mG0 (ty_ok C X T) pa slot hty hm ho hbase hline) fun σ H Q h => by
    obtain ⟨x, hx, ty, N, G, S, R, p⟩ := mut_read (W := W) hf h
    exact ⟨x, hx, ty, p [] G H R (GLe.refl _) .nil⟩⟩
end
def mAppend : MF
  | .lst xs, [d] => if xs.length < sizeLine then some (.non, .lst (xs ++ [d])) else none
  | _, _ => none
theorem mt_ok_append : MtOk C X rAppend mAppend := fun G H a d vs ds res d' Q ho hv hf k => by
  unfold mAppend at hf
  split at hf <;> first | (cases hf; done) | skip
  rename_i xs d1
  split at hf <;> first | (cases hf; done) | skip
  rename_i hz
  cases hf
  obtain ⟨us, h1, h2⟩ := ho
  cases hv with
  | cons r t =>
    cases t
    exact ⟨a, us, _, rfl, rfl, h1, by rw [Paired.length h2]; exact hz, k .non rfl _ ⟨_, upd_same, RVs.append h2 (.cons r .nil)⟩⟩
def mPop : MF
  | .lst xs, [] => match xs.getLast? with
    | some d => some (d, .lst xs.dropLast)
    | none => none
  | _, _ => none
theorem RVs.dropLast {M : Mo} {G : Gh} {vs : List V} {ds : List D} (h : RVs M G vs ds) : RVs M G vs.dropLast ds.dropLast := by
  induction h with
  | nil => exact .nil
  | cons r t ih =>
    cases t with
    | nil => exact .nil
    | cons _ _ => exact Paired.cons r ih
theorem mt_ok_pop : MtOk C X rPop mPop := fun G H a d vs ds res d' Q ho hv hf k => by
  unfold mPop at hf
  split at hf <;> first | (cases hf; done) | skip
  rename_i xs
  cases hl : xs.getLast? with
  | none => rw [hl] at hf; cases hf
  | some d1 =>
    rw [hl] at hf
    cases hf
    obtain ⟨us, h1, h2⟩ := ho
    cases hv
    rw [List.getLast?_eq_getElem?] at hl
    have hlen := Paired.length h2
    have hi : xs.length - 1 < us.length := by rw [hlen]; exact (List.getElem?_eq_some_iff.mp hl).1
    have hu : us[us.length - 1]? = some us[xs.length - 1] := by rw [hlen]; exact List.getElem?_eq_getElem hi
    exact ⟨a, us, us[xs.length - 1], rfl, rfl, h1, hu, k _ (Paired.at2 h2 (List.getElem?_eq_getElem hi) hl) _ ⟨_, upd_same, RVs.dropLast h2⟩⟩
end

/-! ### repr -/
def dRepr : List D → Option Rv
  | [d] => match toP d with
    | some p => if (p.showable && okS p.shown && !p.hasDict && decide (p.depth ≤ 64)) = true then some (.sh (.str p.shown)) else none
    | none => none
  | _ => none
section
variable {C : Addr → Option D} {X : Cx}
theorem cd_repr (gd : X.A.guards = some []) (hu : X.A.units + 200 < cLine) : CD C X (.builtin "repr") dRepr := fun pins s σ H xs us Q I rx ⟨N, G, S, τ, ds, res, R, h1, h3, q⟩ => by
  unfold dRepr at h3
  split at h3 <;> first | (cases h3; done) | skip
  rename_i d
  cases hp : toP d with
  | none => rw [hp] at h3; cases h3
  | some p =>
    rw [hp] at h3
    dsimp only at h3
    split at h3 <;> first | (cases h3; done) | skip
    rename_i hh
    cases h3
    simp only [Bool.and_eq_true, decide_eq_true_eq, Bool.not_eq_true'] at hh
    obtain ⟨⟨⟨c1, c2⟩, c3⟩, c4⟩ := hh
    obtain ⟨v, rfl, h⟩ := paired_one h1
    obtain ⟨u, rfl, ru⟩ := vals1 rx
    obtain ⟨as, rd⟩ := vh_reads I R.con R.cc d p v u h ru hp
    have hz := okS_len c2
    have fin : ∀ (h' : Heap) (t : Tok) (tk : Nat), (∀ b o, s.heap.get? b = some o → h'.get? b = some o) → EP X pins σ Q (.str p.shown t) { s with heap := h', toks := tk } := fun h' t tk k =>
      ⟨.str p.shown, H, I.kept (t' := tk) k, ⟨t, rfl⟩, q _ G H R (GLe.refl _) ⟨rfl, c2⟩⟩
    have fin0 : ∀ (t : Tok) (tk : Nat), EP X pins σ Q (.str p.shown t) { s with toks := tk } := fun t tk => fin s.heap t tk fun _ _ e => e
    cases rd with
    | none => exact PySem.P.repr_of_none (fin0 _ _)
    | bool b => exact PySem.P.repr_of_bool (fin0 _ _)
    | int i t => exact PySem.P.repr_of_int (by simpa [PyData.showable] using c1) (fin0 _ _)
    | str x t => exact PySem.P.repr_of_str (fin0 _ _) hz
    | tuple a b c e => exact repr_of_reads' (.tuple a b c e) c1 (fun z => by rw [c3] at z; cases z) gd (by omega) (fun _ _ e => e) (fun h' t tk k => fin h' t tk k) hz
    | list a b c e => exact repr_of_reads' (.list a b c e) c1 (fun z => by rw [c3] at z; cases z) gd (by omega) (fun _ _ e => e) (fun h' t tk k => fin h' t tk k) hz
    | dict a b c e f => simp [PyData.hasDict] at c3
end
end LD
/-! the data layer, part q: list * int, tuple * int -/
namespace LD
open PySem PySem.Spec PyProof.Rows L2
/-- n times -/
def repD (n : Nat) (xs : List D) : List D := (List.replicate n xs).flatten
/-- the tuple t lies at a, and R is kept -/
def TupAt (a : Addr) (vs : Array Value) (n : Nat) (dd : Option Addr) (sl : Array (Option Value)) (R : Result → Shared → Prop) (out : Shared → Shared × Value) (s : Shared) : Prop :=
  s.heap.get? a = some { cls := .type "tuple", dict := dd, data := .seq vs n, slots := sl } ∧ R (.ok (.ret (out s).2)) (out s).1
def sameOut (a : Addr) (s : Shared) : Shared × Value := (s, .ref a)
def noneOut (s : Shared) : Shared × Value := ({ s with heap := s.heap.push { cls := Value.type "tuple", data := Data.seq #[] }, toks := s.toks }, .ref s.heap.objs.size)
section
variable (a : Addr) (vs : Array Value) (n : Nat) (dd : Option Addr) (sl : Array (Option Value)) (k : Int) (u : Tok)
theorem tuple_mul_same (c0 : (decide (k < -(2 ^ 63)) || decide (k ≥ 2 ^ 63)) = false) (c1 : (vs.isEmpty || k == 1) = true) : Meets (Builtin.«tuple.__mul__» ⟨[.ref a, .int k u], []⟩) (fun _ R s => TupAt a vs n dd sl R (sameOut a) s) := by
  refine .of_wp fun P w A R st ⟨at_a, goal⟩ => ?_
  rcases st with ⟨hp, g, d, tk, os⟩
  have f1 := AutoSeq1.idx_int
  wp_walk using (wpAny_loadPart' at_a)
  refine wpAny_ite_false (decide_eq_false (by rw [c0]; exact Bool.false_ne_true)) ?_
  wp_walk using (wpAny_loadPart' at_a)
  exact ⟨_, rfl, goal⟩
theorem tuple_mul_none (c0 : (decide (k < -(2 ^ 63)) || decide (k ≥ 2 ^ 63)) = false) (c1 : (vs.isEmpty || k == 1) = false) (c2 : (decide (k ≤ 0) || vs.isEmpty) = true) : Meets (Builtin.«tuple.__mul__» ⟨[.ref a, .int k u], []⟩) (fun _ R s => TupAt a vs n dd sl R noneOut s) := by
  refine .of_wp fun P w A R st ⟨at_a, goal⟩ => ?_
  rcases st with ⟨hp, g, d, tk, os⟩
  have f1 := AutoSeq1.idx_int
  wp_walk using (wpAny_loadPart' at_a)
  refine wpAny_ite_false (decide_eq_false (by rw [c0]; exact Bool.false_ne_true)) ?_
  wp_walk using (wpAny_loadPart' at_a)
  exact ⟨_, rfl, goal⟩
end
def dMulT (xs : List D) (k : Int) : Option Rv :=
  if xs.isEmpty || k == 1 then (if -(2 ^ 63) ≤ k ∧ k < 2 ^ 63 then some (.sh (.tup xs)) else none)
  else if k ≤ 0 then (if -(2 ^ 63) ≤ k then some (.sh (.tup [])) else none)
  else if k ≤ 1000 ∧ xs.length ≤ 1000 then some (.sh (.tup (repD k.toNat xs))) else none
def dMul : D → D → Option Rv
  | .int i, .int j => if cMul i j = true then some (.sh (.int (i * j))) else none
  | .tup xs, .int k => dMulT xs k
  | .lst xs, .int k => if -(2 ^ 63) ≤ k ∧ k < 2 ^ 63 ∧ xs.length * k.toNat ≤ sizeLine then some (.ow (.lst (repD k.toNat xs))) else none
  | _, _ => none
section
variable {C : Addr → Option D} {X : Cx}
theorem op_repR : OpR X (binaryOp .Mult) (fun x y H Q => ∃ l k xs, x = .ref l ∧ y = .int k ∧ LsK X.K H l xs ∧ -(2 ^ 63) ≤ k ∧ k < 2 ^ 63 ∧ xs.length * k.toNat ≤ sizeLine ∧
    ∀ p, H p = none → Q (.ref p) (upd H p (.lst (List.replicate k.toNat xs).flatten))) := by
  rintro pins s σ H _ _ v u Q I rx ry ⟨l, k, xs, rfl, rfl, hR, k1, k2, fits, q⟩
  cases rx
  obtain ⟨t, rfl⟩ := ry
  obtain ⟨z, its, n, rel, hlen, hob⟩ := Inv.lstR I hR
  have sz : its.toArray.size * k.toNat ≤ sizeLine := by rwa [List.size_toArray, ← hlen]
  have sl63 : (sizeLine : Nat) ≤ (2 ^ 63 - 1) / 8 := by decide
  have n1 : ¬ (!Builtin.List.listFitsIndex k) = true := by rw [fitsIndex_both k1 k2]; simp
  have n2 : ¬ Builtin.List.listTooLong (its.toArray.size * k.toNat) = true := by rw [notLongL sz]; simp
  have content : List.foldl (fun x1 x2 => x1 ++ x2) #[] (List.replicate (if its.toArray.isEmpty = true then 0 else k.toNat) its.toArray) = (List.replicate k.toNat its).flatten.toArray := by
    cases its with
    | nil => simp
    | cons a r => rw [if_neg (by simp), size_rep]
  refine wpAny_binaryOp_repeat_ref (T := "list") (U := "int") (by decide) ⟨_, hob, rfl⟩ (fun _ => typeIs_int _ k t) noFill_list_mul F.fills_int_mul F.slot_int_rmul repeat_list F.slot_int_index.lookup
    (call_meets F.slot_int_rmul (typeIs_int s k t) F.entry_int_rmul (F.args_int_rmul_2 _ _) (int___rmul___int_list k t l its.toArray n) ⟨hob, rfl, ⟨_, hob, rfl⟩, ?_⟩)
  refine call_meets F.slot_list_mul ⟨_, hob, rfl⟩ F.entry_list_mul (F.args_list_mul_2 _ _) (AutoListH.list___mul___list_int_3 l its.toArray n k t n1 (by omega) n2) ⟨hob, ?_⟩
  rw [content]
  exact ⟨.ref _, _, L2.Inv.lnew (t' := s.toks) I (rel.rep k.toNat) (by rw [PyProof.Rows.lm_len_rep_flat, Nat.mul_comm]; exact fits), rfl, q _ I.fresh⟩
theorem od_mul : OD C X (binaryOp .Mult) dMul := fun pins s σ H x y v u Q I rx ry ⟨N, G, S, τ, d, e, res, R, h1, h2, h3, q⟩ => by
  unfold dMul at h3
  split at h3 <;> first | (cases h3; done) | skip
  · rename_i i j
    split at h3 <;> first | (cases h3; done) | skip
    rename_i hc
    exact od_mulI pins s σ H x y v u Q I rx ry ⟨N, G, S, τ, _, _, res, R, h1, h2, (if_pos hc).trans h3, q⟩
  · rename_i xs k
    have e2 := vh_int h2
    subst e2
    obtain ⟨a, vs, rfl, ha, ra⟩ := vh_tup h1
    have hlen := Paired.length ra
    have hrv := vh_rv h1 fun _ z => z
    cases rx
    obtain ⟨t, rfl⟩ := ry
    obtain ⟨its, r, ⟨⟨cls, dd, data, sl⟩, ho, hc, n, hd⟩, hs⟩ := I.tuple ha
    simp only at hc hd
    subst hc hd
    have hl2 := r.length
    have he : its.toArray.isEmpty = xs.isEmpty := by
      cases its <;> cases vs <;> cases xs <;> first | rfl | (simp at hlen; done) | (simp at hl2; done)
    have go : ∀ {P : Result → Shared → Prop}, codeAny (model X.prog X.w) X.A (.call (.builtin "tuple.__mul__") ⟨[.ref a, .int k t], []⟩) P s → True := fun _ => trivial
    have rule : (wpAny (model X.prog X.w) X.A (call (.builtin "tuple.__mul__") [.ref a, .int k t]) (EP X pins σ Q) X.xe s) → wpAny (model X.prog X.w) X.A (binaryOp .Mult (.ref a) (.int k t)) (EP X pins σ Q) X.xe s := fun hh =>
      wpAny_binaryOp_repeat_ref (T := "tuple") (U := "int") (by decide) ⟨_, ho, rfl⟩ (fun _ => typeIs_int _ k t) noFill_tuple_mul F.fills_int_mul F.slot_int_rmul repeat_tuple F.slot_int_index.lookup
        (call_meets F.slot_int_rmul (typeIs_int s k t) F.entry_int_rmul (F.args_int_rmul_2 _ _) (int_rmul_tuple k t a its.toArray n dd sl) ⟨ho, rfl, ⟨_, ho, rfl⟩, hh⟩)
    unfold dMulT at h3
    split at h3
    · rename_i hc1
      split at h3 <;> first | (cases h3; done) | skip
      rename_i hb
      cases h3
      refine rule (call_meets F.slot_tuple_mul ⟨_, ho, rfl⟩ F.entry_tuple_mul (F.args_tuple_mul_2 _ _) (tuple_mul_same a its.toArray n dd sl k t ?_ (by rw [he]; exact hc1)) ⟨ho, ?_⟩)
      · rw [decide_eq_false (by omega), decide_eq_false (by omega)] <;> rfl
      · exact ⟨.ref a, H, I, rfl, q _ G H R (GLe.refl _) hrv⟩
    · rename_i hc1
      rw [Bool.not_eq_true] at hc1
      split at h3
      · rename_i hk
        split at h3 <;> first | (cases h3; done) | skip
        rename_i hb
        cases h3
        refine rule (call_meets F.slot_tuple_mul ⟨_, ho, rfl⟩ F.entry_tuple_mul (F.args_tuple_mul_2 _ _) (tuple_mul_none a its.toArray n dd sl k t ?_ (by rw [he]; exact hc1) (by rw [decide_eq_true hk]; rfl)) ⟨ho, ?_⟩)
        · rw [decide_eq_false (by omega), decide_eq_false (by omega)] <;> rfl
        · exact ⟨.ref s.heap.objs.size, _, I.laid (t' := s.toks) (o := .tup []) (fun b ob q => Heap.get?_push_of_some _ q) (Nat.le_refl _) ⟨Nat.zero_le _, [], .nil, IsTup.new _ _⟩, rfl, R.newTup .nil q _ (I.hok.fresh (Nat.le_refl _))⟩
      · rename_i hk
        split at h3 <;> first | (cases h3; done) | skip
        rename_i hb
        cases h3
        rw [Bool.or_eq_false_iff] at hc1
        have hne : vs ≠ [] := fun z => by
          subst z
          cases ra
          cases hc1.1
        have hk1 : k ≠ 1 := fun z => by subst z; exact absurd hc1.2 (by decide)
        exact op_repT pins s σ H (.ref a) (.int k) _ _ Q I rfl ⟨t, rfl⟩ ⟨a, k, vs, rfl, rfl, ha, hne, by omega, hb.1, by omega, R.newTup (RVs.rep ra k.toNat) q⟩
  · rename_i xs k
    split at h3 <;> first | (cases h3; done) | skip
    rename_i hc
    cases h3
    obtain ⟨a, vs, rfl, ha, ra⟩ := vh_lst h1
    have e2 := vh_int h2
    subst e2
    exact op_repR pins s σ H _ _ v u Q I rx ry ⟨a, k, vs, rfl, rfl, ha, hc.1, hc.2.1, by rw [Paired.length ra]; exact hc.2.2, R.newLst (RVs.rep ra k.toNat) q⟩
end
end LD
/-! the data layer, part r: the law's defs, names of the module, the end -/
namespace LD
open PySem PySem.Spec PyProof.Rows L2
/-- a def of the module, by its name -/
def Callee (P : Program) (w : World) (K : PySem.W.Frag) (mg : Str → Option Value) (base : Heap) (C : Addr → Option D) (k : Nat) (x : Str) (ps : List Str) (t : F) : Prop :=
  ∃ f fd, mg x = some (.ref f) ∧ FnG P w K mg base k f fd ps (spF ⟨P, w, K, mg, C⟩ t) ∧ PySem.W.keepIn K (.ref f) = true ∧ Binds K fd ps []
/-- .. as the head tells it -/
def IsDef (K : PySem.W.Frag) (mg : Str → Option Value) (x : Str) (st : Stmt) : Prop := ∃ f fd, mg x = some (.ref f) ∧ FunD K x x (defArgs st) (defBody st) (defScope st) [] [] f fd
section
variable {C : Addr → Option D} {X : Cx} {W : WX} {e : Expr} {es : List Expr} {pos p : Pos} {j k : Nat} {x : Str} {ps : List Str} {t : F} {ts : Es}
theorem de_fn (h : Callee X.prog X.w X.K X.mg X.base C j x ps t) (hr : Room k X.A) (gd : X.A.guards = some []) (hg : Gl X x) (tk : Takes X W) (ha : DA C X W (e :: es) ts) (le : j ≤ k := by decide) (hdb : (x == ("__debug__" : Str)) = false := by decide)
    (he : starEach (e :: es) X.env = (false, eval e X.env) :: starEach es X.env := by rfl) (hpl : (backTo pos (starEach es X.env)).any (·.1) = false := by rfl) : DE C X W (.Call (.Name x p) (e :: es) [] pos) (eCall t ts) := by
  obtain ⟨f, fd, h1, h2, h3, h4⟩ := h
  exact de_call (h2.mono le) hr gd hg h1 h3 h4 tk ha hdb he hpl
theorem de_fnL (h : Callee X.prog X.w X.K X.mg X.base C j x ps t) (hr : Room k X.A) (gd : X.A.guards = some []) (hg : Gl X x) (tk : Takes X W) (ha : DA C X W (e :: es) ts) (le : j ≤ k := by decide) (hdb : (x == ("__debug__" : Str)) = false := by decide)
    (he : starEach (e :: es) X.env = (false, eval e X.env) :: starEach es X.env := by rfl) (hpl : (backTo pos (starEach es X.env)).any (·.1) = false := by rfl) : DE C X W (.Call (.Name x p) (e :: es) [] pos) (eCallL t ts) := by
  obtain ⟨f, fd, h1, h2, h3, h4⟩ := h
  exact de_callL (h2.mono le) hr gd hg h1 h3 h4 tk ha hdb he hpl
/-- an int, a text of the module -/
theorem de_gint {i : Int} (hm : ∃ t, X.mg x = some (.int i t)) (hg : Gl X x) (hd : (x == ("__debug__" : Str)) = false := by decide) : DE C X W (.Name x pos) (eC (.int i)) := by
  obtain ⟨t, hm⟩ := hm
  exact de_c (v := .int i) (pe_glob hg hm ⟨t, rfl⟩ hd) fun _ => rfl
theorem de_gstr {z : Str} (hm : ∃ t, X.mg x = some (.str z t)) (hg : Gl X x) (ok : okS z = true := by decide +kernel) (hd : (x == ("__debug__" : Str)) = false := by decide) : DE C X W (.Name x pos) (eC (.str z)) := by
  obtain ⟨t, hm⟩ := hm
  exact de_c (v := .str z) (pe_glob hg hm ⟨t, rfl⟩ hd) fun _ => ⟨rfl, ok⟩
/-- a built-in class as a value -/
theorem de_bty {n : String} (hg : Gl X x) (hm : X.mg x = none) (hv : bootBuiltins x = some (.type n)) (hn : x ≠ "__name__" := by decide) (hd : (x == ("__debug__" : Str)) = false := by decide) : DE C X W (.Name x pos) (eC (.ty n)) :=
  de_c (v := .ty n) (pe_bltn hg hm hv rfl hn hd) fun _ => rfl
/-- an exception class of the module -/
def IsExc (K : PySem.W.Frag) (mg : Str → Option Value) (x : Str) : Prop := ∃ Ca, mg x = some (.ref Ca) ∧ PySem.W.excIn K Ca [.type "ValueError", .type "Exception", .type "BaseException", .type "object"] "ValueError.__new__" = true ∧
  PySem.W.keepIn K (.ref Ca) = true ∧ PySem.W.subIn K (.ref Ca) (.type "BaseException") = some true ∧ PySem.W.typeIn K (.ref Ca) = some (.type "type")
theorem ds_raiseX {m : Str} {n : Nat} {p2 p3 : Pos} (h : IsExc X.K X.mg x) (hc : X.calm = true) (tk : Takes X W) (hg : Gl X x) (hdb : (x == ("__debug__" : Str)) = false := by decide) : DS C X W (.Raise (some (.Call (.Name x p) [.Constant (.str m) n p2] [] pos)) none p3) (sRaise x) := by
  obtain ⟨Ca, h1, h2, h3, h4, h5⟩ := h
  exact ds_raise hc tk (pmk_own PySem.F.excBase_ValueError h2 h1 h3 (raises_own h4 h5) hg hdb) h1
end

/-! ### the law's call -/
/-- the judge's call of the law, from the promise of its def -/
theorem law_callG {P : Program} {w : World} {K : PySem.W.Frag} {mg mb : Str → Option Value} {k : Nat} {fa a : Addr} {fd : FuncData} {x : Str} {sp : Sp} {s1 : Shared} {cells : List Value} {ns : List Int}
    (inK : K.In s1.heap) (glob : s1.heap.Ns mainGlobals mg) (blt : s1.heap.Ns builtinsNs mb) (bltOk : ∀ x : Str, x ≠ "__name__" → mb x = bootBuiltins x) (nolim : s1.heap.NoLimit) (nogen : s1.gens = #[])
    (scr : s1.heap.get? a = some { cls := .type "list", data := .seq cells.toArray }) (hni : IntsAre cells ns) (fits : ns.length ≤ sizeLine) (room : Room k callerA)
    (F : ∀ base : Heap, K.In base → base.Ns mainGlobals mg → FnG P w K mg base k fa fd [x] sp) (bind : ∀ (s : Shared) (u : Value), BindsTo s fd ⟨[u], []⟩ [(x, u)])
    (want : ∀ H : Hp, Only H → LsK K H a (ns.map V.int) → sp [.ref a] H (fun v _ => v = .bl true) fun _ _ _ => False) :
    codeAny (model P w) callerA (.call (.ref fa) ⟨[.ref a], []⟩) (fun r s' => r = .ok (.ret (.bool true)) ∧ OldK s1.heap s'.heap ∧ s'.os = s1.os ∧ AllBare s'.gens) s1 := by
  -- H tells the script or nothing
  suffices main : ∀ H : Hp, Only H → LsK K H a (ns.map V.int) → HOk P w H s1.heap → (∀ b, H b ≠ none → b = a ∧ K.lookup a = none) →
      codeAny (model P w) callerA (.call (.ref fa) ⟨[.ref a], []⟩) (fun r s' => r = .ok (.ret (.bool true)) ∧ OldK s1.heap s'.heap ∧ s'.os = s1.os ∧ AllBare s'.gens) s1 by
    rcases hk : K.lookup a with _ | o
    · let Hs : Hp := fun b => if b = a then some (.frz { cls := .type "list", data := .seq cells.toArray } (.lst (ns.map V.int))) else none
      have at_a : Hs a = some (.frz { cls := .type "list", data := .seq cells.toArray } (.lst (ns.map V.int))) := if_pos rfl
      have off : ∀ b, b ≠ a → Hs b = none := fun b hb => if_neg hb
      refine main Hs (fun b => ?_) (.inl (.inr ⟨_, at_a⟩)) (fun b u e => ?_) fun b e => ⟨?_, hk⟩
      · by_cases hb : b = a
        · subst hb; exact .inr ⟨_, _, at_a⟩
        · exact .inl (off b hb)
      · by_cases hb : b = a
        · subst hb
          rw [at_a] at e
          cases e
          exact ⟨scr, by rw [List.length_map]; exact fits, cells, _, vals_ints hni, scr⟩
        · rw [off b hb] at e; cases e
      · by_cases hb : b = a
        · exact hb
        · exact absurd (off b hb) e
    · have e := inK a o hk
      rw [scr] at e
      cases e
      exact main (fun _ => none) (fun _ => .inl rfl) (.inr ⟨cells.toArray, _, hk, by rw [List.size_toArray, hni.length]; exact fits, vals_ints hni⟩) (fun b u z => by cases z) fun b z => absurd rfl z
  intro H only sq hok hA
  have clean : ∀ {b : Addr} {o : Obj}, s1.heap.get? b = some o → (b = a → False) → (hidT s1.heap H).get? b = some o := fun {b o} e nb => hidT_get e (by
    cases q : H b with
    | none => rfl
    | some u => exact absurd (hA b (by rw [q]; simp)).1 nb)
  have dictOf : ∀ {b : Addr} {m : Str → Option Value}, s1.heap.Ns b m → (hidT s1.heap H).Ns b m := by
    rintro b m ⟨o, es, ep, e, d, r⟩
    refine ⟨o, es, ep, clean e fun z => ?_, d, r⟩
    subst z
    rw [scr] at e
    cases e
    cases (show Data.seq cells.toArray _ = Data.dict es ep from d)
  have inB : K.In (hidT s1.heap H) := fun b o e => hidT_get (inK b o e) (by
    cases q : H b with
    | none => rfl
    | some u =>
      obtain ⟨rfl, z⟩ := hA b (by rw [q]; simp)
      rw [z] at e; cases e)
  have modOk : Mod K mg (hidT s1.heap H) := ⟨inB, dictOf glob, ⟨mb, dictOf blt, bltOk⟩, let ⟨m', z1, z2⟩ := nolim; ⟨m', dictOf z1, z2⟩⟩
  have en : Env0 P w K mg (hidT s1.heap H) callerA [] s1 H := { frames := rfl, mod := modOk, bs := fun b o e => of_hidT e, bsz := Nat.le_of_eq (hidT_size _ _), funs := trivial, frf := fun b hb => absurd hb (by simp [frs]), hok := hok, bare := .of_eq nogen }
  refine codeAny_mono ((F _ inB (dictOf glob)).go callerA [] s1 H ⟨[.ref a], []⟩ [.ref a] [.ref a] _ _ room rfl en (bind s1 (.ref a)) (.cons rfl .nil) (want H only sq)) fun r s' res => ?_
  rcases r with er | fl
  · obtain ⟨_, _, _, _, _, _, _, _, _, _, _, _, z⟩ := res
    exact z.elim
  · cases fl <;> first | exact res.elim | skip
    obtain ⟨v, H', os, bare, un, hok', rel, q⟩ := res
    subst q
    cases rel
    refine And.intro rfl (And.intro (OldK.of_keep fun b o e => ?_) (And.intro os bare))
    rcases only b with z | ⟨ob, xs, z⟩
    · exact un.keep b o e z (by intro y; cases y) (by simp)
    · have k1 := (hok b _ z).1
      have k2 := (hok' b _ (un.frzs b ob _ z)).1
      rw [e] at k1
      cases k1
      exact k2
/-- the goal that a head leaves -/
theorem walk_G {l : PySem.W.OpenLaw} {n k : Nat} {q : Program} {loose : List Str} {XP : (Str → Option Value) → Heap → Prop} {YP : World → Heap → Prop} {d : DefRec} {x : Str} (hn : l.most = some n) (hn2 : n ≤ sizeLine) (hdf : d.params.defaults = []) (hr : Room k callerA)
    (F : ∀ (w : World) (mg : Str → Option Value) (fa : Addr) (h : Heap), YP w h → h.Ns mainGlobals mg → mg d.name = some (.ref fa) → ∃ (K : PySem.W.Frag) (fd : FuncData) (sp : Sp),
      K.In h ∧ (∀ (s : Shared) (u : Value), BindsTo s fd ⟨[u], []⟩ [(x, u)]) ∧
        (∀ (H : Hp) (a : Addr) (ns : List Int), ns.length ≤ n → Only H → LsK K H a (ns.map V.int) → sp [.ref a] H (fun v _ => v = .bl true) fun _ _ _ => False) ∧
        ∀ base : Heap, K.In base → base.Ns mainGlobals mg → FnG l.prog w K mg base k fa fd [x] sp) :
    PySem.W.WalkO q loose XP YP l.row.toRowW d [] (fun fv args => PySem.call fv args) :=
  Att.attach_call hn hdf fun w s0 s1 mg mb fa o pm cd doc a vs ns G Y ho hd hcd hmg hobj hints hlen hg => by
    obtain ⟨K, fd, sp, inK, bind, want, go⟩ := F w mg fa _ Y G.T.g hmg
    exact law_callG inK G.T.g G.T.b G.T.builtins G.T.nolimit hg hobj hints (Nat.le_trans hlen hn2) hr go bind fun H only sq => want H a ns hlen only sq
/-- a promise with constants told as one likes -/
def spAny (P : Program) (w : World) (K : PySem.W.Frag) (mg : Str → Option Value) (PC : (Addr → Option D) → Prop) (t : F) : Sp := fun vs H Q Ex => ∃ C, PC C ∧ spF ⟨P, w, K, mg, C⟩ t vs H Q Ex
theorem FnG.any {P : Program} {w : World} {K : PySem.W.Frag} {mg : Str → Option Value} {base : Heap} {k : Nat} {f : Addr} {fd : FuncData} {ps : List Str} {PC : (Addr → Option D) → Prop} {t : F} (h : ∀ C, PC C → FnG P w K mg base k f fd ps (spF ⟨P, w, K, mg, C⟩ t)) : FnG P w K mg base k f fd ps (spAny P w K mg PC t) :=
  ⟨fun vs H Q Ex ⟨C, c, z⟩ => (h C c).len vs H Q Ex z, fun A o s H a us vs Q Ex r g e b v ⟨C, c, z⟩ => (h C c).go A o s H a us vs Q Ex r g e b v z⟩
theorem rvs_ints {M : Mo} {G : Gh} : ∀ ns : List Int, RVs M G (ns.map V.int) (ns.map D.int)
  | [] => .nil
  | n :: ns => .cons rfl (rvs_ints ns)
/-- the law's promise, from what it computes -/
theorem law_want {P : Program} {w : World} {K : PySem.W.Frag} {mg : Str → Option Value} {t : F} {H : Hp} {a : Addr} {ns : List Int} {A : Sls} (sq : LsK K H a (ns.map V.int)) (h : t [.sh (.lst (ns.map D.int))] = .ret (.sh (.bl true)) A) :
    spAny P w K mg (fun _ => True) t [.ref a] H (fun v _ => v = .bl true) fun _ _ _ => False := by
  have rel : ∀ (M : Mo) (G : Gh), RVs M G (ns.map V.int) (ns.map D.int) := fun M G => rvs_ints ns
  have fin : ∀ (M : Mo) (G : Gh), FPost M ⟨H, [], G⟩ G ([V.ref a].map some) (t [.sh (.lst (ns.map D.int))]) (fun v _ => v = .bl true) (fun _ _ _ => False) := fun M G => by
    rw [h]
    intro v G' H' R g hv
    exact vh_bl (RV.vh R hv)
  rcases sq with sq | kl
  · have trk : ∃ o, H a = some o := sq.elim (fun z => ⟨_, z⟩) fun ⟨o, z⟩ => ⟨_, z⟩
    let G : Gh := fun b => if b = a then some (.lst (ns.map D.int)) else none
    have at_a : ∀ b d, G b = some d → b = a ∧ d = .lst (ns.map D.int) := fun b d e => by
      by_cases hb : b = a
      · exact ⟨hb, (Option.some.inj ((if_pos hb).symm.trans e)).symm⟩
      · cases (if_neg hb).symm.trans e
    refine ⟨fun _ => none, trivial, [], G, [.sh (.lst (ns.map D.int))], ?_, (fun i a h => by cases h), fin _ G⟩
    refine ⟨fun b d e => ?_, (fun _ _ e => by cases e), fun b d e => ?_, fun _ _ e => .inl e, fun _ _ e _ => e, (fun _ _ e => by cases e), rfl, fun i s e => ?_, fun i j s t b hij ei ej mi _ _ => ?_⟩
    · obtain ⟨rfl, rfl⟩ := at_a b d e
      exact ⟨_, .inl sq, rel _ _⟩
    · obtain ⟨rfl, _⟩ := at_a b d e
      exact trk
    · cases i with
      | zero => cases e; exact ⟨.ref a, rfl, .inl (if_pos rfl)⟩
      | succ i => simp at e
    · cases i with
      | zero => cases ei; cases mi
      | succ i => simp at ei
  · let Cs : Addr → Option D := fun b => if b = a then some (.lst (ns.map D.int)) else none
    have at_a : ∀ b d, Cs b = some d → b = a ∧ d = .lst (ns.map D.int) := fun b d e => by
      by_cases hb : b = a
      · exact ⟨hb, (Option.some.inj ((if_pos hb).symm.trans e)).symm⟩
      · cases (if_neg hb).symm.trans e
    refine ⟨Cs, trivial, [], fun _ => none, [.sh (.lst (ns.map D.int))], ?_, (fun i a h => by cases h), fin _ _⟩
    refine ⟨(fun _ _ e => by cases e), fun b d e G H => ?_, (fun _ _ e => by cases e), fun _ _ e => .inl e, fun _ _ e _ => e, (fun _ _ e => by cases e), rfl, fun i s e => ?_, fun i j s t b hij ei ej mi _ _ => ?_⟩
    · obtain ⟨rfl, rfl⟩ := at_a b d e
      exact ⟨_, .inr kl, rel _ _⟩
    · cases i with
      | zero => cases e; exact ⟨.ref a, rfl, .inr (if_pos rfl)⟩
      | succ i => simp at e
    · cases i with
      | zero => cases ei; cases mi
      | succ i => simp at ei
end LD
/-! the data layer, part s: words for the printed derivations -/
namespace LD
open PySem PySem.Spec PyProof.Rows L2
abbrev dSub : D → D → Option Rv := fI fun i j => i - j
abbrev dMod : D → D → Option Rv := fIc (fun _ j => decide (0 < j)) fun i j => i % j
abbrev dFdiv : D → D → Option Rv := fIc cDiv fun i j => i / j
abbrev dPow : D → D → Option Rv := fIc cPow fun i j => i ^ j.toNat
abbrev dMulI : D → D → Option Rv := fIc cMul fun i j => i * j
abbrev dAddI : D → D → Option Rv := fI fun i j => i + j
abbrev qLt : D → D → Option Rv := fB dLt
abbrev qGt : D → D → Option Rv := fB fun d e => dLt e d
abbrev qLe : D → D → Option Rv := fB dLe
abbrev qGe : D → D → Option Rv := fB fun d e => dLe e d
abbrev qEq : D → D → Option Rv := fB dEq
abbrev qNe : D → D → Option Rv := fB dNe
abbrev qIs : D → D → Option Rv := fB dIs
abbrev qIsN : D → D → Option Rv := fB dIsN
section
variable {C : Addr → Option D} {X : Cx} {W : WX} {e : Expr} {te : E} {t : E} {x : Str} {i : Nat} {pos pos' : Pos}
theorem oi_add : OD C X (inplaceOp .Add) dAddI := od_of ip_add fun N G S σ H v u d e res Q R h1 h2 h3 q => by
  cases d with
  | int i => cases e with
    | int j => cases h3; rw [vh_int h1, vh_int h2]; exact ⟨i, j, rfl, rfl, q _ G H R (GLe.refl _) rfl⟩
    | _ => cases h3
  | _ => cases h3
theorem oi_sub : OD C X (inplaceOp .Sub) dSub := od_of ip_sub fun N G S σ H v u d e res Q R h1 h2 h3 q => by
  cases d with
  | int i => cases e with
    | int j => cases h3; rw [vh_int h1, vh_int h2]; exact ⟨i, j, rfl, rfl, q _ G H R (GLe.refl _) rfl⟩
    | _ => cases h3
  | _ => cases h3
theorem oi_mul : OD C X (inplaceOp .Mult) dMulI := od_ic iop_mul fun i j h => by
  have h' : i.natAbs < 2 ^ 64 ∨ j.natAbs < 2 ^ 64 := by simpa [cMul] using h
  unfold CMul
  omega
theorem de_neg (h : DE C X W e t) : DE C X W (.UnaryOp .USub e pos) (eUn dNeg t) := de_un ud_neg (uD_und C X dNeg) h
theorem ds_setN (i : Nat) (hN : X.N.Nodup) (he : DE C X W e te) (hi : X.N[i]? = some x := by rfl) (hx : Loc X.env.scope x := by first | exact .inl rfl | exact .inr rfl) (hs : swapsWith e (some (.Name x pos')) pos.line X.env = pure false := by rfl)
    (hf : X.fn x = true ∨ X.env.scope.names.lookup x = some .local := by first | exact .inl rfl | exact .inr rfl) : DS C X W (.Assign [.Name x pos'] e pos) (sSet i te) := ds_set (ps_set hN hi hx he.run hs hf)
theorem ds_augN {op : Operator} {f : D → D → Option Rv} (i : Nat) (hN : X.N.Nodup) (ho : OD C X (inplaceOp op) f) (he : DE C X W e te) (hi : X.N[i]? = some x := by rfl) (hx : Loc X.env.scope x := by first | exact .inl rfl | exact .inr rfl)
    (hf : X.fn x = true ∨ X.env.scope.names.lookup x = some .local := by first | exact .inl rfl | exact .inr rfl) : DS C X W (.AugAssign (.Name x pos') op e pos) (sAug i f te) := ds_aug (ps_aug hN hi hx he.run ho hf) (rD_opd C X f)
theorem dg_n (i : Nat) (hN : X.N.Nodup) (hi : X.N[i]? = some x := by rfl) (hx : Loc X.env.scope x := by first | exact .inl rfl | exact .inr rfl) (hf : X.fn x = true ∨ X.env.scope.names.lookup x = some .local := by first | exact .inl rfl | exact .inr rfl) : DG C X (.Name x pos) (gN i) :=
  dg_name (pg_name hN hi hx hf)
theorem dv_n {vs : List Nat} (i : Nat) (hN : X.N.Nodup) (hv : i ∈ vs := by decide) (hi : X.N[i]? = some x := by rfl) (hx : Loc X.env.scope x := by first | exact .inl rfl | exact .inr rfl) (hf : X.fn x = true ∨ X.env.scope.names.lookup x = some .local := by first | exact .inl rfl | exact .inr rfl) : DV C X vs (.Name x pos) (gN i) :=
  dv_name hv (pg_name hN hi hx hf)
end
/-- a, b = (x, y) -/
def sPar (i j : Nat) (ts : Es) : B := fun S => outOf (ts S) fun rs S1 => match frzs S1 rs with
  | some ([d, e], S2) => match stor S2 i (.sh d) with
    | some S3 => ofO (stor S3 j (.sh e))
    | none => .bad
  | _ => .bad
theorem ds_par {C : Addr → Option D} {X : Cx} {W : WX} {ts : Es} {i j : Nat} {x y : Str} {a b : Expr} {px py pt pos : Pos} {kt k2 : Nat} {pt2 : Pos} (hc : X.calm = true) (hN : X.N.Nodup) (ha : DA C X W [a, b] ts) (hi : X.N[i]? = some x := by rfl) (hj : X.N[j]? = some y := by rfl) (hij : i ≠ j := by decide)
    (hx : X.env.scope.names.lookup x = some .local := by rfl) (hy : X.env.scope.names.lookup y = some .local := by rfl)
    (hw : swappedStores [.Tuple [.Name x px, .Name y py] kt pt] (.Tuple [a, b] k2 pt2) X.env = pure (some [x, y]) := by rfl)
    (hs : swapsWithSole [.Tuple [.Name x px, .Name y py] kt pt] (.Tuple [a, b] k2 pt2) pos.line X.env = pure false := by rfl) : DS C X W (.Assign [.Tuple [.Name x px, .Name y py] kt pt] (.Tuple [a, b] k2 pt2) pos) (sPar i j ts) :=
  ⟨PS.imp (ps_par hc hN hi hj hij hx hy ha.run hw hs) fun Ds σ H ⟨N, G, S, R, p⟩ => ⟨N, G, S, R, Po.out p fun rs S1 vs G1 H1 R1 g1 hv p1 => by
    split at p1 <;> first | exact p1.elim | skip
    rename_i d e S2 hf
    obtain ⟨G2, R2, g2, r2⟩ := R1.frzs hv hf
    cases r2 with
    | cons r r' =>
      cases r' with
      | cons r' r'' =>
        cases r''
        cases hs1 : stor S2 i (.sh d) with
        | none => rw [hs1] at p1; exact p1.elim
        | some S3 =>
          rw [hs1] at p1
          obtain ⟨S4, q4, p4⟩ := ofO_run p1
          obtain ⟨G3, R3, g3⟩ := R2.stor (r := .sh d) r hs1
          obtain ⟨G4, R4, g4⟩ := R3.stor (r := .sh e) (r'.mono g3) q4
          exact ⟨_, _, rfl, p4 _ G4 H1 R4 ((g2.trans g3).trans g4)⟩⟩⟩
/-- a class that a clause names, and what em says of it -/
def IsHd (K : PySem.W.Frag) (mg : Str → Option Value) (em : Str → Str → Option Bool) (x : Str) : Prop := ∃ Ca, mg x = some (.ref Ca) ∧ ∀ (ec : Str) (cls : Value) (b : Bool),
  ((∃ Ca, cls = .ref Ca ∧ mg ec = some (.ref Ca)) ∨ ∃ n : String, cls = .type n ∧ ec = Str.ofString n ∧ mg ec = none) → em ec x = some b → PySem.W.exmOne K cls (.ref Ca) = some b
theorem dhs_c {C : Addr → Option D} {X : Cx} {W : WX} {em : Str → Str → Option Bool} {x : Str} {b₀ : Stmt} {suite : List Stmt} {np pos' : Pos} {hds : List ExceptHandler} {t : B} {hs : List (Str × B)} (h : IsHd X.K X.mg em x) (hg : Gl X x)
    (hsu : ∀ (a : Addr) (oe : Obj) (pn : List (Addr × Obj)), DSs C (X.suite a ((a, oe) :: pn)) W0 (b₀ :: suite) t) (r : DHs C X W em hds hs) (hdb : (x == ("__debug__" : Str)) = false := by decide) : DHs C X W em (.ExceptHandler (some (.Name x np)) none (b₀ :: suite) pos' :: hds) ((x, t) :: hs) := by
  obtain ⟨Ca, h1, h2⟩ := h
  exact dhs_cons (c := .ref Ca) ⟨hg, hdb, .inl h1⟩ h2 hsu r
/-- who is caught by whose clause: a table of class, clause, answer -/
def emOf (T : List (Str × Str × Bool)) (c h : Str) : Option Bool := (T.find? fun p => decide (p.1 = c ∧ p.2.1 = h)).map (·.2.2)
theorem hd_of {K : PySem.W.Frag} {mg : Str → Option Value} {T : List (Str × Str × Bool)} {x : Str} (gx : mg x = some (.ref (He.ga K x))) (h : ∀ p ∈ T, mg p.1 = some (.ref (He.ga K p.1)) ∧ PySem.W.exmOne K (.ref (He.ga K p.1)) (.ref (He.ga K p.2.1)) = some p.2.2) : IsHd K mg (emOf T) x := by
  refine ⟨_, gx, fun ec cls b hc he => ?_⟩
  obtain ⟨p, hp, rfl⟩ := Option.map_eq_some_iff.mp he
  have q1 := List.find?_some hp
  have q : p.1 = ec ∧ p.2.1 = x := of_decide_eq_true q1
  obtain ⟨h1, h2⟩ := h p (List.mem_of_find?_eq_some hp)
  rw [q.1] at h1 h2
  rw [q.2] at h2
  rcases hc with ⟨Ca, rfl, hm⟩ | ⟨n, rfl, _, hm⟩
  · rw [h1] at hm
    cases hm
    exact h2
  · rw [h1] at hm; cases hm
theorem fact_of {fa : List He.Fa} {fn : List He.DefD} {K : PySem.W.Frag} (c : He.SaysD fa fn K) {f : He.Fa} (h : f ∈ fa) : f.ok K = true := by
  obtain ⟨i, hi⟩ := List.getElem?_of_mem h
  exact c.fact i hi
theorem isi_all (K : PySem.W.Frag) : IsiOk K "int" ∧ IsiOk K "bool" ∧ IsiOk K "str" ∧ IsiOk K "tuple" ∧ IsiOk K "list" ∧ IsiOk K "dict" := by
  refine ⟨?_, ?_, ?_, ?_, ?_, ?_⟩ <;> (intro t ht; simp only [List.mem_cons, List.not_mem_nil, or_false] at ht; rcases ht with rfl | rfl | rfl | rfl | rfl | rfl | rfl <;> first | rfl | decide +kernel | kernel_rfl)
end LD
/-! the data layer, part t: laws of the meanings: comprehensions, loops -/
namespace LD
open PySem PySem.Spec PyProof.Rows L2

/-- one turn of a comprehension -/
def lcT (vs : List Nat) (g : Tg) (tt : T) (te : E) (d : D) : Sls → Ou (Option D) := fun S => match g d S with
  | none => .bad
  | some S1 => (tt S1).bind fun b S2 => if b = true then (te S2).bind fun r S3 => match frz S3 r with
      | some (e, S4) => .ok (some e) (wipeS S4 vs)
      | none => .bad
    else .ok none (wipeS S2 vs)
theorem lcL_nil {vs : List Nat} {g : Tg} {tt : T} {te : E} {acc : List D} {S : Sls} : lcL vs g tt te [] acc S = .ok acc S := rfl
theorem lcL_cons {vs : List Nat} {g : Tg} {tt : T} {te : E} {d : D} {ds acc : List D} {S : Sls} :
    lcL vs g tt te (d :: ds) acc S = (lcT vs g tt te d S).bind fun o S' => match o with
      | some e => if acc.length < sizeLine then lcL vs g tt te ds (acc ++ [e]) S' else .bad
      | none => lcL vs g tt te ds acc S' := by
  conv => lhs; unfold lcL
  unfold lcT
  cases g d S with
  | none => rfl
  | some S1 =>
    dsimp only
    cases tt S1 with
    | bad => rfl
    | ex e S2 => rfl
    | ok b S2 =>
      simp only [Ou.bind_ok]
      cases b with
      | false => simp
      | true =>
        simp only [if_true]
        cases te S2 with
        | bad => rfl
        | ex e S3 => rfl
        | ok r S3 =>
          simp only [Ou.bind_ok]
          cases frz S3 r with
          | none => rfl
          | some z => rfl
/-- each turn does what it does and leaves the slots -/
theorem lcL_pure {vs : List Nat} {g : Tg} {tt : T} {te : E} {S : Sls} (f : D → Option D) : ∀ (ds acc : List D), (∀ d ∈ ds, lcT vs g tt te d S = .ok (f d) S) → acc.length + ds.length ≤ sizeLine → lcL vs g tt te ds acc S = .ok (acc ++ ds.filterMap f) S
  | [], acc, _, _ => by rw [lcL_nil]; simp
  | d :: ds, acc, h, hl => by
    rw [lcL_cons, h d (by simp), Ou.bind_ok]
    have hl' : acc.length + (ds.length + 1) ≤ sizeLine := by simpa using hl
    cases hf : f d with
    | none =>
      dsimp only
      rw [lcL_pure f ds acc (fun e he => h e (by simp [he])) (by omega), List.filterMap_cons_none hf]
    | some e =>
      dsimp only
      rw [if_pos (by omega), lcL_pure f ds (acc ++ [e]) (fun e he => h e (by simp [he])) (by simp; omega), List.filterMap_cons_some hf]
      simp
/-- a comprehension that changes nothing -/
theorem eLc_pure {vs : List Nat} {t : I} {g : Tg} {tt : T} {te : E} {S S1 : Sls} {ds : List D} (f : D → Option D) (ht : t S = .ok ds S1) (hf : freeS S1 vs = true) (h : ∀ d ∈ ds, lcT vs g tt te d (wipeS S1 vs) = .ok (f d) (wipeS S1 vs)) (hl : ds.length ≤ sizeLine)
    (hr : restS S1 (wipeS S1 vs) vs = S1) : eLc vs t g tt te S = .ok (.ow (.lst (ds.filterMap f))) S1 := by
  unfold eLc
  rw [ht, Ou.bind_ok, if_pos hf, lcL_pure f ds [] h (by simpa using hl), Ou.bind_ok, hr]
  simp [noEx]
theorem eLc_map {vs : List Nat} {t : I} {g : Tg} {tt : T} {te : E} {S S1 : Sls} {ds : List D} (f : D → D) (ht : t S = .ok ds S1) (hf : freeS S1 vs = true) (h : ∀ d ∈ ds, lcT vs g tt te d (wipeS S1 vs) = .ok (some (f d)) (wipeS S1 vs)) (hl : ds.length ≤ sizeLine)
    (hr : restS S1 (wipeS S1 vs) vs = S1) : eLc vs t g tt te S = .ok (.ow (.lst (ds.map f))) S1 := by
  have z := eLc_pure (fun d => some (f d)) ht hf h hl hr
  rw [z]
  simp
/-- a comprehension that changes the slots: Inv by what is made so far -/
theorem lcL_inv {vs : List Nat} {g : Tg} {tt : T} {te : E} (Inv : List D → Sls → Prop) : ∀ (ds acc : List D) (S : Sls), Inv acc S → acc.length + ds.length ≤ sizeLine →
    (∀ d ∈ ds, ∀ acc S, Inv acc S → ∃ e S', lcT vs g tt te d S = .ok (some e) S' ∧ Inv (acc ++ [e]) S') → ∃ es S', lcL vs g tt te ds acc S = .ok (acc ++ es) S' ∧ es.length = ds.length ∧ Inv (acc ++ es) S'
  | [], acc, S, i, _, _ => ⟨[], S, by rw [lcL_nil]; simp, rfl, by simpa using i⟩
  | d :: ds, acc, S, i, hl, h => by
    have hl' : acc.length + (ds.length + 1) ≤ sizeLine := by simpa using hl
    obtain ⟨e, S1, h1, i1⟩ := h d (by simp) acc S i
    obtain ⟨es, S2, h2, h3, i2⟩ := lcL_inv Inv ds (acc ++ [e]) S1 i1 (by simp; omega) fun d hd => h d (by simp [hd])
    refine ⟨e :: es, S2, ?_, by simp [h3], by simpa using i2⟩
    rw [lcL_cons, h1, Ou.bind_ok]
    dsimp only
    rw [if_pos (by omega), h2]
    simp
theorem eChain_if (f f' : D → D → Option Rv) (t1 t2 t3 : E) (S : Sls) : eChain f f' t1 t2 t3 S = (t1 S).bind fun r1 S1 => (t2 S1).bind fun r2 S2 => (on2 f S2 r1 r2.hold).bind fun r S3 => match peek S3 r with
    | some (.bl b) => if b = true then (t3 S3).bind fun r3 S5 => on2 f' S5 r2.hold r3 else .ok (.sh (.bl false)) S3
    | _ => .bad := by
  unfold eChain
  congr 1; funext r1 S1
  congr 1; funext r2 S2
  congr 1; funext r S3
  cases peek S3 r with
  | none => rfl
  | some d => cases d <;> first | rfl | skip
              rename_i b
              cases b <;> rfl
theorem ite_bindO {α β : Type} {c : Prop} [Decidable c] (a b : Ou α) (f : α → Sls → Ou β) : (if c then a else b).bind f = if c then a.bind f else b.bind f := by split <;> rfl
theorem ite_outOf {α : Type} {c : Prop} [Decidable c] (a b : Ou α) (f : α → Sls → Out) : outOf (if c then a else b) f = if c then outOf a f else outOf b f := by split <;> rfl
theorem atI_nat {α : Type} (xs : List α) (j : Nat) : L2.atI xs (j : Int) = xs[j]? := by
  unfold L2.atI L2.ixN
  rw [if_pos (by omega)]
  by_cases h : (j : Int) < xs.length
  · rw [if_pos h]; show xs[(j : Int).toNat]? = _; rw [Int.toNat_natCast]
  · rw [if_neg h]; show none = xs[j]?; exact (List.getElem?_eq_none (by omega)).symm
theorem atI_0 {α : Type} (xs : List α) : L2.atI xs 0 = xs[0]? := atI_nat xs 0
theorem atI_1 {α : Type} (xs : List α) : L2.atI xs 1 = xs[1]? := atI_nat xs 1
theorem atI_2 {α : Type} (xs : List α) : L2.atI xs 2 = xs[2]? := atI_nat xs 2
/-- two generators, nothing changed -/
theorem lcO_pure {vs vs1 : List Nat} {g : Tg} {tt : T} {t1 : I} {g1 : Tg} {tt1 : T} {te : E} {S : Sls} (F : D → List D) : ∀ (ds acc : List D),
    (∀ d ∈ ds, ∀ acc : List D, acc.length + (F d).length ≤ sizeLine → ∃ S1 S2 ds1 S3 S4, g d S = some S1 ∧ tt S1 = .ok true S2 ∧ t1 S2 = .ok ds1 S3 ∧ lcL vs1 g1 tt1 te ds1 acc (wipeS S3 vs1) = .ok (acc ++ F d) S4 ∧ wipeS S4 vs = S) →
    acc.length + (ds.flatMap F).length ≤ sizeLine → lcO vs vs1 g tt t1 g1 tt1 te ds acc S = .ok (acc ++ ds.flatMap F) S
  | [], acc, _, _ => by show Ou.ok acc S = _; simp
  | d :: ds, acc, h, hl => by
    have hl' : acc.length + ((F d).length + (ds.flatMap F).length) ≤ sizeLine := by rw [List.flatMap_cons, List.length_append] at hl; exact hl
    obtain ⟨S1, S2, ds1, S3, S4, h1, h2, h3, h4, h5⟩ := h d (by simp) acc (by omega)
    conv => lhs; unfold lcO
    rw [h1]
    dsimp only
    rw [h2, Ou.bind_ok, if_pos rfl, h3, Ou.bind_ok, h4, Ou.bind_ok, h5, lcO_pure F ds _ (fun e he => h e (by simp [he])) (by rw [List.length_append]; omega)]
    simp
theorem eLc2_pure {vs vs1 : List Nat} {t : I} {g : Tg} {tt : T} {t1 : I} {g1 : Tg} {tt1 : T} {te : E} {S S1 : Sls} {ds : List D} (F : D → List D) (ht : t S = .ok ds S1) (hf : freeS S1 vs = true)
    (h : ∀ d ∈ ds, ∀ acc : List D, acc.length + (F d).length ≤ sizeLine → ∃ S2 S3 ds1 S4 S5, g d (wipeS S1 vs) = some S2 ∧ tt S2 = .ok true S3 ∧ t1 S3 = .ok ds1 S4 ∧ lcL vs1 g1 tt1 te ds1 acc (wipeS S4 vs1) = .ok (acc ++ F d) S5 ∧ wipeS S5 vs = wipeS S1 vs)
    (hl : (ds.flatMap F).length ≤ sizeLine) (hr : restS S1 (wipeS S1 vs) vs = S1) : eLc2 vs vs1 t g tt t1 g1 tt1 te S = .ok (.ow (.lst (ds.flatMap F))) S1 := by
  unfold eLc2
  rw [ht, Ou.bind_ok, if_pos hf, lcO_pure F ds [] h (by simpa using hl), Ou.bind_ok, hr]
  simp [noEx]
/-! ### for -/
/-- a turn's end -/
def goes (o : Out) (S : Sls) : Prop := o = .nx S ∨ o = .ct S
theorem forL_step {g : Tg} {b : B} {d : D} {ds : List D} {S S1 S2 : Sls} (hg : g d S = some S1) (hb : b S1 = .nx S2) : forL g b (d :: ds) S = forL g b ds S2 := by
  rw [forL_cons]; unfold forStep; rw [hg]; show again (b S1) _ = _; rw [hb]; rfl
theorem forL_rt {g : Tg} {b : B} {d : D} {ds : List D} {S S1 S2 : Sls} {r : Rv} (hg : g d S = some S1) (hb : b S1 = .rt r S2) : forL g b (d :: ds) S = .rt r S2 := by
  rw [forL_cons]; unfold forStep; rw [hg]; show again (b S1) _ = _; rw [hb]; rfl
/-- a loop that goes on to its end -/
theorem forL_inv {g : Tg} {b : B} (Inv : List D → Sls → Prop) : ∀ (ds : List D) (S : Sls), Inv ds S → (∀ d ds S, Inv (d :: ds) S → ∃ S1 S2, g d S = some S1 ∧ b S1 = .nx S2 ∧ Inv ds S2) → ∃ S', forL g b ds S = .nx S' ∧ Inv [] S'
  | [], S, i, _ => ⟨S, rfl, i⟩
  | d :: ds, S, i, h => by
    obtain ⟨S1, S2, h1, h2, i2⟩ := h d ds S i
    obtain ⟨S3, h3, i3⟩ := forL_inv Inv ds S2 i2 h
    exact ⟨S3, (forL_step h1 h2).trans h3, i3⟩
theorem frzs_shs (S : Sls) (rs : List Rv) : ∀ ds : List D, frzs S (ds.map Rv.sh ++ rs) = match frzs S rs with
    | some (es, S') => some (ds ++ es, S')
    | none => none
  | [] => by
    show frzs S rs = _
    cases frzs S rs with
    | none => rfl
    | some z => rfl
  | d :: ds => by
    show (match frz S (.sh d) with
      | some (d, S1) => match frzs S1 (ds.map Rv.sh ++ rs) with
        | some (ds, S2) => some (d :: ds, S2)
        | none => none
      | none => none) = _
    show (match frzs S (ds.map Rv.sh ++ rs) with
        | some (ds, S2) => some (d :: ds, S2)
        | none => none) = _
    rw [frzs_shs S rs ds]
    cases frzs S rs with
    | none => rfl
    | some z => rfl
theorem semF_of {n m : Nat} {t : B} {args S0 : Sls} {o : Out} (hb : t S0 = o) (hl : args.length = n := by rfl) (hS : args ++ List.replicate (m - n) .un = S0 := by rfl) : semF n m t args = fin args o := by
  unfold semF; rw [if_pos hl, hS, hb]
theorem iRng1_of {ts : Es} {S S1 : Sls} {r : Rv} {j : Int} (h : ts S = .ok [r] S1) (hp : peek S1 r = some (.int j)) (ok : rngOk j = true) : iRng ts S = .ok (rangeD 0 j.toNat) S1 := by
  unfold iRng
  rw [h, Ou.bind_ok]
  have e : peeks S1 [r] = some [.int j] := by unfold peeks; rw [hp]; rfl
  rw [e]
  show (if rngOk j = true then Ou.ok (rangeD 0 j.toNat) S1 else .bad) = _
  rw [if_pos ok]
theorem eBin_of {f : D → D → Option Rv} {t1 t2 : E} {S S1 S2 : Sls} {r1 r2 : Rv} {o : Ou Rv} (h1 : t1 S = .ok r1 S1) (h2 : t2 S1 = .ok r2 S2) (h : on2 f S2 r1 r2 = o) : eBin f t1 t2 S = o := by
  unfold eBin; rw [h1, Ou.bind_ok, h2, Ou.bind_ok, h]
theorem sSet_of {i : Nat} {t : E} {S S1 S2 : Sls} {r : Rv} (h : t S = .ok r S1) (h2 : stor S1 i r = some S2) : sSet i t S = .nx S2 := by
  unfold sSet; rw [h, outOf_ok, h2]; rfl
theorem sRet_of {t : E} {S S1 : Sls} {r : Rv} (h : t S = .ok r S1) : sRet t S = .rt r S1 := by unfold sRet; rw [h, outOf_ok]
theorem sDrop_of {t : E} {S S1 : Sls} {r : Rv} (h : t S = .ok r S1) : sDrop t S = .nx S1 := by unfold sDrop; rw [h, outOf_ok]
theorem sIf_of {c : T} {t u : B} {S S1 : Sls} {b : Bool} (h : c S = .ok b S1) : sIf c t u S = if b = true then t S1 else u S1 := by unfold sIf; rw [h, outOf_ok]
theorem sFor_of {t : I} {g : Tg} {b : B} {S S1 : Sls} {ds : List D} (h : t S = .ok ds S1) : sFor t g b S = forL g b ds S1 := by unfold sFor; rw [h, outOf_ok]
theorem sSeq_nx {t u : B} {S S1 : Sls} (h : t S = .nx S1) : sSeq t u S = u S1 := by unfold sSeq; rw [h]
theorem sSeq_rt {t u : B} {S S1 : Sls} {r : Rv} (h : t S = .rt r S1) : sSeq t u S = .rt r S1 := by unfold sSeq; rw [h]
theorem sSeq_ex {t u : B} {S S1 : Sls} {e : Ex} (h : t S = .ex e S1) : sSeq t u S = .ex e S1 := by unfold sSeq; rw [h]
theorem tOf_of {t : E} {S S1 : Sls} {r : Rv} {b : Bool} (h : t S = .ok r S1) (hp : peek S1 r = some (.bl b)) : tOf t S = .ok b S1 := by unfold tOf; rw [h, Ou.bind_ok]; unfold asB; rw [hp]
theorem on2_of {f : D → D → Option Rv} {S : Sls} {r1 r2 res : Rv} {d e : D} (h1 : peek S r1 = some d) (h2 : peek S r2 = some e) (h : f d e = some res) : on2 f S r1 r2 = .ok res S := by unfold on2; rw [h1, h2]; show ans S (f d e) = _; rw [h]; rfl
theorem eCall_of {f : F} {ts : Es} {S S1 S2 : Sls} {rs : List Rv} {ds : List D} {o : FOut} (h : ts S = .ok rs S1) (hf : frzs S1 rs = some (ds, S2)) (ho : f (ds.map .sh) = o) : eCall f ts S = fAns S2 o := by unfold eCall; rw [h, Ou.bind_ok, hf]; show fAns S2 (f (ds.map .sh)) = _; rw [ho]
theorem eB_of {f : List D → Option Rv} {ts : Es} {S S1 : Sls} {rs : List Rv} {ds : List D} {res : Rv} (h : ts S = .ok rs S1) (hp : peeks S1 rs = some ds) (hf : f ds = some res) : eB f ts S = .ok res S1 := by unfold eB; rw [h, Ou.bind_ok]; unfold onL; rw [hp]; show ans S1 (f ds) = _; rw [hf]; rfl
theorem aOne_of {t : E} {S S1 : Sls} {r : Rv} (h : t S = .ok r S1) : aCons t aNil S = .ok [r.hold] S1 := by unfold aCons; rw [h]; rfl
/-- a loop counted -/
theorem forL_iter {g : Tg} {b : B} (P : Nat → Sls → Prop) (N : Nat) (step : ∀ i d S, i < N → P i S → ∃ S1 S2, g d S = some S1 ∧ b S1 = .nx S2 ∧ P (i + 1) S2) : ∀ (ds : List D) (i : Nat) (S : Sls), P i S → i + ds.length ≤ N → ∃ S', forL g b ds S = .nx S' ∧ P (i + ds.length) S'
  | [], i, S, h, _ => ⟨S, rfl, h⟩
  | d :: ds, i, S, h, hl => by
    rw [List.length_cons] at hl
    obtain ⟨S1, S2, h1, h2, h3⟩ := step i d S (by omega) h
    obtain ⟨S', h4, h5⟩ := forL_iter P N step ds (i + 1) S2 h3 (by omega)
    exact ⟨S', (forL_step h1 h2).trans h4, by rw [List.length_cons, Nat.add_comm ds.length 1, ← Nat.add_assoc]; exact h5⟩
theorem rangeD_len (lo : Int) (n : Nat) : (rangeD lo n).length = n := by unfold rangeD; simp
/-- a loop that looks for the first one: each turn goes on, the slots as Inv says, or gives back -/
theorem forL_find {g : Tg} {b : B} {α : Type} (enc : α → D) (p : α → Bool) (Inv : Sls → Prop) : ∀ (xs : List α) (S : Sls), Inv S →
    (∀ x ∈ xs, ∀ S, Inv S → ∃ S1, g (enc x) S = some S1 ∧ ((p x = false ∧ ∃ S2, b S1 = .nx S2 ∧ Inv S2) ∨ (p x = true ∧ ∃ S2, b S1 = .rt (.sh (enc x)) S2 ∧ Inv S2))) →
    ∃ S', Inv S' ∧ forL g b (xs.map enc) S = (match xs.find? p with
      | some x => .rt (.sh (enc x)) S'
      | none => .nx S')
  | [], S, i, _ => ⟨S, i, rfl⟩
  | x :: xs, S, i, h => by
    obtain ⟨S1, h1, h2⟩ := h x (by simp) S i
    rw [List.map_cons]
    rcases h2 with ⟨hp, S2, h2, i2⟩ | ⟨hp, S2, h2, i2⟩
    · obtain ⟨S', i', e⟩ := forL_find enc p Inv xs S2 i2 fun y hy => h y (by simp [hy])
      exact ⟨S', i', by rw [forL_step h1 h2, e, List.find?_cons_of_neg (by simp [hp])]⟩
    · exact ⟨S2, i2, by rw [forL_rt h1 h2, List.find?_cons_of_pos hp]⟩
end LD
namespace K40
open PySem PySem.Spec PyProof.Rows L2 LD
/-! ### the text -/
def top (i : Nat) : Stmt := PySem.Challenge.pw_laurelhall_k40_gaps_that_rules_rank.main.body.getD i (.Pass ⟨0, 0, 0, 0⟩)
abbrev s_is_integer : Stmt := top 5
abbrev s_is_score_rule : Stmt := top 11
abbrev s_check_rule : Stmt := top 12
abbrev s_sign : Stmt := top 16
abbrev s_check_rules : Stmt := top 17
abbrev s_all_gaps : Stmt := top 18
abbrev s_least_gap : Stmt := top 19
abbrev s_ranks_alike : Stmt := top 20
abbrev s_law_draws : Stmt := top 22
abbrev s_law_take : Stmt := top 23
abbrev s_law_gaps : Stmt := top 24
abbrev s_law_sign : Stmt := top 25
abbrev s_law_due : Stmt := top 26
abbrev s_law_told : Stmt := top 27
abbrev s_law : Stmt := top 28
theorem sc_is_integer : FnScope ["value"] ["value"] (defScope s_is_integer) := ⟨rfl, rfl, rfl, by decide +kernel, rfl, by decide +kernel, by decide +kernel⟩
theorem sc_is_score_rule : FnScope ["value", "weights", "least", "most", "one"] ["value"] (defScope s_is_score_rule) := ⟨rfl, rfl, rfl, by decide +kernel, rfl, by decide +kernel, by decide +kernel⟩
theorem sc_check_rule : FnScope ["rule"] ["rule"] (defScope s_check_rule) := ⟨rfl, rfl, rfl, by decide +kernel, rfl, by decide +kernel, by decide +kernel⟩
theorem sc_sign : FnScope ["number"] ["number"] (defScope s_sign) := ⟨rfl, rfl, rfl, by decide +kernel, rfl, by decide +kernel, by decide +kernel⟩
theorem sc_check_rules : FnScope ["rule", "other", "count"] ["rule", "other", "count"] (defScope s_check_rules) := ⟨rfl, rfl, rfl, by decide +kernel, rfl, by decide +kernel, by decide +kernel⟩
theorem sc_all_gaps : FnScope ["widest", "size", "found", "_", "gap", "number"] ["widest", "size"] (defScope s_all_gaps) := ⟨rfl, rfl, rfl, by decide +kernel, rfl, by decide +kernel, by decide +kernel⟩
theorem sc_least_gap : FnScope ["rule", "other", "count", "widest", "number", "_", "gap", "one", "weight", "two"] ["rule", "other", "count"] (defScope s_least_gap) := ⟨rfl, rfl, rfl, by decide +kernel, rfl, by decide +kernel, by decide +kernel⟩
theorem sc_ranks_alike : FnScope ["rule", "other", "count"] ["rule", "other", "count"] (defScope s_ranks_alike) := ⟨rfl, rfl, rfl, by decide +kernel, rfl, by decide +kernel, by decide +kernel⟩
theorem sc_law_draws : FnScope ["script", "draws", "cell", "number", "first", "k", "seed"] ["script"] (defScope s_law_draws) := ⟨rfl, rfl, rfl, by decide +kernel, rfl, by decide +kernel, by decide +kernel⟩
theorem sc_law_take : FnScope ["draws", "bound"] ["draws", "bound"] (defScope s_law_take) := ⟨rfl, rfl, rfl, by decide +kernel, rfl, by decide +kernel, by decide +kernel⟩
theorem sc_law_gaps : FnScope ["widest", "count", "found", "k", "more", "one", "number"] ["widest", "count"] (defScope s_law_gaps) := ⟨rfl, rfl, rfl, by decide +kernel, rfl, by decide +kernel, by decide +kernel⟩
theorem sc_law_sign : FnScope ["weights", "gap", "whole", "k"] ["weights", "gap"] (defScope s_law_sign) := ⟨rfl, rfl, rfl, by decide +kernel, rfl, by decide +kernel, by decide +kernel⟩
theorem sc_law_due : FnScope ["rule", "other", "count", "gap"] ["rule", "other", "count"] (defScope s_law_due) := ⟨rfl, rfl, rfl, by decide +kernel, rfl, by decide +kernel, by decide +kernel⟩
theorem sc_law_told : FnScope ["rule", "other", "count"] ["rule", "other", "count"] (defScope s_law_told) := ⟨rfl, rfl, rfl, by decide +kernel, rfl, by decide +kernel, by decide +kernel⟩
theorem sc_law : FnScope ["script", "draws", "turn", "size", "least", "most", "count", "rule", "k", "other", "times", "weight", "due", "odd", "one", "bad", "small", "wide"] ["script"] (defScope s_law) := ⟨rfl, rfl, rfl, by decide +kernel, rfl, by decide +kernel, by decide +kernel⟩
/-! ### what they compute -/
/-- the program's own exception classes: who is caught by whose clause -/
def emT : List (Str × Str × Bool) := [("LaurelError", "LaurelError", true), ("LaurelError", "NotRight", false), ("LaurelError", "NotThere", false), ("LaurelError", "TooLarge", false), ("NotRight", "LaurelError", true), ("NotRight", "NotRight", true), ("NotRight", "NotThere", false), ("NotRight", "TooLarge", false), ("NotThere", "LaurelError", true), ("NotThere", "NotRight", false), ("NotThere", "NotThere", true), ("NotThere", "TooLarge", false), ("TooLarge", "LaurelError", true), ("TooLarge", "NotRight", false), ("TooLarge", "NotThere", false), ("TooLarge", "TooLarge", true)]
abbrev em : Str → Str → Option Bool := emOf emT
noncomputable def b_is_integer_1 : B := (sRet (eAndV (eB (dIsi "int") (aCons (eName 0) (aCons (eC (.ty "int")) aNil))) (eNotV (eB (dIsi "bool") (aCons (eName 0) (aCons (eC (.ty "bool")) aNil))))))
noncomputable def b_is_integer : B :=
  b_is_integer_1
noncomputable def t_is_integer : F := semF 1 1 b_is_integer
noncomputable def b_is_score_rule_1a1 : B := (sRet (eC (.bl false)))
noncomputable def b_is_score_rule_1 : B := (sIf (tOrT (tNotT (tTru (eB (dIsi "tuple") (aCons (eName 0) (aCons (eC (.ty "tuple")) aNil))))) (tOrT (tOf (eBin qNe (eB dLen (aCons (eName 0) aNil)) (eC (.int 3)))) (tNotT (tTru (eB (dIsi "tuple") (aCons (eBin dIx (eName 0) (eC (.int 0))) (aCons (eC (.ty "tuple")) aNil))))))) b_is_score_rule_1a1 sNx)
noncomputable def b_is_score_rule_2 : B := (sAsg (gT 3 (gConsD (gN 1) (gConsD (gN 2) (gConsD (gN 3) gNilD)))) (eName 0))
noncomputable def b_is_score_rule_3a1 : B := (sRet (eC (.bl false)))
noncomputable def b_is_score_rule_3 : B := (sIf (tNotT (tOf (eChain qLe qLe (eC (.int 1)) (eB dLen (aCons (eName 1) aNil)) (eC (.int 4))))) b_is_score_rule_3a1 sNx)
noncomputable def b_is_score_rule_4a1 : B := (sRet (eC (.bl false)))
noncomputable def b_is_score_rule_4 : B := (sIf (tNotT (tTru (eB dAll (aCons (eLc [4] (iSeq itemsOf (eName 1)) (gN 4) tYesT (eAndV (eCall t_is_integer (aCons (eName 4) aNil)) (eChain qLe qLe (eC (.int 1)) (eName 4) (eC (.int 20))))) aNil)))) b_is_score_rule_4a1 sNx)
noncomputable def b_is_score_rule_5a1 : B := (sRet (eC (.bl false)))
noncomputable def b_is_score_rule_5 : B := (sIf (tOrT (tNotT (tTru (eCall t_is_integer (aCons (eName 2) aNil)))) (tNotT (tTru (eCall t_is_integer (aCons (eName 3) aNil))))) b_is_score_rule_5a1 sNx)
noncomputable def b_is_score_rule_6 : B := (sRet (eAndV (eBin qLe (eUn dNeg (eC (.int 10))) (eName 2)) (eAndV (eBin qLe (eName 3) (eC (.int 10))) (eBin qGe (eBin dSub (eName 3) (eName 2)) (eC (.int 2))))))
noncomputable def b_is_score_rule : B :=
  (sSeq b_is_score_rule_1 (sSeq b_is_score_rule_2 (sSeq b_is_score_rule_3 (sSeq b_is_score_rule_4 (sSeq b_is_score_rule_5 b_is_score_rule_6)))))
noncomputable def t_is_score_rule : F := semF 1 5 b_is_score_rule
noncomputable def b_check_rule_1a1 : B := (sRaise "NotRight")
noncomputable def b_check_rule_1 : B := (sIf (tNotT (tTru (eCall t_is_score_rule (aCons (eName 0) aNil)))) b_check_rule_1a1 sNx)
noncomputable def b_check_rule : B :=
  b_check_rule_1
noncomputable def t_check_rule : F := semF 1 1 b_check_rule
noncomputable def b_sign_1 : B := (sRet (eBin dSub (eB dInt (aCons (eBin qGt (eName 0) (eC (.int 0))) aNil)) (eB dInt (aCons (eBin qLt (eName 0) (eC (.int 0))) aNil))))
noncomputable def b_sign : B :=
  b_sign_1
noncomputable def t_sign : F := semF 1 1 b_sign
noncomputable def b_check_rules_1 : B := (sDrop (eCall t_check_rule (aCons (eName 0) aNil)))
noncomputable def b_check_rules_2 : B := (sDrop (eCall t_check_rule (aCons (eName 1) aNil)))
noncomputable def b_check_rules_3a1 : B := (sRaise "NotRight")
noncomputable def b_check_rules_3 : B := (sIf (tOrT (tOf (eBin qNe (eSl (eName 0) (oSo (eC (.int 1))) oNo) (eSl (eName 1) (oSo (eC (.int 1))) oNo))) (tOf (eBin qNe (eB dLen (aCons (eBin dIx (eName 0) (eC (.int 0))) aNil)) (eB dLen (aCons (eBin dIx (eName 1) (eC (.int 0))) aNil))))) b_check_rules_3a1 sNx)
noncomputable def b_check_rules_4a1 : B := (sRaise "NotThere")
noncomputable def b_check_rules_4 : B := (sIf (tNotT (tOf (eChain qLe qLe (eC (.int 1)) (eName 2) (eC (.int 6))))) b_check_rules_4a1 sNx)
noncomputable def b_check_rules : B :=
  (sSeq b_check_rules_1 (sSeq b_check_rules_2 (sSeq b_check_rules_3 b_check_rules_4)))
noncomputable def t_check_rules : F := semF 3 3 b_check_rules
noncomputable def b_all_gaps_1 : B := (sSet 2 (eLst (aCons (eTup aNil) aNil)))
noncomputable def b_all_gaps_2l1 : B := (sSet 2 (eLc2 [4, 5] [5] (iSeq itemsOf (eName 2)) (gN 4) tYesT (iRng (aCons (eUn dNeg (eName 0)) (aCons (eBin dAdd (eName 0) (eC (.int 1))) aNil))) (gN 5) tYesT (eTup (aStar (eName 4) (aCons (eName 5) aNil)))))
noncomputable def b_all_gaps_2 : B := (sFor (iRng (aCons (eName 1) aNil)) (gN 3)
  b_all_gaps_2l1)
noncomputable def b_all_gaps_3 : B := (sRet (eName 2))
noncomputable def b_all_gaps : B :=
  (sSeq b_all_gaps_1 (sSeq b_all_gaps_2 b_all_gaps_3))
noncomputable def t_all_gaps : F := semF 2 6 b_all_gaps
noncomputable def b_least_gap_1 : B := (sSet 3 (eBin dMul (eName 2) (eBin dSub (eBin dIx (eName 0) (eC (.int 2))) (eBin dIx (eName 0) (eC (.int 1))))))
noncomputable def b_least_gap_2 : B := (sSet 4 (eC (.int 1)))
noncomputable def b_least_gap_3l1 : B := (sAug 4 dMulI (eBin dAdd (eBin dMul (eC (.int 2)) (eName 3)) (eC (.int 1))))
noncomputable def b_least_gap_3 : B := (sFor (iSeq itemsOf (eBin dIx (eName 0) (eC (.int 0)))) (gN 5)
  b_least_gap_3l1)
noncomputable def b_least_gap_4a1 : B := (sRaise "TooLarge")
noncomputable def b_least_gap_4 : B := (sIf (tOf (eBin qGt (eName 4) (eC (.int 20000)))) b_least_gap_4a1 sNx)
noncomputable def b_least_gap_5l1 : B := (sSet 7 (eB dSum (aCons (eLc [8, 4] (iZip (aCons (eBin dIx (eName 0) (eC (.int 0))) (aCons (eName 6) aNil))) (gT 2 (gConsD (gN 8) (gConsD (gN 4) gNilD))) tYesT (eBin dMul (eName 8) (eName 4))) aNil)))
noncomputable def b_least_gap_5l2 : B := (sSet 9 (eB dSum (aCons (eLc [8, 4] (iZip (aCons (eBin dIx (eName 1) (eC (.int 0))) (aCons (eName 6) aNil))) (gT 2 (gConsD (gN 8) (gConsD (gN 4) gNilD))) tYesT (eBin dMul (eName 8) (eName 4))) aNil)))
noncomputable def b_least_gap_5l3a1 : B := (sRet (eName 6))
noncomputable def b_least_gap_5l3 : B := (sIf (tOf (eBin qNe (eCall t_sign (aCons (eName 7) aNil)) (eCall t_sign (aCons (eName 9) aNil)))) b_least_gap_5l3a1 sNx)
noncomputable def b_least_gap_5 : B := (sFor (iSeq itemsOf (eCall t_all_gaps (aCons (eName 3) (aCons (eB dLen (aCons (eBin dIx (eName 0) (eC (.int 0))) aNil)) aNil)))) (gN 6)
  (sSeq b_least_gap_5l1 (sSeq b_least_gap_5l2 b_least_gap_5l3)))
noncomputable def b_least_gap_6 : B := (sRet (eC .non))
noncomputable def b_least_gap : B :=
  (sSeq b_least_gap_1 (sSeq b_least_gap_2 (sSeq b_least_gap_3 (sSeq b_least_gap_4 (sSeq b_least_gap_5 b_least_gap_6)))))
noncomputable def t_least_gap : F := semF 3 10 b_least_gap
noncomputable def b_ranks_alike_1 : B := (sDrop (eCall t_check_rules (aCons (eName 0) (aCons (eName 1) (aCons (eName 2) aNil)))))
noncomputable def b_ranks_alike_2 : B := (sRet (eCall t_least_gap (aCons (eName 0) (aCons (eName 1) (aCons (eName 2) aNil)))))
noncomputable def b_ranks_alike : B :=
  (sSeq b_ranks_alike_1 b_ranks_alike_2)
noncomputable def t_ranks_alike : F := semF 3 3 b_ranks_alike
noncomputable def b_law_draws_1 : B := (sSet 1 (eLst aNil))
noncomputable def b_law_draws_2l1 : B := (sSet 3 (eB dAbs (aCons (eName 2) aNil)))
noncomputable def b_law_draws_2l2a1 : B := (sSet 4 (eBin dMod (eB dInt (aCons (eBin dAdd (eBin dMul (eName 3) (eC (.int 48271))) (eC (.int 11))) aNil)) (eC (.int 2147483647))))
noncomputable def b_law_draws_2l2a2 : B := (sDrop (eMut "list" mAppend 1 (aCons (eBin dMod (eB dInt (aCons (eBin dAdd (eBin dMul (eName 4) (eC (.int 69621))) (eName 3)) aNil)) (eC (.int 2147483629))) aNil)))
noncomputable def b_law_draws_2l2a3 : B := (sDrop (eMut "list" mAppend 1 (aCons (eBin dMod (eB dInt (aCons (eBin dAdd (eName 4) (eBin dFdiv (eName 3) (eC (.int 7)))) aNil)) (eC (.int 1000003))) aNil)))
noncomputable def b_law_draws_2l2a4 : B := (sSet 3 (eC (.int 0)))
noncomputable def b_law_draws_2l2 : B := (sIf (tOf (eBin qLt (eName 3) (eBin dPow (eC (.int 10)) (eC (.int 18))))) (sSeq b_law_draws_2l2a1 (sSeq b_law_draws_2l2a2 (sSeq b_law_draws_2l2a3 b_law_draws_2l2a4))) sNx)
noncomputable def b_law_draws_2l3l1a1 : B := (sDrop (eMut "list" mAppend 1 (aCons (eBin dMod (eB dInt (aCons (eName 3) aNil)) (eC (.int 997))) aNil)))
noncomputable def b_law_draws_2l3l1a2 : B := (sSet 3 (eBin dFdiv (eName 3) (eC (.int 997))))
noncomputable def b_law_draws_2l3l1 : B := (sIf (tOf (eBin qGt (eName 3) (eC (.int 0)))) (sSeq b_law_draws_2l3l1a1 b_law_draws_2l3l1a2) sNx)
noncomputable def b_law_draws_2l3 : B := (sFor (iRng (aCons (eC (.int 60)) aNil)) (gN 5)
  b_law_draws_2l3l1)
noncomputable def b_law_draws_2 : B := (sFor (iSeq itemsOf (eName 0)) (gN 2)
  (sSeq b_law_draws_2l1 (sSeq b_law_draws_2l2 b_law_draws_2l3)))
noncomputable def b_law_draws_3 : B := (sSet 6 (eC (.int 1)))
noncomputable def b_law_draws_4a1 : B := (sSet 6 (eBin dAdd (eC (.int 1)) (eB dAbs (aCons (eBin dIx (eName 0) (eC (.int 0))) aNil))))
noncomputable def b_law_draws_4 : B := (sIf (tOf (eBin qGt (eB dLen (aCons (eName 0) aNil)) (eC (.int 0)))) b_law_draws_4a1 sNx)
noncomputable def b_law_draws_5l1 : B := (sSet 6 (eBin dMod (eB dInt (aCons (eBin dAdd (eBin dMul (eName 6) (eC (.int 48271))) (eC (.int 69621))) aNil)) (eC (.int 2147483647))))
noncomputable def b_law_draws_5l2 : B := (sDrop (eMut "list" mAppend 1 (aCons (eBin dFdiv (eName 6) (eC (.int 5))) aNil)))
noncomputable def b_law_draws_5 : B := (sFor (iRng (aCons (eC (.int 900)) aNil)) (gN 5)
  (sSeq b_law_draws_5l1 b_law_draws_5l2))
noncomputable def b_law_draws_6 : B := (sRet (eUn dRevL (eName 1)))
noncomputable def b_law_draws : B :=
  (sSeq b_law_draws_1 (sSeq b_law_draws_2 (sSeq b_law_draws_3 (sSeq b_law_draws_4 (sSeq b_law_draws_5 b_law_draws_6)))))
noncomputable def t_law_draws : F := semF 1 7 b_law_draws
noncomputable def b_law_take_1a1 : B := (sRet (eC (.int 0)))
noncomputable def b_law_take_1 : B := (sIf (tOf (eBin qEq (eB dLen (aCons (eName 0) aNil)) (eC (.int 0)))) b_law_take_1a1 sNx)
noncomputable def b_law_take_2 : B := (sRet (eBin dMod (eB dInt (aCons (eMut "list" mPop 0 aNil) aNil)) (eName 1)))
noncomputable def b_law_take : B :=
  (sSeq b_law_take_1 b_law_take_2)
noncomputable def t_law_take : F := semF 2 2 b_law_take
noncomputable def b_law_gaps_1 : B := (sSet 2 (eLst (aCons (eTup aNil) aNil)))
noncomputable def b_law_gaps_2l1 : B := (sSet 4 (eLst aNil))
noncomputable def b_law_gaps_2l2l1 : B := (sSet 4 (eBin dAdd (eName 4) (eLc [6] (iRng (aCons (eUn dNeg (eName 0)) (aCons (eBin dAdd (eName 0) (eC (.int 1))) aNil))) (gN 6) tYesT (eBin dAdd (eName 5) (eTup (aCons (eName 6) aNil))))))
noncomputable def b_law_gaps_2l2 : B := (sFor (iSeq itemsOf (eName 2)) (gN 5)
  b_law_gaps_2l2l1)
noncomputable def b_law_gaps_2l3 : B := (sSet 2 (eName 4))
noncomputable def b_law_gaps_2 : B := (sFor (iRng (aCons (eName 1) aNil)) (gN 3)
  (sSeq b_law_gaps_2l1 (sSeq b_law_gaps_2l2 b_law_gaps_2l3)))
noncomputable def b_law_gaps_3 : B := (sRet (eName 2))
noncomputable def b_law_gaps : B :=
  (sSeq b_law_gaps_1 (sSeq b_law_gaps_2 b_law_gaps_3))
noncomputable def t_law_gaps : F := semF 2 7 b_law_gaps
noncomputable def b_law_sign_1 : B := (sSet 2 (eB dSum (aCons (eLc [3] (iRng (aCons (eB dLen (aCons (eName 1) aNil)) aNil)) (gN 3) tYesT (eBin dMul (eBin dIx (eName 0) (eName 3)) (eBin dIx (eName 1) (eName 3)))) aNil)))
noncomputable def b_law_sign_2 : B := (sRet (eBin dSub (eB dInt (aCons (eBin qGt (eName 2) (eC (.int 0))) aNil)) (eB dInt (aCons (eBin qLt (eName 2) (eC (.int 0))) aNil))))
noncomputable def b_law_sign : B :=
  (sSeq b_law_sign_1 b_law_sign_2)
noncomputable def t_law_sign : F := semF 2 4 b_law_sign
noncomputable def b_law_due_1l1a1 : B := (sRet (eName 3))
noncomputable def b_law_due_1l1 : B := (sIf (tOf (eBin qNe (eCall t_law_sign (aCons (eBin dIx (eName 0) (eC (.int 0))) (aCons (eName 3) aNil))) (eCall t_law_sign (aCons (eBin dIx (eName 1) (eC (.int 0))) (aCons (eName 3) aNil))))) b_law_due_1l1a1 sNx)
noncomputable def b_law_due_1 : B := (sFor (iSeq itemsOf (eCall t_law_gaps (aCons (eBin dMul (eName 2) (eBin dSub (eBin dIx (eName 0) (eC (.int 2))) (eBin dIx (eName 0) (eC (.int 1))))) (aCons (eB dLen (aCons (eBin dIx (eName 0) (eC (.int 0))) aNil)) aNil)))) (gN 3)
  b_law_due_1l1)
noncomputable def b_law_due_2 : B := (sRet (eC .non))
noncomputable def b_law_due : B :=
  (sSeq b_law_due_1 b_law_due_2)
noncomputable def t_law_due : F := semF 3 4 b_law_due
noncomputable def b_law_told_1t1 : B := (sRet (eCall t_ranks_alike (aCons (eName 0) (aCons (eName 1) (aCons (eName 2) aNil)))))
noncomputable def b_law_told_1h3_1 : B := (sRet (eC (.str "other")))
noncomputable def b_law_told_1h2_1 : B := (sRet (eC (.str "large")))
noncomputable def b_law_told_1h1_1 : B := (sRet (eC (.str "there")))
noncomputable def b_law_told_1h0_1 : B := (sRet (eC (.str "right")))
noncomputable def b_law_told_1 : B := (sTry em b_law_told_1t1
  (("NotRight", b_law_told_1h0_1) :: (("NotThere", b_law_told_1h1_1) :: (("TooLarge", b_law_told_1h2_1) :: (("LaurelError", b_law_told_1h3_1) :: [])))))
noncomputable def b_law_told : B :=
  b_law_told_1
noncomputable def t_law_told : F := semF 3 3 b_law_told
noncomputable def b_law_1 : B := (sSet 1 (eCall t_law_draws (aCons (eName 0) aNil)))
noncomputable def b_law_2l1 : B := (sSet 3 (eBin dAdd (eC (.int 1)) (eCallL t_law_take (aCons (eName 1) (aCons (eC (.int 3)) aNil)))))
noncomputable def b_law_2l2 : B := (sSet 4 (eBin dSub (eCallL t_law_take (aCons (eName 1) (aCons (eC (.int 12)) aNil))) (eC (.int 10))))
noncomputable def b_law_2l3 : B := (sSet 5 (eBin dAdd (eBin dAdd (eName 4) (eC (.int 2))) (eCallL t_law_take (aCons (eName 1) (aCons (eC (.int 2)) aNil)))))
noncomputable def b_law_2l4 : B := (sSet 6 (eBin dAdd (eC (.int 1)) (eCallL t_law_take (aCons (eName 1) (aCons (eBin dIx (eLst (aCons (eC (.int 3)) (aCons (eC (.int 2)) (aCons (eC (.int 1)) aNil)))) (eBin dSub (eName 3) (eC (.int 1)))) aNil)))))
noncomputable def b_law_2l5 : B := (sSet 7 (eTup (aCons (eB dTuple (aCons (eLc [8] (iRng (aCons (eName 3) aNil)) (gN 8) tYesT (eBin dAdd (eC (.int 1)) (eCallL t_law_take (aCons (eName 1) (aCons (eC (.int 6)) aNil))))) aNil)) (aCons (eName 4) (aCons (eName 5) aNil)))))
noncomputable def b_law_2l6 : B := (sSet 9 (eTup (aCons (eB dTuple (aCons (eLc [8] (iRng (aCons (eName 3) aNil)) (gN 8) tYesT (eBin dAdd (eC (.int 1)) (eCallL t_law_take (aCons (eName 1) (aCons (eC (.int 6)) aNil))))) aNil)) (aCons (eName 4) (aCons (eName 5) aNil)))))
noncomputable def b_law_2l7a1 : B := (sSet 10 (eBin dAdd (eC (.int 1)) (eCallL t_law_take (aCons (eName 1) (aCons (eC (.int 3)) aNil)))))
noncomputable def b_law_2l7a2 : B := (sSet 9 (eTup (aCons (eB dTuple (aCons (eLc [11] (iSeq itemsOf (eBin dIx (eName 7) (eC (.int 0)))) (gN 11) tYesT (eBin dMul (eName 10) (eName 11))) aNil)) (aCons (eName 4) (aCons (eName 5) aNil)))))
noncomputable def b_law_2l7a3a1 : B := (sRet (eC (.bl false)))
noncomputable def b_law_2l7a3 : B := (sIf (tOf (eBin qIsN (eCall t_law_told (aCons (eName 7) (aCons (eName 9) (aCons (eName 6) aNil)))) (eC .non))) b_law_2l7a3a1 sNx)
noncomputable def b_law_2l7 : B := (sIf (tOf (eBin qEq (eCallL t_law_take (aCons (eName 1) (aCons (eC (.int 3)) aNil))) (eC (.int 0)))) (sSeq b_law_2l7a1 (sSeq b_law_2l7a2 b_law_2l7a3)) sNx)
noncomputable def b_law_2l8 : B := (sSet 12 (eCall t_law_due (aCons (eName 7) (aCons (eName 9) (aCons (eName 6) aNil)))))
noncomputable def b_law_2l9a1 : B := (sRet (eC (.bl false)))
noncomputable def b_law_2l9 : B := (sIf (tOf (eBin qNe (eB dRepr (aCons (eCall t_law_told (aCons (eName 7) (aCons (eName 9) (aCons (eName 6) aNil)))) aNil)) (eB dRepr (aCons (eName 12) aNil)))) b_law_2l9a1 sNx)
noncomputable def b_law_2l10a1 : B := (sRet (eC (.bl false)))
noncomputable def b_law_2l10 : B := (sIf (tAndT (tOf (eBin qIs (eName 12) (eC .non))) (tAndT (tOf (eBin qGt (eName 6) (eC (.int 1)))) (tOf (eBin qIsN (eCall t_law_told (aCons (eName 7) (aCons (eName 9) (aCons (eBin dSub (eName 6) (eC (.int 1))) aNil)))) (eC .non))))) b_law_2l10a1 sNx)
noncomputable def b_law_2l11 : B := (sSet 13 (eLst (aCons (eTup (aCons (eBin dMul (eTup (aCons (eC (.int 1)) aNil)) (eName 3)) (aCons (eName 4) (aCons (eBin dAdd (eName 5) (eC (.int 1))) aNil)))) (aCons (eTup (aCons (eBin dMul (eTup (aCons (eC (.int 1)) aNil)) (eName 3)) (aCons (eBin dSub (eName 4) (eC (.int 1))) (aCons (eName 5) aNil)))) (aCons (eTup (aCons (eBin dMul (eTup (aCons (eC (.int 1)) aNil)) (eBin dAdd (eName 3) (eC (.int 1)))) (aCons (eName 4) (aCons (eName 5) aNil)))) (aCons (eTup (aCons (eBin dMul (eTup (aCons (eC (.int 0)) aNil)) (eName 3)) (aCons (eName 4) (aCons (eName 5) aNil)))) (aCons (eC .non) aNil)))))))
noncomputable def b_law_2l12a1 : B := (sRet (eC (.bl false)))
noncomputable def b_law_2l12 : B := (sIf (tOrT (tOf (eBin qNe (eLc [14] (iSeq itemsOf (eName 13)) (gN 14) tYesT (eCall t_law_told (aCons (eName 7) (aCons (eName 14) (aCons (eC (.int 9)) aNil))))) (eBin dMul (eLst (aCons (eC (.str "right")) aNil)) (eC (.int 5))))) (tOf (eBin qNe (eLc [15] (iSeq itemsOf (eLst (aCons (eC (.int 0)) (aCons (eC (.int 7)) (aCons (eUn dNeg (eC (.int 1))) aNil))))) (gN 15) tYesT (eCall t_law_told (aCons (eName 7) (aCons (eName 9) (aCons (eName 15) aNil))))) (eBin dMul (eLst (aCons (eC (.str "there")) aNil)) (eC (.int 3)))))) b_law_2l12a1 sNx)
noncomputable def b_law_2 : B := (sFor (iRng (aCons (eC (.int 3)) aNil)) (gN 2)
  (sSeq b_law_2l1 (sSeq b_law_2l2 (sSeq b_law_2l3 (sSeq b_law_2l4 (sSeq b_law_2l5 (sSeq b_law_2l6 (sSeq b_law_2l7 (sSeq b_law_2l8 (sSeq b_law_2l9 (sSeq b_law_2l10 (sSeq b_law_2l11 b_law_2l12))))))))))))
noncomputable def b_law_3 : B := (sAsg (gT 2 (gConsD (gN 16) (gConsD (gN 17) gNilD))) (eTup (aCons (eTup (aCons (eTup (aCons (eC (.int 1)) (aCons (eC (.int 1)) (aCons (eC (.int 1)) aNil)))) (aCons (eUn dNeg (eC (.int 3))) (aCons (eC (.int 10)) aNil)))) (aCons (eTup (aCons (eTup (aCons (eC (.int 2)) (aCons (eC (.int 2)) (aCons (eC (.int 2)) aNil)))) (aCons (eUn dNeg (eC (.int 4))) (aCons (eC (.int 10)) aNil)))) aNil))))
noncomputable def b_law_4a1 : B := (sRet (eC (.bl false)))
noncomputable def b_law_4 : B := (sIf (tOrT (tOf (eBin qIsN (eCall t_law_told (aCons (eName 16) (aCons (eTup (aCons (eTup (aCons (eC (.int 2)) (aCons (eC (.int 2)) (aCons (eC (.int 2)) aNil)))) (aCons (eUn dNeg (eC (.int 3))) (aCons (eC (.int 10)) aNil)))) (aCons (eC (.int 1)) aNil)))) (eC .non))) (tOf (eBin qNe (eCall t_law_told (aCons (eName 17) (aCons (eName 17) (aCons (eC (.int 1)) aNil)))) (eC (.str "large"))))) b_law_4a1 sNx)
noncomputable def b_law_5 : B := (sRet (eAndV (eBin qIs (eCall t_law_told (aCons (eTup (aCons (eTup (aCons (eC (.int 1)) (aCons (eC (.int 2)) (aCons (eC (.int 1)) aNil)))) (aCons (eC (.int 0)) (aCons (eC (.int 2)) aNil)))) (aCons (eTup (aCons (eTup (aCons (eC (.int 1)) (aCons (eC (.int 2)) (aCons (eC (.int 1)) aNil)))) (aCons (eC (.int 0)) (aCons (eC (.int 2)) aNil)))) (aCons (eC (.int 6)) aNil)))) (eC .non)) (eBin qEq (eCall t_law_told (aCons (eTup (aCons (eTup (aCons (eC (.int 1)) (aCons (eC (.int 2)) (aCons (eC (.int 1)) aNil)))) (aCons (eC (.int 0)) (aCons (eC (.int 2)) aNil)))) (aCons (eTup (aCons (eTup (aCons (eC (.int 1)) (aCons (eC (.int 2)) (aCons (eC (.int 1)) aNil)))) (aCons (eC (.int 0)) (aCons (eC (.int 2)) aNil)))) (aCons (eC (.int 7)) aNil)))) (eC (.str "there")))))
noncomputable def b_law : B :=
  (sSeq b_law_1 (sSeq b_law_2 (sSeq b_law_3 (sSeq b_law_4 b_law_5))))
noncomputable def t_law : F := semF 1 18 b_law
/-! ### what the head tells -/
structure Ge (K : PySem.W.Frag) (mg : Str → Option Value) : Prop where
  b_abs : mg "abs" = none
  b_all : mg "all" = none
  b_bool : mg "bool" = none
  b_int : mg "int" = none
  b_isinstance : mg "isinstance" = none
  b_len : mg "len" = none
  b_list : mg "list" = none
  b_range : mg "range" = none
  b_repr : mg "repr" = none
  b_reversed : mg "reversed" = none
  b_sum : mg "sum" = none
  b_tuple : mg "tuple" = none
  b_zip : mg "zip" = none
  c_LEAST_GAP : ∃ t, mg "LEAST_GAP" = some (.int 2 t)
  c_MOST_GAPS : ∃ t, mg "MOST_GAPS" = some (.int 20000 t)
  c_MOST_JURORS : ∃ t, mg "MOST_JURORS" = some (.int 6 t)
  c_MOST_WEIGHT : ∃ t, mg "MOST_WEIGHT" = some (.int 20 t)
  c_MOST_WEIGHTS : ∃ t, mg "MOST_WEIGHTS" = some (.int 4 t)
  c_WIDEST : ∃ t, mg "WIDEST" = some (.int 10 t)
  x_LaurelError : IsExc K mg "LaurelError"
  x_NotRight : IsExc K mg "NotRight"
  x_NotThere : IsExc K mg "NotThere"
  x_TooLarge : IsExc K mg "TooLarge"
  h_LaurelError : IsHd K mg em "LaurelError"
  h_NotRight : IsHd K mg em "NotRight"
  h_NotThere : IsHd K mg em "NotThere"
  h_TooLarge : IsHd K mg em "TooLarge"
  d_is_integer : IsDef K mg "is_integer" s_is_integer
  d_is_score_rule : IsDef K mg "is_score_rule" s_is_score_rule
  d_check_rule : IsDef K mg "check_rule" s_check_rule
  d_sign : IsDef K mg "sign" s_sign
  d_check_rules : IsDef K mg "check_rules" s_check_rules
  d_all_gaps : IsDef K mg "all_gaps" s_all_gaps
  d_least_gap : IsDef K mg "least_gap" s_least_gap
  d_ranks_alike : IsDef K mg "ranks_alike" s_ranks_alike
  d_law_draws : IsDef K mg "_law_draws" s_law_draws
  d_law_take : IsDef K mg "_law_take" s_law_take
  d_law_gaps : IsDef K mg "_law_gaps" s_law_gaps
  d_law_sign : IsDef K mg "_law_sign" s_law_sign
  d_law_due : IsDef K mg "_law_due" s_law_due
  d_law_told : IsDef K mg "_law_told" s_law_told
  d_law : IsDef K mg "law" s_law
/-! ### they do compute it -/
section
variable {P : Program} {w : World} {K : PySem.W.Frag} {mg : Str → Option Value} {base : Heap} {C : Addr → Option D}
theorem fn_is_integer (E : Ge K mg) {f : Addr} {fd : FuncData} (F : FunD K "is_integer" "is_integer" (defArgs s_is_integer) (defBody s_is_integer) (defScope s_is_integer) [] [] f fd) : FnG P w K mg base 1 f fd ["value"] (spF ⟨P, w, K, mg, C⟩ t_is_integer) := by
  refine fn_D F sc_is_integer rfl rfl fun cdv A outer s H Ex hr gd => ?_
  have hu := hr.units
  have hu2 : (A.deeper (envOfC "is_integer" (defScope s_is_integer) s.heap.objs.size f cdv)).units + 200 < cLine := by have := hr.un; omega
  exact (dss_one (ds_ret (de_and tru_D (de_callB (cd_isi (isi_all _).1) rfl E.b_isinstance boot_isinstance (da_cons (de_name 0 (pv 0)) (da_cons (de_bty rfl E.b_int rfl) da_nil))) (de_one (de_not tru_D (de_callB (cd_isi (isi_all _).2.1) rfl E.b_isinstance boot_isinstance (da_cons (de_name 0 (pv 0)) (da_cons (de_bty rfl E.b_bool rfl) da_nil))))))))
theorem ok_is_integer (E : Ge K mg) : Callee P w K mg base C 1 "is_integer" ["value"] t_is_integer := by
  obtain ⟨f, fd, gf, F⟩ := E.d_is_integer
  exact ⟨f, fd, gf, fn_is_integer E F, F.kp, F.bindsN fun _ _ _ _ _ _ us hl => match us, hl with | [_], _ => rfl⟩
theorem fn_is_score_rule (E : Ge K mg) {f : Addr} {fd : FuncData} (F : FunD K "is_score_rule" "is_score_rule" (defArgs s_is_score_rule) (defBody s_is_score_rule) (defScope s_is_score_rule) [] [] f fd) : FnG P w K mg base 2 f fd ["value"] (spF ⟨P, w, K, mg, C⟩ t_is_score_rule) := by
  have c_is_integer := ok_is_integer (P := P) (w := w) (base := base) (C := C) E
  refine fn_D F sc_is_score_rule rfl rfl fun cdv A outer s H Ex hr gd => ?_
  have hu := hr.units
  have hu2 : (A.deeper (envOfC "is_score_rule" (defScope s_is_score_rule) s.heap.objs.size f cdv)).units + 200 < cLine := by have := hr.un; omega
  exact (dss_cons (ds_if (DW.dt (dw_or (dt_not (dt_tru tru_D (de_callB (cd_isi (isi_all _).2.2.2.1) rfl E.b_isinstance boot_isinstance (da_cons (de_name 0 (pv 0)) (da_cons (de_bty rfl E.b_tuple rfl) da_nil))))) (dw_or (dt_cmp (od_ne hu) (de_callB cd_len rfl E.b_len boot_len (da_cons (de_name 0 (pv 0)) da_nil)) de_int rfl) (dw_or1 (dt_not (dt_tru tru_D (de_callB (cd_isi (isi_all _).2.2.2.1) rfl E.b_isinstance boot_isinstance (da_cons (de_ix (de_name 0 (pv 0)) de_int (fun _ _ => rfl)) (da_cons (de_bty rfl E.b_tuple rfl) da_nil))))))))) (dss_one (ds_ret de_bl)) dss_nil)
  (dss_cons (ds_asg (de_name 0 (pv 0)) (dg_tup rfl (dgs_cons (dg_n 1 sc_is_score_rule.nd) (dgs_cons (dg_n 2 sc_is_score_rule.nd) (dgs_cons (dg_n 3 sc_is_score_rule.nd) dgs_nil)))))
  (dss_cons (ds_if (dt_not (dt_chain od_le od_le de_int (de_callB cd_len rfl E.b_len boot_len (da_cons (de_name 1 (pv 1)) da_nil)) (de_gint E.c_MOST_WEIGHTS rfl) rfl)) (dss_one (ds_ret de_bl)) dss_nil)
  (dss_cons (ds_if (dt_not (dt_tru tru_D (de_callB (cd_all rfl) rfl E.b_all boot_all (da_cons (de_lc (own := [("one", 4)]) rfl sc_is_score_rule.nd (di_seq (de_name 1 (pv 1))) (blkOk_by (by kernel_rfl)) (fun _ _ _ _ _ => (dv_n 4 sc_is_score_rule.nd)) (fun _ _ _ _ _ => dts_nil) (fun _ _ _ _ _ => (de_and tru_D (de_fn c_is_integer hr gd rfl takes0 (da_cons (de_name 4 (pv 4)) da_nil)) (de_one (de_chain od_le od_le de_int (de_name 4 (pv 4)) (de_gint E.c_MOST_WEIGHT rfl) rfl))))) da_nil)))) (dss_one (ds_ret de_bl)) dss_nil)
  (dss_cons (ds_if (DW.dt (dw_or (dt_not (dt_tru tru_D (de_fn c_is_integer hr gd rfl (takes_of rfl rfl rfl rfl) (da_cons (de_name 2 (pv 2)) da_nil)))) (dw_or1 (dt_not (dt_tru tru_D (de_fn c_is_integer hr gd rfl (takes_of rfl rfl rfl rfl) (da_cons (de_name 3 (pv 3)) da_nil))))))) (dss_one (ds_ret de_bl)) dss_nil)
  (dss_one (ds_ret (de_and tru_D (de_cmp od_le (de_neg (de_gint E.c_WIDEST rfl)) (de_name 2 (pv 2)) rfl) (de_and tru_D (de_cmp od_le (de_name 3 (pv 3)) (de_gint E.c_WIDEST rfl) rfl) (de_one (de_cmp od_ge (de_bin od_sub (de_name 3 (pv 3)) (de_name 2 (pv 2))) (de_gint E.c_LEAST_GAP rfl) rfl)))))))))))
theorem ok_is_score_rule (E : Ge K mg) : Callee P w K mg base C 2 "is_score_rule" ["value"] t_is_score_rule := by
  obtain ⟨f, fd, gf, F⟩ := E.d_is_score_rule
  exact ⟨f, fd, gf, fn_is_score_rule E F, F.kp, F.bindsN fun _ _ _ _ _ _ us hl => match us, hl with | [_], _ => rfl⟩
theorem fn_check_rule (E : Ge K mg) {f : Addr} {fd : FuncData} (F : FunD K "check_rule" "check_rule" (defArgs s_check_rule) (defBody s_check_rule) (defScope s_check_rule) [] [] f fd) : FnG P w K mg base 3 f fd ["rule"] (spF ⟨P, w, K, mg, C⟩ t_check_rule) := by
  have c_is_score_rule := ok_is_score_rule (P := P) (w := w) (base := base) (C := C) E
  refine fn_D F sc_check_rule rfl rfl fun cdv A outer s H Ex hr gd => ?_
  have hu := hr.units
  have hu2 : (A.deeper (envOfC "check_rule" (defScope s_check_rule) s.heap.objs.size f cdv)).units + 200 < cLine := by have := hr.un; omega
  exact (dss_one (ds_if (dt_not (dt_tru tru_D (de_fn c_is_score_rule hr gd rfl (takes_of rfl rfl rfl rfl) (da_cons (de_name 0 (pv 0)) da_nil)))) (dss_one (ds_raiseX E.x_NotRight rfl (takes_of rfl rfl rfl rfl) rfl)) dss_nil))
theorem ok_check_rule (E : Ge K mg) : Callee P w K mg base C 3 "check_rule" ["rule"] t_check_rule := by
  obtain ⟨f, fd, gf, F⟩ := E.d_check_rule
  exact ⟨f, fd, gf, fn_check_rule E F, F.kp, F.bindsN fun _ _ _ _ _ _ us hl => match us, hl with | [_], _ => rfl⟩
theorem fn_sign (E : Ge K mg) {f : Addr} {fd : FuncData} (F : FunD K "sign" "sign" (defArgs s_sign) (defBody s_sign) (defScope s_sign) [] [] f fd) : FnG P w K mg base 1 f fd ["number"] (spF ⟨P, w, K, mg, C⟩ t_sign) := by
  refine fn_D F sc_sign rfl rfl fun cdv A outer s H Ex hr gd => ?_
  have hu := hr.units
  have hu2 : (A.deeper (envOfC "sign" (defScope s_sign) s.heap.objs.size f cdv)).units + 200 < cLine := by have := hr.un; omega
  exact (dss_one (ds_ret (de_bin od_sub (de_callTy cd_int rfl E.b_int boot_int (da_cons (de_cmp od_gt (de_name 0 (pv 0)) de_int rfl) da_nil)) (de_callTy cd_int rfl E.b_int boot_int (da_cons (de_cmp od_lt (de_name 0 (pv 0)) de_int rfl) da_nil)))))
theorem ok_sign (E : Ge K mg) : Callee P w K mg base C 1 "sign" ["number"] t_sign := by
  obtain ⟨f, fd, gf, F⟩ := E.d_sign
  exact ⟨f, fd, gf, fn_sign E F, F.kp, F.bindsN fun _ _ _ _ _ _ us hl => match us, hl with | [_], _ => rfl⟩
theorem fn_check_rules (E : Ge K mg) {f : Addr} {fd : FuncData} (F : FunD K "check_rules" "check_rules" (defArgs s_check_rules) (defBody s_check_rules) (defScope s_check_rules) [] [] f fd) : FnG P w K mg base 4 f fd ["rule", "other", "count"] (spF ⟨P, w, K, mg, C⟩ t_check_rules) := by
  have c_check_rule := ok_check_rule (P := P) (w := w) (base := base) (C := C) E
  refine fn_D F sc_check_rules rfl rfl fun cdv A outer s H Ex hr gd => ?_
  have hu := hr.units
  have hu2 : (A.deeper (envOfC "check_rules" (defScope s_check_rules) s.heap.objs.size f cdv)).units + 200 < cLine := by have := hr.un; omega
  exact (dss_cons (ds_expr (de_fn c_check_rule hr gd rfl (takes_of rfl rfl rfl rfl) (da_cons (de_name 0 (pv 0)) da_nil)))
  (dss_cons (ds_expr (de_fn c_check_rule hr gd rfl (takes_of rfl rfl rfl rfl) (da_cons (de_name 1 (pv 1)) da_nil)))
  (dss_cons (ds_if (DW.dt (dw_or (dt_cmp (od_ne hu) (de_sl (de_name 0 (pv 0)) (do_so de_int) do_no) (de_sl (de_name 1 (pv 1)) (do_so de_int) do_no) rfl) (dw_or1 (dt_cmp (od_ne hu) (de_callB cd_len rfl E.b_len boot_len (da_cons (de_ix (de_name 0 (pv 0)) de_int (fun _ _ => rfl)) da_nil)) (de_callB cd_len rfl E.b_len boot_len (da_cons (de_ix (de_name 1 (pv 1)) de_int (fun _ _ => rfl)) da_nil)) rfl)))) (dss_one (ds_raiseX E.x_NotRight rfl (takes_of rfl rfl rfl rfl) rfl)) dss_nil)
  (dss_one (ds_if (dt_not (dt_chain od_le od_le de_int (de_name 2 (pv 2)) (de_gint E.c_MOST_JURORS rfl) rfl)) (dss_one (ds_raiseX E.x_NotThere rfl (takes_of rfl rfl rfl rfl) rfl)) dss_nil)))))
theorem ok_check_rules (E : Ge K mg) : Callee P w K mg base C 4 "check_rules" ["rule", "other", "count"] t_check_rules := by
  obtain ⟨f, fd, gf, F⟩ := E.d_check_rules
  exact ⟨f, fd, gf, fn_check_rules E F, F.kp, F.bindsN fun _ _ _ _ _ _ us hl => match us, hl with | [_, _, _], _ => rfl⟩
theorem fn_all_gaps (E : Ge K mg) {f : Addr} {fd : FuncData} (F : FunD K "all_gaps" "all_gaps" (defArgs s_all_gaps) (defBody s_all_gaps) (defScope s_all_gaps) [] [] f fd) : FnG P w K mg base 1 f fd ["widest", "size"] (spF ⟨P, w, K, mg, C⟩ t_all_gaps) := by
  refine fn_D F sc_all_gaps rfl rfl fun cdv A outer s H Ex hr gd => ?_
  have hu := hr.units
  have hu2 : (A.deeper (envOfC "all_gaps" (defScope s_all_gaps) s.heap.objs.size f cdv)).units + 200 < cLine := by have := hr.un; omega
  exact (dss_cons (ds_setN 2 sc_all_gaps.nd (de_lst (da_cons (de_tup da_nil) da_nil)))
  (dss_cons (ds_for (passes_of rfl) rfl (di_rng1 rfl E.b_range (da_cons (de_name 1 (pv 1)) da_nil) rfl aOne_one) (dg_n 3 sc_all_gaps.nd)
  (dss_one (ds_setLc2 (i := 2) (own := [("gap", 4), ("number", 5)]) (vs1 := [5]) rfl sc_all_gaps.nd rfl rfl (sw_true rfl rfl rfl (by decide +kernel)) (di_seq (de_name 2 (pv 2))) (blkOk_by (by kernel_rfl)) (by decide) (fun _ _ _ _ _ => (dv_n 4 sc_all_gaps.nd)) (fun _ _ _ _ _ => dts_nil) (fun _ _ _ _ _ => (di_rng2 rfl E.b_range (da_cons (de_neg (de_name 0 (pv 0))) (da_cons (de_bin od_add (de_name 0 (pv 0)) de_int) da_nil)) rfl rfl aTwo_two)) (fun _ _ _ _ _ => (dv_n 5 sc_all_gaps.nd)) (fun _ _ _ _ _ => dts_nil) (fun _ _ _ _ _ => (de_tup (da_star (de_name 4 (pv 4)) (da_cons (de_name 5 (pv 5)) da_nil)))))))
  (dss_one (ds_ret (de_name 2 (pv 2))))))
theorem ok_all_gaps (E : Ge K mg) : Callee P w K mg base C 1 "all_gaps" ["widest", "size"] t_all_gaps := by
  obtain ⟨f, fd, gf, F⟩ := E.d_all_gaps
  exact ⟨f, fd, gf, fn_all_gaps E F, F.kp, F.bindsN fun _ _ _ _ _ _ us hl => match us, hl with | [_, _], _ => rfl⟩
theorem fn_least_gap (E : Ge K mg) {f : Addr} {fd : FuncData} (F : FunD K "least_gap" "least_gap" (defArgs s_least_gap) (defBody s_least_gap) (defScope s_least_gap) [] [] f fd) : FnG P w K mg base 2 f fd ["rule", "other", "count"] (spF ⟨P, w, K, mg, C⟩ t_least_gap) := by
  have c_all_gaps := ok_all_gaps (P := P) (w := w) (base := base) (C := C) E
  have c_sign := ok_sign (P := P) (w := w) (base := base) (C := C) E
  refine fn_D F sc_least_gap rfl rfl fun cdv A outer s H Ex hr gd => ?_
  have hu := hr.units
  have hu2 : (A.deeper (envOfC "least_gap" (defScope s_least_gap) s.heap.objs.size f cdv)).units + 200 < cLine := by have := hr.un; omega
  exact (dss_cons (ds_setN 3 sc_least_gap.nd (de_bin od_mul (de_name 2 (pv 2)) (de_bin od_sub (de_ix (de_name 0 (pv 0)) de_int (fun _ _ => rfl)) (de_ix (de_name 0 (pv 0)) de_int (fun _ _ => rfl)))))
  (dss_cons (ds_setN 4 sc_least_gap.nd de_int)
  (dss_cons (ds_for (passes_of rfl) rfl (di_seq (de_ix (de_name 0 (pv 0)) de_int (fun _ _ => rfl))) (dg_n 5 sc_least_gap.nd)
  (dss_one (ds_augN 4 sc_least_gap.nd oi_mul (de_bin od_add (de_bin od_mul de_int (de_name 3 (pv 3))) de_int))))
  (dss_cons (ds_if (dt_cmp od_gt (de_name 4 (pv 4)) (de_gint E.c_MOST_GAPS rfl) rfl) (dss_one (ds_raiseX E.x_TooLarge rfl (takes_of rfl rfl rfl rfl) rfl)) dss_nil)
  (dss_cons (ds_for (passes_of rfl) rfl (di_seq (de_fn c_all_gaps hr gd rfl (takes_of rfl rfl rfl rfl) (da_cons (de_name 3 (pv 3)) (da_cons (de_callB cd_len rfl E.b_len boot_len (da_cons (de_ix (de_name 0 (pv 0)) de_int (fun _ _ => rfl)) da_nil)) da_nil)))) (dg_n 6 sc_least_gap.nd)
  (dss_cons (ds_setN 7 sc_least_gap.nd (de_callB (cd_sum rfl) rfl E.b_sum boot_sum (da_cons (de_lc (own := [("weight", 8), ("number", 4)]) rfl sc_least_gap.nd (di_zip rfl E.b_zip (da_cons (de_ix (de_name 0 (pv 0)) de_int (fun _ _ => rfl)) (da_cons (de_name 6 (pv 6)) da_nil))) (blkOk_by (by kernel_rfl)) (fun _ _ _ _ _ => (dv_tup rfl (dvs_cons (dv_n 8 sc_least_gap.nd) (dvs_cons (dv_n 4 sc_least_gap.nd) dvs_nil)))) (fun _ _ _ _ _ => dts_nil) (fun _ _ _ _ _ => (de_bin od_mul (de_name 8 (pv 8)) (de_name 4 (pv 4))))) da_nil)))
  (dss_cons (ds_setN 9 sc_least_gap.nd (de_callB (cd_sum rfl) rfl E.b_sum boot_sum (da_cons (de_lc (own := [("weight", 8), ("number", 4)]) rfl sc_least_gap.nd (di_zip rfl E.b_zip (da_cons (de_ix (de_name 1 (pv 1)) de_int (fun _ _ => rfl)) (da_cons (de_name 6 (pv 6)) da_nil))) (blkOk_by (by kernel_rfl)) (fun _ _ _ _ _ => (dv_tup rfl (dvs_cons (dv_n 8 sc_least_gap.nd) (dvs_cons (dv_n 4 sc_least_gap.nd) dvs_nil)))) (fun _ _ _ _ _ => dts_nil) (fun _ _ _ _ _ => (de_bin od_mul (de_name 8 (pv 8)) (de_name 4 (pv 4))))) da_nil)))
  (dss_one (ds_if (dt_cmp (od_ne hu) (de_fn c_sign hr gd rfl (takes_of rfl rfl rfl rfl) (da_cons (de_name 7 (pv 7)) da_nil)) (de_fn c_sign hr gd rfl (takes_of rfl rfl rfl rfl) (da_cons (de_name 9 (pv 9)) da_nil)) rfl) (dss_one (ds_ret (de_name 6 (pv 6)))) dss_nil)))))
  (dss_one (ds_ret de_non)))))))
theorem ok_least_gap (E : Ge K mg) : Callee P w K mg base C 2 "least_gap" ["rule", "other", "count"] t_least_gap := by
  obtain ⟨f, fd, gf, F⟩ := E.d_least_gap
  exact ⟨f, fd, gf, fn_least_gap E F, F.kp, F.bindsN fun _ _ _ _ _ _ us hl => match us, hl with | [_, _, _], _ => rfl⟩
theorem fn_ranks_alike (E : Ge K mg) {f : Addr} {fd : FuncData} (F : FunD K "ranks_alike" "ranks_alike" (defArgs s_ranks_alike) (defBody s_ranks_alike) (defScope s_ranks_alike) [] [] f fd) : FnG P w K mg base 5 f fd ["rule", "other", "count"] (spF ⟨P, w, K, mg, C⟩ t_ranks_alike) := by
  have c_check_rules := ok_check_rules (P := P) (w := w) (base := base) (C := C) E
  have c_least_gap := ok_least_gap (P := P) (w := w) (base := base) (C := C) E
  refine fn_D F sc_ranks_alike rfl rfl fun cdv A outer s H Ex hr gd => ?_
  have hu := hr.units
  have hu2 : (A.deeper (envOfC "ranks_alike" (defScope s_ranks_alike) s.heap.objs.size f cdv)).units + 200 < cLine := by have := hr.un; omega
  exact (dss_cons (ds_expr (de_fn c_check_rules hr gd rfl (takes_of rfl rfl rfl rfl) (da_cons (de_name 0 (pv 0)) (da_cons (de_name 1 (pv 1)) (da_cons (de_name 2 (pv 2)) da_nil)))))
  (dss_one (ds_ret (de_fn c_least_gap hr gd rfl (takes_of rfl rfl rfl rfl) (da_cons (de_name 0 (pv 0)) (da_cons (de_name 1 (pv 1)) (da_cons (de_name 2 (pv 2)) da_nil)))))))
theorem ok_ranks_alike (E : Ge K mg) : Callee P w K mg base C 5 "ranks_alike" ["rule", "other", "count"] t_ranks_alike := by
  obtain ⟨f, fd, gf, F⟩ := E.d_ranks_alike
  exact ⟨f, fd, gf, fn_ranks_alike E F, F.kp, F.bindsN fun _ _ _ _ _ _ us hl => match us, hl with | [_, _, _], _ => rfl⟩
theorem fn_law_draws (E : Ge K mg) {f : Addr} {fd : FuncData} (F : FunD K "_law_draws" "_law_draws" (defArgs s_law_draws) (defBody s_law_draws) (defScope s_law_draws) [] [] f fd) : FnG P w K mg base 1 f fd ["script"] (spF ⟨P, w, K, mg, C⟩ t_law_draws) := by
  refine fn_D F sc_law_draws rfl rfl fun cdv A outer s H Ex hr gd => ?_
  have hu := hr.units
  have hu2 : (A.deeper (envOfC "_law_draws" (defScope s_law_draws) s.heap.objs.size f cdv)).units + 200 < cLine := by have := hr.un; omega
  exact (dss_cons (ds_setN 1 sc_law_draws.nd (de_lst da_nil))
  (dss_cons (ds_for (passes_of rfl) rfl (di_seq (de_name 0 (pv 0))) (dg_n 2 sc_law_draws.nd)
  (dss_cons (ds_setN 3 sc_law_draws.nd (de_callB cd_abs rfl E.b_abs boot_abs (da_cons (de_name 2 (pv 2)) da_nil)))
  (dss_cons (ds_if (dt_cmp od_lt (de_name 3 (pv 3)) (de_bin od_pow de_int de_int) rfl) (dss_cons (ds_setN 4 sc_law_draws.nd (de_bin od_mod (de_callTy cd_int rfl E.b_int boot_int (da_cons (de_bin od_add (de_bin od_mul (de_name 3 (pv 3)) de_int) de_int) da_nil)) de_int))
  (dss_cons (ds_expr (de_mut PySem.F.plainAttrs_list PySem.F.slot_list_append PySem.F.type_list_append (MtM.mtR mt_append) mt_ok_append (pv 1) (da_cons (de_bin od_mod (de_callTy cd_int rfl E.b_int boot_int (da_cons (de_bin od_add (de_bin od_mul (de_name 4 (pv 4)) de_int) (de_name 3 (pv 3))) da_nil)) de_int) da_nil)))
  (dss_cons (ds_expr (de_mut PySem.F.plainAttrs_list PySem.F.slot_list_append PySem.F.type_list_append (MtM.mtR mt_append) mt_ok_append (pv 1) (da_cons (de_bin od_mod (de_callTy cd_int rfl E.b_int boot_int (da_cons (de_bin od_add (de_name 4 (pv 4)) (de_bin od_fdiv (de_name 3 (pv 3)) de_int)) da_nil)) de_int) da_nil)))
  (dss_one (ds_setN 3 sc_law_draws.nd de_int))))) dss_nil)
  (dss_one (ds_for (passes_of rfl) rfl (di_rng1 rfl E.b_range (da_cons de_int da_nil) rfl aOne_one) (dg_n 5 sc_law_draws.nd)
  (dss_one (ds_if (dt_cmp od_gt (de_name 3 (pv 3)) de_int rfl) (dss_cons (ds_expr (de_mut PySem.F.plainAttrs_list PySem.F.slot_list_append PySem.F.type_list_append (MtM.mtR mt_append) mt_ok_append (pv 1) (da_cons (de_bin od_mod (de_callTy cd_int rfl E.b_int boot_int (da_cons (de_name 3 (pv 3)) da_nil)) de_int) da_nil)))
  (dss_one (ds_setN 3 sc_law_draws.nd (de_bin od_fdiv (de_name 3 (pv 3)) de_int)))) dss_nil)))))))
  (dss_cons (ds_setN 6 sc_law_draws.nd de_int)
  (dss_cons (ds_if (dt_cmp od_gt (de_callB cd_len rfl E.b_len boot_len (da_cons (de_name 0 (pv 0)) da_nil)) de_int rfl) (dss_one (ds_setN 6 sc_law_draws.nd (de_bin od_add de_int (de_callB cd_abs rfl E.b_abs boot_abs (da_cons (de_ix (de_name 0 (pv 0)) de_int (fun _ _ => rfl)) da_nil))))) dss_nil)
  (dss_cons (ds_for (passes_of rfl) rfl (di_rng1 rfl E.b_range (da_cons de_int da_nil) rfl aOne_one) (dg_n 5 sc_law_draws.nd)
  (dss_cons (ds_setN 6 sc_law_draws.nd (de_bin od_mod (de_callTy cd_int rfl E.b_int boot_int (da_cons (de_bin od_add (de_bin od_mul (de_name 6 (pv 6)) de_int) de_int) da_nil)) de_int))
  (dss_one (ds_expr (de_mut PySem.F.plainAttrs_list PySem.F.slot_list_append PySem.F.type_list_append (MtM.mtR mt_append) mt_ok_append (pv 1) (da_cons (de_bin od_fdiv (de_name 6 (pv 6)) de_int) da_nil))))))
  (dss_one (ds_ret (de_listRev rfl rfl E.b_list rfl E.b_reversed (de_name 1 (pv 1))))))))))
theorem ok_law_draws (E : Ge K mg) : Callee P w K mg base C 1 "_law_draws" ["script"] t_law_draws := by
  obtain ⟨f, fd, gf, F⟩ := E.d_law_draws
  exact ⟨f, fd, gf, fn_law_draws E F, F.kp, F.bindsN fun _ _ _ _ _ _ us hl => match us, hl with | [_], _ => rfl⟩
theorem fn_law_take (E : Ge K mg) {f : Addr} {fd : FuncData} (F : FunD K "_law_take" "_law_take" (defArgs s_law_take) (defBody s_law_take) (defScope s_law_take) [] [] f fd) : FnG P w K mg base 1 f fd ["draws", "bound"] (spF ⟨P, w, K, mg, C⟩ t_law_take) := by
  refine fn_D F sc_law_take rfl rfl fun cdv A outer s H Ex hr gd => ?_
  have hu := hr.units
  have hu2 : (A.deeper (envOfC "_law_take" (defScope s_law_take) s.heap.objs.size f cdv)).units + 200 < cLine := by have := hr.un; omega
  exact (dss_cons (ds_if (dt_cmp (od_eq hu) (de_callB cd_len rfl E.b_len boot_len (da_cons (de_name 0 (pv 0)) da_nil)) de_int rfl) (dss_one (ds_ret de_int)) dss_nil)
  (dss_one (ds_ret (de_bin od_mod (de_callTy cd_int rfl E.b_int boot_int (da_cons (de_mut0 PySem.F.plainAttrs_list PySem.F.slot_list_pop PySem.F.type_list_pop (MtM.mtR mt_pop) mt_ok_pop (pv 0)) da_nil)) (de_name 1 (pv 1))))))
theorem ok_law_take (E : Ge K mg) : Callee P w K mg base C 1 "_law_take" ["draws", "bound"] t_law_take := by
  obtain ⟨f, fd, gf, F⟩ := E.d_law_take
  exact ⟨f, fd, gf, fn_law_take E F, F.kp, F.bindsN fun _ _ _ _ _ _ us hl => match us, hl with | [_, _], _ => rfl⟩
theorem fn_law_gaps (E : Ge K mg) {f : Addr} {fd : FuncData} (F : FunD K "_law_gaps" "_law_gaps" (defArgs s_law_gaps) (defBody s_law_gaps) (defScope s_law_gaps) [] [] f fd) : FnG P w K mg base 1 f fd ["widest", "count"] (spF ⟨P, w, K, mg, C⟩ t_law_gaps) := by
  refine fn_D F sc_law_gaps rfl rfl fun cdv A outer s H Ex hr gd => ?_
  have hu := hr.units
  have hu2 : (A.deeper (envOfC "_law_gaps" (defScope s_law_gaps) s.heap.objs.size f cdv)).units + 200 < cLine := by have := hr.un; omega
  exact (dss_cons (ds_setN 2 sc_law_gaps.nd (de_lst (da_cons (de_tup da_nil) da_nil)))
  (dss_cons (ds_for (passes_of rfl) rfl (di_rng1 rfl E.b_range (da_cons (de_name 1 (pv 1)) da_nil) rfl aOne_one) (dg_n 3 sc_law_gaps.nd)
  (dss_cons (ds_setN 4 sc_law_gaps.nd (de_lst da_nil))
  (dss_cons (ds_for (passes_of rfl) rfl (di_seq (de_name 2 (pv 2))) (dg_n 5 sc_law_gaps.nd)
  (dss_one (ds_setN 4 sc_law_gaps.nd (de_bin od_add (de_name 4 (pv 4)) (de_lc (own := [("number", 6)]) rfl sc_law_gaps.nd (di_rng2 rfl E.b_range (da_cons (de_neg (de_name 0 (pv 0))) (da_cons (de_bin od_add (de_name 0 (pv 0)) de_int) da_nil)) rfl rfl aTwo_two) (blkOk_by (by kernel_rfl)) (fun _ _ _ _ _ => (dv_n 6 sc_law_gaps.nd)) (fun _ _ _ _ _ => dts_nil) (fun _ _ _ _ _ => (de_bin od_add (de_name 5 (pv 5)) (de_tup (da_cons (de_name 6 (pv 6)) da_nil)))))))))
  (dss_one (ds_setN 2 sc_law_gaps.nd (de_name 4 (pv 4)))))))
  (dss_one (ds_ret (de_name 2 (pv 2))))))
theorem ok_law_gaps (E : Ge K mg) : Callee P w K mg base C 1 "_law_gaps" ["widest", "count"] t_law_gaps := by
  obtain ⟨f, fd, gf, F⟩ := E.d_law_gaps
  exact ⟨f, fd, gf, fn_law_gaps E F, F.kp, F.bindsN fun _ _ _ _ _ _ us hl => match us, hl with | [_, _], _ => rfl⟩
theorem fn_law_sign (E : Ge K mg) {f : Addr} {fd : FuncData} (F : FunD K "_law_sign" "_law_sign" (defArgs s_law_sign) (defBody s_law_sign) (defScope s_law_sign) [] [] f fd) : FnG P w K mg base 1 f fd ["weights", "gap"] (spF ⟨P, w, K, mg, C⟩ t_law_sign) := by
  refine fn_D F sc_law_sign rfl rfl fun cdv A outer s H Ex hr gd => ?_
  have hu := hr.units
  have hu2 : (A.deeper (envOfC "_law_sign" (defScope s_law_sign) s.heap.objs.size f cdv)).units + 200 < cLine := by have := hr.un; omega
  exact (dss_cons (ds_setN 2 sc_law_sign.nd (de_callB (cd_sum rfl) rfl E.b_sum boot_sum (da_cons (de_lc (own := [("k", 3)]) rfl sc_law_sign.nd (di_rng1 rfl E.b_range (da_cons (de_callB cd_len rfl E.b_len boot_len (da_cons (de_name 1 (pv 1)) da_nil)) da_nil) rfl aOne_one) (blkOk_by (by kernel_rfl)) (fun _ _ _ _ _ => (dv_n 3 sc_law_sign.nd)) (fun _ _ _ _ _ => dts_nil) (fun _ _ _ _ _ => (de_bin od_mul (de_ix (de_name 0 (pv 0)) (de_name 3 (pv 3)) (fun _ _ => rfl)) (de_ix (de_name 1 (pv 1)) (de_name 3 (pv 3)) (fun _ _ => rfl))))) da_nil)))
  (dss_one (ds_ret (de_bin od_sub (de_callTy cd_int rfl E.b_int boot_int (da_cons (de_cmp od_gt (de_name 2 (pv 2)) de_int rfl) da_nil)) (de_callTy cd_int rfl E.b_int boot_int (da_cons (de_cmp od_lt (de_name 2 (pv 2)) de_int rfl) da_nil))))))
theorem ok_law_sign (E : Ge K mg) : Callee P w K mg base C 1 "_law_sign" ["weights", "gap"] t_law_sign := by
  obtain ⟨f, fd, gf, F⟩ := E.d_law_sign
  exact ⟨f, fd, gf, fn_law_sign E F, F.kp, F.bindsN fun _ _ _ _ _ _ us hl => match us, hl with | [_, _], _ => rfl⟩
theorem fn_law_due (E : Ge K mg) {f : Addr} {fd : FuncData} (F : FunD K "_law_due" "_law_due" (defArgs s_law_due) (defBody s_law_due) (defScope s_law_due) [] [] f fd) : FnG P w K mg base 2 f fd ["rule", "other", "count"] (spF ⟨P, w, K, mg, C⟩ t_law_due) := by
  have c_law_gaps := ok_law_gaps (P := P) (w := w) (base := base) (C := C) E
  have c_law_sign := ok_law_sign (P := P) (w := w) (base := base) (C := C) E
  refine fn_D F sc_law_due rfl rfl fun cdv A outer s H Ex hr gd => ?_
  have hu := hr.units
  have hu2 : (A.deeper (envOfC "_law_due" (defScope s_law_due) s.heap.objs.size f cdv)).units + 200 < cLine := by have := hr.un; omega
  exact (dss_cons (ds_for (passes_of rfl) rfl (di_seq (de_fn c_law_gaps hr gd rfl (takes_of rfl rfl rfl rfl) (da_cons (de_bin od_mul (de_name 2 (pv 2)) (de_bin od_sub (de_ix (de_name 0 (pv 0)) de_int (fun _ _ => rfl)) (de_ix (de_name 0 (pv 0)) de_int (fun _ _ => rfl)))) (da_cons (de_callB cd_len rfl E.b_len boot_len (da_cons (de_ix (de_name 0 (pv 0)) de_int (fun _ _ => rfl)) da_nil)) da_nil)))) (dg_n 3 sc_law_due.nd)
  (dss_one (ds_if (dt_cmp (od_ne hu) (de_fn c_law_sign hr gd rfl (takes_of rfl rfl rfl rfl) (da_cons (de_ix (de_name 0 (pv 0)) de_int (fun _ _ => rfl)) (da_cons (de_name 3 (pv 3)) da_nil))) (de_fn c_law_sign hr gd rfl (takes_of rfl rfl rfl rfl) (da_cons (de_ix (de_name 1 (pv 1)) de_int (fun _ _ => rfl)) (da_cons (de_name 3 (pv 3)) da_nil))) rfl) (dss_one (ds_ret (de_name 3 (pv 3)))) dss_nil)))
  (dss_one (ds_ret de_non)))
theorem ok_law_due (E : Ge K mg) : Callee P w K mg base C 2 "_law_due" ["rule", "other", "count"] t_law_due := by
  obtain ⟨f, fd, gf, F⟩ := E.d_law_due
  exact ⟨f, fd, gf, fn_law_due E F, F.kp, F.bindsN fun _ _ _ _ _ _ us hl => match us, hl with | [_, _, _], _ => rfl⟩
theorem fn_law_told (E : Ge K mg) {f : Addr} {fd : FuncData} (F : FunD K "_law_told" "_law_told" (defArgs s_law_told) (defBody s_law_told) (defScope s_law_told) [] [] f fd) : FnG P w K mg base 6 f fd ["rule", "other", "count"] (spF ⟨P, w, K, mg, C⟩ t_law_told) := by
  have c_ranks_alike := ok_ranks_alike (P := P) (w := w) (base := base) (C := C) E
  refine fn_D F sc_law_told rfl rfl fun cdv A outer s H Ex hr gd => ?_
  have hu := hr.units
  have hu2 : (A.deeper (envOfC "_law_told" (defScope s_law_told) s.heap.objs.size f cdv)).units + 200 < cLine := by have := hr.un; omega
  exact (dss_one (ds_try rfl rfl (takes_of rfl rfl rfl rfl) (fun W pn xe tk po => (dss_one (ds_ret (de_fn c_ranks_alike hr gd rfl tk (da_cons (de_name 0 (pv 0)) (da_cons (de_name 1 (pv 1)) (da_cons (de_name 2 (pv 2)) da_nil)))))))
  (dhs_c E.h_NotRight rfl (fun _ _ _ => (dss_one (ds_ret de_str)))
  (dhs_c E.h_NotThere rfl (fun _ _ _ => (dss_one (ds_ret de_str)))
  (dhs_c E.h_TooLarge rfl (fun _ _ _ => (dss_one (ds_ret de_str)))
  (dhs_c E.h_LaurelError rfl (fun _ _ _ => (dss_one (ds_ret de_str)))
  dhs_nil))))))
theorem ok_law_told (E : Ge K mg) : Callee P w K mg base C 6 "_law_told" ["rule", "other", "count"] t_law_told := by
  obtain ⟨f, fd, gf, F⟩ := E.d_law_told
  exact ⟨f, fd, gf, fn_law_told E F, F.kp, F.bindsN fun _ _ _ _ _ _ us hl => match us, hl with | [_, _, _], _ => rfl⟩
theorem fn_law (E : Ge K mg) {f : Addr} {fd : FuncData} (F : FunD K "law" "law" (defArgs s_law) (defBody s_law) (defScope s_law) [] [] f fd) : FnG P w K mg base 7 f fd ["script"] (spF ⟨P, w, K, mg, C⟩ t_law) := by
  have c_law_draws := ok_law_draws (P := P) (w := w) (base := base) (C := C) E
  have c_law_due := ok_law_due (P := P) (w := w) (base := base) (C := C) E
  have c_law_take := ok_law_take (P := P) (w := w) (base := base) (C := C) E
  have c_law_told := ok_law_told (P := P) (w := w) (base := base) (C := C) E
  refine fn_D F sc_law rfl rfl fun cdv A outer s H Ex hr gd => ?_
  have hu := hr.units
  have hu2 : (A.deeper (envOfC "law" (defScope s_law) s.heap.objs.size f cdv)).units + 200 < cLine := by have := hr.un; omega
  exact (dss_cons (ds_setN 1 sc_law.nd (de_fn c_law_draws hr gd rfl (takes_of rfl rfl rfl rfl) (da_cons (de_name 0 (pv 0)) da_nil)))
  (dss_cons (ds_for (passes_of rfl) rfl (di_rng1 rfl E.b_range (da_cons de_int da_nil) rfl aOne_one) (dg_n 2 sc_law.nd)
  (dss_cons (ds_setN 3 sc_law.nd (de_bin od_add de_int (de_fnL c_law_take hr gd rfl (takes_of rfl rfl rfl rfl) (da_cons (de_name 1 (pv 1)) (da_cons de_int da_nil)))))
  (dss_cons (ds_setN 4 sc_law.nd (de_bin od_sub (de_fnL c_law_take hr gd rfl (takes_of rfl rfl rfl rfl) (da_cons (de_name 1 (pv 1)) (da_cons de_int da_nil))) de_int))
  (dss_cons (ds_setN 5 sc_law.nd (de_bin od_add (de_bin od_add (de_name 4 (pv 4)) de_int) (de_fnL c_law_take hr gd rfl (takes_of rfl rfl rfl rfl) (da_cons (de_name 1 (pv 1)) (da_cons de_int da_nil)))))
  (dss_cons (ds_setN 6 sc_law.nd (de_bin od_add de_int (de_fnL c_law_take hr gd rfl (takes_of rfl rfl rfl rfl) (da_cons (de_name 1 (pv 1)) (da_cons (de_ix (de_lst (da_cons de_int (da_cons de_int (da_cons de_int da_nil)))) (de_bin od_sub (de_name 3 (pv 3)) de_int) (fun _ _ => rfl)) da_nil)))))
  (dss_cons (ds_setN 7 sc_law.nd (de_tup (da_cons (de_callTy cd_tuple rfl E.b_tuple boot_tuple (da_cons (de_lc (own := [("k", 8)]) rfl sc_law.nd (di_rng1 rfl E.b_range (da_cons (de_name 3 (pv 3)) da_nil) rfl aOne_one) (blkOk_by (by kernel_rfl)) (fun _ _ _ _ _ => (dv_n 8 sc_law.nd)) (fun _ _ _ _ _ => dts_nil) (fun _ _ _ _ _ => (de_bin od_add de_int (de_fnL c_law_take hr gd rfl takes0 (da_cons (de_name 1 (pv 1)) (da_cons de_int da_nil)))))) da_nil)) (da_cons (de_name 4 (pv 4)) (da_cons (de_name 5 (pv 5)) da_nil)))))
  (dss_cons (ds_setN 9 sc_law.nd (de_tup (da_cons (de_callTy cd_tuple rfl E.b_tuple boot_tuple (da_cons (de_lc (own := [("k", 8)]) rfl sc_law.nd (di_rng1 rfl E.b_range (da_cons (de_name 3 (pv 3)) da_nil) rfl aOne_one) (blkOk_by (by kernel_rfl)) (fun _ _ _ _ _ => (dv_n 8 sc_law.nd)) (fun _ _ _ _ _ => dts_nil) (fun _ _ _ _ _ => (de_bin od_add de_int (de_fnL c_law_take hr gd rfl takes0 (da_cons (de_name 1 (pv 1)) (da_cons de_int da_nil)))))) da_nil)) (da_cons (de_name 4 (pv 4)) (da_cons (de_name 5 (pv 5)) da_nil)))))
  (dss_cons (ds_if (dt_cmp (od_eq hu) (de_fnL c_law_take hr gd rfl (takes_of rfl rfl rfl rfl) (da_cons (de_name 1 (pv 1)) (da_cons de_int da_nil))) de_int rfl) (dss_cons (ds_setN 10 sc_law.nd (de_bin od_add de_int (de_fnL c_law_take hr gd rfl (takes_of rfl rfl rfl rfl) (da_cons (de_name 1 (pv 1)) (da_cons de_int da_nil)))))
  (dss_cons (ds_setN 9 sc_law.nd (de_tup (da_cons (de_callTy cd_tuple rfl E.b_tuple boot_tuple (da_cons (de_lc (own := [("weight", 11)]) rfl sc_law.nd (di_seq (de_ix (de_name 7 (pv 7)) de_int (fun _ _ => rfl))) (blkOk_by (by kernel_rfl)) (fun _ _ _ _ _ => (dv_n 11 sc_law.nd)) (fun _ _ _ _ _ => dts_nil) (fun _ _ _ _ _ => (de_bin od_mul (de_name 10 (pv 10)) (de_name 11 (pv 11))))) da_nil)) (da_cons (de_name 4 (pv 4)) (da_cons (de_name 5 (pv 5)) da_nil)))))
  (dss_one (ds_if (dt_cmp od_isN (de_fn c_law_told hr gd rfl (takes_of rfl rfl rfl rfl) (da_cons (de_name 7 (pv 7)) (da_cons (de_name 9 (pv 9)) (da_cons (de_name 6 (pv 6)) da_nil)))) de_non rfl) (dss_one (ds_ret de_bl)) dss_nil)))) dss_nil)
  (dss_cons (ds_setN 12 sc_law.nd (de_fn c_law_due hr gd rfl (takes_of rfl rfl rfl rfl) (da_cons (de_name 7 (pv 7)) (da_cons (de_name 9 (pv 9)) (da_cons (de_name 6 (pv 6)) da_nil)))))
  (dss_cons (ds_if (dt_cmp (od_ne hu) (de_callB (cd_repr gd hu2) rfl E.b_repr boot_repr (da_cons (de_fn c_law_told hr gd rfl (takes_of rfl rfl rfl rfl) (da_cons (de_name 7 (pv 7)) (da_cons (de_name 9 (pv 9)) (da_cons (de_name 6 (pv 6)) da_nil)))) da_nil)) (de_callB (cd_repr gd hu2) rfl E.b_repr boot_repr (da_cons (de_name 12 (pv 12)) da_nil)) rfl) (dss_one (ds_ret de_bl)) dss_nil)
  (dss_cons (ds_if (DW.dt (dw_and (dt_cmp od_is (de_name 12 (pv 12)) de_non rfl) (dw_and (dt_cmp od_gt (de_name 6 (pv 6)) de_int rfl) (dw_and1 (dt_cmp od_isN (de_fn c_law_told hr gd rfl (takes_of rfl rfl rfl rfl) (da_cons (de_name 7 (pv 7)) (da_cons (de_name 9 (pv 9)) (da_cons (de_bin od_sub (de_name 6 (pv 6)) de_int) da_nil)))) de_non rfl))))) (dss_one (ds_ret de_bl)) dss_nil)
  (dss_cons (ds_setN 13 sc_law.nd (de_lst (da_cons (de_tup (da_cons (de_bin od_mul (de_tup (da_cons de_int da_nil)) (de_name 3 (pv 3))) (da_cons (de_name 4 (pv 4)) (da_cons (de_bin od_add (de_name 5 (pv 5)) de_int) da_nil)))) (da_cons (de_tup (da_cons (de_bin od_mul (de_tup (da_cons de_int da_nil)) (de_name 3 (pv 3))) (da_cons (de_bin od_sub (de_name 4 (pv 4)) de_int) (da_cons (de_name 5 (pv 5)) da_nil)))) (da_cons (de_tup (da_cons (de_bin od_mul (de_tup (da_cons de_int da_nil)) (de_bin od_add (de_name 3 (pv 3)) de_int)) (da_cons (de_name 4 (pv 4)) (da_cons (de_name 5 (pv 5)) da_nil)))) (da_cons (de_tup (da_cons (de_bin od_mul (de_tup (da_cons de_int da_nil)) (de_name 3 (pv 3))) (da_cons (de_name 4 (pv 4)) (da_cons (de_name 5 (pv 5)) da_nil)))) (da_cons de_non da_nil)))))))
  (dss_one (ds_if (DW.dt (dw_or (dt_cmp (od_ne hu) (de_lc (own := [("one", 14)]) rfl sc_law.nd (di_seq (de_name 13 (pv 13))) (blkOk_by (by kernel_rfl)) (fun _ _ _ _ _ => (dv_n 14 sc_law.nd)) (fun _ _ _ _ _ => dts_nil) (fun _ _ _ _ _ => (de_fn c_law_told hr gd rfl takes0 (da_cons (de_name 7 (pv 7)) (da_cons (de_name 14 (pv 14)) (da_cons de_int da_nil)))))) (de_bin od_mul (de_lst (da_cons de_str da_nil)) de_int) rfl) (dw_or1 (dt_cmp (od_ne hu) (de_lc (own := [("bad", 15)]) rfl sc_law.nd (di_seq (de_lst (da_cons de_int (da_cons de_int (da_cons (de_neg de_int) da_nil))))) (blkOk_by (by kernel_rfl)) (fun _ _ _ _ _ => (dv_n 15 sc_law.nd)) (fun _ _ _ _ _ => dts_nil) (fun _ _ _ _ _ => (de_fn c_law_told hr gd rfl takes0 (da_cons (de_name 7 (pv 7)) (da_cons (de_name 9 (pv 9)) (da_cons (de_name 15 (pv 15)) da_nil)))))) (de_bin od_mul (de_lst (da_cons de_str da_nil)) de_int) rfl)))) (dss_one (ds_ret de_bl)) dss_nil))))))))))))))
  (dss_cons (ds_asg (de_tup (da_cons (de_tup (da_cons (de_tup (da_cons de_int (da_cons de_int (da_cons de_int da_nil)))) (da_cons (de_neg de_int) (da_cons de_int da_nil)))) (da_cons (de_tup (da_cons (de_tup (da_cons de_int (da_cons de_int (da_cons de_int da_nil)))) (da_cons (de_neg de_int) (da_cons de_int da_nil)))) da_nil))) (dg_tup rfl (dgs_cons (dg_n 16 sc_law.nd) (dgs_cons (dg_n 17 sc_law.nd) dgs_nil))))
  (dss_cons (ds_if (DW.dt (dw_or (dt_cmp od_isN (de_fn c_law_told hr gd rfl (takes_of rfl rfl rfl rfl) (da_cons (de_name 16 (pv 16)) (da_cons (de_tup (da_cons (de_tup (da_cons de_int (da_cons de_int (da_cons de_int da_nil)))) (da_cons (de_neg de_int) (da_cons de_int da_nil)))) (da_cons de_int da_nil)))) de_non rfl) (dw_or1 (dt_cmp (od_ne hu) (de_fn c_law_told hr gd rfl (takes_of rfl rfl rfl rfl) (da_cons (de_name 17 (pv 17)) (da_cons (de_name 17 (pv 17)) (da_cons de_int da_nil)))) de_str rfl)))) (dss_one (ds_ret de_bl)) dss_nil)
  (dss_one (ds_ret (de_and tru_D (de_cmp od_is (de_fn c_law_told hr gd rfl (takes_of rfl rfl rfl rfl) (da_cons (de_tup (da_cons (de_tup (da_cons de_int (da_cons de_int (da_cons de_int da_nil)))) (da_cons de_int (da_cons de_int da_nil)))) (da_cons (de_tup (da_cons (de_tup (da_cons de_int (da_cons de_int (da_cons de_int da_nil)))) (da_cons de_int (da_cons de_int da_nil)))) (da_cons de_int da_nil)))) de_non rfl) (de_one (de_cmp (od_eq hu) (de_fn c_law_told hr gd rfl (takes_of rfl rfl rfl rfl) (da_cons (de_tup (da_cons (de_tup (da_cons de_int (da_cons de_int (da_cons de_int da_nil)))) (da_cons de_int (da_cons de_int da_nil)))) (da_cons (de_tup (da_cons (de_tup (da_cons de_int (da_cons de_int (da_cons de_int da_nil)))) (da_cons de_int (da_cons de_int da_nil)))) (da_cons de_int da_nil)))) de_str rfl)))))))))
theorem ok_law (E : Ge K mg) : Callee P w K mg base C 7 "law" ["script"] t_law := by
  obtain ⟨f, fd, gf, F⟩ := E.d_law
  exact ⟨f, fd, gf, fn_law E F, F.kp, F.bindsN fun _ _ _ _ _ _ us hl => match us, hl with | [_], _ => rfl⟩
end
/-! ### the head -/
def dd_is_integer : He.DefD := ⟨("is_integer", none), "is_integer", "is_integer", defArgs s_is_integer, defBody s_is_integer, defScope s_is_integer, [], []⟩
def dd_is_score_rule : He.DefD := ⟨("is_score_rule", none), "is_score_rule", "is_score_rule", defArgs s_is_score_rule, defBody s_is_score_rule, defScope s_is_score_rule, [], []⟩
def dd_check_rule : He.DefD := ⟨("check_rule", none), "check_rule", "check_rule", defArgs s_check_rule, defBody s_check_rule, defScope s_check_rule, [], []⟩
def dd_sign : He.DefD := ⟨("sign", none), "sign", "sign", defArgs s_sign, defBody s_sign, defScope s_sign, [], []⟩
def dd_check_rules : He.DefD := ⟨("check_rules", none), "check_rules", "check_rules", defArgs s_check_rules, defBody s_check_rules, defScope s_check_rules, [], []⟩
def dd_all_gaps : He.DefD := ⟨("all_gaps", none), "all_gaps", "all_gaps", defArgs s_all_gaps, defBody s_all_gaps, defScope s_all_gaps, [], []⟩
def dd_least_gap : He.DefD := ⟨("least_gap", none), "least_gap", "least_gap", defArgs s_least_gap, defBody s_least_gap, defScope s_least_gap, [], []⟩
def dd_ranks_alike : He.DefD := ⟨("ranks_alike", none), "ranks_alike", "ranks_alike", defArgs s_ranks_alike, defBody s_ranks_alike, defScope s_ranks_alike, [], []⟩
def dd_law_draws : He.DefD := ⟨("_law_draws", none), "_law_draws", "_law_draws", defArgs s_law_draws, defBody s_law_draws, defScope s_law_draws, [], []⟩
def dd_law_take : He.DefD := ⟨("_law_take", none), "_law_take", "_law_take", defArgs s_law_take, defBody s_law_take, defScope s_law_take, [], []⟩
def dd_law_gaps : He.DefD := ⟨("_law_gaps", none), "_law_gaps", "_law_gaps", defArgs s_law_gaps, defBody s_law_gaps, defScope s_law_gaps, [], []⟩
def dd_law_sign : He.DefD := ⟨("_law_sign", none), "_law_sign", "_law_sign", defArgs s_law_sign, defBody s_law_sign, defScope s_law_sign, [], []⟩
def dd_law_due : He.DefD := ⟨("_law_due", none), "_law_due", "_law_due", defArgs s_law_due, defBody s_law_due, defScope s_law_due, [], []⟩
def dd_law_told : He.DefD := ⟨("_law_told", none), "_law_told", "_law_told", defArgs s_law_told, defBody s_law_told, defScope s_law_told, [], []⟩
def dd_law : He.DefD := ⟨("law", none), "law", "law", defArgs s_law, defBody s_law, defScope s_law, [], []⟩
def fn : List He.DefD := [dd_is_integer, dd_is_score_rule, dd_check_rule, dd_sign, dd_check_rules, dd_all_gaps, dd_least_gap, dd_ranks_alike, dd_law_draws, dd_law_take, dd_law_gaps, dd_law_sign, dd_law_due, dd_law_told, dd_law]
def fa0 : List He.Fa := [.glo "is_integer", .glo "is_score_rule", .glo "check_rule", .glo "sign", .glo "check_rules", .glo "all_gaps", .glo "least_gap", .glo "ranks_alike", .glo "_law_draws", .glo "_law_take", .glo "_law_gaps", .glo "_law_sign", .glo "_law_due", .glo "_law_told", .glo "law", .glo "LaurelError", .exc "LaurelError", .glo "NotRight", .exc "NotRight", .glo "NotThere", .exc "NotThere", .glo "TooLarge", .exc "TooLarge", .free "abs", .free "all", .free "bool", .free "int", .free "isinstance", .free "len", .free "list", .free "range", .free "repr", .free "reversed", .free "sum", .free "tuple", .free "zip", .int "LEAST_GAP" 2, .int "MOST_GAPS" 20000, .int "MOST_JURORS" 6, .int "MOST_WEIGHT" 20, .int "MOST_WEIGHTS" 4, .int "WIDEST" 10]
def fa : List He.Fa := fa0 ++ emT.map fun p => .exm p.1 p.2.1 p.2.2
abbrev R : PySem.W.OpenRow := PySem.W.OpenLaw.row PySem.Challenge.rw_laurelhall_k40_gaps_that_rules_rank
abbrev hk : PySem.W.Hook := He.hookD 4 fa fn
def ob (s : PySem.W.SharedT) : He.AlD := He.obsDG 4 fa fn (HandSHeadRun.getT s)
theorem ob_eq (s : PySem.W.SharedT) : ob s = hk.obs s.abs := He.obsDG_eq (HandSHeadRun.getT_eq s)
def loose0 : List Str := ["LaurelError", "NotRight", "NotThere", "TooLarge", "is_integer", "MOST_WEIGHTS", "MOST_WEIGHT", "WIDEST", "LEAST_GAP", "is_score_rule", "check_rule", "MOST_JURORS", "MOST_GAPS", "sign", "check_rules", "all_gaps", "least_gap", "ranks_alike", "_law_draws", "_law_take", "_law_gaps", "_law_sign", "_law_due", "_law_told"]
def loose : List Str := loose0
theorem run (w : World) : HandSHeadRun.RunEq R (PySem.W.view R.prog [28]) hk ob 6000 loose w := by
  intro os
  kernel_rfl
theorem ge_of {K : PySem.W.Frag} {h : Heap} {mg : Str → Option Value} (X : K.In h) (G : h.Ns mainGlobals mg) (c : He.SaysD fa fn K) : Ge K mg where
  b_abs := He.free_ok X G (c.fact 23 rfl)
  b_all := He.free_ok X G (c.fact 24 rfl)
  b_bool := He.free_ok X G (c.fact 25 rfl)
  b_int := He.free_ok X G (c.fact 26 rfl)
  b_isinstance := He.free_ok X G (c.fact 27 rfl)
  b_len := He.free_ok X G (c.fact 28 rfl)
  b_list := He.free_ok X G (c.fact 29 rfl)
  b_range := He.free_ok X G (c.fact 30 rfl)
  b_repr := He.free_ok X G (c.fact 31 rfl)
  b_reversed := He.free_ok X G (c.fact 32 rfl)
  b_sum := He.free_ok X G (c.fact 33 rfl)
  b_tuple := He.free_ok X G (c.fact 34 rfl)
  b_zip := He.free_ok X G (c.fact 35 rfl)
  c_LEAST_GAP := He.int_ok X G (c.fact 36 rfl)
  c_MOST_GAPS := He.int_ok X G (c.fact 37 rfl)
  c_MOST_JURORS := He.int_ok X G (c.fact 38 rfl)
  c_MOST_WEIGHT := He.int_ok X G (c.fact 39 rfl)
  c_MOST_WEIGHTS := He.int_ok X G (c.fact 40 rfl)
  c_WIDEST := He.int_ok X G (c.fact 41 rfl)
  x_LaurelError := ⟨_, He.glo_ok X G (c.fact 15 rfl), He.exc_ok (c.fact 16 rfl)⟩
  x_NotRight := ⟨_, He.glo_ok X G (c.fact 17 rfl), He.exc_ok (c.fact 18 rfl)⟩
  x_NotThere := ⟨_, He.glo_ok X G (c.fact 19 rfl), He.exc_ok (c.fact 20 rfl)⟩
  x_TooLarge := ⟨_, He.glo_ok X G (c.fact 21 rfl), He.exc_ok (c.fact 22 rfl)⟩
  h_LaurelError := hd_of (He.glo_ok X G (c.fact 15 rfl)) fun p hp => by
    have ex := He.exm_ok (x := p.1) (y := p.2.1) (b := p.2.2) (fact_of c (List.mem_append_right _ (List.mem_map_of_mem hp)))
    refine ⟨?_, ex⟩
    unfold emT at hp
    simp only [List.mem_cons, List.not_mem_nil, or_false] at hp
    rcases hp with rfl | rfl | rfl | rfl | rfl | rfl | rfl | rfl | rfl | rfl | rfl | rfl | rfl | rfl | rfl | rfl
    · exact He.glo_ok X G (c.fact 15 rfl)
    · exact He.glo_ok X G (c.fact 15 rfl)
    · exact He.glo_ok X G (c.fact 15 rfl)
    · exact He.glo_ok X G (c.fact 15 rfl)
    · exact He.glo_ok X G (c.fact 17 rfl)
    · exact He.glo_ok X G (c.fact 17 rfl)
    · exact He.glo_ok X G (c.fact 17 rfl)
    · exact He.glo_ok X G (c.fact 17 rfl)
    · exact He.glo_ok X G (c.fact 19 rfl)
    · exact He.glo_ok X G (c.fact 19 rfl)
    · exact He.glo_ok X G (c.fact 19 rfl)
    · exact He.glo_ok X G (c.fact 19 rfl)
    · exact He.glo_ok X G (c.fact 21 rfl)
    · exact He.glo_ok X G (c.fact 21 rfl)
    · exact He.glo_ok X G (c.fact 21 rfl)
    · exact He.glo_ok X G (c.fact 21 rfl)
  h_NotRight := hd_of (He.glo_ok X G (c.fact 17 rfl)) fun p hp => by
    have ex := He.exm_ok (x := p.1) (y := p.2.1) (b := p.2.2) (fact_of c (List.mem_append_right _ (List.mem_map_of_mem hp)))
    refine ⟨?_, ex⟩
    unfold emT at hp
    simp only [List.mem_cons, List.not_mem_nil, or_false] at hp
    rcases hp with rfl | rfl | rfl | rfl | rfl | rfl | rfl | rfl | rfl | rfl | rfl | rfl | rfl | rfl | rfl | rfl
    · exact He.glo_ok X G (c.fact 15 rfl)
    · exact He.glo_ok X G (c.fact 15 rfl)
    · exact He.glo_ok X G (c.fact 15 rfl)
    · exact He.glo_ok X G (c.fact 15 rfl)
    · exact He.glo_ok X G (c.fact 17 rfl)
    · exact He.glo_ok X G (c.fact 17 rfl)
    · exact He.glo_ok X G (c.fact 17 rfl)
    · exact He.glo_ok X G (c.fact 17 rfl)
    · exact He.glo_ok X G (c.fact 19 rfl)
    · exact He.glo_ok X G (c.fact 19 rfl)
    · exact He.glo_ok X G (c.fact 19 rfl)
    · exact He.glo_ok X G (c.fact 19 rfl)
    · exact He.glo_ok X G (c.fact 21 rfl)
    · exact He.glo_ok X G (c.fact 21 rfl)
    · exact He.glo_ok X G (c.fact 21 rfl)
    · exact He.glo_ok X G (c.fact 21 rfl)
  h_NotThere := hd_of (He.glo_ok X G (c.fact 19 rfl)) fun p hp => by
    have ex := He.exm_ok (x := p.1) (y := p.2.1) (b := p.2.2) (fact_of c (List.mem_append_right _ (List.mem_map_of_mem hp)))
    refine ⟨?_, ex⟩
    unfold emT at hp
    simp only [List.mem_cons, List.not_mem_nil, or_false] at hp
    rcases hp with rfl | rfl | rfl | rfl | rfl | rfl | rfl | rfl | rfl | rfl | rfl | rfl | rfl | rfl | rfl | rfl
    · exact He.glo_ok X G (c.fact 15 rfl)
    · exact He.glo_ok X G (c.fact 15 rfl)
    · exact He.glo_ok X G (c.fact 15 rfl)
    · exact He.glo_ok X G (c.fact 15 rfl)
    · exact He.glo_ok X G (c.fact 17 rfl)
    · exact He.glo_ok X G (c.fact 17 rfl)
    · exact He.glo_ok X G (c.fact 17 rfl)
    · exact He.glo_ok X G (c.fact 17 rfl)
    · exact He.glo_ok X G (c.fact 19 rfl)
    · exact He.glo_ok X G (c.fact 19 rfl)
    · exact He.glo_ok X G (c.fact 19 rfl)
    · exact He.glo_ok X G (c.fact 19 rfl)
    · exact He.glo_ok X G (c.fact 21 rfl)
    · exact He.glo_ok X G (c.fact 21 rfl)
    · exact He.glo_ok X G (c.fact 21 rfl)
    · exact He.glo_ok X G (c.fact 21 rfl)
  h_TooLarge := hd_of (He.glo_ok X G (c.fact 21 rfl)) fun p hp => by
    have ex := He.exm_ok (x := p.1) (y := p.2.1) (b := p.2.2) (fact_of c (List.mem_append_right _ (List.mem_map_of_mem hp)))
    refine ⟨?_, ex⟩
    unfold emT at hp
    simp only [List.mem_cons, List.not_mem_nil, or_false] at hp
    rcases hp with rfl | rfl | rfl | rfl | rfl | rfl | rfl | rfl | rfl | rfl | rfl | rfl | rfl | rfl | rfl | rfl
    · exact He.glo_ok X G (c.fact 15 rfl)
    · exact He.glo_ok X G (c.fact 15 rfl)
    · exact He.glo_ok X G (c.fact 15 rfl)
    · exact He.glo_ok X G (c.fact 15 rfl)
    · exact He.glo_ok X G (c.fact 17 rfl)
    · exact He.glo_ok X G (c.fact 17 rfl)
    · exact He.glo_ok X G (c.fact 17 rfl)
    · exact He.glo_ok X G (c.fact 17 rfl)
    · exact He.glo_ok X G (c.fact 19 rfl)
    · exact He.glo_ok X G (c.fact 19 rfl)
    · exact He.glo_ok X G (c.fact 19 rfl)
    · exact He.glo_ok X G (c.fact 19 rfl)
    · exact He.glo_ok X G (c.fact 21 rfl)
    · exact He.glo_ok X G (c.fact 21 rfl)
    · exact He.glo_ok X G (c.fact 21 rfl)
    · exact He.glo_ok X G (c.fact 21 rfl)
  d_is_integer := let ⟨fd, F⟩ := c.def_ 0 (d := dd_is_integer) rfl; ⟨_, fd, He.glo_ok X G (c.fact 0 rfl), F⟩
  d_is_score_rule := let ⟨fd, F⟩ := c.def_ 1 (d := dd_is_score_rule) rfl; ⟨_, fd, He.glo_ok X G (c.fact 1 rfl), F⟩
  d_check_rule := let ⟨fd, F⟩ := c.def_ 2 (d := dd_check_rule) rfl; ⟨_, fd, He.glo_ok X G (c.fact 2 rfl), F⟩
  d_sign := let ⟨fd, F⟩ := c.def_ 3 (d := dd_sign) rfl; ⟨_, fd, He.glo_ok X G (c.fact 3 rfl), F⟩
  d_check_rules := let ⟨fd, F⟩ := c.def_ 4 (d := dd_check_rules) rfl; ⟨_, fd, He.glo_ok X G (c.fact 4 rfl), F⟩
  d_all_gaps := let ⟨fd, F⟩ := c.def_ 5 (d := dd_all_gaps) rfl; ⟨_, fd, He.glo_ok X G (c.fact 5 rfl), F⟩
  d_least_gap := let ⟨fd, F⟩ := c.def_ 6 (d := dd_least_gap) rfl; ⟨_, fd, He.glo_ok X G (c.fact 6 rfl), F⟩
  d_ranks_alike := let ⟨fd, F⟩ := c.def_ 7 (d := dd_ranks_alike) rfl; ⟨_, fd, He.glo_ok X G (c.fact 7 rfl), F⟩
  d_law_draws := let ⟨fd, F⟩ := c.def_ 8 (d := dd_law_draws) rfl; ⟨_, fd, He.glo_ok X G (c.fact 8 rfl), F⟩
  d_law_take := let ⟨fd, F⟩ := c.def_ 9 (d := dd_law_take) rfl; ⟨_, fd, He.glo_ok X G (c.fact 9 rfl), F⟩
  d_law_gaps := let ⟨fd, F⟩ := c.def_ 10 (d := dd_law_gaps) rfl; ⟨_, fd, He.glo_ok X G (c.fact 10 rfl), F⟩
  d_law_sign := let ⟨fd, F⟩ := c.def_ 11 (d := dd_law_sign) rfl; ⟨_, fd, He.glo_ok X G (c.fact 11 rfl), F⟩
  d_law_due := let ⟨fd, F⟩ := c.def_ 12 (d := dd_law_due) rfl; ⟨_, fd, He.glo_ok X G (c.fact 12 rfl), F⟩
  d_law_told := let ⟨fd, F⟩ := c.def_ 13 (d := dd_law_told) rfl; ⟨_, fd, He.glo_ok X G (c.fact 13 rfl), F⟩
  d_law := let ⟨fd, F⟩ := c.def_ 14 (d := dd_law) rfl; ⟨_, fd, He.glo_ok X G (c.fact 14 rfl), F⟩
end K40
namespace K40
open PySem PySem.Spec PyProof.Rows L2 LD
def sgn (n : Int) : Int := (if 0 < n then 1 else 0) - (if n < 0 then 1 else 0)
theorem t_sign_eq (n : Int) : t_sign [.sh (.int n)] = .ret (.sh (.int (sgn n))) [.sh (.int n)] := by
  simp [t_sign, b_sign, b_sign_1, semF, fin, fRet, retSl, backA, eName, eC, eBin, eUn, on2, on1, ans, peek, frz, frzs, peeks, onL, eB, aNil, aCons, aStar, Rv.hold, Ou.bind_ok, Ou.bind_ex, Ou.bind_bad, outOf_ok, outOf_ex, outOf_bad, stor, ofO, sSet, sDrop, sRet, sRetN, sIf, sNx, sSeq, sRaise, eTup, eLst, eSl, oNo, oSo, eChain_if, tOf, asB, tNotT, tAndT, tOrT, eAndV, eOrV, eNotV, tTru, asT, truth, eIf, gN, gT, gConsD, gNilD, sAsg, sAug, dAdd, dMul, dIx, fI, fIc, fB, rvB, dNeg, dLt, dLe, dIs, dIsN, dLen, dAbs, dInt, dTuple, dList, dIsi, tyName, isSubT, dEq, dNe, okEq, plainD, plainDs, dep, deps, eqD, eqDs, atI_0, atI_1, atI_2, ite_bindO, ite_outOf, dSl, asI, eCall, fAns, rvOf, Sl.with, sgn]
theorem t_is_integer_int (n : Int) : t_is_integer [.sh (.int n)] = .ret (.sh (.bl true)) [.sh (.int n)] := by
  simp [t_is_integer, b_is_integer, b_is_integer_1, semF, fin, fRet, retSl, backA, eName, eC, eBin, eUn, on2, on1, ans, peek, frz, frzs, peeks, onL, eB, aNil, aCons, aStar, Rv.hold, Ou.bind_ok, Ou.bind_ex, Ou.bind_bad, outOf_ok, outOf_ex, outOf_bad, stor, ofO, sSet, sDrop, sRet, sRetN, sIf, sNx, sSeq, sRaise, eTup, eLst, eSl, oNo, oSo, eChain_if, tOf, asB, tNotT, tAndT, tOrT, eAndV, eOrV, eNotV, tTru, asT, truth, eIf, gN, gT, gConsD, gNilD, sAsg, sAug, dAdd, dMul, dIx, fI, fIc, fB, rvB, dNeg, dLt, dLe, dIs, dIsN, dLen, dAbs, dInt, dTuple, dList, dIsi, tyName, isSubT, dEq, dNe, okEq, plainD, plainDs, dep, deps, eqD, eqDs, atI_0, atI_1, atI_2, ite_bindO, ite_outOf, dSl, asI, eCall, fAns, rvOf, Sl.with]
def zs (ws : List Int) : List D := ws.map .int
abbrev rl (ws : List Int) (l m : Int) : D := .tup [.tup (zs ws), .int l, .int m]
def okW (w : Int) : Bool := decide (1 ≤ w) && decide (w ≤ 20)
def okRule (ws : List Int) (l m : Int) : Bool := (decide (1 ≤ (ws.length : Int)) && decide ((ws.length : Int) ≤ 4)) && ws.all okW && (decide (-10 ≤ l) && (decide (m ≤ 10) && decide (2 ≤ m - l)))
theorem t_isr_non : t_is_score_rule [.sh .non] = .ret (.sh (.bl false)) [.sh .non] := by
  simp [t_is_score_rule, b_is_score_rule, b_is_score_rule_1, b_is_score_rule_1a1, semF, fin, fRet, retSl, backA, eName, eC, eBin, eUn, on2, on1, ans, peek, frz, frzs, peeks, onL, eB, aNil, aCons, aStar, Rv.hold, Ou.bind_ok, Ou.bind_ex, Ou.bind_bad, outOf_ok, outOf_ex, outOf_bad, stor, ofO, sSet, sDrop, sRet, sRetN, sIf, sNx, sSeq, sRaise, eTup, eLst, eSl, oNo, oSo, eChain_if, tOf, asB, tNotT, tAndT, tOrT, eAndV, eOrV, eNotV, tTru, asT, truth, eIf, gN, gT, gConsD, gNilD, sAsg, sAug, dAdd, dMul, dIx, fI, fIc, fB, rvB, dNeg, dLt, dLe, dIs, dIsN, dLen, dAbs, dInt, dTuple, dList, dIsi, tyName, isSubT, dEq, dNe, okEq, plainD, plainDs, dep, deps, eqD, eqDs, atI_0, atI_1, atI_2, ite_bindO, ite_outOf, dSl, asI, eCall, fAns, rvOf, Sl.with]
theorem asBls_map (f : Int → Bool) : ∀ ws : List Int, asBls (ws.map fun w => D.bl (f w)) = some (ws.map f)
  | [] => rfl
  | w :: ws => by simp [asBls, asBls_map f ws]
theorem zs_len (ws : List Int) : (zs ws).length = ws.length := List.length_map _
theorem t_isr (ws : List Int) (l m : Int) (hz : ws.length ≤ sizeLine) : t_is_score_rule [.sh (rl ws l m)] = .ret (.sh (.bl (okRule ws l m))) [.sh (rl ws l m)] := by
  have e4 : eLc [4] (iSeq itemsOf (eName 1)) (gN 4) tYesT (eAndV (eCall t_is_integer (aCons (eName 4) aNil)) (eChain qLe qLe (eC (.int 1)) (eName 4) (eC (.int 20)))) [.sh (rl ws l m), .sh (.tup (zs ws)), .sh (.int l), .sh (.int m), .un] =
      .ok (.ow (.lst (ws.map fun w => .bl (okW w)))) [.sh (rl ws l m), .sh (.tup (zs ws)), .sh (.int l), .sh (.int m), .un] := by
    rw [eLc_map (fun d => match d with | .int w => .bl (okW w) | _ => .non) (ds := zs ws) (S1 := [.sh (rl ws l m), .sh (.tup (zs ws)), .sh (.int l), .sh (.int m), .un]) (by simp [iSeq, itemsOf, semF, fin, fRet, retSl, backA, eName, eC, eBin, eUn, on2, on1, ans, peek, frz, frzs, peeks, onL, eB, aNil, aCons, aStar, Rv.hold, Ou.bind_ok, Ou.bind_ex, Ou.bind_bad, outOf_ok, outOf_ex, outOf_bad, stor, ofO, sSet, sDrop, sRet, sRetN, sIf, sNx, sSeq, sRaise, eTup, eLst, eSl, oNo, oSo, eChain_if, tOf, asB, tNotT, tAndT, tOrT, eAndV, eOrV, eNotV, tTru, asT, truth, eIf, gN, gT, gConsD, gNilD, sAsg, sAug, dAdd, dMul, dIx, fI, fIc, fB, rvB, dNeg, dLt, dLe, dIs, dIsN, dLen, dAbs, dInt, dTuple, dList, dIsi, tyName, isSubT, dEq, dNe, okEq, plainD, plainDs, dep, deps, eqD, eqDs, atI_0, atI_1, atI_2, ite_bindO, ite_outOf, dSl, asI, eCall, fAns, rvOf, Sl.with]) (by rfl) ?_ (by rw [zs_len]; exact hz) (by rfl)]
    · simp [zs, Function.comp_def]
    · intro d hd
      obtain ⟨w, _, rfl⟩ := List.mem_map.mp hd
      by_cases h : 1 ≤ w <;> simp [lcT, wipeS, tYesT, semF, fin, fRet, retSl, backA, eName, eC, eBin, eUn, on2, on1, ans, peek, frz, frzs, peeks, onL, eB, aNil, aCons, aStar, Rv.hold, Ou.bind_ok, Ou.bind_ex, Ou.bind_bad, outOf_ok, outOf_ex, outOf_bad, stor, ofO, sSet, sDrop, sRet, sRetN, sIf, sNx, sSeq, sRaise, eTup, eLst, eSl, oNo, oSo, eChain_if, tOf, asB, tNotT, tAndT, tOrT, eAndV, eOrV, eNotV, tTru, asT, truth, eIf, gN, gT, gConsD, gNilD, sAsg, sAug, dAdd, dMul, dIx, fI, fIc, fB, rvB, dNeg, dLt, dLe, dIs, dIsN, dLen, dAbs, dInt, dTuple, dList, dIsi, tyName, isSubT, dEq, dNe, okEq, plainD, plainDs, dep, deps, eqD, eqDs, atI_0, atI_1, atI_2, ite_bindO, ite_outOf, dSl, asI, eCall, fAns, rvOf, Sl.with, t_is_integer_int, okW, h]
  have s1 : b_is_score_rule_1 [.sh (rl ws l m), .un, .un, .un, .un] = .nx [.sh (rl ws l m), .un, .un, .un, .un] := by
    simp [b_is_score_rule_1, b_is_score_rule_1a1, semF, fin, fRet, retSl, backA, eName, eC, eBin, eUn, on2, on1, ans, peek, frz, frzs, peeks, onL, eB, aNil, aCons, aStar, Rv.hold, Ou.bind_ok, Ou.bind_ex, Ou.bind_bad, outOf_ok, outOf_ex, outOf_bad, stor, ofO, sSet, sDrop, sRet, sRetN, sIf, sNx, sSeq, sRaise, eTup, eLst, eSl, oNo, oSo, eChain_if, tOf, asB, tNotT, tAndT, tOrT, eAndV, eOrV, eNotV, tTru, asT, truth, eIf, gN, gT, gConsD, gNilD, sAsg, sAug, dAdd, dMul, dIx, fI, fIc, fB, rvB, dNeg, dLt, dLe, dIs, dIsN, dLen, dAbs, dInt, dTuple, dList, dIsi, tyName, isSubT, dEq, dNe, okEq, plainD, plainDs, dep, deps, eqD, eqDs, atI_0, atI_1, atI_2, ite_bindO, ite_outOf, dSl, asI, eCall, fAns, rvOf, Sl.with]
  have s2 : b_is_score_rule_2 [.sh (rl ws l m), .un, .un, .un, .un] = .nx [.sh (rl ws l m), .sh (.tup (zs ws)), .sh (.int l), .sh (.int m), .un] := by
    simp [b_is_score_rule_2, semF, fin, fRet, retSl, backA, eName, eC, eBin, eUn, on2, on1, ans, peek, frz, frzs, peeks, onL, eB, aNil, aCons, aStar, Rv.hold, Ou.bind_ok, Ou.bind_ex, Ou.bind_bad, outOf_ok, outOf_ex, outOf_bad, stor, ofO, sSet, sDrop, sRet, sRetN, sIf, sNx, sSeq, sRaise, eTup, eLst, eSl, oNo, oSo, eChain_if, tOf, asB, tNotT, tAndT, tOrT, eAndV, eOrV, eNotV, tTru, asT, truth, eIf, gN, gT, gConsD, gNilD, sAsg, sAug, dAdd, dMul, dIx, fI, fIc, fB, rvB, dNeg, dLt, dLe, dIs, dIsN, dLen, dAbs, dInt, dTuple, dList, dIsi, tyName, isSubT, dEq, dNe, okEq, plainD, plainDs, dep, deps, eqD, eqDs, atI_0, atI_1, atI_2, ite_bindO, ite_outOf, dSl, asI, eCall, fAns, rvOf, Sl.with]
  have s3 : b_is_score_rule_3 [.sh (rl ws l m), .sh (.tup (zs ws)), .sh (.int l), .sh (.int m), .un] = if (decide (1 ≤ (ws.length : Int)) && decide ((ws.length : Int) ≤ 4)) = true then .nx [.sh (rl ws l m), .sh (.tup (zs ws)), .sh (.int l), .sh (.int m), .un] else .rt (.sh (.bl false)) [.sh (rl ws l m), .sh (.tup (zs ws)), .sh (.int l), .sh (.int m), .un] := by
    by_cases h : 1 ≤ (ws.length : Int) <;> by_cases h2 : (ws.length : Int) ≤ 4 <;> simp [b_is_score_rule_3, b_is_score_rule_3a1, semF, fin, fRet, retSl, backA, eName, eC, eBin, eUn, on2, on1, ans, peek, frz, frzs, peeks, onL, eB, aNil, aCons, aStar, Rv.hold, Ou.bind_ok, Ou.bind_ex, Ou.bind_bad, outOf_ok, outOf_ex, outOf_bad, stor, ofO, sSet, sDrop, sRet, sRetN, sIf, sNx, sSeq, sRaise, eTup, eLst, eSl, oNo, oSo, eChain_if, tOf, asB, tNotT, tAndT, tOrT, eAndV, eOrV, eNotV, tTru, asT, truth, eIf, gN, gT, gConsD, gNilD, sAsg, sAug, dAdd, dMul, dIx, fI, fIc, fB, rvB, dNeg, dLt, dLe, dIs, dIsN, dLen, dAbs, dInt, dTuple, dList, dIsi, tyName, isSubT, dEq, dNe, okEq, plainD, plainDs, dep, deps, eqD, eqDs, atI_0, atI_1, atI_2, ite_bindO, ite_outOf, dSl, asI, eCall, fAns, rvOf, Sl.with, zs_len, h, h2]
  have s4 : b_is_score_rule_4 [.sh (rl ws l m), .sh (.tup (zs ws)), .sh (.int l), .sh (.int m), .un] = if ws.all okW = true then .nx [.sh (rl ws l m), .sh (.tup (zs ws)), .sh (.int l), .sh (.int m), .un] else .rt (.sh (.bl false)) [.sh (rl ws l m), .sh (.tup (zs ws)), .sh (.int l), .sh (.int m), .un] := by
    by_cases h : ws.all okW = true <;> simp [b_is_score_rule_4, b_is_score_rule_4a1, semF, fin, fRet, retSl, backA, eName, eC, eBin, eUn, on2, on1, ans, peek, frz, frzs, peeks, onL, eB, aNil, aCons, aStar, Rv.hold, Ou.bind_ok, Ou.bind_ex, Ou.bind_bad, outOf_ok, outOf_ex, outOf_bad, stor, ofO, sSet, sDrop, sRet, sRetN, sIf, sNx, sSeq, sRaise, eTup, eLst, eSl, oNo, oSo, eChain_if, tOf, asB, tNotT, tAndT, tOrT, eAndV, eOrV, eNotV, tTru, asT, truth, eIf, gN, gT, gConsD, gNilD, sAsg, sAug, dAdd, dMul, dIx, fI, fIc, fB, rvB, dNeg, dLt, dLe, dIs, dIsN, dLen, dAbs, dInt, dTuple, dList, dIsi, tyName, isSubT, dEq, dNe, okEq, plainD, plainDs, dep, deps, eqD, eqDs, atI_0, atI_1, atI_2, ite_bindO, ite_outOf, dSl, asI, eCall, fAns, rvOf, Sl.with, e4, dAll, asBls_map, h]
    all_goals trace_state
  have s5 : b_is_score_rule_5 [.sh (rl ws l m), .sh (.tup (zs ws)), .sh (.int l), .sh (.int m), .un] = .nx [.sh (rl ws l m), .sh (.tup (zs ws)), .sh (.int l), .sh (.int m), .un] := by
    simp [b_is_score_rule_5, b_is_score_rule_5a1, semF, fin, fRet, retSl, backA, eName, eC, eBin, eUn, on2, on1, ans, peek, frz, frzs, peeks, onL, eB, aNil, aCons, aStar, Rv.hold, Ou.bind_ok, Ou.bind_ex, Ou.bind_bad, outOf_ok, outOf_ex, outOf_bad, stor, ofO, sSet, sDrop, sRet, sRetN, sIf, sNx, sSeq, sRaise, eTup, eLst, eSl, oNo, oSo, eChain_if, tOf, asB, tNotT, tAndT, tOrT, eAndV, eOrV, eNotV, tTru, asT, truth, eIf, gN, gT, gConsD, gNilD, sAsg, sAug, dAdd, dMul, dIx, fI, fIc, fB, rvB, dNeg, dLt, dLe, dIs, dIsN, dLen, dAbs, dInt, dTuple, dList, dIsi, tyName, isSubT, dEq, dNe, okEq, plainD, plainDs, dep, deps, eqD, eqDs, atI_0, atI_1, atI_2, ite_bindO, ite_outOf, dSl, asI, eCall, fAns, rvOf, Sl.with, t_is_integer_int]
  have s6 : b_is_score_rule_6 [.sh (rl ws l m), .sh (.tup (zs ws)), .sh (.int l), .sh (.int m), .un] = .rt (.sh (.bl (decide (-10 ≤ l) && (decide (m ≤ 10) && decide (2 ≤ m - l))))) [.sh (rl ws l m), .sh (.tup (zs ws)), .sh (.int l), .sh (.int m), .un] := by
    by_cases h : -10 ≤ l <;> by_cases h2 : m ≤ 10 <;> simp [b_is_score_rule_6, semF, fin, fRet, retSl, backA, eName, eC, eBin, eUn, on2, on1, ans, peek, frz, frzs, peeks, onL, eB, aNil, aCons, aStar, Rv.hold, Ou.bind_ok, Ou.bind_ex, Ou.bind_bad, outOf_ok, outOf_ex, outOf_bad, stor, ofO, sSet, sDrop, sRet, sRetN, sIf, sNx, sSeq, sRaise, eTup, eLst, eSl, oNo, oSo, eChain_if, tOf, asB, tNotT, tAndT, tOrT, eAndV, eOrV, eNotV, tTru, asT, truth, eIf, gN, gT, gConsD, gNilD, sAsg, sAug, dAdd, dMul, dIx, fI, fIc, fB, rvB, dNeg, dLt, dLe, dIs, dIsN, dLen, dAbs, dInt, dTuple, dList, dIsi, tyName, isSubT, dEq, dNe, okEq, plainD, plainDs, dep, deps, eqD, eqDs, atI_0, atI_1, atI_2, ite_bindO, ite_outOf, dSl, asI, eCall, fAns, rvOf, Sl.with, h, h2]
  have hb : b_is_score_rule [.sh (rl ws l m), .un, .un, .un, .un] = .rt (.sh (.bl (okRule ws l m))) [.sh (rl ws l m), .sh (.tup (zs ws)), .sh (.int l), .sh (.int m), .un] := by
    unfold b_is_score_rule okRule
    simp only [sSeq, s1, s2, s3]
    cases hc : (decide (1 ≤ (ws.length : Int)) && decide ((ws.length : Int) ≤ 4)) with
    | false => simp
    | true =>
      simp only [if_true, s4]
      cases ha : ws.all okW with
      | false => simp
      | true => simp [s5, s6]
  simp [t_is_score_rule, semF, hb, fin, fRet, retSl, backA]
end K40
namespace K40
open PySem PySem.Spec PyProof.Rows L2 LD
abbrev Nr : Ex := ⟨"NotRight", []⟩
abbrev Nt : Ex := ⟨"NotThere", []⟩
abbrev Tl : Ex := ⟨"TooLarge", []⟩
theorem t_cr (ws : List Int) (l m : Int) (hz : ws.length ≤ sizeLine) : t_check_rule [.sh (rl ws l m)] = if okRule ws l m = true then .ret (.sh .non) [.sh (rl ws l m)] else .ex Nr [.sh (rl ws l m)] := by
  cases h : okRule ws l m <;> simp [t_check_rule, b_check_rule, b_check_rule_1, b_check_rule_1a1, semF, fin, fRet, retSl, backA, eName, eC, eBin, eUn, on2, on1, ans, peek, frz, frzs, peeks, onL, eB, aNil, aCons, aStar, Rv.hold, Ou.bind_ok, Ou.bind_ex, Ou.bind_bad, outOf_ok, outOf_ex, outOf_bad, stor, ofO, sSet, sDrop, sRet, sRetN, sIf, sNx, sSeq, sRaise, eTup, eLst, eSl, oNo, oSo, eChain_if, tOf, asB, tNotT, tAndT, tOrT, eAndV, eOrV, eNotV, tTru, asT, truth, eIf, gN, gT, gConsD, gNilD, sAsg, sAug, dAdd, dMul, dIx, fI, fIc, fB, rvB, dNeg, dLt, dLe, dIs, dIsN, dLen, dAbs, dInt, dTuple, dList, dIsi, tyName, isSubT, dEq, dNe, okEq, plainD, plainDs, dep, deps, eqD, eqDs, atI_0, atI_1, atI_2, ite_bindO, ite_outOf, dSl, asI, eCall, fAns, rvOf, Sl.with, t_isr ws l m hz, h]
theorem t_cr_non : t_check_rule [.sh .non] = .ex Nr [.sh .non] := by
  simp [t_check_rule, b_check_rule, b_check_rule_1, b_check_rule_1a1, semF, fin, fRet, retSl, backA, eName, eC, eBin, eUn, on2, on1, ans, peek, frz, frzs, peeks, onL, eB, aNil, aCons, aStar, Rv.hold, Ou.bind_ok, Ou.bind_ex, Ou.bind_bad, outOf_ok, outOf_ex, outOf_bad, stor, ofO, sSet, sDrop, sRet, sRetN, sIf, sNx, sSeq, sRaise, eTup, eLst, eSl, oNo, oSo, eChain_if, tOf, asB, tNotT, tAndT, tOrT, eAndV, eOrV, eNotV, tTru, asT, truth, eIf, gN, gT, gConsD, gNilD, sAsg, sAug, dAdd, dMul, dIx, fI, fIc, fB, rvB, dNeg, dLt, dLe, dIs, dIsN, dLen, dAbs, dInt, dTuple, dList, dIsi, tyName, isSubT, dEq, dNe, okEq, plainD, plainDs, dep, deps, eqD, eqDs, atI_0, atI_1, atI_2, ite_bindO, ite_outOf, dSl, asI, eCall, fAns, rvOf, Sl.with, t_isr_non]
theorem sl1 (a b c : D) : LD.cutL [a, b, c] (some 1) none = [b, c] := rfl
section
variable (ws vs : List Int) (l m l2 m2 c : Int) (hw : ws.length ≤ sizeLine) (hv : vs.length ≤ sizeLine) (ok : okRule ws l m = true)
include hw ok
theorem t_crs_non : t_check_rules [.sh (rl ws l m), .sh .non, .sh (.int c)] = .ex Nr [.sh (rl ws l m), .sh .non, .sh (.int c)] := by
  simp [t_check_rules, b_check_rules, b_check_rules_1, b_check_rules_2, semF, fin, fRet, retSl, backA, eName, eC, eBin, eUn, on2, on1, ans, peek, frz, frzs, peeks, onL, eB, aNil, aCons, aStar, Rv.hold, Ou.bind_ok, Ou.bind_ex, Ou.bind_bad, outOf_ok, outOf_ex, outOf_bad, stor, ofO, sSet, sDrop, sRet, sRetN, sIf, sNx, sSeq, sRaise, eTup, eLst, eSl, oNo, oSo, eChain_if, tOf, asB, tNotT, tAndT, tOrT, eAndV, eOrV, eNotV, tTru, asT, truth, eIf, gN, gT, gConsD, gNilD, sAsg, sAug, dAdd, dMul, dIx, fI, fIc, fB, rvB, dNeg, dLt, dLe, dIs, dIsN, dLen, dAbs, dInt, dTuple, dList, dIsi, tyName, isSubT, dEq, dNe, okEq, plainD, plainDs, dep, deps, eqD, eqDs, atI_0, atI_1, atI_2, ite_bindO, ite_outOf, dSl, asI, eCall, fAns, rvOf, Sl.with, t_cr ws l m hw, ok, t_cr_non]
include hv
def okBoth (ws vs : List Int) (l m l2 m2 : Int) : Bool := okRule vs l2 m2 && (decide (l = l2) && decide (m = m2)) && decide (ws.length = vs.length)
theorem t_crs : t_check_rules [.sh (rl ws l m), .sh (rl vs l2 m2), .sh (.int c)] =
    if okBoth ws vs l m l2 m2 = true then (if (decide (1 ≤ c) && decide (c ≤ 6)) = true then .ret (.sh .non) [.sh (rl ws l m), .sh (rl vs l2 m2), .sh (.int c)] else .ex Nt [.sh (rl ws l m), .sh (rl vs l2 m2), .sh (.int c)])
      else .ex Nr [.sh (rl ws l m), .sh (rl vs l2 m2), .sh (.int c)] := by
  have s3 : b_check_rules_3 [.sh (rl ws l m), .sh (rl vs l2 m2), .sh (.int c)] = if ((decide (l = l2) && decide (m = m2)) && decide (ws.length = vs.length)) = true then .nx [.sh (rl ws l m), .sh (rl vs l2 m2), .sh (.int c)] else .ex Nr [.sh (rl ws l m), .sh (rl vs l2 m2), .sh (.int c)] := by
    by_cases h1 : l = l2 <;> by_cases h2 : m = m2 <;> by_cases h3 : ws.length = vs.length <;> simp [b_check_rules_3, b_check_rules_3a1, semF, fin, fRet, retSl, backA, eName, eC, eBin, eUn, on2, on1, ans, peek, frz, frzs, peeks, onL, eB, aNil, aCons, aStar, Rv.hold, Ou.bind_ok, Ou.bind_ex, Ou.bind_bad, outOf_ok, outOf_ex, outOf_bad, stor, ofO, sSet, sDrop, sRet, sRetN, sIf, sNx, sSeq, sRaise, eTup, eLst, eSl, oNo, oSo, eChain_if, tOf, asB, tNotT, tAndT, tOrT, eAndV, eOrV, eNotV, tTru, asT, truth, eIf, gN, gT, gConsD, gNilD, sAsg, sAug, dAdd, dMul, dIx, fI, fIc, fB, rvB, dNeg, dLt, dLe, dIs, dIsN, dLen, dAbs, dInt, dTuple, dList, dIsi, tyName, isSubT, dEq, dNe, okEq, plainD, plainDs, dep, deps, eqD, eqDs, atI_0, atI_1, atI_2, ite_bindO, ite_outOf, dSl, asI, eCall, fAns, rvOf, Sl.with, sl1, zs_len, h1, h2, h3, Int.ofNat_inj]
  have s4 : b_check_rules_4 [.sh (rl ws l m), .sh (rl vs l2 m2), .sh (.int c)] = if (decide (1 ≤ c) && decide (c ≤ 6)) = true then .nx [.sh (rl ws l m), .sh (rl vs l2 m2), .sh (.int c)] else .ex Nt [.sh (rl ws l m), .sh (rl vs l2 m2), .sh (.int c)] := by
    by_cases h1 : 1 ≤ c <;> by_cases h2 : c ≤ 6 <;> simp [b_check_rules_4, b_check_rules_4a1, semF, fin, fRet, retSl, backA, eName, eC, eBin, eUn, on2, on1, ans, peek, frz, frzs, peeks, onL, eB, aNil, aCons, aStar, Rv.hold, Ou.bind_ok, Ou.bind_ex, Ou.bind_bad, outOf_ok, outOf_ex, outOf_bad, stor, ofO, sSet, sDrop, sRet, sRetN, sIf, sNx, sSeq, sRaise, eTup, eLst, eSl, oNo, oSo, eChain_if, tOf, asB, tNotT, tAndT, tOrT, eAndV, eOrV, eNotV, tTru, asT, truth, eIf, gN, gT, gConsD, gNilD, sAsg, sAug, dAdd, dMul, dIx, fI, fIc, fB, rvB, dNeg, dLt, dLe, dIs, dIsN, dLen, dAbs, dInt, dTuple, dList, dIsi, tyName, isSubT, dEq, dNe, okEq, plainD, plainDs, dep, deps, eqD, eqDs, atI_0, atI_1, atI_2, ite_bindO, ite_outOf, dSl, asI, eCall, fAns, rvOf, Sl.with, h1, h2]
  have s1 : b_check_rules_1 [.sh (rl ws l m), .sh (rl vs l2 m2), .sh (.int c)] = .nx [.sh (rl ws l m), .sh (rl vs l2 m2), .sh (.int c)] := by simp [b_check_rules_1, semF, fin, fRet, retSl, backA, eName, eC, eBin, eUn, on2, on1, ans, peek, frz, frzs, peeks, onL, eB, aNil, aCons, aStar, Rv.hold, Ou.bind_ok, Ou.bind_ex, Ou.bind_bad, outOf_ok, outOf_ex, outOf_bad, stor, ofO, sSet, sDrop, sRet, sRetN, sIf, sNx, sSeq, sRaise, eTup, eLst, eSl, oNo, oSo, eChain_if, tOf, asB, tNotT, tAndT, tOrT, eAndV, eOrV, eNotV, tTru, asT, truth, eIf, gN, gT, gConsD, gNilD, sAsg, sAug, dAdd, dMul, dIx, fI, fIc, fB, rvB, dNeg, dLt, dLe, dIs, dIsN, dLen, dAbs, dInt, dTuple, dList, dIsi, tyName, isSubT, dEq, dNe, okEq, plainD, plainDs, dep, deps, eqD, eqDs, atI_0, atI_1, atI_2, ite_bindO, ite_outOf, dSl, asI, eCall, fAns, rvOf, Sl.with, t_cr ws l m hw, ok]
  have s2 : b_check_rules_2 [.sh (rl ws l m), .sh (rl vs l2 m2), .sh (.int c)] = if okRule vs l2 m2 = true then .nx [.sh (rl ws l m), .sh (rl vs l2 m2), .sh (.int c)] else .ex Nr [.sh (rl ws l m), .sh (rl vs l2 m2), .sh (.int c)] := by
    cases h : okRule vs l2 m2 <;> simp [b_check_rules_2, semF, fin, fRet, retSl, backA, eName, eC, eBin, eUn, on2, on1, ans, peek, frz, frzs, peeks, onL, eB, aNil, aCons, aStar, Rv.hold, Ou.bind_ok, Ou.bind_ex, Ou.bind_bad, outOf_ok, outOf_ex, outOf_bad, stor, ofO, sSet, sDrop, sRet, sRetN, sIf, sNx, sSeq, sRaise, eTup, eLst, eSl, oNo, oSo, eChain_if, tOf, asB, tNotT, tAndT, tOrT, eAndV, eOrV, eNotV, tTru, asT, truth, eIf, gN, gT, gConsD, gNilD, sAsg, sAug, dAdd, dMul, dIx, fI, fIc, fB, rvB, dNeg, dLt, dLe, dIs, dIsN, dLen, dAbs, dInt, dTuple, dList, dIsi, tyName, isSubT, dEq, dNe, okEq, plainD, plainDs, dep, deps, eqD, eqDs, atI_0, atI_1, atI_2, ite_bindO, ite_outOf, dSl, asI, eCall, fAns, rvOf, Sl.with, t_cr vs l2 m2 hv, h]
  have hb : b_check_rules [.sh (rl ws l m), .sh (rl vs l2 m2), .sh (.int c)] = if okBoth ws vs l m l2 m2 = true then (if (decide (1 ≤ c) && decide (c ≤ 6)) = true then .nx [.sh (rl ws l m), .sh (rl vs l2 m2), .sh (.int c)] else .ex Nt [.sh (rl ws l m), .sh (rl vs l2 m2), .sh (.int c)]) else .ex Nr [.sh (rl ws l m), .sh (rl vs l2 m2), .sh (.int c)] := by
    unfold b_check_rules okBoth
    simp only [sSeq, s1, s2]
    cases h : okRule vs l2 m2 with
    | false => simp
    | true =>
      simp only [if_true, s3, Bool.true_and]
      cases h2 : ((decide (l = l2) && decide (m = m2)) && decide (ws.length = vs.length)) with
      | false => simp
      | true => simp [s4]
  simp only [t_check_rules, semF, List.length_cons, List.length_nil, Nat.reduceAdd, if_true, Nat.sub_self, List.replicate_zero, List.append_nil, hb]
  cases h : okBoth ws vs l m l2 m2 <;> cases h2 : (decide (1 ≤ c) && decide (c ≤ 6)) <;> simp [fin, fRet, retSl, backA]
end
/-! ### gaps -/
def rng (w : Int) : List Int := (List.range (w + 1 + w).toNat).map fun (i : Nat) => -w + i
def gaps (w : Int) : Nat → List (List Int)
  | 0 => [[]]
  | n + 1 => (gaps w n).flatMap fun g => (rng w).map fun x => g ++ [x]
def enc (g : List Int) : D := .tup (zs g)
theorem zs_app (a b : List Int) : zs (a ++ b) = zs a ++ zs b := List.map_append
theorem rng_len (w : Int) : (rng w).length = (w + 1 + w).toNat := by unfold rng; simp
theorem flat_len {α β : Type} (f : α → List β) (k : Nat) : ∀ l : List α, (∀ x ∈ l, (f x).length = k) → (l.flatMap f).length = l.length * k
  | [], _ => by simp
  | x :: l, h => by
    rw [List.flatMap_cons, List.length_append, h x (by simp), flat_len f k l fun y hy => h y (by simp [hy]), List.length_cons, Nat.succ_mul]
    omega
theorem gaps_len (w : Int) : ∀ n, (gaps w n).length = (w + 1 + w).toNat ^ n
  | 0 => rfl
  | n + 1 => by
    unfold gaps
    rw [flat_len _ (w + 1 + w).toNat _ (fun g _ => by rw [List.length_map, rng_len]), gaps_len w n, Nat.pow_succ]
theorem gaps_mem (w : Int) : ∀ n g, g ∈ gaps w n → g.length = n ∧ ∀ x ∈ g, -w ≤ x ∧ x ≤ w
  | 0, g, h => by
    have e : g = [] := by simpa [gaps] using h
    subst e
    simp
  | n + 1, g, h => by
    unfold gaps at h
    obtain ⟨g0, h0, h1⟩ := List.mem_flatMap.mp h
    obtain ⟨x, hx, rfl⟩ := List.mem_map.mp h1
    obtain ⟨i1, i2⟩ := gaps_mem w n g0 h0
    unfold rng at hx
    obtain ⟨i, hi, rfl⟩ := List.mem_map.mp hx
    have hi := List.mem_range.mp hi
    refine ⟨by simp [i1], fun y hy => ?_⟩
    refine (List.mem_append.mp hy).elim (fun hy => ?_) fun hy => ?_
    · exact i2 y hy
    · have e := List.mem_singleton.mp hy
      subst e
      omega
theorem mem_gaps (w : Int) : ∀ n g, g.length = n → (∀ x ∈ g, -w ≤ x ∧ x ≤ w) → g ∈ gaps w n
  | 0, g, h, _ => by
    have e : g = [] := List.eq_nil_of_length_eq_zero h
    subst e
    simp [gaps]
  | n + 1, g, h, hb => by
    have hne : g ≠ [] := fun e => by subst e; simp at h
    have e : g.dropLast ++ [g.getLast hne] = g := List.dropLast_concat_getLast hne
    unfold gaps
    refine List.mem_flatMap.mpr ⟨g.dropLast, mem_gaps w n _ (by simp [h]) (fun x hx => hb x (List.dropLast_subset _ hx)), List.mem_map.mpr ⟨g.getLast hne, ?_, e⟩⟩
    have hl := hb _ (List.getLast_mem hne)
    unfold rng
    exact List.mem_map.mpr ⟨(g.getLast hne + w).toNat, List.mem_range.mpr (by omega), by omega⟩
end K40
namespace K40
open PySem PySem.Spec PyProof.Rows L2 LD
theorem rng_D (w : Int) : rangeD (-w) (w + 1 + w).toNat = (rng w).map D.int := by unfold rangeD rng; simp
theorem rngOk_of {w : Int} (h0 : 0 ≤ w) (h1 : w < 2 ^ 60) : rngOk (-w) = true ∧ rngOk (w + 1) = true := ⟨rngOk_iff.mpr (by omega), rngOk_iff.mpr (by omega)⟩
def ext (w : Int) (G : List (List Int)) : List (List Int) := G.flatMap fun g => (rng w).map fun x => g ++ [x]
def Fd (w : Int) : D → List D
  | .tup ds => (rng w).map fun x => .tup (ds ++ [.int x])
  | _ => []
theorem Fd_enc (w : Int) (G : List (List Int)) : (G.map enc).flatMap (Fd w) = (ext w G).map enc := by
  unfold ext
  rw [List.flatMap_map, List.map_flatMap]
  congr 1
  funext g
  simp [Fd, enc, zs, Function.comp_def]
theorem ext_len (w : Int) (G : List (List Int)) : (ext w G).length = G.length * (w + 1 + w).toNat := flat_len _ _ _ fun g _ => by rw [List.length_map, rng_len]
theorem comp_gaps (w n d3 : D) (wi : Int) (hw : w = .int wi) (h0 : 0 ≤ wi) (h1 : wi < 2 ^ 60) (G : List (List Int)) (hg : ∀ g ∈ G, g.length < sizeLine) (hl : G.length * (wi + 1 + wi).toNat ≤ sizeLine) :
    eLc2 [4, 5] [5] (iSeq itemsOf (eName 2)) (gN 4) tYesT (iRng (aCons (eUn dNeg (eName 0)) (aCons (eBin dAdd (eName 0) (eC (.int 1))) aNil))) (gN 5) tYesT (eTup (aStar (eName 4) (aCons (eName 5) aNil))) [.sh w, .sh n, .ow (.lst (G.map enc)), .sh d3, .un, .un] =
      .ok (.ow (.lst ((ext wi G).map enc))) [.sh w, .sh n, .sh (.lst (G.map enc)), .sh d3, .un, .un] := by
  subst hw
  obtain ⟨r1, r2⟩ := rngOk_of h0 h1
  rw [eLc2_pure (Fd wi) (ds := G.map enc) (S1 := [.sh (.int wi), .sh n, .sh (.lst (G.map enc)), .sh d3, .un, .un]) (by simp [iSeq, itemsOf, semF, fin, fRet, retSl, backA, eName, eC, eBin, eUn, on2, on1, ans, peek, frz, frzs, peeks, onL, eB, aNil, aCons, aStar, Rv.hold, Ou.bind_ok, Ou.bind_ex, Ou.bind_bad, outOf_ok, outOf_ex, outOf_bad, stor, ofO, sSet, sDrop, sRet, sRetN, sIf, sNx, sSeq, sRaise, eTup, eLst, eSl, oNo, oSo, eChain_if, tOf, asB, tNotT, tAndT, tOrT, eAndV, eOrV, eNotV, tTru, asT, truth, eIf, gN, gT, gConsD, gNilD, sAsg, sAug, dAdd, dMul, dIx, fI, fIc, fB, rvB, dNeg, dLt, dLe, dIs, dIsN, dLen, dAbs, dInt, dTuple, dList, dIsi, tyName, isSubT, dEq, dNe, okEq, plainD, plainDs, dep, deps, eqD, eqDs, atI_0, atI_1, atI_2, ite_bindO, ite_outOf, dSl, asI, eCall, fAns, rvOf, Sl.with]) (by rfl) ?_ (by rw [Fd_enc, List.length_map, ext_len]; exact hl) (by rfl), Fd_enc]
  intro d hd acc ha
  obtain ⟨g, hgm, rfl⟩ := List.mem_map.mp hd
  have hgl : (zs g).length + 1 ≤ sizeLine := by rw [zs_len]; exact hg g hgm
  refine ⟨[.sh (.int wi), .sh n, .sh (.lst (G.map enc)), .sh d3, .sh (enc g), .un], [.sh (.int wi), .sh n, .sh (.lst (G.map enc)), .sh d3, .sh (enc g), .un], (rng wi).map D.int, [.sh (.int wi), .sh n, .sh (.lst (G.map enc)), .sh d3, .sh (enc g), .un], [.sh (.int wi), .sh n, .sh (.lst (G.map enc)), .sh d3, .sh (enc g), .un], ?_, rfl, ?_, ?_, by rfl⟩
  · simp [wipeS, semF, fin, fRet, retSl, backA, eName, eC, eBin, eUn, on2, on1, ans, peek, frz, frzs, peeks, onL, eB, aNil, aCons, aStar, Rv.hold, Ou.bind_ok, Ou.bind_ex, Ou.bind_bad, outOf_ok, outOf_ex, outOf_bad, stor, ofO, sSet, sDrop, sRet, sRetN, sIf, sNx, sSeq, sRaise, eTup, eLst, eSl, oNo, oSo, eChain_if, tOf, asB, tNotT, tAndT, tOrT, eAndV, eOrV, eNotV, tTru, asT, truth, eIf, gN, gT, gConsD, gNilD, sAsg, sAug, dAdd, dMul, dIx, fI, fIc, fB, rvB, dNeg, dLt, dLe, dIs, dIsN, dLen, dAbs, dInt, dTuple, dList, dIsi, tyName, isSubT, dEq, dNe, okEq, plainD, plainDs, dep, deps, eqD, eqDs, atI_0, atI_1, atI_2, ite_bindO, ite_outOf, dSl, asI, eCall, fAns, rvOf, Sl.with]
  · simp [iRng, semF, fin, fRet, retSl, backA, eName, eC, eBin, eUn, on2, on1, ans, peek, frz, frzs, peeks, onL, eB, aNil, aCons, aStar, Rv.hold, Ou.bind_ok, Ou.bind_ex, Ou.bind_bad, outOf_ok, outOf_ex, outOf_bad, stor, ofO, sSet, sDrop, sRet, sRetN, sIf, sNx, sSeq, sRaise, eTup, eLst, eSl, oNo, oSo, eChain_if, tOf, asB, tNotT, tAndT, tOrT, eAndV, eOrV, eNotV, tTru, asT, truth, eIf, gN, gT, gConsD, gNilD, sAsg, sAug, dAdd, dMul, dIx, fI, fIc, fB, rvB, dNeg, dLt, dLe, dIs, dIsN, dLen, dAbs, dInt, dTuple, dList, dIsi, tyName, isSubT, dEq, dNe, okEq, plainD, plainDs, dep, deps, eqD, eqDs, atI_0, atI_1, atI_2, ite_bindO, ite_outOf, dSl, asI, eCall, fAns, rvOf, Sl.with, r1, r2, rng_D]
  · have z := lcL_pure (vs := [5]) (g := gN 5) (tt := tYesT) (te := eTup (aStar (eName 4) (aCons (eName 5) aNil))) (S := [.sh (.int wi), .sh n, .sh (.lst (G.map enc)), .sh d3, .sh (enc g), .un]) (fun d => some (.tup (zs g ++ [d]))) ((rng wi).map D.int) acc (fun d hd => by
      obtain ⟨x, _, rfl⟩ := List.mem_map.mp hd
      simp [lcT, wipeS, tYesT, semF, fin, fRet, retSl, backA, eName, eC, eBin, eUn, on2, on1, ans, peek, frz, frzs, peeks, onL, eB, aNil, aCons, aStar, Rv.hold, Ou.bind_ok, Ou.bind_ex, Ou.bind_bad, outOf_ok, outOf_ex, outOf_bad, stor, ofO, sSet, sDrop, sRet, sRetN, sIf, sNx, sSeq, sRaise, eTup, eLst, eSl, oNo, oSo, eChain_if, tOf, asB, tNotT, tAndT, tOrT, eAndV, eOrV, eNotV, tTru, asT, truth, eIf, gN, gT, gConsD, gNilD, sAsg, sAug, dAdd, dMul, dIx, fI, fIc, fB, rvB, dNeg, dLt, dLe, dIs, dIsN, dLen, dAbs, dInt, dTuple, dList, dIsi, tyName, isSubT, dEq, dNe, okEq, plainD, plainDs, dep, deps, eqD, eqDs, atI_0, atI_1, atI_2, ite_bindO, ite_outOf, dSl, asI, eCall, fAns, rvOf, Sl.with, enc, hgl, seqItems, frzs_shs]) (by simpa [Fd, enc] using ha)
    refine z.trans ?_
    congr 2
    simp [Fd, enc, Function.comp_def]
theorem gaps_succ (w : Int) (i : Nat) : ext w (gaps w i) = gaps w (i + 1) := rfl
theorem gaps_small (w : Int) (i : Nat) (hi : i < 1000) : ∀ g ∈ gaps w i, g.length < sizeLine := fun g hg => by
  rw [(gaps_mem w i g hg).1, sizeLine_eq]; omega
theorem ag_step (w : Int) (kd : D) (i : Nat) (d : D) (s3 : Sl) (h3 : s3 = .un ∨ ∃ d, s3 = .sh d) (h0 : 0 ≤ w) (h1 : w < 2 ^ 60) (hi : i < 1000) (hl : (w + 1 + w).toNat ^ (i + 1) ≤ sizeLine) :
    gN 3 d [.sh (.int w), .sh kd, .ow (.lst ((gaps w i).map enc)), s3, .un, .un] = some [.sh (.int w), .sh kd, .ow (.lst ((gaps w i).map enc)), .sh d, .un, .un] ∧
    b_all_gaps_2l1 [.sh (.int w), .sh kd, .ow (.lst ((gaps w i).map enc)), .sh d, .un, .un] = .nx [.sh (.int w), .sh kd, .ow (.lst ((gaps w (i + 1)).map enc)), .sh d, .un, .un] := by
  have c := comp_gaps (.int w) kd d w rfl h0 h1 (gaps w i) (gaps_small w i hi) (by rw [gaps_len, ← Nat.pow_succ]; exact hl)
  rw [gaps_succ] at c
  constructor
  · rcases h3 with rfl | ⟨d', rfl⟩ <;> simp [semF, fin, fRet, retSl, backA, eName, eC, eBin, eUn, on2, on1, ans, peek, frz, frzs, peeks, onL, eB, aNil, aCons, aStar, Rv.hold, Ou.bind_ok, Ou.bind_ex, Ou.bind_bad, outOf_ok, outOf_ex, outOf_bad, stor, ofO, sSet, sDrop, sRet, sRetN, sIf, sNx, sSeq, sRaise, eTup, eLst, eSl, oNo, oSo, eChain_if, tOf, asB, tNotT, tAndT, tOrT, eAndV, eOrV, eNotV, tTru, asT, truth, eIf, gN, gT, gConsD, gNilD, sAsg, sAug, dAdd, dMul, dIx, fI, fIc, fB, rvB, dNeg, dLt, dLe, dIs, dIsN, dLen, dAbs, dInt, dTuple, dList, dIsi, tyName, isSubT, dEq, dNe, okEq, plainD, plainDs, dep, deps, eqD, eqDs, atI_0, atI_1, atI_2, ite_bindO, ite_outOf, dSl, asI, eCall, fAns, rvOf, Sl.with]
  · simp only [b_all_gaps_2l1, sSet, c, outOf_ok]
    simp [semF, fin, fRet, retSl, backA, eName, eC, eBin, eUn, on2, on1, ans, peek, frz, frzs, peeks, onL, eB, aNil, aCons, aStar, Rv.hold, Ou.bind_ok, Ou.bind_ex, Ou.bind_bad, outOf_ok, outOf_ex, outOf_bad, stor, ofO, sSet, sDrop, sRet, sRetN, sIf, sNx, sSeq, sRaise, eTup, eLst, eSl, oNo, oSo, eChain_if, tOf, asB, tNotT, tAndT, tOrT, eAndV, eOrV, eNotV, tTru, asT, truth, eIf, gN, gT, gConsD, gNilD, sAsg, sAug, dAdd, dMul, dIx, fI, fIc, fB, rvB, dNeg, dLt, dLe, dIs, dIsN, dLen, dAbs, dInt, dTuple, dList, dIsi, tyName, isSubT, dEq, dNe, okEq, plainD, plainDs, dep, deps, eqD, eqDs, atI_0, atI_1, atI_2, ite_bindO, ite_outOf, dSl, asI, eCall, fAns, rvOf, Sl.with]
theorem rngOk_i (i : Int) (h0 : 0 ≤ i) (h : i < 1000) : rngOk i = true := rngOk_iff.mpr (by omega)
theorem rngOk_k (k : Nat) (hk : k < 1000) : rngOk (k : Int) = true := rngOk_i _ (by omega) (by omega)
theorem iRng_k (k : Nat) (hk : k < 1000) (S : Sls) (h : S[1]? = some (.sh (.int k))) : iRng (aCons (eName 1) aNil) S = .ok (rangeD 0 k) S := by
  have e : eName 1 S = .ok (.sh (.int k)) S := by unfold eName; rw [h]
  have z := iRng1_of (aOne_of e) rfl (rngOk_k k hk)
  rw [Int.toNat_natCast] at z
  exact z
theorem ag1 (w : Int) (k : Nat) : b_all_gaps_1 [.sh (.int w), .sh (.int k), .un, .un, .un, .un] = .nx [.sh (.int w), .sh (.int k), .ow (.lst ((gaps w 0).map enc)), .un, .un, .un] := by
  simp [b_all_gaps_1, semF, fin, fRet, retSl, backA, eName, eC, eBin, eUn, on2, on1, ans, peek, frz, frzs, peeks, onL, eB, aNil, aCons, aStar, Rv.hold, Ou.bind_ok, Ou.bind_ex, Ou.bind_bad, outOf_ok, outOf_ex, outOf_bad, stor, ofO, sSet, sDrop, sRet, sRetN, sIf, sNx, sSeq, sRaise, eTup, eLst, eSl, oNo, oSo, eChain_if, tOf, asB, tNotT, tAndT, tOrT, eAndV, eOrV, eNotV, tTru, asT, truth, eIf, gN, gT, gConsD, gNilD, sAsg, sAug, dAdd, dMul, dIx, fI, fIc, fB, rvB, dNeg, dLt, dLe, dIs, dIsN, dLen, dAbs, dInt, dTuple, dList, dIsi, tyName, isSubT, dEq, dNe, okEq, plainD, plainDs, dep, deps, eqD, eqDs, atI_0, atI_1, atI_2, ite_bindO, ite_outOf, dSl, asI, eCall, fAns, rvOf, Sl.with, eLst, gaps, enc, zs, sizeLine_eq]
theorem ag2 (w : Int) (k : Nat) (h0 : 0 ≤ w) (h1 : w < 2 ^ 60) (hk : k < 1000) (hl : ∀ j, j ≤ k → (w + 1 + w).toNat ^ j ≤ sizeLine) :
    ∃ s3, forL (gN 3) b_all_gaps_2l1 (rangeD 0 k) [.sh (.int w), .sh (.int k), .ow (.lst ((gaps w 0).map enc)), .un, .un, .un] = .nx [.sh (.int w), .sh (.int k), .ow (.lst ((gaps w k).map enc)), s3, .un, .un] := by
  obtain ⟨S', e, s3, hs, _⟩ := forL_iter (g := gN 3) (b := b_all_gaps_2l1) (fun i S => ∃ s3, S = [.sh (.int w), .sh (.int k), .ow (.lst ((gaps w i).map enc)), s3, .un, .un] ∧ (s3 = .un ∨ ∃ d, s3 = .sh d)) k (fun i d S hi ⟨s3, hS, h3⟩ => by
      subst hS
      obtain ⟨z1, z2⟩ := ag_step w (.int k) i d s3 h3 h0 h1 (by omega) (hl (i + 1) (by omega))
      exact ⟨_, _, z1, z2, .sh d, rfl, .inr ⟨d, rfl⟩⟩) (rangeD 0 k) 0 [.sh (.int w), .sh (.int k), .ow (.lst ((gaps w 0).map enc)), .un, .un, .un] ⟨.un, rfl, .inl rfl⟩ (by rw [rangeD_len]; omega)
  rw [rangeD_len, Nat.zero_add] at hs
  subst hs
  exact ⟨s3, e⟩
theorem ag3 (w : Int) (k : Nat) (hk : k < 1000) (s3 : Sl) (e : forL (gN 3) b_all_gaps_2l1 (rangeD 0 k) [.sh (.int w), .sh (.int k), .ow (.lst ((gaps w 0).map enc)), .un, .un, .un] = .nx [.sh (.int w), .sh (.int k), .ow (.lst ((gaps w k).map enc)), s3, .un, .un]) :
    b_all_gaps_2 [.sh (.int w), .sh (.int k), .ow (.lst ((gaps w 0).map enc)), .un, .un, .un] = .nx [.sh (.int w), .sh (.int k), .ow (.lst ((gaps w k).map enc)), s3, .un, .un] := by
  exact (sFor_of (iRng_k k hk _ rfl)).trans e
theorem t_ag (w : Int) (k : Nat) (h0 : 0 ≤ w) (h1 : w < 2 ^ 60) (hk : k < 1000) (hl : ∀ j, j ≤ k → (w + 1 + w).toNat ^ j ≤ sizeLine) : t_all_gaps [.sh (.int w), .sh (.int k)] = .ret (.ow (.lst ((gaps w k).map enc))) [.sh (.int w), .sh (.int k)] := by
  obtain ⟨s3, e⟩ := ag2 w k h0 h1 hk hl
  have s2 := ag3 w k hk s3 e
  have hb : b_all_gaps [.sh (.int w), .sh (.int k), .un, .un, .un, .un] = .rt (.bo 2) [.sh (.int w), .sh (.int k), .ow (.lst ((gaps w k).map enc)), s3, .un, .un] := by
    exact (sSeq_nx (ag1 w k)).trans ((sSeq_nx s2).trans (sRet_of rfl))
  exact semF_of (o := .rt (.bo 2) [.sh (.int w), .sh (.int k), .ow (.lst ((gaps w k).map enc)), s3, .un, .un]) hb
/-! ### the law's own gaps -/
theorem lg_comp (w : Int) (kd fd d3 acc : D) (g : List Int) (h0 : 0 ≤ w) (h1 : w < 2 ^ 60) (hg : g.length < sizeLine) (hl : (w + 1 + w).toNat ≤ sizeLine) :
    eLc [6] (iRng (aCons (eUn dNeg (eName 0)) (aCons (eBin dAdd (eName 0) (eC (.int 1))) aNil))) (gN 6) tYesT (eBin dAdd (eName 5) (eTup (aCons (eName 6) aNil))) [.sh (.int w), .sh kd, .sh fd, .sh d3, .ow acc, .sh (enc g), .un] =
      .ok (.ow (.lst ((rng w).map fun x => enc (g ++ [x])))) [.sh (.int w), .sh kd, .sh fd, .sh d3, .ow acc, .sh (enc g), .un] := by
  obtain ⟨r1, r2⟩ := rngOk_of h0 h1
  have hg' : g.length + 1 ≤ sizeLine := hg
  have one : 1 ≤ sizeLine := by rw [sizeLine_eq]; omega
  rw [eLc_map (fun d => .tup (zs g ++ [d])) (ds := (rng w).map D.int) (S1 := [.sh (.int w), .sh kd, .sh fd, .sh d3, .ow acc, .sh (enc g), .un]) (by simp [iRng, semF, fin, fRet, retSl, backA, eName, eC, eBin, eUn, on2, on1, ans, peek, frz, frzs, peeks, onL, eB, aNil, aCons, aStar, Rv.hold, Ou.bind_ok, Ou.bind_ex, Ou.bind_bad, outOf_ok, outOf_ex, outOf_bad, stor, ofO, sSet, sDrop, sRet, sRetN, sIf, sNx, sSeq, sRaise, eTup, eLst, eSl, oNo, oSo, eChain_if, tOf, asB, tNotT, tAndT, tOrT, eAndV, eOrV, eNotV, tTru, asT, truth, eIf, gN, gT, gConsD, gNilD, sAsg, sAug, dAdd, dMul, dIx, fI, fIc, fB, rvB, dNeg, dLt, dLe, dIs, dIsN, dLen, dAbs, dInt, dTuple, dList, dIsi, tyName, isSubT, dEq, dNe, okEq, plainD, plainDs, dep, deps, eqD, eqDs, atI_0, atI_1, atI_2, ite_bindO, ite_outOf, dSl, asI, eCall, fAns, rvOf, Sl.with, r1, r2, rng_D]) (by rfl) ?_ (by rw [List.length_map, rng_len]; exact hl) (by rfl)]
  · simp [enc, zs, Function.comp_def]
  · intro d hd
    obtain ⟨x, _, rfl⟩ := List.mem_map.mp hd
    simp [lcT, wipeS, tYesT, semF, fin, fRet, retSl, backA, eName, eC, eBin, eUn, on2, on1, ans, peek, frz, frzs, peeks, onL, eB, aNil, aCons, aStar, Rv.hold, Ou.bind_ok, Ou.bind_ex, Ou.bind_bad, outOf_ok, outOf_ex, outOf_bad, stor, ofO, sSet, sDrop, sRet, sRetN, sIf, sNx, sSeq, sRaise, eTup, eLst, eSl, oNo, oSo, eChain_if, tOf, asB, tNotT, tAndT, tOrT, eAndV, eOrV, eNotV, tTru, asT, truth, eIf, gN, gT, gConsD, gNilD, sAsg, sAug, dAdd, dMul, dIx, fI, fIc, fB, rvB, dNeg, dLt, dLe, dIs, dIsN, dLen, dAbs, dInt, dTuple, dList, dIsi, tyName, isSubT, dEq, dNe, okEq, plainD, plainDs, dep, deps, eqD, eqDs, atI_0, atI_1, atI_2, ite_bindO, ite_outOf, dSl, asI, eCall, fAns, rvOf, Sl.with, enc, zs_len, hg', one]
theorem lg_in (w : Int) (kd fd d3 : D) (h0 : 0 ≤ w) (h1 : w < 2 ^ 60) (hl : (w + 1 + w).toNat ≤ sizeLine) : ∀ (G acc : List (List Int)) (s5 : Sl), (s5 = .un ∨ ∃ d, s5 = .sh d) → (∀ g ∈ G, g.length < sizeLine) → acc.length + G.length * (w + 1 + w).toNat ≤ sizeLine →
    ∃ s5', (s5' = .un ∨ ∃ d, s5' = .sh d) ∧ forL (gN 5) b_law_gaps_2l2l1 (G.map enc) [.sh (.int w), .sh kd, .sh fd, .sh d3, .ow (.lst (acc.map enc)), s5, .un] = .nx [.sh (.int w), .sh kd, .sh fd, .sh d3, .ow (.lst ((acc ++ ext w G).map enc)), s5', .un]
  | [], acc, s5, h5, _, _ => ⟨s5, h5, by simp [forL_nil, ext]⟩
  | g :: G, acc, s5, h5, hg, hz => by
    have hz' : acc.length + (w + 1 + w).toNat + G.length * (w + 1 + w).toNat ≤ sizeLine := by
      rw [List.length_cons, Nat.succ_mul] at hz; omega
    have c := lg_comp w kd fd d3 (.lst (acc.map enc)) g h0 h1 (hg g (by simp)) hl
    obtain ⟨s5', h5', e⟩ := lg_in w kd fd d3 h0 h1 hl G (acc ++ (rng w).map fun x => g ++ [x]) (.sh (enc g)) (.inr ⟨_, rfl⟩) (fun g hg' => hg g (by simp [hg'])) (by rw [List.length_append, List.length_map, rng_len]; exact hz')
    refine ⟨s5', h5', ?_⟩
    rw [List.map_cons, forL_step (S1 := [.sh (.int w), .sh kd, .sh fd, .sh d3, .ow (.lst (acc.map enc)), .sh (enc g), .un]) (S2 := [.sh (.int w), .sh kd, .sh fd, .sh d3, .ow (.lst ((acc ++ (rng w).map fun x => g ++ [x]).map enc)), .sh (enc g), .un]) (by rcases h5 with rfl | ⟨d', rfl⟩ <;> simp [semF, fin, fRet, retSl, backA, eName, eC, eBin, eUn, on2, on1, ans, peek, frz, frzs, peeks, onL, eB, aNil, aCons, aStar, Rv.hold, Ou.bind_ok, Ou.bind_ex, Ou.bind_bad, outOf_ok, outOf_ex, outOf_bad, stor, ofO, sSet, sDrop, sRet, sRetN, sIf, sNx, sSeq, sRaise, eTup, eLst, eSl, oNo, oSo, eChain_if, tOf, asB, tNotT, tAndT, tOrT, eAndV, eOrV, eNotV, tTru, asT, truth, eIf, gN, gT, gConsD, gNilD, sAsg, sAug, dAdd, dMul, dIx, fI, fIc, fB, rvB, dNeg, dLt, dLe, dIs, dIsN, dLen, dAbs, dInt, dTuple, dList, dIsi, tyName, isSubT, dEq, dNe, okEq, plainD, plainDs, dep, deps, eqD, eqDs, atI_0, atI_1, atI_2, ite_bindO, ite_outOf, dSl, asI, eCall, fAns, rvOf, Sl.with]) ?_, e]
    · simp [ext, List.append_assoc]
    · have hlen : acc.length + (rng w).length ≤ sizeLine := by rw [rng_len]; omega
      refine sSet_of (r := .ow (.lst (acc.map enc ++ (rng w).map fun x => enc (g ++ [x])))) (eBin_of rfl c (on2_of rfl rfl ?_)) ?_
      · simp [dAdd, hlen]
      · simp [stor, Function.comp_def]
theorem lg_step (w : Int) (kd : D) (i : Nat) (d : D) (s3 s4 s5 : Sl) (h3 : s3 = .un ∨ ∃ d, s3 = .sh d) (h4 : s4 = .un ∨ ∃ d, s4 = .sh d) (h5 : s5 = .un ∨ ∃ d, s5 = .sh d) (h0 : 0 ≤ w) (h1 : w < 2 ^ 60) (hi : i < 1000) (hl : (w + 1 + w).toNat ^ (i + 1) ≤ sizeLine) (hl1 : (w + 1 + w).toNat ≤ sizeLine) :
    ∃ s2 s4' s5', (s4' = .un ∨ ∃ d, s4' = .sh d) ∧ (s5' = .un ∨ ∃ d, s5' = .sh d) ∧ (s2 = .sh (.lst ((gaps w (i + 1)).map enc)) ∨ s2 = .ow (.lst ((gaps w (i + 1)).map enc))) ∧ ∀ s2', (s2' = .sh (.lst ((gaps w i).map enc)) ∨ s2' = .ow (.lst ((gaps w i).map enc))) →
    gN 3 d [.sh (.int w), .sh kd, s2', s3, s4, s5, .un] = some [.sh (.int w), .sh kd, s2', .sh d, s4, s5, .un] ∧
    (sSeq b_law_gaps_2l1 (sSeq b_law_gaps_2l2 b_law_gaps_2l3)) [.sh (.int w), .sh kd, s2', .sh d, s4, s5, .un] = .nx [.sh (.int w), .sh kd, s2, .sh d, s4', s5', .un] := by
  obtain ⟨s5', h5', e⟩ := lg_in w kd (.lst ((gaps w i).map enc)) d h0 h1 hl1 (gaps w i) [] s5 h5 (gaps_small w i hi) (by rw [gaps_len, List.length_nil, Nat.zero_add, ← Nat.pow_succ]; exact hl)
  rw [List.nil_append, gaps_succ] at e
  refine ⟨.sh (.lst ((gaps w (i + 1)).map enc)), .sh (.lst ((gaps w (i + 1)).map enc)), s5', .inr ⟨_, rfl⟩, h5', .inl rfl, fun s2' h2 => ⟨?_, ?_⟩⟩
  · rcases h3 with rfl | ⟨d', rfl⟩ <;> simp [semF, fin, fRet, retSl, backA, eName, eC, eBin, eUn, on2, on1, ans, peek, frz, frzs, peeks, onL, eB, aNil, aCons, aStar, Rv.hold, Ou.bind_ok, Ou.bind_ex, Ou.bind_bad, outOf_ok, outOf_ex, outOf_bad, stor, ofO, sSet, sDrop, sRet, sRetN, sIf, sNx, sSeq, sRaise, eTup, eLst, eSl, oNo, oSo, eChain_if, tOf, asB, tNotT, tAndT, tOrT, eAndV, eOrV, eNotV, tTru, asT, truth, eIf, gN, gT, gConsD, gNilD, sAsg, sAug, dAdd, dMul, dIx, fI, fIc, fB, rvB, dNeg, dLt, dLe, dIs, dIsN, dLen, dAbs, dInt, dTuple, dList, dIsi, tyName, isSubT, dEq, dNe, okEq, plainD, plainDs, dep, deps, eqD, eqDs, atI_0, atI_1, atI_2, ite_bindO, ite_outOf, dSl, asI, eCall, fAns, rvOf, Sl.with]
  · have a1 : b_law_gaps_2l1 [.sh (.int w), .sh kd, s2', .sh d, s4, s5, .un] = .nx [.sh (.int w), .sh kd, s2', .sh d, .ow (.lst []), s5, .un] := by
      rcases h4 with rfl | ⟨d', rfl⟩ <;> simp [b_law_gaps_2l1, semF, fin, fRet, retSl, backA, eName, eC, eBin, eUn, on2, on1, ans, peek, frz, frzs, peeks, onL, eB, aNil, aCons, aStar, Rv.hold, Ou.bind_ok, Ou.bind_ex, Ou.bind_bad, outOf_ok, outOf_ex, outOf_bad, stor, ofO, sSet, sDrop, sRet, sRetN, sIf, sNx, sSeq, sRaise, eTup, eLst, eSl, oNo, oSo, eChain_if, tOf, asB, tNotT, tAndT, tOrT, eAndV, eOrV, eNotV, tTru, asT, truth, eIf, gN, gT, gConsD, gNilD, sAsg, sAug, dAdd, dMul, dIx, fI, fIc, fB, rvB, dNeg, dLt, dLe, dIs, dIsN, dLen, dAbs, dInt, dTuple, dList, dIsi, tyName, isSubT, dEq, dNe, okEq, plainD, plainDs, dep, deps, eqD, eqDs, atI_0, atI_1, atI_2, ite_bindO, ite_outOf, dSl, asI, eCall, fAns, rvOf, Sl.with, eLst]
    have a2 : b_law_gaps_2l2 [.sh (.int w), .sh kd, s2', .sh d, .ow (.lst []), s5, .un] = .nx [.sh (.int w), .sh kd, .sh (.lst ((gaps w i).map enc)), .sh d, .ow (.lst ((gaps w (i + 1)).map enc)), s5', .un] := by
      unfold b_law_gaps_2l2 sFor
      rw [show iSeq itemsOf (eName 2) [.sh (.int w), .sh kd, s2', .sh d, .ow (.lst []), s5, .un] = .ok ((gaps w i).map enc) [.sh (.int w), .sh kd, .sh (.lst ((gaps w i).map enc)), .sh d, .ow (.lst []), s5, .un] by rcases h2 with rfl | rfl <;> simp [iSeq, itemsOf, semF, fin, fRet, retSl, backA, eName, eC, eBin, eUn, on2, on1, ans, peek, frz, frzs, peeks, onL, eB, aNil, aCons, aStar, Rv.hold, Ou.bind_ok, Ou.bind_ex, Ou.bind_bad, outOf_ok, outOf_ex, outOf_bad, stor, ofO, sSet, sDrop, sRet, sRetN, sIf, sNx, sSeq, sRaise, eTup, eLst, eSl, oNo, oSo, eChain_if, tOf, asB, tNotT, tAndT, tOrT, eAndV, eOrV, eNotV, tTru, asT, truth, eIf, gN, gT, gConsD, gNilD, sAsg, sAug, dAdd, dMul, dIx, fI, fIc, fB, rvB, dNeg, dLt, dLe, dIs, dIsN, dLen, dAbs, dInt, dTuple, dList, dIsi, tyName, isSubT, dEq, dNe, okEq, plainD, plainDs, dep, deps, eqD, eqDs, atI_0, atI_1, atI_2, ite_bindO, ite_outOf, dSl, asI, eCall, fAns, rvOf, Sl.with], outOf_ok]
      exact e
    have a3 : b_law_gaps_2l3 [.sh (.int w), .sh kd, .sh (.lst ((gaps w i).map enc)), .sh d, .ow (.lst ((gaps w (i + 1)).map enc)), s5', .un] = .nx [.sh (.int w), .sh kd, .sh (.lst ((gaps w (i + 1)).map enc)), .sh d, .sh (.lst ((gaps w (i + 1)).map enc)), s5', .un] := by
      simp [b_law_gaps_2l3, semF, fin, fRet, retSl, backA, eName, eC, eBin, eUn, on2, on1, ans, peek, frz, frzs, peeks, onL, eB, aNil, aCons, aStar, Rv.hold, Ou.bind_ok, Ou.bind_ex, Ou.bind_bad, outOf_ok, outOf_ex, outOf_bad, stor, ofO, sSet, sDrop, sRet, sRetN, sIf, sNx, sSeq, sRaise, eTup, eLst, eSl, oNo, oSo, eChain_if, tOf, asB, tNotT, tAndT, tOrT, eAndV, eOrV, eNotV, tTru, asT, truth, eIf, gN, gT, gConsD, gNilD, sAsg, sAug, dAdd, dMul, dIx, fI, fIc, fB, rvB, dNeg, dLt, dLe, dIs, dIsN, dLen, dAbs, dInt, dTuple, dList, dIsi, tyName, isSubT, dEq, dNe, okEq, plainD, plainDs, dep, deps, eqD, eqDs, atI_0, atI_1, atI_2, ite_bindO, ite_outOf, dSl, asI, eCall, fAns, rvOf, Sl.with]
    simp only [sSeq, a1, a2, a3]
theorem lg1 (w : Int) (kd : D) : b_law_gaps_1 [.sh (.int w), .sh kd, .un, .un, .un, .un, .un] = .nx [.sh (.int w), .sh kd, .ow (.lst ((gaps w 0).map enc)), .un, .un, .un, .un] := by
  simp [b_law_gaps_1, semF, fin, fRet, retSl, backA, eName, eC, eBin, eUn, on2, on1, ans, peek, frz, frzs, peeks, onL, eB, aNil, aCons, aStar, Rv.hold, Ou.bind_ok, Ou.bind_ex, Ou.bind_bad, outOf_ok, outOf_ex, outOf_bad, stor, ofO, sSet, sDrop, sRet, sRetN, sIf, sNx, sSeq, sRaise, eTup, eLst, eSl, oNo, oSo, eChain_if, tOf, asB, tNotT, tAndT, tOrT, eAndV, eOrV, eNotV, tTru, asT, truth, eIf, gN, gT, gConsD, gNilD, sAsg, sAug, dAdd, dMul, dIx, fI, fIc, fB, rvB, dNeg, dLt, dLe, dIs, dIsN, dLen, dAbs, dInt, dTuple, dList, dIsi, tyName, isSubT, dEq, dNe, okEq, plainD, plainDs, dep, deps, eqD, eqDs, atI_0, atI_1, atI_2, ite_bindO, ite_outOf, dSl, asI, eCall, fAns, rvOf, Sl.with, eLst, gaps, enc, zs, sizeLine_eq]
theorem t_lg (w : Int) (k : Nat) (h0 : 0 ≤ w) (h1 : w < 2 ^ 60) (hk : k < 1000) (hl : ∀ j, j ≤ k → (w + 1 + w).toNat ^ j ≤ sizeLine) (hl1 : (w + 1 + w).toNat ≤ sizeLine) : ∃ s, (s = .sh (.lst ((gaps w k).map enc)) ∨ s = .ow (.lst ((gaps w k).map enc))) ∧ t_law_gaps [.sh (.int w), .sh (.int k)] = .ret s [.sh (.int w), .sh (.int k)] := by
  have s1 := lg1 w (.int k)
  obtain ⟨S', e, s2, s3, s4, s5, hs, h2, _⟩ := forL_iter (g := gN 3) (b := sSeq b_law_gaps_2l1 (sSeq b_law_gaps_2l2 b_law_gaps_2l3)) (fun i S => ∃ s2 s3 s4 s5, S = [.sh (.int w), .sh (.int k), s2, s3, s4, s5, .un] ∧ (s2 = .sh (.lst ((gaps w i).map enc)) ∨ s2 = .ow (.lst ((gaps w i).map enc))) ∧
      (s3 = .un ∨ ∃ d, s3 = .sh d) ∧ (s4 = .un ∨ ∃ d, s4 = .sh d) ∧ (s5 = .un ∨ ∃ d, s5 = .sh d)) k (fun i d S hi ⟨s2, s3, s4, s5, hS, h2, h3, h4, h5⟩ => by
      subst hS
      obtain ⟨r2, r4, r5, q4, q5, q2, z⟩ := lg_step w (.int k) i d s3 s4 s5 h3 h4 h5 h0 h1 (by omega) (hl (i + 1) (by omega)) hl1
      obtain ⟨z1, z2⟩ := z s2 h2
      exact ⟨_, _, z1, z2, r2, .sh d, r4, r5, rfl, q2, .inr ⟨d, rfl⟩, q4, q5⟩) (rangeD 0 k) 0 [.sh (.int w), .sh (.int k), .ow (.lst ((gaps w 0).map enc)), .un, .un, .un, .un] ⟨_, .un, .un, .un, rfl, .inr rfl, .inl rfl, .inl rfl, .inl rfl⟩ (by rw [rangeD_len]; omega)
  rw [rangeD_len, Nat.zero_add] at h2
  subst hs
  have a2 : b_law_gaps_2 [.sh (.int w), .sh (.int k), .ow (.lst ((gaps w 0).map enc)), .un, .un, .un, .un] = .nx [.sh (.int w), .sh (.int k), s2, s3, s4, s5, .un] := by
    exact (sFor_of (iRng_k k hk _ rfl)).trans e
  refine ⟨s2, h2, ?_⟩
  rcases h2 with rfl | rfl
  · have hb : b_law_gaps [.sh (.int w), .sh (.int k), .un, .un, .un, .un, .un] = .rt (.sh (.lst ((gaps w k).map enc))) [.sh (.int w), .sh (.int k), .sh (.lst ((gaps w k).map enc)), s3, s4, s5, .un] := by
      exact (sSeq_nx s1).trans ((sSeq_nx a2).trans (sRet_of rfl))
    exact semF_of hb
  · have hb : b_law_gaps [.sh (.int w), .sh (.int k), .un, .un, .un, .un, .un] = .rt (.bo 2) [.sh (.int w), .sh (.int k), .ow (.lst ((gaps w k).map enc)), s3, s4, s5, .un] := by
      exact (sSeq_nx s1).trans ((sSeq_nx a2).trans (sRet_of rfl))
    exact semF_of hb
end K40
namespace K40
open PySem PySem.Spec PyProof.Rows L2 LD
def dot (ws g : List Int) : Int := (List.zipWith (fun a b => a * b) ws g).sum
def Small (ws : List Int) : Prop := ∀ a ∈ ws, a.natAbs < 2 ^ 64
theorem asInts_zs : ∀ ws : List Int, asInts (zs ws) = some ws
  | [] => rfl
  | w :: ws => by
    show (asInts (zs ws)).map (w :: ·) = _
    rw [asInts_zs ws]; rfl
def mulD : D → D
  | .tup [.int a, .int b] => .int (a * b)
  | _ => .non
theorem zip_mul : ∀ ws g : List Int, (zipD (zs ws) (zs g)).map mulD = zs (List.zipWith (fun a b => a * b) ws g)
  | [], g => by simp [zs, zipD]
  | w :: ws, [] => by simp [zs, zipD]
  | w :: ws, x :: g => by
    have ih := zip_mul ws g
    simp only [zs, zipD] at ih ⊢
    simp [mulD, ih]
theorem zip_mem : ∀ {ws g : List Int} {d : D}, d ∈ zipD (zs ws) (zs g) → ∃ a b, a ∈ ws ∧ d = .tup [.int a, .int b]
  | [], g, d, h => by simp [zs, zipD] at h
  | w :: ws, [], d, h => by simp [zs, zipD] at h
  | w :: ws, x :: g, d, h => by
    have h' : d = .tup [.int w, .int x] ∨ d ∈ zipD (zs ws) (zs g) := by simpa [zs, zipD] using h
    rcases h' with rfl | h'
    · exact ⟨w, x, by simp, rfl⟩
    · obtain ⟨a, b, h1, h2⟩ := zip_mem h'
      exact ⟨a, b, by simp [h1], h2⟩
theorem cMul_small {a b : Int} (h : a.natAbs < 2 ^ 64) : cMul a b = true := by unfold cMul; simp [h]
/-- the sum of the products, as the program makes it -/
theorem comp_dot (j : Nat) (r o c w num s5 s7 s9 : Sl) (nd : D) (ws g : List Int) (x y : D) (hj : (j = 0 ∧ r = .sh (.tup [.tup (zs ws), x, y])) ∨ (j = 1 ∧ o = .sh (.tup [.tup (zs ws), x, y]))) (hs : Small ws) (hl : ws.length ≤ sizeLine) :
    eLc [8, 4] (iZip (aCons (eBin dIx (eName j) (eC (.int 0))) (aCons (eName 6) aNil))) (gT 2 (gConsD (gN 8) (gConsD (gN 4) gNilD))) tYesT (eBin dMul (eName 8) (eName 4)) [r, o, c, w, .sh nd, s5, .sh (enc g), s7, .un, s9] =
      .ok (.ow (.lst (zs (List.zipWith (fun a b => a * b) ws g)))) [r, o, c, w, .sh nd, s5, .sh (enc g), s7, .un, s9] := by
  rw [eLc_map mulD (ds := zipD (zs ws) (zs g)) (S1 := [r, o, c, w, .sh nd, s5, .sh (enc g), s7, .un, s9]) (by rcases hj with ⟨rfl, rfl⟩ | ⟨rfl, rfl⟩ <;> simp [LD.iZip, semF, fin, fRet, retSl, backA, eName, eC, eBin, eUn, on2, on1, ans, peek, frz, frzs, peeks, onL, eB, aNil, aCons, aStar, Rv.hold, Ou.bind_ok, Ou.bind_ex, Ou.bind_bad, outOf_ok, outOf_ex, outOf_bad, stor, ofO, sSet, sDrop, sRet, sRetN, sIf, sNx, sSeq, sRaise, eTup, eLst, eSl, oNo, oSo, eChain_if, tOf, asB, tNotT, tAndT, tOrT, eAndV, eOrV, eNotV, tTru, asT, truth, eIf, gN, gT, gConsD, gNilD, sAsg, sAug, dAdd, dMul, dIx, fI, fIc, fB, rvB, dNeg, dLt, dLe, dIs, dIsN, dLen, dAbs, dInt, dTuple, dList, dIsi, tyName, isSubT, dEq, dNe, okEq, plainD, plainDs, dep, deps, eqD, eqDs, atI_0, atI_1, atI_2, ite_bindO, ite_outOf, dSl, asI, eCall, fAns, rvOf, Sl.with, enc]) (by rfl) ?_ (by rw [zip_len, zs_len]; omega) (by rfl), zip_mul]
  intro d hd
  obtain ⟨a, b, ha, rfl⟩ := zip_mem hd
  have hc := cMul_small (b := b) (hs a ha)
  simp [lcT, wipeS, tYesT, semF, fin, fRet, retSl, backA, eName, eC, eBin, eUn, on2, on1, ans, peek, frz, frzs, peeks, onL, eB, aNil, aCons, aStar, Rv.hold, Ou.bind_ok, Ou.bind_ex, Ou.bind_bad, outOf_ok, outOf_ex, outOf_bad, stor, ofO, sSet, sDrop, sRet, sRetN, sIf, sNx, sSeq, sRaise, eTup, eLst, eSl, oNo, oSo, eChain_if, tOf, asB, tNotT, tAndT, tOrT, eAndV, eOrV, eNotV, tTru, asT, truth, eIf, gN, gT, gConsD, gNilD, sAsg, sAug, dAdd, dMul, dIx, fI, fIc, fB, rvB, dNeg, dLt, dLe, dIs, dIsN, dLen, dAbs, dInt, dTuple, dList, dIsi, tyName, isSubT, dEq, dNe, okEq, plainD, plainDs, dep, deps, eqD, eqDs, atI_0, atI_1, atI_2, ite_bindO, ite_outOf, dSl, asI, eCall, fAns, rvOf, Sl.with, hc, mulD]
theorem dSum_zs (ws : List Int) : dSum [.lst (zs ws)] = some (.sh (.int ws.sum)) := by
  show (asInts (zs ws)).map _ = _
  rw [asInts_zs]; rfl
theorem sum_dot (j : Nat) (r o c w num s5 s7 s9 : Sl) (nd : D) (ws g : List Int) (x y : D) (hj : (j = 0 ∧ r = .sh (.tup [.tup (zs ws), x, y])) ∨ (j = 1 ∧ o = .sh (.tup [.tup (zs ws), x, y]))) (hs : Small ws) (hl : ws.length ≤ sizeLine) :
    eB dSum (aCons (eLc [8, 4] (iZip (aCons (eBin dIx (eName j) (eC (.int 0))) (aCons (eName 6) aNil))) (gT 2 (gConsD (gN 8) (gConsD (gN 4) gNilD))) tYesT (eBin dMul (eName 8) (eName 4))) aNil) [r, o, c, w, .sh nd, s5, .sh (enc g), s7, .un, s9] =
      .ok (.sh (.int (dot ws g))) [r, o, c, w, .sh nd, s5, .sh (enc g), s7, .un, s9] := by
  refine eB_of (aOne_of (comp_dot j r o c w num s5 s7 s9 nd ws g x y hj hs hl)) (ds := [.lst (zs (List.zipWith (fun a b => a * b) ws g))]) rfl ?_
  exact dSum_zs _
abbrev unsh (s : Sl) : Prop := s = .un ∨ ∃ d, s = .sh d
def differs (ws vs : List Int) (g : List Int) : Bool := decide (sgn (dot ws g) ≠ sgn (dot vs g))
section
variable (ws vs : List Int) (l m : D) (c w : Sl) (nd : D) (s5 : Sl) (hw : Small ws) (hv : Small vs) (lw : ws.length ≤ sizeLine) (lv : vs.length ≤ sizeLine)
include hw hv lw lv
theorem lgap_turn (g : List Int) (s6 s7 s9 : Sl) (h6 : unsh s6) (h7 : unsh s7) (h9 : unsh s9) :
    gN 6 (enc g) [.sh (.tup [.tup (zs ws), l, m]), .sh (.tup [.tup (zs vs), l, m]), c, w, .sh nd, s5, s6, s7, .un, s9] = some [.sh (.tup [.tup (zs ws), l, m]), .sh (.tup [.tup (zs vs), l, m]), c, w, .sh nd, s5, .sh (enc g), s7, .un, s9] ∧
    (sSeq b_least_gap_5l1 (sSeq b_least_gap_5l2 b_least_gap_5l3)) [.sh (.tup [.tup (zs ws), l, m]), .sh (.tup [.tup (zs vs), l, m]), c, w, .sh nd, s5, .sh (enc g), s7, .un, s9] =
      if differs ws vs g = true then .rt (.sh (enc g)) [.sh (.tup [.tup (zs ws), l, m]), .sh (.tup [.tup (zs vs), l, m]), c, w, .sh nd, s5, .sh (enc g), .sh (.int (dot ws g)), .un, .sh (.int (dot vs g))]
      else .nx [.sh (.tup [.tup (zs ws), l, m]), .sh (.tup [.tup (zs vs), l, m]), c, w, .sh nd, s5, .sh (enc g), .sh (.int (dot ws g)), .un, .sh (.int (dot vs g))] := by
  constructor
  · rcases h6 with rfl | ⟨d, rfl⟩ <;> simp [semF, fin, fRet, retSl, backA, eName, eC, eBin, eUn, on2, on1, ans, peek, frz, frzs, peeks, onL, eB, aNil, aCons, aStar, Rv.hold, Ou.bind_ok, Ou.bind_ex, Ou.bind_bad, outOf_ok, outOf_ex, outOf_bad, stor, ofO, sSet, sDrop, sRet, sRetN, sIf, sNx, sSeq, sRaise, eTup, eLst, eSl, oNo, oSo, eChain_if, tOf, asB, tNotT, tAndT, tOrT, eAndV, eOrV, eNotV, tTru, asT, truth, eIf, gN, gT, gConsD, gNilD, sAsg, sAug, dAdd, dMul, dIx, fI, fIc, fB, rvB, dNeg, dLt, dLe, dIs, dIsN, dLen, dAbs, dInt, dTuple, dList, dIsi, tyName, isSubT, dEq, dNe, okEq, plainD, plainDs, dep, deps, eqD, eqDs, atI_0, atI_1, atI_2, ite_bindO, ite_outOf, dSl, asI, eCall, fAns, rvOf, Sl.with]
  · have a1 : b_least_gap_5l1 [.sh (.tup [.tup (zs ws), l, m]), .sh (.tup [.tup (zs vs), l, m]), c, w, .sh nd, s5, .sh (enc g), s7, .un, s9] = .nx [.sh (.tup [.tup (zs ws), l, m]), .sh (.tup [.tup (zs vs), l, m]), c, w, .sh nd, s5, .sh (enc g), .sh (.int (dot ws g)), .un, s9] :=
      sSet_of (sum_dot 0 _ _ c w c s5 s7 s9 nd ws g l m (.inl ⟨rfl, rfl⟩) hw lw) (by rcases h7 with rfl | ⟨d, rfl⟩ <;> rfl)
    have a2 : b_least_gap_5l2 [.sh (.tup [.tup (zs ws), l, m]), .sh (.tup [.tup (zs vs), l, m]), c, w, .sh nd, s5, .sh (enc g), .sh (.int (dot ws g)), .un, s9] = .nx [.sh (.tup [.tup (zs ws), l, m]), .sh (.tup [.tup (zs vs), l, m]), c, w, .sh nd, s5, .sh (enc g), .sh (.int (dot ws g)), .un, .sh (.int (dot vs g))] :=
      sSet_of (sum_dot 1 _ _ c w c s5 _ s9 nd vs g l m (.inr ⟨rfl, rfl⟩) hv lv) (by rcases h9 with rfl | ⟨d, rfl⟩ <;> rfl)
    rw [sSeq_nx a1, sSeq_nx a2]
    by_cases h : sgn (dot ws g) = sgn (dot vs g) <;> simp [b_least_gap_5l3, b_least_gap_5l3a1, semF, fin, fRet, retSl, backA, eName, eC, eBin, eUn, on2, on1, ans, peek, frz, frzs, peeks, onL, eB, aNil, aCons, aStar, Rv.hold, Ou.bind_ok, Ou.bind_ex, Ou.bind_bad, outOf_ok, outOf_ex, outOf_bad, stor, ofO, sSet, sDrop, sRet, sRetN, sIf, sNx, sSeq, sRaise, eTup, eLst, eSl, oNo, oSo, eChain_if, tOf, asB, tNotT, tAndT, tOrT, eAndV, eOrV, eNotV, tTru, asT, truth, eIf, gN, gT, gConsD, gNilD, sAsg, sAug, dAdd, dMul, dIx, fI, fIc, fB, rvB, dNeg, dLt, dLe, dIs, dIsN, dLen, dAbs, dInt, dTuple, dList, dIsi, tyName, isSubT, dEq, dNe, okEq, plainD, plainDs, dep, deps, eqD, eqDs, atI_0, atI_1, atI_2, ite_bindO, ite_outOf, dSl, asI, eCall, fAns, rvOf, Sl.with, t_sign_eq, differs, h]
end
/-! ### the law's sign -/
theorem ix_k (xs : List Int) (i : Nat) (hi : i < xs.length) : dIx (.tup (zs xs)) (.int (i : Int)) = some (.sh (.int xs[i])) := by
  have h := atI_nat (zs xs) i
  have e : (zs xs)[i]? = some (.int xs[i]) := by unfold zs; rw [List.getElem?_map, List.getElem?_eq_getElem hi]; rfl
  rw [e] at h
  show Option.map Rv.sh (L2.atI (zs xs) (i : Int)) = _
  rw [h]; rfl
theorem ls_turn (ws g : List Int) (i : Nat) (hi : i < g.length) (hl : ws.length = g.length) (hs : Small ws) : lcT [3] (gN 3) tYesT (eBin dMul (eBin dIx (eName 0) (eName 3)) (eBin dIx (eName 1) (eName 3))) (.int (i : Int)) [.sh (.tup (zs ws)), .sh (enc g), .un, .un] =
    .ok (some (.int (ws[i]'(by omega) * g[i]))) [.sh (.tup (zs ws)), .sh (enc g), .un, .un] := by
  have x1 := ix_k ws i (by omega)
  have x2 := ix_k g i hi
  have e : eBin dMul (eBin dIx (eName 0) (eName 3)) (eBin dIx (eName 1) (eName 3)) [.sh (.tup (zs ws)), .sh (enc g), .un, .sh (.int (i : Int))] = .ok (.sh (.int (ws[i]'(by omega) * g[i]))) [.sh (.tup (zs ws)), .sh (enc g), .un, .sh (.int (i : Int))] := by
    refine eBin_of (eBin_of rfl rfl (on2_of rfl rfl x1)) (eBin_of rfl rfl (on2_of rfl rfl x2)) (on2_of rfl rfl ?_)
    show (if cMul _ _ = true then _ else _) = _
    rw [if_pos (cMul_small (hs _ (List.getElem_mem _)))]
  unfold lcT
  rw [show gN 3 (.int (i : Int)) [.sh (.tup (zs ws)), .sh (enc g), .un, .un] = some [.sh (.tup (zs ws)), .sh (enc g), .un, .sh (.int (i : Int))] from rfl]
  show (tYesT _).bind _ = _
  rw [show tYesT [.sh (.tup (zs ws)), .sh (enc g), .un, .sh (.int (i : Int))] = .ok true [.sh (.tup (zs ws)), .sh (enc g), .un, .sh (.int (i : Int))] from rfl, Ou.bind_ok, if_pos rfl, e]
  rfl
theorem zipw_range (ws g : List Int) (hl : ws.length = g.length) : List.zipWith (fun a b => a * b) ws g = (List.range g.length).map fun i => ws.getD i 0 * g.getD i 0 := by
  apply List.ext_getElem
  · simp [hl]
  · intro i h1 h2
    have hi : i < g.length := by simpa [hl] using h1
    have hi2 : i < ws.length := by omega
    simp [List.getElem?_eq_getElem, hi, hi2]
theorem t_ls (ws g : List Int) (hl : ws.length = g.length) (hs : Small ws) (hz : g.length < 1000) : t_law_sign [.sh (.tup (zs ws)), .sh (enc g)] = .ret (.sh (.int (sgn (dot ws g)))) [.sh (.tup (zs ws)), .sh (enc g)] := by
  have hlen : (zs g).length = g.length := zs_len g
  have w0 : iRng (aCons (eB dLen (aCons (eName 1) aNil)) aNil) [.sh (.tup (zs ws)), .sh (enc g), .un, .un] = .ok (rangeD 0 g.length) [.sh (.tup (zs ws)), .sh (enc g), .un, .un] := by
    have e : eB dLen (aCons (eName 1) aNil) [.sh (.tup (zs ws)), .sh (enc g), .un, .un] = .ok (.sh (.int g.length)) [.sh (.tup (zs ws)), .sh (enc g), .un, .un] := by
      refine eB_of (aOne_of rfl) rfl ?_
      show some (Rv.sh (.int ((zs g).length : Int))) = _
      rw [hlen]
    have z := iRng1_of (aOne_of e) rfl (rngOk_k g.length hz)
    rw [Int.toNat_natCast] at z
    exact z
  have fD : ∀ d ∈ rangeD 0 g.length, ∃ i : Nat, i < g.length ∧ d = .int (i : Int) := fun d hd => by
    unfold rangeD at hd
    obtain ⟨i, hi, rfl⟩ := List.mem_map.mp hd
    exact ⟨i, List.mem_range.mp hi, by rw [Int.zero_add]⟩
  have c := eLc_map (vs := [3]) (g := gN 3) (tt := tYesT) (te := eBin dMul (eBin dIx (eName 0) (eName 3)) (eBin dIx (eName 1) (eName 3))) (fun d => match d with | .int i => .int (ws.getD i.toNat 0 * g.getD i.toNat 0) | _ => .non) w0 rfl (fun d hd => by
    obtain ⟨i, hi, rfl⟩ := fD d hd
    refine (ls_turn ws g i hi hl hs).trans ?_
    have hi2 : i < ws.length := by omega
    simp [List.getElem?_eq_getElem, hi, hi2]
    rfl) (by rw [rangeD_len, sizeLine_eq]; omega) rfl
  have e2 : (rangeD 0 g.length).map (fun d => match d with | .int i => D.int (ws.getD i.toNat 0 * g.getD i.toNat 0) | _ => .non) = zs (List.zipWith (fun a b => a * b) ws g) := by
    rw [zipw_range ws g hl]
    unfold rangeD zs
    simp only [List.map_map]
    apply List.map_congr_left
    intro i _
    show D.int _ = D.int _
    rw [Int.zero_add, Int.toNat_natCast]
  rw [e2] at c
  have s1 : b_law_sign_1 [.sh (.tup (zs ws)), .sh (enc g), .un, .un] = .nx [.sh (.tup (zs ws)), .sh (enc g), .sh (.int (dot ws g)), .un] := by
    refine sSet_of (eB_of (aOne_of c) (ds := [.lst (zs (List.zipWith (fun a b => a * b) ws g))]) rfl (res := .sh (.int (dot ws g))) ?_) rfl
    exact dSum_zs _
  have s2 : b_law_sign_2 [.sh (.tup (zs ws)), .sh (enc g), .sh (.int (dot ws g)), .un] = .rt (.sh (.int (sgn (dot ws g)))) [.sh (.tup (zs ws)), .sh (enc g), .sh (.int (dot ws g)), .un] := by
    simp [b_law_sign_2, semF, fin, fRet, retSl, backA, eName, eC, eBin, eUn, on2, on1, ans, peek, frz, frzs, peeks, onL, eB, aNil, aCons, aStar, Rv.hold, Ou.bind_ok, Ou.bind_ex, Ou.bind_bad, outOf_ok, outOf_ex, outOf_bad, stor, ofO, sSet, sDrop, sRet, sRetN, sIf, sNx, sSeq, sRaise, eTup, eLst, eSl, oNo, oSo, eChain_if, tOf, asB, tNotT, tAndT, tOrT, eAndV, eOrV, eNotV, tTru, asT, truth, eIf, gN, gT, gConsD, gNilD, sAsg, sAug, dAdd, dMul, dIx, fI, fIc, fB, rvB, dNeg, dLt, dLe, dIs, dIsN, dLen, dAbs, dInt, dTuple, dList, dIsi, tyName, isSubT, dEq, dNe, okEq, plainD, plainDs, dep, deps, eqD, eqDs, atI_0, atI_1, atI_2, ite_bindO, ite_outOf, dSl, asI, eCall, fAns, rvOf, Sl.with, sgn]
  exact semF_of ((sSeq_nx s1).trans s2)
end K40
namespace K40
open PySem PySem.Spec PyProof.Rows L2 LD
section
variable (ws vs : List Int) (l m c : Int)
abbrev A3 (ws vs : List Int) (l m c : Int) : Sls := [.sh (rl ws l m), .sh (rl vs l m), .sh (.int c)]
abbrev S10 (ws vs : List Int) (l m c : Int) (s3 s4 s5 s6 s7 s9 : Sl) : Sls := [.sh (rl ws l m), .sh (rl vs l m), .sh (.int c), s3, s4, s5, s6, s7, .un, s9]
def wid (l m c : Int) : Int := c * (m - l)
theorem lg_1 (hc : cMul c (m - l) = true) : b_least_gap_1 (S10 ws vs l m c .un .un .un .un .un .un) = .nx (S10 ws vs l m c (.sh (.int (wid l m c))) .un .un .un .un .un) := by
  simp [b_least_gap_1, S10, semF, fin, fRet, retSl, backA, eName, eC, eBin, eUn, on2, on1, ans, peek, frz, frzs, peeks, onL, eB, aNil, aCons, aStar, Rv.hold, Ou.bind_ok, Ou.bind_ex, Ou.bind_bad, outOf_ok, outOf_ex, outOf_bad, stor, ofO, sSet, sDrop, sRet, sRetN, sIf, sNx, sSeq, sRaise, eTup, eLst, eSl, oNo, oSo, eChain_if, tOf, asB, tNotT, tAndT, tOrT, eAndV, eOrV, eNotV, tTru, asT, truth, eIf, gN, gT, gConsD, gNilD, sAsg, sAug, dAdd, dMul, dIx, fI, fIc, fB, rvB, dNeg, dLt, dLe, dIs, dIsN, dLen, dAbs, dInt, dTuple, dList, dIsi, tyName, isSubT, dEq, dNe, okEq, plainD, plainDs, dep, deps, eqD, eqDs, atI_0, atI_1, atI_2, ite_bindO, ite_outOf, dSl, asI, eCall, fAns, rvOf, Sl.with, hc, wid]
theorem lg_2 (s3 : Sl) : b_least_gap_2 (S10 ws vs l m c s3 .un .un .un .un .un) = .nx (S10 ws vs l m c s3 (.sh (.int 1)) .un .un .un .un) := rfl
theorem lg_3s (w n : Int) (d : D) (s5 : Sl) (h5 : unsh s5) (hb : (2 * w + 1).natAbs < 2 ^ 64) : ∃ S1, gN 5 d (S10 ws vs l m c (.sh (.int w)) (.sh (.int n)) s5 .un .un .un) = some S1 ∧ b_least_gap_3l1 S1 = .nx (S10 ws vs l m c (.sh (.int w)) (.sh (.int (n * (2 * w + 1)))) (.sh d) .un .un .un) := by
  refine ⟨S10 ws vs l m c (.sh (.int w)) (.sh (.int n)) (.sh d) .un .un .un, by rcases h5 with rfl | ⟨d', rfl⟩ <;> rfl, ?_⟩
  have h1 : cMul 2 w = true := by unfold cMul; simp
  have h2 : cMul n (2 * w + 1) = true := by unfold cMul; simp [hb]
  simp [b_least_gap_3l1, S10, semF, fin, fRet, retSl, backA, eName, eC, eBin, eUn, on2, on1, ans, peek, frz, frzs, peeks, onL, eB, aNil, aCons, aStar, Rv.hold, Ou.bind_ok, Ou.bind_ex, Ou.bind_bad, outOf_ok, outOf_ex, outOf_bad, stor, ofO, sSet, sDrop, sRet, sRetN, sIf, sNx, sSeq, sRaise, eTup, eLst, eSl, oNo, oSo, eChain_if, tOf, asB, tNotT, tAndT, tOrT, eAndV, eOrV, eNotV, tTru, asT, truth, eIf, gN, gT, gConsD, gNilD, sAsg, sAug, dAdd, dMul, dIx, fI, fIc, fB, rvB, dNeg, dLt, dLe, dIs, dIsN, dLen, dAbs, dInt, dTuple, dList, dIsi, tyName, isSubT, dEq, dNe, okEq, plainD, plainDs, dep, deps, eqD, eqDs, atI_0, atI_1, atI_2, ite_bindO, ite_outOf, dSl, asI, eCall, fAns, rvOf, Sl.with, h1, h2]
theorem lg_3 (w : Int) (hb : (2 * w + 1).natAbs < 2 ^ 64) : ∃ s5, b_least_gap_3 (S10 ws vs l m c (.sh (.int w)) (.sh (.int 1)) .un .un .un .un) = .nx (S10 ws vs l m c (.sh (.int w)) (.sh (.int ((2 * w + 1) ^ ws.length))) s5 .un .un .un) := by
  obtain ⟨S', e, s5, hS, _⟩ := forL_iter (g := gN 5) (b := b_least_gap_3l1) (fun i S => ∃ s5, S = S10 ws vs l m c (.sh (.int w)) (.sh (.int ((2 * w + 1) ^ i))) s5 .un .un .un ∧ unsh s5) ws.length (fun i d S hi ⟨s5, hS, h5⟩ => by
    subst hS
    obtain ⟨S1, h1, h2⟩ := lg_3s ws vs l m c w ((2 * w + 1) ^ i) d s5 h5 hb
    exact ⟨S1, _, h1, h2, .sh d, by rw [Int.pow_succ], .inr ⟨d, rfl⟩⟩) (zs ws) 0 (S10 ws vs l m c (.sh (.int w)) (.sh (.int 1)) .un .un .un .un) ⟨.un, by rw [Int.pow_zero], .inl rfl⟩ (by rw [zs_len]; omega)
  rw [zs_len, Nat.zero_add] at hS
  subst hS
  refine ⟨s5, (sFor_of (ds := zs ws) ?_).trans e⟩
  simp [iSeq, itemsOf, S10, semF, fin, fRet, retSl, backA, eName, eC, eBin, eUn, on2, on1, ans, peek, frz, frzs, peeks, onL, eB, aNil, aCons, aStar, Rv.hold, Ou.bind_ok, Ou.bind_ex, Ou.bind_bad, outOf_ok, outOf_ex, outOf_bad, stor, ofO, sSet, sDrop, sRet, sRetN, sIf, sNx, sSeq, sRaise, eTup, eLst, eSl, oNo, oSo, eChain_if, tOf, asB, tNotT, tAndT, tOrT, eAndV, eOrV, eNotV, tTru, asT, truth, eIf, gN, gT, gConsD, gNilD, sAsg, sAug, dAdd, dMul, dIx, fI, fIc, fB, rvB, dNeg, dLt, dLe, dIs, dIsN, dLen, dAbs, dInt, dTuple, dList, dIsi, tyName, isSubT, dEq, dNe, okEq, plainD, plainDs, dep, deps, eqD, eqDs, atI_0, atI_1, atI_2, ite_bindO, ite_outOf, dSl, asI, eCall, fAns, rvOf, Sl.with]
theorem lg_4 (s3 s5 : Sl) (n : Int) : b_least_gap_4 (S10 ws vs l m c s3 (.sh (.int n)) s5 .un .un .un) = if decide (20000 < n) = true then .ex Tl (S10 ws vs l m c s3 (.sh (.int n)) s5 .un .un .un) else .nx (S10 ws vs l m c s3 (.sh (.int n)) s5 .un .un .un) := by
  by_cases h : 20000 < n <;> simp [b_least_gap_4, b_least_gap_4a1, S10, semF, fin, fRet, retSl, backA, eName, eC, eBin, eUn, on2, on1, ans, peek, frz, frzs, peeks, onL, eB, aNil, aCons, aStar, Rv.hold, Ou.bind_ok, Ou.bind_ex, Ou.bind_bad, outOf_ok, outOf_ex, outOf_bad, stor, ofO, sSet, sDrop, sRet, sRetN, sIf, sNx, sSeq, sRaise, eTup, eLst, eSl, oNo, oSo, eChain_if, tOf, asB, tNotT, tAndT, tOrT, eAndV, eOrV, eNotV, tTru, asT, truth, eIf, gN, gT, gConsD, gNilD, sAsg, sAug, dAdd, dMul, dIx, fI, fIc, fB, rvB, dNeg, dLt, dLe, dIs, dIsN, dLen, dAbs, dInt, dTuple, dList, dIsi, tyName, isSubT, dEq, dNe, okEq, plainD, plainDs, dep, deps, eqD, eqDs, atI_0, atI_1, atI_2, ite_bindO, ite_outOf, dSl, asI, eCall, fAns, rvOf, Sl.with, h]
theorem pow_bound (w : Int) (n : Nat) (h0 : 0 ≤ w) (hb : (2 * w + 1) ^ n ≤ 20000) : ∀ j, j ≤ n → (w + 1 + w).toNat ^ j ≤ sizeLine := fun j hj => by
  have e : (((w + 1 + w).toNat ^ n : Nat) : Int) = (2 * w + 1) ^ n := by
    rw [Int.natCast_pow]
    congr 1
    omega
  have h1 : (w + 1 + w).toNat ^ n ≤ 20000 := by omega
  have h2 : (w + 1 + w).toNat ^ j ≤ (w + 1 + w).toNat ^ n := Nat.pow_le_pow_right (by omega) hj
  rw [sizeLine_eq]
  omega
theorem lg_5 (hw : Small ws) (hv : Small vs) (lw : ws.length < 1000) (lv : vs.length < 1000) (w n : Int) (s5 : Sl) (h0 : 0 ≤ w) (h1 : w < 2 ^ 60) (hb : (2 * w + 1) ^ ws.length ≤ 20000) :
    ∃ S', S'.length = 10 ∧ (∃ s4 s5 s6 s7 s9, S' = S10 ws vs l m c (.sh (.int w)) s4 s5 s6 s7 s9) ∧ b_least_gap_5 (S10 ws vs l m c (.sh (.int w)) (.sh (.int n)) s5 .un .un .un) = (match (gaps w ws.length).find? (differs ws vs) with
      | some g => .rt (.sh (enc g)) S'
      | none => .nx S') := by
  have zl : ws.length ≤ sizeLine := by rw [sizeLine_eq]; omega
  have zv : vs.length ≤ sizeLine := by rw [sizeLine_eq]; omega
  obtain ⟨S', ⟨s6, s7, s9, hS, _⟩, e⟩ := forL_find (g := gN 6) (b := sSeq b_least_gap_5l1 (sSeq b_least_gap_5l2 b_least_gap_5l3)) enc (differs ws vs) (fun S => ∃ s6 s7 s9, S = S10 ws vs l m c (.sh (.int w)) (.sh (.int n)) s5 s6 s7 s9 ∧ unsh s6 ∧ unsh s7 ∧ unsh s9) (gaps w ws.length)
    (S10 ws vs l m c (.sh (.int w)) (.sh (.int n)) s5 .un .un .un) ⟨.un, .un, .un, rfl, .inl rfl, .inl rfl, .inl rfl⟩ (fun g _ S ⟨s6, s7, s9, hS, h6, h7, h9⟩ => by
      subst hS
      obtain ⟨z1, z2⟩ := lgap_turn ws vs (.int l) (.int m) (.sh (.int c)) (.sh (.int w)) (.int n) s5 hw hv zl zv g s6 s7 s9 h6 h7 h9
      refine ⟨_, z1, ?_⟩
      cases hd : differs ws vs g with
      | false =>
        rw [hd, if_neg Bool.false_ne_true] at z2
        exact .inl ⟨rfl, _, z2, _, _, _, rfl, .inr ⟨_, rfl⟩, .inr ⟨_, rfl⟩, .inr ⟨_, rfl⟩⟩
      | true =>
        rw [hd, if_pos rfl] at z2
        exact .inr ⟨rfl, _, z2, _, _, _, rfl, .inr ⟨_, rfl⟩, .inr ⟨_, rfl⟩, .inr ⟨_, rfl⟩⟩)
  subst hS
  refine ⟨S10 ws vs l m c (.sh (.int w)) (.sh (.int n)) s5 s6 s7 s9, rfl, ⟨_, s5, s6, s7, s9, rfl⟩, ?_⟩
  have a := t_ag w ws.length h0 h1 lw (pow_bound w ws.length h0 hb)
  have e1 : eBin dIx (eName 0) (eC (.int 0)) (S10 ws vs l m c (.sh (.int w)) (.sh (.int n)) s5 .un .un .un) = .ok (.sh (.tup (zs ws))) (S10 ws vs l m c (.sh (.int w)) (.sh (.int n)) s5 .un .un .un) := rfl
  have e2 : eB dLen (aCons (eBin dIx (eName 0) (eC (.int 0))) aNil) (S10 ws vs l m c (.sh (.int w)) (.sh (.int n)) s5 .un .un .un) = .ok (.sh (.int ws.length)) (S10 ws vs l m c (.sh (.int w)) (.sh (.int n)) s5 .un .un .un) :=
    eB_of (aOne_of e1) (ds := [.tup (zs ws)]) rfl (by show some (Rv.sh (.int ((zs ws).length : Int))) = _; rw [zs_len])
  have e3 : aCons (eName 3) (aCons (eB dLen (aCons (eBin dIx (eName 0) (eC (.int 0))) aNil)) aNil) (S10 ws vs l m c (.sh (.int w)) (.sh (.int n)) s5 .un .un .un) = .ok [.sh (.int w), .sh (.int ws.length)] (S10 ws vs l m c (.sh (.int w)) (.sh (.int n)) s5 .un .un .un) := by
    unfold aCons
    rw [show eName 3 (S10 ws vs l m c (.sh (.int w)) (.sh (.int n)) s5 .un .un .un) = .ok (.sh (.int w)) (S10 ws vs l m c (.sh (.int w)) (.sh (.int n)) s5 .un .un .un) from rfl, Ou.bind_ok]
    have z := aOne_of e2
    unfold aCons at z
    rw [z]
    rfl
  have e4 : eCall t_all_gaps (aCons (eName 3) (aCons (eB dLen (aCons (eBin dIx (eName 0) (eC (.int 0))) aNil)) aNil)) (S10 ws vs l m c (.sh (.int w)) (.sh (.int n)) s5 .un .un .un) = .ok (.ow (.lst ((gaps w ws.length).map enc))) (S10 ws vs l m c (.sh (.int w)) (.sh (.int n)) s5 .un .un .un) :=
    (eCall_of e3 (ds := [.int w, .int ws.length]) rfl a).trans rfl
  have e5 : iSeq itemsOf (eCall t_all_gaps (aCons (eName 3) (aCons (eB dLen (aCons (eBin dIx (eName 0) (eC (.int 0))) aNil)) aNil))) (S10 ws vs l m c (.sh (.int w)) (.sh (.int n)) s5 .un .un .un) = .ok ((gaps w ws.length).map enc) (S10 ws vs l m c (.sh (.int w)) (.sh (.int n)) s5 .un .un .un) := by
    unfold iSeq
    rw [e4]
    rfl
  refine (sFor_of e5).trans (e.trans ?_)
  cases (gaps w ws.length).find? (differs ws vs) <;> rfl
end
/-- what least_gap gives -/
def lgRes (ws vs : List Int) (l m c : Int) : FOut :=
  if 20000 < (2 * wid l m c + 1) ^ ws.length then .ex Tl (A3 ws vs l m c) else match (gaps (wid l m c) ws.length).find? (differs ws vs) with
    | some g => .ret (.sh (enc g)) (A3 ws vs l m c)
    | none => .ret (.sh .non) (A3 ws vs l m c)
theorem t_lgap (ws vs : List Int) (l m c : Int) (hw : Small ws) (hv : Small vs) (lw : ws.length < 1000) (lv : vs.length < 1000) (hc : cMul c (m - l) = true) (h0 : 0 ≤ wid l m c) (h1 : wid l m c < 2 ^ 60) : t_least_gap (A3 ws vs l m c) = lgRes ws vs l m c := by
  have hb : (2 * wid l m c + 1).natAbs < 2 ^ 64 := by omega
  obtain ⟨s5, a3⟩ := lg_3 ws vs l m c (wid l m c) hb
  have a4 := lg_4 ws vs l m c (.sh (.int (wid l m c))) s5 ((2 * wid l m c + 1) ^ ws.length)
  have st : ∀ o, b_least_gap (S10 ws vs l m c .un .un .un .un .un .un) = o → t_least_gap (A3 ws vs l m c) = fin (A3 ws vs l m c) o := fun o h => semF_of h
  have go : b_least_gap (S10 ws vs l m c .un .un .un .un .un .un) = sSeq b_least_gap_4 (sSeq b_least_gap_5 b_least_gap_6) (S10 ws vs l m c (.sh (.int (wid l m c))) (.sh (.int ((2 * wid l m c + 1) ^ ws.length))) s5 .un .un .un) := by
    unfold b_least_gap
    rw [sSeq_nx (lg_1 ws vs l m c hc), sSeq_nx (lg_2 ws vs l m c _), sSeq_nx a3]
  unfold lgRes
  by_cases hbig : 20000 < (2 * wid l m c + 1) ^ ws.length
  · rw [if_pos (decide_eq_true hbig)] at a4
    rw [if_pos hbig, st _ (go.trans (sSeq_ex a4))]
    rfl
  · rw [if_neg (by simp [hbig])] at a4
    rw [if_neg hbig]
    obtain ⟨S', _, ⟨s4, s5', s6, s7, s9, hS⟩, e5⟩ := lg_5 ws vs l m c hw hv lw lv (wid l m c) ((2 * wid l m c + 1) ^ ws.length) s5 h0 h1 (by omega)
    subst hS
    cases hf : (gaps (wid l m c) ws.length).find? (differs ws vs) with
    | some g =>
      rw [hf] at e5
      rw [st _ (go.trans ((sSeq_nx a4).trans (sSeq_rt e5)))]
      rfl
    | none =>
      rw [hf] at e5
      rw [st _ (go.trans ((sSeq_nx a4).trans ((sSeq_nx e5).trans (sRet_of rfl))))]
      rfl
end K40
namespace K40
open PySem PySem.Spec PyProof.Rows L2 LD
/-! ### the law's own due -/
abbrev S4 (ws vs : List Int) (l m c : Int) (s3 : Sl) : Sls := [.sh (rl ws l m), .sh (rl vs l m), .sh (.int c), s3]
def found (ws vs : List Int) (w : Int) : Option (List Int) := (gaps w ws.length).find? (differs ws vs)
def foundD (ws vs : List Int) (w : Int) : D := match found ws vs w with
  | some g => enc g
  | none => .non
theorem due_turn (ws vs : List Int) (l m c : Int) (hw : Small ws) (hv : Small vs) (lw : ws.length < 1000) (hl : ws.length = vs.length) (g : List Int) (hg : g.length = ws.length) (s3 : Sl) (h3 : unsh s3) :
    gN 3 (enc g) (S4 ws vs l m c s3) = some (S4 ws vs l m c (.sh (enc g))) ∧ b_law_due_1l1 (S4 ws vs l m c (.sh (enc g))) = if differs ws vs g = true then .rt (.sh (enc g)) (S4 ws vs l m c (.sh (enc g))) else .nx (S4 ws vs l m c (.sh (enc g))) := by
  constructor
  · rcases h3 with rfl | ⟨d, rfl⟩ <;> rfl
  · have a1 := t_ls ws g hg.symm hw (by omega)
    have a2 := t_ls vs g (by omega) hv (by omega)
    have e1 : eCall t_law_sign (aCons (eBin dIx (eName 0) (eC (.int 0))) (aCons (eName 3) aNil)) (S4 ws vs l m c (.sh (enc g))) = .ok (.sh (.int (sgn (dot ws g)))) (S4 ws vs l m c (.sh (enc g))) := (eCall_of (rs := [.sh (.tup (zs ws)), .sh (enc g)]) (S1 := S4 ws vs l m c (.sh (enc g))) rfl rfl a1).trans rfl
    have e2 : eCall t_law_sign (aCons (eBin dIx (eName 1) (eC (.int 0))) (aCons (eName 3) aNil)) (S4 ws vs l m c (.sh (enc g))) = .ok (.sh (.int (sgn (dot vs g)))) (S4 ws vs l m c (.sh (enc g))) := (eCall_of (rs := [.sh (.tup (zs vs)), .sh (enc g)]) (S1 := S4 ws vs l m c (.sh (enc g))) rfl rfl a2).trans rfl
    have e3 : tOf (eBin qNe (eCall t_law_sign (aCons (eBin dIx (eName 0) (eC (.int 0))) (aCons (eName 3) aNil))) (eCall t_law_sign (aCons (eBin dIx (eName 1) (eC (.int 0))) (aCons (eName 3) aNil)))) (S4 ws vs l m c (.sh (enc g))) = .ok (differs ws vs g) (S4 ws vs l m c (.sh (enc g))) := by
      refine tOf_of (r := .sh (.bl (differs ws vs g))) (eBin_of e1 e2 (on2_of rfl rfl ?_)) rfl
      by_cases h : sgn (dot ws g) = sgn (dot vs g) <;> simp [semF, fin, fRet, retSl, backA, eName, eC, eBin, eUn, on2, on1, ans, peek, frz, frzs, peeks, onL, eB, aNil, aCons, aStar, Rv.hold, Ou.bind_ok, Ou.bind_ex, Ou.bind_bad, outOf_ok, outOf_ex, outOf_bad, stor, ofO, sSet, sDrop, sRet, sRetN, sIf, sNx, sSeq, sRaise, eTup, eLst, eSl, oNo, oSo, eChain_if, tOf, asB, tNotT, tAndT, tOrT, eAndV, eOrV, eNotV, tTru, asT, truth, eIf, gN, gT, gConsD, gNilD, sAsg, sAug, dAdd, dMul, dIx, fI, fIc, fB, rvB, dNeg, dLt, dLe, dIs, dIsN, dLen, dAbs, dInt, dTuple, dList, dIsi, tyName, isSubT, dEq, dNe, okEq, plainD, plainDs, dep, deps, eqD, eqDs, atI_0, atI_1, atI_2, ite_bindO, ite_outOf, dSl, asI, eCall, fAns, rvOf, Sl.with, differs, h]
    refine (sIf_of e3).trans ?_
    cases differs ws vs g <;> rfl
theorem t_due (ws vs : List Int) (l m c : Int) (hw : Small ws) (hv : Small vs) (lw : ws.length < 1000) (hl : ws.length = vs.length) (hc : cMul c (m - l) = true) (h0 : 0 ≤ wid l m c) (h1 : wid l m c < 2 ^ 60) (hn : 1 ≤ ws.length) (hb : (2 * wid l m c + 1) ^ ws.length ≤ 20000) :
    t_law_due (A3 ws vs l m c) = .ret (.sh (foundD ws vs (wid l m c))) (A3 ws vs l m c) := by
  have pb := pow_bound (wid l m c) ws.length h0 hb
  obtain ⟨s, hs, a⟩ := t_lg (wid l m c) ws.length h0 h1 lw pb (by have := pb 1 hn; rwa [Nat.pow_one] at this)
  obtain ⟨S', ⟨s3, hS, _⟩, e⟩ := forL_find (g := gN 3) (b := b_law_due_1l1) enc (differs ws vs) (fun S => ∃ s3, S = S4 ws vs l m c s3 ∧ unsh s3) (gaps (wid l m c) ws.length) (S4 ws vs l m c .un) ⟨.un, rfl, .inl rfl⟩ (fun g hg S ⟨s3, hS, h3⟩ => by
    subst hS
    obtain ⟨z1, z2⟩ := due_turn ws vs l m c hw hv lw hl g (gaps_mem _ _ g hg).1 s3 h3
    refine ⟨_, z1, ?_⟩
    cases hd : differs ws vs g with
    | false =>
      rw [hd, if_neg Bool.false_ne_true] at z2
      exact .inl ⟨rfl, _, z2, _, rfl, .inr ⟨_, rfl⟩⟩
    | true =>
      rw [hd, if_pos rfl] at z2
      exact .inr ⟨rfl, _, z2, _, rfl, .inr ⟨_, rfl⟩⟩)
  subst hS
  have e0 : eBin dMul (eName 2) (eBin dSub (eBin dIx (eName 0) (eC (.int 2))) (eBin dIx (eName 0) (eC (.int 1)))) (S4 ws vs l m c .un) = .ok (.sh (.int (wid l m c))) (S4 ws vs l m c .un) := by
    simp [S4, semF, fin, fRet, retSl, backA, eName, eC, eBin, eUn, on2, on1, ans, peek, frz, frzs, peeks, onL, eB, aNil, aCons, aStar, Rv.hold, Ou.bind_ok, Ou.bind_ex, Ou.bind_bad, outOf_ok, outOf_ex, outOf_bad, stor, ofO, sSet, sDrop, sRet, sRetN, sIf, sNx, sSeq, sRaise, eTup, eLst, eSl, oNo, oSo, eChain_if, tOf, asB, tNotT, tAndT, tOrT, eAndV, eOrV, eNotV, tTru, asT, truth, eIf, gN, gT, gConsD, gNilD, sAsg, sAug, dAdd, dMul, dIx, fI, fIc, fB, rvB, dNeg, dLt, dLe, dIs, dIsN, dLen, dAbs, dInt, dTuple, dList, dIsi, tyName, isSubT, dEq, dNe, okEq, plainD, plainDs, dep, deps, eqD, eqDs, atI_0, atI_1, atI_2, ite_bindO, ite_outOf, dSl, asI, eCall, fAns, rvOf, Sl.with, hc, wid]
  have e2 : eB dLen (aCons (eBin dIx (eName 0) (eC (.int 0))) aNil) (S4 ws vs l m c .un) = .ok (.sh (.int ws.length)) (S4 ws vs l m c .un) :=
    eB_of (aOne_of rfl) (ds := [.tup (zs ws)]) rfl (by show some (Rv.sh (.int ((zs ws).length : Int))) = _; rw [zs_len])
  have e3 : aCons (eBin dMul (eName 2) (eBin dSub (eBin dIx (eName 0) (eC (.int 2))) (eBin dIx (eName 0) (eC (.int 1))))) (aCons (eB dLen (aCons (eBin dIx (eName 0) (eC (.int 0))) aNil)) aNil) (S4 ws vs l m c .un) = .ok [.sh (.int (wid l m c)), .sh (.int ws.length)] (S4 ws vs l m c .un) := by
    unfold aCons
    rw [e0, Ou.bind_ok]
    have z := aOne_of e2
    unfold aCons at z
    rw [z]
    rfl
  have e5 : iSeq itemsOf (eCall t_law_gaps (aCons (eBin dMul (eName 2) (eBin dSub (eBin dIx (eName 0) (eC (.int 2))) (eBin dIx (eName 0) (eC (.int 1))))) (aCons (eB dLen (aCons (eBin dIx (eName 0) (eC (.int 0))) aNil)) aNil))) (S4 ws vs l m c .un) = .ok ((gaps (wid l m c) ws.length).map enc) (S4 ws vs l m c .un) := by
    unfold iSeq
    rw [eCall_of e3 (ds := [.int (wid l m c), .int ws.length]) rfl a]
    rcases hs with rfl | rfl <;> rfl
  have e6 := (sFor_of e5).trans e
  have st : ∀ o, b_law_due (S4 ws vs l m c .un) = o → t_law_due (A3 ws vs l m c) = fin (A3 ws vs l m c) o := fun o h => semF_of h
  have l1 : b_law_due_1 (S4 ws vs l m c .un) = _ := e6
  unfold foundD found
  cases hf : (gaps (wid l m c) ws.length).find? (differs ws vs) with
  | some g =>
    rw [hf] at l1
    rw [st _ (sSeq_rt l1)]
    rfl
  | none =>
    rw [hf] at l1
    rw [st _ ((sSeq_nx l1).trans (sRet_of rfl))]
    rfl
/-! ### ranks_alike, told -/
theorem em1 : em "NotRight" "NotRight" = some true := by decide +kernel
theorem em2 : em "NotThere" "NotRight" = some false := by decide +kernel
theorem em3 : em "NotThere" "NotThere" = some true := by decide +kernel
theorem em4 : em "TooLarge" "NotRight" = some false := by decide +kernel
theorem em5 : em "TooLarge" "NotThere" = some false := by decide +kernel
theorem em6 : em "TooLarge" "TooLarge" = some true := by decide +kernel
theorem ra_call (r o : D) (c : Int) (t : F) (res : FOut) (h : t [.sh r, .sh o, .sh (.int c)] = res) : eCall t (aCons (eName 0) (aCons (eName 1) (aCons (eName 2) aNil))) [.sh r, .sh o, .sh (.int c)] = fAns [.sh r, .sh o, .sh (.int c)] res := eCall_of (rs := [.sh r, .sh o, .sh (.int c)]) rfl rfl h
theorem told_ret (r o : D) (c : Int) (s : D) (h : t_ranks_alike [.sh r, .sh o, .sh (.int c)] = .ret (.sh s) [.sh r, .sh o, .sh (.int c)]) : t_law_told [.sh r, .sh o, .sh (.int c)] = .ret (.sh s) [.sh r, .sh o, .sh (.int c)] := by
  have z := ra_call r o c _ _ h
  have b : b_law_told [.sh r, .sh o, .sh (.int c)] = .rt (.sh s) [.sh r, .sh o, .sh (.int c)] := by
    show sTry em b_law_told_1t1 _ _ = _
    unfold sTry
    rw [show b_law_told_1t1 [.sh r, .sh o, .sh (.int c)] = .rt (.sh s) [.sh r, .sh o, .sh (.int c)] from sRet_of z]
  exact semF_of b
theorem told_ex (r o : D) (c : Int) (e : Ex) (s : Str) (h : t_ranks_alike [.sh r, .sh o, .sh (.int c)] = .ex e [.sh r, .sh o, .sh (.int c)])
    (hs : (e = Nr ∧ s = "right") ∨ (e = Nt ∧ s = "there") ∨ (e = Tl ∧ s = "large")) : t_law_told [.sh r, .sh o, .sh (.int c)] = .ret (.sh (.str s)) [.sh r, .sh o, .sh (.int c)] := by
  have z := ra_call r o c _ _ h
  have t1 : b_law_told_1t1 [.sh r, .sh o, .sh (.int c)] = .ex e [.sh r, .sh o, .sh (.int c)] := by
    unfold b_law_told_1t1 sRet
    rw [z]
    rfl
  have b : b_law_told [.sh r, .sh o, .sh (.int c)] = .rt (.sh (.str s)) [.sh r, .sh o, .sh (.int c)] := by
    show sTry em b_law_told_1t1 _ _ = _
    unfold sTry
    rw [t1]
    show hdl em e _ _ = _
    rcases hs with ⟨rfl, rfl⟩ | ⟨rfl, rfl⟩ | ⟨rfl, rfl⟩
    · unfold hdl; rw [em1]; rfl
    · unfold hdl; rw [em2]; dsimp only; unfold hdl; rw [em3]; rfl
    · unfold hdl; rw [em4]; dsimp only; unfold hdl; rw [em5]; dsimp only; unfold hdl; rw [em6]; rfl
  exact semF_of b
theorem ra_ex (r o : D) (c : Int) (e : Ex) (h : t_check_rules [.sh r, .sh o, .sh (.int c)] = .ex e [.sh r, .sh o, .sh (.int c)]) : t_ranks_alike [.sh r, .sh o, .sh (.int c)] = .ex e [.sh r, .sh o, .sh (.int c)] := by
  have z := ra_call r o c _ _ h
  have b1 : b_ranks_alike_1 [.sh r, .sh o, .sh (.int c)] = .ex e [.sh r, .sh o, .sh (.int c)] := by
    unfold b_ranks_alike_1 sDrop
    rw [z]
    rfl
  exact semF_of (o := .ex e [.sh r, .sh o, .sh (.int c)]) (sSeq_ex b1)
theorem ra_go (r o : D) (c : Int) (h : t_check_rules [.sh r, .sh o, .sh (.int c)] = .ret (.sh .non) [.sh r, .sh o, .sh (.int c)]) : t_ranks_alike [.sh r, .sh o, .sh (.int c)] = match t_least_gap [.sh r, .sh o, .sh (.int c)] with
    | .ret (.sh d) _ => .ret (.sh d) [.sh r, .sh o, .sh (.int c)]
    | .ret (.ow d) _ => .ret (.ow d) [.sh r, .sh o, .sh (.int c)]
    | .ex e _ => .ex e [.sh r, .sh o, .sh (.int c)]
    | _ => .bad := by
  have z := ra_call r o c _ _ h
  have b1 : b_ranks_alike_1 [.sh r, .sh o, .sh (.int c)] = .nx [.sh r, .sh o, .sh (.int c)] := sDrop_of z
  have z2 := ra_call r o c t_least_gap _ rfl
  have st : ∀ out, b_ranks_alike [.sh r, .sh o, .sh (.int c)] = out → t_ranks_alike [.sh r, .sh o, .sh (.int c)] = fin [.sh r, .sh o, .sh (.int c)] out := fun out h => semF_of h
  have b2 : b_ranks_alike [.sh r, .sh o, .sh (.int c)] = outOf (fAns [.sh r, .sh o, .sh (.int c)] (t_least_gap [.sh r, .sh o, .sh (.int c)])) fun r S1 => .rt r S1 := by
    rw [← z2]
    exact sSeq_nx b1
  rw [st _ b2]
  cases t_least_gap [.sh r, .sh o, .sh (.int c)] with
  | bad => rfl
  | ex e A => rfl
  | ret s A => cases s <;> rfl
section
variable (ws vs : List Int) (l m l2 m2 c : Int) (lw : ws.length < 1000) (ok : okRule ws l m = true)
include lw ok
theorem told_non : t_law_told [.sh (rl ws l m), .sh .non, .sh (.int c)] = .ret (.sh (.str "right")) [.sh (rl ws l m), .sh .non, .sh (.int c)] :=
  told_ex _ _ _ _ _ (ra_ex _ _ _ _ (t_crs_non ws l m c (by rw [sizeLine_eq]; omega) ok)) (.inl ⟨rfl, rfl⟩)
theorem told_right (lv : vs.length < 1000) (h : okBoth ws vs l m l2 m2 = false) : t_law_told [.sh (rl ws l m), .sh (rl vs l2 m2), .sh (.int c)] = .ret (.sh (.str "right")) [.sh (rl ws l m), .sh (rl vs l2 m2), .sh (.int c)] := by
  have z := t_crs ws vs l m l2 m2 c (by rw [sizeLine_eq]; omega) (by rw [sizeLine_eq]; omega) ok
  rw [h, if_neg Bool.false_ne_true] at z
  exact told_ex _ _ _ _ _ (ra_ex _ _ _ _ z) (.inl ⟨rfl, rfl⟩)
theorem told_there (lv : vs.length < 1000) (h : okBoth ws vs l m l2 m2 = true) (hc : ¬ (1 ≤ c ∧ c ≤ 6)) : t_law_told [.sh (rl ws l m), .sh (rl vs l2 m2), .sh (.int c)] = .ret (.sh (.str "there")) [.sh (rl ws l m), .sh (rl vs l2 m2), .sh (.int c)] := by
  have z := t_crs ws vs l m l2 m2 c (by rw [sizeLine_eq]; omega) (by rw [sizeLine_eq]; omega) ok
  rw [h, if_pos rfl, if_neg (by simp only [Bool.and_eq_true, decide_eq_true_eq]; exact hc)] at z
  exact told_ex _ _ _ _ _ (ra_ex _ _ _ _ z) (.inr (.inl ⟨rfl, rfl⟩))
end
theorem okW_small {ws : List Int} (h : ws.all okW = true) : Small ws := fun a ha => by
  have z := List.all_eq_true.mp h a ha
  unfold okW at z
  simp only [Bool.and_eq_true, decide_eq_true_eq] at z
  omega
theorem okRule_parts {ws : List Int} {l m : Int} (h : okRule ws l m = true) : 1 ≤ ws.length ∧ ws.length ≤ 4 ∧ ws.all okW = true ∧ -10 ≤ l ∧ m ≤ 10 ∧ 2 ≤ m - l := by
  unfold okRule at h
  simp only [decide_eq_true_eq, Bool.and_eq_true] at h
  obtain ⟨⟨⟨h1, h2⟩, h3⟩, h4, h5, h6⟩ := h
  exact ⟨by omega, by omega, h3, h4, h5, h6⟩
/-- told, where all is right -/
theorem told_find (ws vs : List Int) (l m c : Int) (ok : okRule ws l m = true) (h : okBoth ws vs l m l m = true) (hc : 1 ≤ c ∧ c ≤ 6) :
    t_law_told (A3 ws vs l m c) = .ret (.sh (if 20000 < (2 * wid l m c + 1) ^ ws.length then .str "large" else foundD ws vs (wid l m c))) (A3 ws vs l m c) := by
  obtain ⟨p1, p2, p3, p4, p5, p6⟩ := okRule_parts ok
  have h' := h
  unfold okBoth at h'
  simp only [decide_eq_true_eq, Bool.and_eq_true] at h'
  obtain ⟨⟨ok2, _⟩, hl⟩ := h'
  obtain ⟨_, q2, q3, _⟩ := okRule_parts ok2
  have z := t_crs ws vs l m l m c (by rw [sizeLine_eq]; omega) (by rw [sizeLine_eq]; omega) ok
  rw [h, if_pos rfl, if_pos (by simp only [Bool.and_eq_true, decide_eq_true_eq]; exact hc)] at z
  have hml : 2 ≤ m - l ∧ m - l ≤ 20 := by omega
  have w0 : 0 ≤ wid l m c := by unfold wid; exact Int.mul_nonneg (by omega) (by omega)
  have w1 : wid l m c ≤ 6 * 20 := by unfold wid; exact Int.mul_le_mul hc.2 hml.2 (by omega) (by omega)
  have cm : cMul c (m - l) = true := by unfold cMul; simp; omega
  have g := t_lgap ws vs l m c (okW_small p3) (okW_small q3) (by omega) (by omega) cm w0 (by omega)
  have ra := ra_go _ _ _ z
  rw [g] at ra
  unfold lgRes at ra
  by_cases hb : 20000 < (2 * wid l m c + 1) ^ ws.length
  · rw [if_pos hb] at ra ⊢
    exact told_ex _ _ _ _ _ ra (.inr (.inr ⟨rfl, rfl⟩))
  · rw [if_neg hb] at ra ⊢
    unfold foundD found
    cases hf : (gaps (wid l m c) ws.length).find? (differs ws vs) with
    | some x => rw [hf] at ra; exact told_ret _ _ _ _ ra
    | none => rw [hf] at ra; exact told_ret _ _ _ _ ra
end K40
namespace K40
open PySem PySem.Spec PyProof.Rows L2 LD
/-! ### expressions that give some int, some truth value -/
def IsI (t : E) (S : Sls) : Prop := ∃ v, t S = .ok (.sh (.int v)) S
def IsT (t : T) (S : Sls) : Prop := ∃ b, t S = .ok b S
theorem isI_name {i : Nat} {S : Sls} {v : Int} (h : S[i]? = some (.sh (.int v))) : IsI (eName i) S := ⟨v, by unfold eName; rw [h]⟩
theorem isI_c {v : Int} {S : Sls} : IsI (eC (.int v)) S := ⟨v, rfl⟩
theorem isI_add {a b : E} {S : Sls} (ha : IsI a S) (hb : IsI b S) : IsI (eBin dAdd a b) S := by
  obtain ⟨x, ha⟩ := ha
  obtain ⟨y, hb⟩ := hb
  exact ⟨x + y, eBin_of ha hb rfl⟩
theorem isI_mul {a : E} {S : Sls} {c : Int} (ha : IsI a S) (hc : c.natAbs < 2 ^ 64) : IsI (eBin dMul a (eC (.int c))) S := by
  obtain ⟨x, ha⟩ := ha
  refine ⟨x * c, eBin_of ha rfl (on2_of rfl rfl ?_)⟩
  show (if cMul x c = true then _ else _) = _
  rw [if_pos]
  unfold cMul; simp [hc]
theorem isI_mod {a : E} {S : Sls} {c : Int} (ha : IsI a S) (hc : 0 < c) : IsI (eBin dMod a (eC (.int c))) S := by
  obtain ⟨x, ha⟩ := ha
  refine ⟨x % c, eBin_of ha rfl (on2_of rfl rfl ?_)⟩
  show (if decide (0 < c) = true then _ else _) = _
  rw [if_pos (decide_eq_true hc)]
theorem isI_div {a : E} {S : Sls} {c : Int} (ha : IsI a S) (hc : 0 < c) (h2 : c < 1073741824) : IsI (eBin dFdiv a (eC (.int c))) S := by
  obtain ⟨x, ha⟩ := ha
  refine ⟨x / c, eBin_of ha rfl (on2_of rfl rfl ?_)⟩
  show (if cDiv x c = true then _ else _) = _
  rw [if_pos (show cDiv x c = true from decide_eq_true ⟨hc, h2⟩)]
theorem isI_int {a : E} {S : Sls} (ha : IsI a S) : IsI (eB dInt (aCons a aNil)) S := by
  obtain ⟨x, ha⟩ := ha
  exact ⟨x, eB_of (aOne_of ha) (ds := [.int x]) rfl rfl⟩
theorem isI_abs {a : E} {S : Sls} (ha : IsI a S) : IsI (eB dAbs (aCons a aNil)) S := by
  obtain ⟨x, ha⟩ := ha
  exact ⟨_, eB_of (aOne_of ha) (ds := [.int x]) rfl rfl⟩
theorem isT_lt {a b : E} {S : Sls} (ha : IsI a S) (hb : IsI b S) : IsT (tOf (eBin qLt a b)) S := by
  obtain ⟨x, ha⟩ := ha
  obtain ⟨y, hb⟩ := hb
  exact ⟨decide (x < y), tOf_of (eBin_of ha hb rfl) rfl⟩
theorem isT_gt {a b : E} {S : Sls} (ha : IsI a S) (hb : IsI b S) : IsT (tOf (eBin qGt a b)) S := by
  obtain ⟨x, ha⟩ := ha
  obtain ⟨y, hb⟩ := hb
  exact ⟨decide (y < x), tOf_of (eBin_of ha hb rfl) rfl⟩
/-- append of an int -/
theorem app_int {te : E} {S : Sls} {ds : List Int} {j : Nat} (hj : S[j]? = some (.ow (.lst (zs ds)))) (h : IsI te S) (hz : ds.length < sizeLine) : ∃ v, sDrop (eMut "list" mAppend j (aCons te aNil)) S = .nx (S.set j (.ow (.lst (zs (ds ++ [v]))))) := by
  obtain ⟨v, h⟩ := h
  refine ⟨v, sDrop_of (r := .sh .non) ?_⟩
  unfold eMut
  rw [hj]
  show (if tyOf (.lst (zs ds)) = some "list" then _ else _) = _
  rw [if_pos (show tyOf (.lst (zs ds)) = some "list" from rfl), aOne_of h, Ou.bind_ok, show frzs S [Rv.hold (.sh (.int v))] = some ([.int v], S) from rfl]
  dsimp only
  rw [hj]
  show mAns S j (.ow (.lst (zs ds))) (if (zs ds).length < sizeLine then some (D.non, D.lst (zs ds ++ [.int v])) else none) = _
  rw [if_pos (by rw [zs_len]; exact hz), zs_app]
  rfl
theorem unsh_set {S : Sls} {i : Nat} {s : Sl} {d : D} (h : S[i]? = some s) (hu : unsh s) : stor S i (.sh d) = some (S.set i (.sh d)) := by
  unfold stor
  rw [h]
  rcases hu with rfl | ⟨d', rfl⟩ <;> rfl
theorem set_int {i : Nat} {te : E} {S : Sls} {s : Sl} (h : S[i]? = some s) (hu : unsh s) (ht : IsI te S) : ∃ v, sSet i te S = .nx (S.set i (.sh (.int v))) := by
  obtain ⟨v, ht⟩ := ht
  exact ⟨v, sSet_of ht (unsh_set h hu)⟩
/-! ### draws -/
abbrev SD (ns ds : List Int) (s2 s3 s4 s5 s6 : Sl) : Sls := [.sh (.lst (zs ns)), .ow (.lst (zs ds)), s2, s3, s4, s5, s6]
def zl (n : Nat) (h : n < 100000) : n < sizeLine := by rw [sizeLine_eq]; omega
theorem dr_in (ns : List Int) (s2 s4 s6 : Sl) (k : Nat) (ds : List Int) (n : Int) (s5 : Sl) (d : D) (h5 : unsh s5) (hk : ds.length < 90000) :
    ∃ ds' n', ds'.length ≤ ds.length + 1 ∧ gN 5 d (SD ns ds s2 (.sh (.int n)) s4 s5 s6) = some (SD ns ds s2 (.sh (.int n)) s4 (.sh d) s6) ∧ b_law_draws_2l3l1 (SD ns ds s2 (.sh (.int n)) s4 (.sh d) s6) = .nx (SD ns ds' s2 (.sh (.int n')) s4 (.sh d) s6) := by
  have g5 : gN 5 d (SD ns ds s2 (.sh (.int n)) s4 s5 s6) = some (SD ns ds s2 (.sh (.int n)) s4 (.sh d) s6) := unsh_set (i := 5) (S := SD ns ds s2 (.sh (.int n)) s4 s5 s6) rfl h5
  obtain ⟨b, hb⟩ := isT_gt (S := SD ns ds s2 (.sh (.int n)) s4 (.sh d) s6) (isI_name (i := 3) rfl) (isI_c (v := 0))
  have e := sIf_of (t := sSeq b_law_draws_2l3l1a1 b_law_draws_2l3l1a2) (u := sNx) hb
  cases b with
  | false => exact ⟨ds, n, by omega, g5, e⟩
  | true =>
    rw [if_pos rfl] at e
    obtain ⟨v, a1⟩ := app_int (S := SD ns ds s2 (.sh (.int n)) s4 (.sh d) s6) (j := 1) (te := eBin dMod (eB dInt (aCons (eName 3) aNil)) (eC (.int 997))) rfl (isI_mod (isI_int (isI_name (i := 3) rfl)) (by decide)) (zl _ (by omega))
    obtain ⟨v2, a2⟩ := set_int (i := 3) (te := eBin dFdiv (eName 3) (eC (.int 997))) (S := SD ns (ds ++ [v]) s2 (.sh (.int n)) s4 (.sh d) s6) rfl (.inr ⟨_, rfl⟩) (isI_div (isI_name (i := 3) rfl) (by decide) (by decide))
    exact ⟨ds ++ [v], v2, by simp, g5, e.trans ((sSeq_nx a1).trans a2)⟩
theorem dr_loop (ns : List Int) (s2 s4 s6 : Sl) (ds : List Int) (n : Int) (s5 : Sl) (h5 : unsh s5) (hk : ds.length < 80000) :
    ∃ ds' n' s5', ds'.length ≤ ds.length + 60 ∧ unsh s5' ∧ b_law_draws_2l3 (SD ns ds s2 (.sh (.int n)) s4 s5 s6) = .nx (SD ns ds' s2 (.sh (.int n')) s4 s5' s6) := by
  obtain ⟨S', e, ds', n', s5', hS, h1, h2⟩ := forL_iter (g := gN 5) (b := b_law_draws_2l3l1) (fun i S => ∃ ds' n' s5', S = SD ns ds' s2 (.sh (.int n')) s4 s5' s6 ∧ ds'.length ≤ ds.length + i ∧ unsh s5') 60 (fun i d S hi ⟨ds1, n1, s51, hS, h1, h2⟩ => by
    subst hS
    obtain ⟨ds2, n2, k1, k2, k3⟩ := dr_in ns s2 s4 s6 i ds1 n1 s51 d h2 (by omega)
    exact ⟨_, _, k2, k3, ds2, n2, .sh d, rfl, by omega, .inr ⟨d, rfl⟩⟩) (rangeD 0 60) 0 (SD ns ds s2 (.sh (.int n)) s4 s5 s6) ⟨ds, n, s5, rfl, by omega, h5⟩ (by rw [rangeD_len]; omega)
  subst hS
  rw [rangeD_len] at h1
  refine ⟨ds', n', s5', by omega, h2, (sFor_of (ds := rangeD 0 60) ?_).trans e⟩
  exact iRng1_of (aOne_of rfl) rfl (rngOk_i 60 (by decide) (by decide))
theorem dr_cell (ns ds : List Int) (s2 s3 s4 s5 s6 : Sl) (c : Int) (h2 : unsh s2) (h3 : unsh s3) (h4 : unsh s4) (h5 : unsh s5) (hk : ds.length < 70000) :
    ∃ ds' n' s4' s5', ds'.length ≤ ds.length + 62 ∧ unsh s4' ∧ unsh s5' ∧ gN 2 (.int c) (SD ns ds s2 s3 s4 s5 s6) = some (SD ns ds (.sh (.int c)) s3 s4 s5 s6) ∧
      (sSeq b_law_draws_2l1 (sSeq b_law_draws_2l2 b_law_draws_2l3)) (SD ns ds (.sh (.int c)) s3 s4 s5 s6) = .nx (SD ns ds' (.sh (.int c)) (.sh (.int n')) s4' s5' s6) := by
  have g2 : gN 2 (.int c) (SD ns ds s2 s3 s4 s5 s6) = some (SD ns ds (.sh (.int c)) s3 s4 s5 s6) := unsh_set (i := 2) (S := SD ns ds s2 s3 s4 s5 s6) rfl h2
  obtain ⟨n, a1⟩ := set_int (i := 3) (te := eB dAbs (aCons (eName 2) aNil)) (S := SD ns ds (.sh (.int c)) s3 s4 s5 s6) rfl h3 (isI_abs (isI_name (i := 2) rfl))
  have a1 : b_law_draws_2l1 (SD ns ds (.sh (.int c)) s3 s4 s5 s6) = .nx (SD ns ds (.sh (.int c)) (.sh (.int n)) s4 s5 s6) := a1
  have pw : IsI (eBin dPow (eC (.int 10)) (eC (.int 18))) (SD ns ds (.sh (.int c)) (.sh (.int n)) s4 s5 s6) := ⟨_, eBin_of rfl rfl (on2_of rfl rfl (show (if cPow 10 18 = true then some (Rv.sh (.int (10 ^ (18 : Int).toNat))) else none) = _ from if_pos (by decide)))⟩
  obtain ⟨b, hb⟩ := isT_lt (S := SD ns ds (.sh (.int c)) (.sh (.int n)) s4 s5 s6) (isI_name (i := 3) rfl) pw
  have e := sIf_of (t := sSeq b_law_draws_2l2a1 (sSeq b_law_draws_2l2a2 (sSeq b_law_draws_2l2a3 b_law_draws_2l2a4))) (u := sNx) hb
  cases b with
  | false =>
    have e : b_law_draws_2l2 (SD ns ds (.sh (.int c)) (.sh (.int n)) s4 s5 s6) = .nx (SD ns ds (.sh (.int c)) (.sh (.int n)) s4 s5 s6) := e
    obtain ⟨ds', n', s5', k1, k2, k3⟩ := dr_loop ns (.sh (.int c)) s4 s6 ds n s5 h5 (by omega)
    exact ⟨ds', n', s4, s5', by omega, h4, k2, g2, (sSeq_nx a1).trans ((sSeq_nx e).trans k3)⟩
  | true =>
    rw [if_pos rfl] at e
    obtain ⟨f, b1⟩ := set_int (i := 4) (te := eBin dMod (eB dInt (aCons (eBin dAdd (eBin dMul (eName 3) (eC (.int 48271))) (eC (.int 11))) aNil)) (eC (.int 2147483647))) (S := SD ns ds (.sh (.int c)) (.sh (.int n)) s4 s5 s6) rfl h4
      (isI_mod (isI_int (isI_add (isI_mul (isI_name (i := 3) rfl) (by decide)) isI_c)) (by decide))
    obtain ⟨v, b2⟩ := app_int (S := SD ns ds (.sh (.int c)) (.sh (.int n)) (.sh (.int f)) s5 s6) (j := 1) (te := eBin dMod (eB dInt (aCons (eBin dAdd (eBin dMul (eName 4) (eC (.int 69621))) (eName 3)) aNil)) (eC (.int 2147483629))) rfl
      (isI_mod (isI_int (isI_add (isI_mul (isI_name (i := 4) rfl) (by decide)) (isI_name (i := 3) rfl))) (by decide)) (zl _ (by omega))
    obtain ⟨v', b3⟩ := app_int (S := SD ns (ds ++ [v]) (.sh (.int c)) (.sh (.int n)) (.sh (.int f)) s5 s6) (j := 1) (te := eBin dMod (eB dInt (aCons (eBin dAdd (eName 4) (eBin dFdiv (eName 3) (eC (.int 7)))) aNil)) (eC (.int 1000003))) rfl
      (isI_mod (isI_int (isI_add (isI_name (i := 4) rfl) (isI_div (isI_name (i := 3) rfl) (by decide) (by decide)))) (by decide)) (zl _ (by simp; omega))
    obtain ⟨z, b4⟩ := set_int (i := 3) (te := eC (.int 0)) (S := SD ns (ds ++ [v] ++ [v']) (.sh (.int c)) (.sh (.int n)) (.sh (.int f)) s5 s6) rfl (.inr ⟨_, rfl⟩) isI_c
    have e : b_law_draws_2l2 (SD ns ds (.sh (.int c)) (.sh (.int n)) s4 s5 s6) = .nx (SD ns (ds ++ [v] ++ [v']) (.sh (.int c)) (.sh (.int z)) (.sh (.int f)) s5 s6) := e.trans ((sSeq_nx b1).trans ((sSeq_nx b2).trans ((sSeq_nx b3).trans b4)))
    obtain ⟨ds', n', s5', k1, k2, k3⟩ := dr_loop ns (.sh (.int c)) (.sh (.int f)) s6 (ds ++ [v] ++ [v']) z s5 h5 (by simp; omega)
    exact ⟨ds', n', _, s5', by simp at k1; omega, .inr ⟨_, rfl⟩, k2, g2, (sSeq_nx a1).trans ((sSeq_nx e).trans k3)⟩
theorem dr_seed (ns ds : List Int) (s2 s3 s4 : Sl) (s5 : Sl) (n : Int) (d : D) (h5 : unsh s5) (hk : ds.length < 70000) :
    ∃ v n', gN 5 d (SD ns ds s2 s3 s4 s5 (.sh (.int n))) = some (SD ns ds s2 s3 s4 (.sh d) (.sh (.int n))) ∧ (sSeq b_law_draws_5l1 b_law_draws_5l2) (SD ns ds s2 s3 s4 (.sh d) (.sh (.int n))) = .nx (SD ns (ds ++ [v]) s2 s3 s4 (.sh d) (.sh (.int n'))) := by
  obtain ⟨n', a1⟩ := set_int (i := 6) (te := eBin dMod (eB dInt (aCons (eBin dAdd (eBin dMul (eName 6) (eC (.int 48271))) (eC (.int 69621))) aNil)) (eC (.int 2147483647))) (S := SD ns ds s2 s3 s4 (.sh d) (.sh (.int n))) rfl (.inr ⟨_, rfl⟩)
    (isI_mod (isI_int (isI_add (isI_mul (isI_name (i := 6) rfl) (by decide)) isI_c)) (by decide))
  obtain ⟨v, a2⟩ := app_int (S := SD ns ds s2 s3 s4 (.sh d) (.sh (.int n'))) (j := 1) (te := eBin dFdiv (eName 6) (eC (.int 5))) rfl (isI_div (isI_name (i := 6) rfl) (by decide) (by decide)) (zl _ (by omega))
  exact ⟨v, n', unsh_set (i := 5) (S := SD ns ds s2 s3 s4 s5 (.sh (.int n))) rfl h5, (sSeq_nx a1).trans a2⟩
theorem t_draws (ns : List Int) (hn : ns.length ≤ 63) : ∃ ds, t_law_draws [.sh (.lst (zs ns))] = .ret (.ow (.lst (zs ds))) [.sh (.lst (zs ns))] := by
  -- the cells
  have cells : ∀ (cs ds : List Int) (s2 s3 s4 s5 : Sl), unsh s2 → unsh s3 → unsh s4 → unsh s5 → ds.length + 62 * cs.length < 70000 → ∃ ds' s2' s3' s4' s5', unsh s5' ∧ ds'.length ≤ ds.length + 62 * cs.length ∧
      forL (gN 2) (sSeq b_law_draws_2l1 (sSeq b_law_draws_2l2 b_law_draws_2l3)) (zs cs) (SD ns ds s2 s3 s4 s5 .un) = .nx (SD ns ds' s2' s3' s4' s5' .un) := by
    intro cs
    induction cs with
    | nil => intro ds s2 s3 s4 s5 _ _ _ h5 _; exact ⟨ds, s2, s3, s4, s5, h5, by simp, rfl⟩
    | cons c cs ih =>
      intro ds s2 s3 s4 s5 h2 h3 h4 h5 hz
      rw [List.length_cons] at hz
      obtain ⟨ds1, n1, s41, s51, k1, k2, k3, k4, k5⟩ := dr_cell ns ds s2 s3 s4 s5 .un c h2 h3 h4 h5 (by omega)
      obtain ⟨ds', s2', s3', s4', s5', m1, m2, m3⟩ := ih ds1 (.sh (.int c)) (.sh (.int n1)) s41 s51 (.inr ⟨_, rfl⟩) (.inr ⟨_, rfl⟩) k2 k3 (by omega)
      exact ⟨ds', s2', s3', s4', s5', m1, by rw [List.length_cons]; omega, (forL_step k4 k5).trans m3⟩
  obtain ⟨ds1, s2, s3, s4, s5, h5, hl1, e1⟩ := cells ns [] .un .un .un .un (.inl rfl) (.inl rfl) (.inl rfl) (.inl rfl) (by simp; omega)
  have a1 : b_law_draws_1 [.sh (.lst (zs ns)), .un, .un, .un, .un, .un, .un] = .nx (SD ns [] .un .un .un .un .un) := by
    refine sSet_of (S1 := [.sh (.lst (zs ns)), .un, .un, .un, .un, .un, .un]) (r := .ow (.lst [])) ?_ rfl
    unfold eLst
    rw [show aNil [.sh (.lst (zs ns)), .un, .un, .un, .un, .un, .un] = .ok [] [.sh (.lst (zs ns)), .un, .un, .un, .un, .un, .un] from rfl, Ou.bind_ok]
    exact if_pos (Nat.zero_le _)
  have a2 : b_law_draws_2 (SD ns [] .un .un .un .un .un) = .nx (SD ns ds1 s2 s3 s4 s5 .un) := (sFor_of (ds := zs ns) rfl).trans e1
  have a3 : b_law_draws_3 (SD ns ds1 s2 s3 s4 s5 .un) = .nx (SD ns ds1 s2 s3 s4 s5 (.sh (.int 1))) := rfl
  have a4 : ∃ n, b_law_draws_4 (SD ns ds1 s2 s3 s4 s5 (.sh (.int 1))) = .nx (SD ns ds1 s2 s3 s4 s5 (.sh (.int n))) := by
    cases ns with
    | nil => exact ⟨1, rfl⟩
    | cons c cs =>
      have hb : tOf (eBin qGt (eB dLen (aCons (eName 0) aNil)) (eC (.int 0))) (SD (c :: cs) ds1 s2 s3 s4 s5 (.sh (.int 1))) = .ok true (SD (c :: cs) ds1 s2 s3 s4 s5 (.sh (.int 1))) := by
        refine tOf_of (r := .sh (.bl true)) (eBin_of (eB_of (aOne_of rfl) (ds := [.lst (zs (c :: cs))]) rfl rfl) rfl (on2_of rfl rfl ?_)) rfl
        show some (Rv.sh (.bl (decide ((0 : Int) < ((zs (c :: cs)).length : Int))))) = _
        rw [decide_eq_true (by rw [zs_len, List.length_cons]; omega)]
      have e := sIf_of (t := b_law_draws_4a1) (u := sNx) hb
      rw [if_pos rfl] at e
      obtain ⟨n, z⟩ := set_int (i := 6) (te := eBin dAdd (eC (.int 1)) (eB dAbs (aCons (eBin dIx (eName 0) (eC (.int 0))) aNil))) (S := SD (c :: cs) ds1 s2 s3 s4 s5 (.sh (.int 1))) rfl (.inr ⟨_, rfl⟩) (isI_add isI_c (isI_abs ⟨c, eBin_of rfl rfl (on2_of (d := .lst (zs (c :: cs))) (e := .int 0) rfl rfl (by show Option.map Rv.sh (L2.atI (zs (c :: cs)) 0) = _; rw [atI_0]; rfl))⟩))
      exact ⟨n, e.trans z⟩
  obtain ⟨n, a4⟩ := a4
  obtain ⟨S', e5, ds2, n2, s52, hS, _, _⟩ := forL_iter (g := gN 5) (b := sSeq b_law_draws_5l1 b_law_draws_5l2) (fun i S => ∃ ds' n' s5', S = SD ns ds' s2 s3 s4 s5' (.sh (.int n')) ∧ ds'.length ≤ ds1.length + i ∧ unsh s5') 900 (fun i d S hi ⟨dsx, nx, s5x, hS, h1, h2⟩ => by
    subst hS
    have := hl1
    simp at this
    obtain ⟨v, n', k1, k2⟩ := dr_seed ns dsx s2 s3 s4 s5x nx d h2 (by omega)
    exact ⟨_, _, k1, k2, dsx ++ [v], n', .sh d, rfl, by simp; omega, .inr ⟨d, rfl⟩⟩) (rangeD 0 900) 0 (SD ns ds1 s2 s3 s4 s5 (.sh (.int n))) ⟨ds1, n, s5, rfl, by omega, h5⟩ (by rw [rangeD_len]; omega)
  subst hS
  have a5 : b_law_draws_5 (SD ns ds1 s2 s3 s4 s5 (.sh (.int n))) = .nx (SD ns ds2 s2 s3 s4 s52 (.sh (.int n2))) := (sFor_of (ds := rangeD 0 900) (iRng1_of (aOne_of rfl) rfl (rngOk_i 900 (by decide) (by decide)))).trans e5
  have a6 : b_law_draws_6 (SD ns ds2 s2 s3 s4 s52 (.sh (.int n2))) = .rt (.ow (.lst (zs ds2.reverse))) (SD ns ds2 s2 s3 s4 s52 (.sh (.int n2))) := by
    refine (sRet_of (r := .ow (.lst (zs ds2).reverse)) rfl).trans ?_
    unfold zs
    rw [List.map_reverse]
  exact ⟨ds2.reverse, semF_of (o := .rt (.ow (.lst (zs ds2.reverse))) (SD ns ds2 s2 s3 s4 s52 (.sh (.int n2)))) ((sSeq_nx a1).trans ((sSeq_nx a2).trans ((sSeq_nx a3).trans ((sSeq_nx a4).trans ((sSeq_nx a5).trans a6)))))⟩
end K40
namespace K40
open PySem PySem.Spec PyProof.Rows L2 LD
/-! ### a draw -/
theorem t_take (ds : List Int) (b : Int) (hb : 0 < b) : ∃ r ds', 0 ≤ r ∧ r < b ∧ t_law_take [.io (.lst (zs ds)), .sh (.int b)] = .ret (.sh (.int r)) [.io (.lst (zs ds')), .sh (.int b)] := by
  have c : tOf (eBin qEq (eB dLen (aCons (eName 0) aNil)) (eC (.int 0))) [.io (.lst (zs ds)), .sh (.int b)] = .ok (decide (ds.length = 0)) [.io (.lst (zs ds)), .sh (.int b)] := by
    refine tOf_of (r := .sh (.bl (decide (ds.length = 0)))) (eBin_of (eB_of (aOne_of rfl) (ds := [.lst (zs ds)]) rfl rfl) rfl (on2_of rfl rfl ?_)) rfl
    show rvB (dEq (.int ((zs ds).length : Int)) (.int 0)) = _
    rw [zs_len]
    by_cases h : ds.length = 0 <;> simp [dEq, okEq, plainD, dep, eqD, rvB, h]
  have e := sIf_of (t := b_law_take_1a1) (u := sNx) c
  cases hd : ds.getLast? with
  | none =>
    have hn : ds = [] := List.getLast?_eq_none_iff.mp hd
    subst hn
    rw [if_pos (by rfl)] at e
    exact ⟨0, [], by omega, hb, semF_of (o := .rt (.sh (.int 0)) [.io (.lst (zs [])), .sh (.int b)]) (sSeq_rt e)⟩
  | some x =>
    have hne : ds ≠ [] := fun h => by subst h; simp at hd
    have hl : ¬ ds.length = 0 := fun h => hne (List.eq_nil_of_length_eq_zero h)
    rw [decide_eq_false hl, if_neg Bool.false_ne_true] at e
    have lst : (zs ds).getLast? = some (.int x) := by unfold zs; rw [List.getLast?_map, hd]; rfl
    have p : eMut "list" mPop 0 aNil [.io (.lst (zs ds)), .sh (.int b)] = .ok (.sh (.int x)) [.io (.lst (zs ds.dropLast)), .sh (.int b)] := by
      show mAns [.io (.lst (zs ds)), .sh (.int b)] 0 (.io (.lst (zs ds))) (match (zs ds).getLast? with
        | some d => some (d, D.lst (zs ds).dropLast)
        | none => none) = _
      rw [lst]
      unfold zs
      rw [← List.map_dropLast]
      rfl
    have m : eBin dMod (eB dInt (aCons (eMut "list" mPop 0 aNil) aNil)) (eName 1) [.io (.lst (zs ds)), .sh (.int b)] = .ok (.sh (.int (x % b))) [.io (.lst (zs ds.dropLast)), .sh (.int b)] := by
      refine eBin_of (eB_of (aOne_of p) (ds := [.int x]) rfl rfl) rfl (on2_of rfl rfl ?_)
      show (if decide (0 < b) = true then some (Rv.sh (.int (x % b))) else none) = _
      rw [if_pos (decide_eq_true hb)]
    have e2 : b_law_take_2 [.io (.lst (zs ds)), .sh (.int b)] = .rt (.sh (.int (x % b))) [.io (.lst (zs ds.dropLast)), .sh (.int b)] := sRet_of m
    exact ⟨x % b, ds.dropLast, Int.emod_nonneg x (by omega), Int.emod_lt_of_pos x hb, semF_of (o := .rt (.sh (.int (x % b))) [.io (.lst (zs ds.dropLast)), .sh (.int b)]) ((sSeq_nx e).trans e2)⟩
/-- .. in the law: slot 1 is lent -/
theorem take_at {te : E} {S : Sls} {ds : List Int} {b : Int} (h1 : S[1]? = some (.ow (.lst (zs ds)))) (ht : te S = .ok (.sh (.int b)) S) (hb : 0 < b) :
    ∃ r ds', 0 ≤ r ∧ r < b ∧ eCallL t_law_take (aCons (eName 1) (aCons te aNil)) S = .ok (.sh (.int r)) (S.set 1 (.ow (.lst (zs ds')))) := by
  obtain ⟨r, ds', k1, k2, k3⟩ := t_take ds b hb
  refine ⟨r, ds', k1, k2, ?_⟩
  have a : aCons (eName 1) (aCons te aNil) S = .ok [.bo 1, .sh (.int b)] S := by
    have z := aOne_of ht
    have n : eName 1 S = .ok (.bo 1) S := by unfold eName; rw [h1]
    show (eName 1 S).bind _ = _
    rw [n, Ou.bind_ok, z]
    rfl
  unfold eCallL
  rw [a, Ou.bind_ok]
  show (match S[1]? with
    | some (.ow d) => lAns S 1 (.ow d) (t_law_take (.io d :: [Sl.sh (.int b)]))
    | some (.io d) => lAns S 1 (.io d) (t_law_take (.io d :: [Sl.sh (.int b)]))
    | _ => .bad) = _
  rw [h1]
  show lAns S 1 (.ow (.lst (zs ds))) (t_law_take [.io (.lst (zs ds)), .sh (.int b)]) = _
  rw [k3]
  rfl
/-! ### the mathematics -/
theorem dot_scale (t : Int) : ∀ ws g : List Int, dot (ws.map (t * ·)) g = t * dot ws g
  | [], g => by simp [dot]
  | w :: ws, [] => by simp [dot]
  | w :: ws, x :: g => by
    have ih := dot_scale t ws g
    unfold dot at ih ⊢
    simp only [List.map_cons, List.zipWith_cons_cons, List.sum_cons, ih, Int.mul_add, Int.mul_assoc]
theorem sgn_scale (t x : Int) (ht : 1 ≤ t) : sgn (t * x) = sgn x := by
  unfold sgn
  have h1 : 0 < t * x ↔ 0 < x := ⟨fun h => by
    by_cases hx : 0 < x
    · exact hx
    · have := Int.mul_nonpos_of_nonneg_of_nonpos (a := t) (b := x) (by omega) (by omega); omega, fun h => Int.mul_pos (by omega) h⟩
  have h2 : t * x < 0 ↔ x < 0 := ⟨fun h => by
    by_cases hx : x < 0
    · exact hx
    · have := Int.mul_nonneg (a := t) (b := x) (by omega) (by omega); omega, fun h => Int.mul_neg_of_pos_of_neg (by omega) h⟩
  simp only [h1, h2]
theorem found_scale (ws : List Int) (t w : Int) (ht : 1 ≤ t) : found ws (ws.map (t * ·)) w = none := by
  unfold found
  rw [List.find?_eq_none]
  intro g _
  unfold differs
  rw [dot_scale, sgn_scale t _ ht]
  simp
theorem found_same (ws : List Int) (w : Int) : found ws ws w = none := by
  unfold found
  rw [List.find?_eq_none]
  intro g _
  simp [differs]
theorem found_le (ws vs : List Int) (w w' : Int) (h : w' ≤ w) (hf : found ws vs w = none) : found ws vs w' = none := by
  unfold found at hf ⊢
  rw [List.find?_eq_none] at hf ⊢
  intro g hg
  obtain ⟨h1, h2⟩ := gaps_mem _ _ g hg
  exact hf g (mem_gaps w _ g h1 fun x hx => by have := h2 x hx; omega)
/-! ### the text of a gap -/
def okL (x : Str) (n : Nat) : Prop := (∀ c ∈ x.cps.toList, c < 0x110000) ∧ x.length ≤ n
theorem okL_add {x y : Str} {n m : Nat} (hx : okL x n) (hy : okL y m) : okL (x ++ y) (n + m) := by
  have hn := hx.2
  have hm := hy.2
  have hl : (x ++ y).length = x.length + y.length := strLen_append x y
  refine ⟨fun c hc => ?_, by omega⟩
  have e : (x ++ y).cps.toList = x.cps.toList ++ y.cps.toList := by
    show (x.cps ++ y.cps).toList = _
    simp
  rw [e] at hc
  rcases List.mem_append.mp hc with z | z
  · exact hx.1 c z
  · exact hy.1 c z
theorem okL_ok {x : Str} {n : Nat} (h : okL x n) (hn : n ≤ 1000) : okS x = true := okS_iff.mpr ⟨h.1, by have := h.2; rw [sizeLine_eq]; omega⟩
theorem okL_digit (i : Int) (h : -9 ≤ i ∧ i ≤ 9) : okL (Str.ofString (toString i)) 2 := by
  have k : ∀ k : Fin 19, okL (Str.ofString (toString ((k.val : Int) - 9))) 2 := by
    unfold okL
    decide +kernel
  have z := k ⟨(i + 9).toNat, by omega⟩
  have e : (((i + 9).toNat : Nat) : Int) - 9 = i := by omega
  rw [show ((⟨(i + 9).toNat, by omega⟩ : Fin 19).val : Int) - 9 = i from e] at z
  exact z
end K40
namespace K40
open PySem PySem.Spec PyProof.Rows L2 LD
theorem toPs_zs : ∀ g : List Int, toPs (zs g) = some (g.map PyData.int)
  | [] => rfl
  | x :: g => by
    show (toP (.int x)).bind (fun p => (toPs (zs g)).map (p :: ·)) = _
    rw [toPs_zs g]; rfl
theorem okL_mono {x : Str} {n m : Nat} (h : okL x n) (hm : n ≤ m) : okL x m := ⟨h.1, by have := h.2; omega⟩
theorem log_small {a : Int} (h : -9 ≤ a ∧ a ≤ 9) : a.natAbs.log2 < 1920 := by
  have k : ∀ k : Fin 10, k.val.log2 < 1920 := by decide +kernel
  have z := k ⟨a.natAbs, by omega⟩
  exact z
theorem repr_of (g : List Int) (p : PyData) (hp : p = .tuple (g.map PyData.int)) (hs : PyData.showable p = true) (ht : okL p.shown 100) : ∃ x, dRepr [enc g] = some (.sh (.str x)) := by
  subst hp
  refine ⟨(PyData.tuple (g.map PyData.int)).shown, ?_⟩
  have e : toP (enc g) = some (.tuple (g.map PyData.int)) := by
    show (toPs (zs g)).map PyData.tuple = _
    rw [toPs_zs g]; rfl
  have hd : PyData.hasDict (.tuple (g.map PyData.int)) = false := by
    have k : ∀ g : List Int, PyData.hasDictAll (g.map PyData.int) = false := fun g => by
      induction g with
      | nil => rfl
      | cons x g ih => simp [PyData.hasDictAll, PyData.hasDict, ih]
    simp [PyData.hasDict, k]
  have dp : PyData.depth (.tuple (g.map PyData.int)) = 1 := by
    have k : ∀ g : List Int, PyData.depthAll (g.map PyData.int) = 0 := fun g => by
      induction g with
      | nil => rfl
      | cons x g ih => simp [PyData.depthAll, PyData.depth, ih]
    simp [PyData.depth, k]
  show (match toP (enc g) with
    | some p => if (p.showable && okS p.shown && !p.hasDict && decide (p.depth ≤ 64)) = true then some (Rv.sh (.str p.shown)) else none
    | none => none) = _
  rw [e]
  exact if_pos (by rw [hs, okL_ok ht (by omega), hd, dp]; rfl)
theorem okL_par : okL ("(" : Str) 1 ∧ okL (", " : Str) 2 ∧ okL (Str.ofString ",)") 2 ∧ okL (Str.ofString ")") 1 := by unfold okL; decide +kernel
theorem repr_gap (g : List Int) (h0 : 1 ≤ g.length) (h3 : g.length ≤ 3) (hb : ∀ x ∈ g, -9 ≤ x ∧ x ≤ 9) : ∃ x, dRepr [enc g] = some (.sh (.str x)) := by
  obtain ⟨p1, p2, p3, p4⟩ := okL_par
  match g, h0, h3, hb with
  | [a], _, _, hb =>
    have ha := hb a (by simp)
    refine repr_of [a] _ rfl (by simp [PyData.showable, PyData.showableAll, log_small ha]) ?_
    exact okL_mono (okL_add (okL_add p1 (okL_digit a ha)) p3) (by omega)
  | [a, b], _, _, hb =>
    have ha := hb a (by simp)
    have hb' := hb b (by simp)
    refine repr_of [a, b] _ rfl (by simp [PyData.showable, PyData.showableAll, log_small ha, log_small hb']) ?_
    exact okL_mono (okL_add (okL_add p1 (okL_add (okL_add (okL_digit a ha) p2) (okL_digit b hb'))) p4) (by omega)
  | [a, b, c], _, _, hb =>
    have ha := hb a (by simp)
    have hb' := hb b (by simp)
    have hc := hb c (by simp)
    refine repr_of [a, b, c] _ rfl (by simp [PyData.showable, PyData.showableAll, log_small ha, log_small hb', log_small hc]) ?_
    exact okL_mono (okL_add (okL_add p1 (okL_add (okL_add (okL_digit a ha) p2) (okL_add (okL_add (okL_digit b hb') p2) (okL_digit c hc)))) p4) (by omega)
theorem repr_non : dRepr [.non] = some (.sh (.str (PyData.shown .none))) :=
  (if_pos (c := (PyData.showable .none && okS (PyData.shown .none) && !PyData.hasDict .none && decide (PyData.depth .none ≤ 64)) = true) (by decide +kernel))
/-! ### the law's statements -/
abbrev SS (sc : D) (ds : List Int) (s2 s3 s4 s5 s6 s7 s8 s9 s10 s11 s12 s13 s14 s15 : Sl) : Sls := [.sh sc, .ow (.lst (zs ds)), s2, s3, s4, s5, s6, s7, s8, s9, s10, s11, s12, s13, s14, s15, .un, .un]
theorem eTup_of {ts : Es} {S S1 S2 : Sls} {rs : List Rv} {ds : List D} (h : ts S = .ok rs S1) (hf : frzs S1 rs = some (ds, S2)) (hl : ds.length ≤ sizeLine) : eTup ts S = .ok (.sh (.tup ds)) S2 := by
  unfold eTup; rw [h, Ou.bind_ok, hf]; exact if_pos hl
theorem aCons_of {t : E} {ts : Es} {S S1 S2 : Sls} {r : Rv} {rs : List Rv} (h : t S = .ok r S1) (h2 : ts S1 = .ok rs S2) : aCons t ts S = .ok (r.hold :: rs) S2 := by
  unfold aCons; rw [h, Ou.bind_ok, h2]; rfl
theorem told_at {i j : Nat} {te : E} {S : Sls} {r o d : D} {c : Int} {A : Sls} (hi : S[i]? = some (.sh r)) (hj : S[j]? = some (.sh o)) (ht : te S = .ok (.sh (.int c)) S) (h : t_law_told [.sh r, .sh o, .sh (.int c)] = .ret (.sh d) A) :
    eCall t_law_told (aCons (eName i) (aCons (eName j) (aCons te aNil))) S = .ok (.sh d) S := by
  have n1 : eName i S = .ok (.sh r) S := by unfold eName; rw [hi]
  have n2 : eName j S = .ok (.sh o) S := by unfold eName; rw [hj]
  exact (eCall_of (aCons_of n1 (aCons_of n2 (aOne_of ht))) (ds := [r, o, .int c]) rfl h).trans rfl
theorem lcT_of {vs : List Nat} {g : Tg} {tt : T} {te : E} {d e : D} {S S1 S2 S3 S4 : Sls} {r : Rv} (hg : g d S = some S1) (ht : tt S1 = .ok true S2) (he : te S2 = .ok r S3) (hf : frz S3 r = some (e, S4)) : lcT vs g tt te d S = .ok (some e) (wipeS S4 vs) := by
  unfold lcT
  rw [hg]
  dsimp only
  rw [ht, Ou.bind_ok, if_pos rfl, he, Ou.bind_ok, hf]
/-- a tuple of draws -/
theorem comp_take (sc : D) (ds : List Int) (s2 s4 s5 s6 s7 s8 s9 s10 s11 s12 s13 s14 s15 : Sl) (k : Nat) (hk : k < 1000) (h8 : unsh s8) :
    ∃ ws ds', ws.length = k ∧ (∀ w ∈ ws, 1 ≤ w ∧ w ≤ 6) ∧ eB dTuple (aCons (eLc [8] (iRng (aCons (eName 3) aNil)) (gN 8) tYesT (eBin dAdd (eC (.int 1)) (eCallL t_law_take (aCons (eName 1) (aCons (eC (.int 6)) aNil))))) aNil) (SS sc ds s2 (.sh (.int k)) s4 s5 s6 s7 s8 s9 s10 s11 s12 s13 s14 s15) =
      .ok (.sh (.tup (zs ws))) (SS sc ds' s2 (.sh (.int k)) s4 s5 s6 s7 s8 s9 s10 s11 s12 s13 s14 s15) := by
  have w0 : iRng (aCons (eName 3) aNil) (SS sc ds s2 (.sh (.int k)) s4 s5 s6 s7 s8 s9 s10 s11 s12 s13 s14 s15) = .ok (rangeD 0 k) (SS sc ds s2 (.sh (.int k)) s4 s5 s6 s7 s8 s9 s10 s11 s12 s13 s14 s15) := by
    have z := iRng1_of (ts := aCons (eName 3) aNil) (S := SS sc ds s2 (.sh (.int k)) s4 s5 s6 s7 s8 s9 s10 s11 s12 s13 s14 s15) (aOne_of rfl) rfl (rngOk_k k hk)
    rw [Int.toNat_natCast] at z
    exact z
  obtain ⟨es, S', e1, e2, ws, ds', h1, h2, h3⟩ := lcL_inv (vs := [8]) (g := gN 8) (tt := tYesT) (te := eBin dAdd (eC (.int 1)) (eCallL t_law_take (aCons (eName 1) (aCons (eC (.int 6)) aNil))))
    (fun acc S => ∃ ws ds', acc = zs ws ∧ (∀ w ∈ ws, 1 ≤ w ∧ w ≤ 6) ∧ S = SS sc ds' s2 (.sh (.int k)) s4 s5 s6 s7 .un s9 s10 s11 s12 s13 s14 s15) (rangeD 0 k) [] (SS sc ds s2 (.sh (.int k)) s4 s5 s6 s7 .un s9 s10 s11 s12 s13 s14 s15)
    ⟨[], ds, rfl, by simp, rfl⟩ (by rw [rangeD_len, sizeLine_eq, List.length_nil]; omega) (fun d hd acc S ⟨ws, ds1, k1, k2, k3⟩ => by
      subst k1 k3
      obtain ⟨r, ds2, r0, r1, tk⟩ := take_at (te := eC (.int 6)) (S := SS sc ds1 s2 (.sh (.int k)) s4 s5 s6 s7 (.sh d) s9 s10 s11 s12 s13 s14 s15) (ds := ds1) (b := 6) rfl rfl (by decide)
      refine ⟨.int (1 + r), SS sc ds2 s2 (.sh (.int k)) s4 s5 s6 s7 .un s9 s10 s11 s12 s13 s14 s15, ?_, ws ++ [1 + r], ds2, by rw [zs_app]; rfl, fun w hw => ?_, rfl⟩
      · have b : eBin dAdd (eC (.int 1)) (eCallL t_law_take (aCons (eName 1) (aCons (eC (.int 6)) aNil))) (SS sc ds1 s2 (.sh (.int k)) s4 s5 s6 s7 (.sh d) s9 s10 s11 s12 s13 s14 s15) = .ok (.sh (.int (1 + r))) (SS sc ds2 s2 (.sh (.int k)) s4 s5 s6 s7 (.sh d) s9 s10 s11 s12 s13 s14 s15) := eBin_of rfl tk rfl
        exact lcT_of (S1 := SS sc ds1 s2 (.sh (.int k)) s4 s5 s6 s7 (.sh d) s9 s10 s11 s12 s13 s14 s15) rfl rfl b rfl
      · rcases List.mem_append.mp hw with z | z
        · exact k2 w z
        · have e := List.mem_singleton.mp z
          subst e
          omega)
  rw [List.nil_append] at e1 h1
  subst h1 h3
  have hf : freeS (SS sc ds s2 (.sh (.int k)) s4 s5 s6 s7 s8 s9 s10 s11 s12 s13 s14 s15) [8] = true := by rcases h8 with rfl | ⟨d, rfl⟩ <;> rfl
  refine ⟨ws, ds', by rw [rangeD_len, zs_len] at e2; exact e2, h2, ?_⟩
  refine eB_of (rs := [.sh (.lst (zs ws))]) (ds := [.lst (zs ws)]) (aOne_of (r := .ow (.lst (zs ws))) ?_) rfl rfl
  unfold eLc
  rw [w0, Ou.bind_ok, if_pos hf]
  show noEx ((lcL [8] (gN 8) tYesT _ (rangeD 0 k) [] (SS sc ds s2 (.sh (.int k)) s4 s5 s6 s7 .un s9 s10 s11 s12 s13 s14 s15)).bind _) = _
  rw [e1]
  rcases h8 with rfl | ⟨d, rfl⟩ <;> rfl
end K40
namespace K40
open PySem PySem.Spec PyProof.Rows L2 LD
theorem small_len {n : Nat} (h : n ≤ 1000) : n ≤ sizeLine := by rw [sizeLine_eq]; omega
theorem eLst_of {ts : Es} {S S1 S2 : Sls} {rs : List Rv} {ds : List D} (h : ts S = .ok rs S1) (hf : frzs S1 rs = some (ds, S2)) (hl : ds.length ≤ 1000) : eLst ts S = .ok (.ow (.lst ds)) S2 := by
  unfold eLst; rw [h, Ou.bind_ok, hf]; exact if_pos (small_len hl)
theorem eTup_c {ts : Es} {S S1 S2 : Sls} {rs : List Rv} {ds : List D} (h : ts S = .ok rs S1) (hf : frzs S1 rs = some (ds, S2)) (hl : ds.length ≤ 1000) : eTup ts S = .ok (.sh (.tup ds)) S2 := eTup_of h hf (small_len hl)
theorem n_of {i : Nat} {S : Sls} {d : D} (h : S[i]? = some (.sh d)) : eName i S = .ok (.sh d) S := by unfold eName; rw [h]
theorem ix321 (S : Sls) (k : Nat) (h : S[3]? = some (.sh (.int k))) (h1 : 1 ≤ k) (h3 : k ≤ 3) : eBin dIx (eLst (aCons (eC (.int 3)) (aCons (eC (.int 2)) (aCons (eC (.int 1)) aNil)))) (eBin dSub (eName 3) (eC (.int 1))) S = .ok (.sh (.int (4 - (k : Int)))) S := by
  have a := eLst_of (ts := aCons (eC (.int 3)) (aCons (eC (.int 2)) (aCons (eC (.int 1)) aNil))) (S := S) (S1 := S) (S2 := S) (rs := [.sh (.int 3), .sh (.int 2), .sh (.int 1)]) (ds := [.int 3, .int 2, .int 1]) rfl rfl (by decide)
  have b : eBin dSub (eName 3) (eC (.int 1)) S = .ok (.sh (.int ((k : Int) - 1))) S := eBin_of (n_of h) rfl rfl
  refine eBin_of a b (on2_of rfl rfl ?_)
  show Option.map Rv.sh (L2.atI [D.int 3, .int 2, .int 1] ((k : Int) - 1)) = _
  have e : (k : Int) - 1 = ((k - 1 : Nat) : Int) := by omega
  rw [e, LD.atI_nat]
  have : k = 1 ∨ k = 2 ∨ k = 3 := by omega
  rcases this with rfl | rfl | rfl <;> rfl
/-- what stands in the law's slots once a turn's draws are made -/
structure Nice (k : Nat) (l m c : Int) (ws vs : List Int) : Prop where
  k1 : 1 ≤ k
  k3 : k ≤ 3
  l1 : -10 ≤ l
  l2 : l ≤ 1
  ml : m - l = 2 ∨ m - l = 3
  c1 : 1 ≤ c
  c2 : c ≤ 4 - (k : Int)
  wl : ws.length = k
  vl : vs.length = k
  wb : ∀ w ∈ ws, 1 ≤ w ∧ w ≤ 18
  vb : ∀ v ∈ vs, 1 ≤ v ∧ v ≤ 18
section
variable {k : Nat} {l m c : Int} {ws vs : List Int} (n : Nice k l m c ws vs)
include n
theorem Nice.ok : okRule ws l m = true := by
  have h : ws.all okW = true := List.all_eq_true.mpr fun w hw => by
    have := n.wb w hw
    unfold okW
    simp only [decide_eq_true_eq, Bool.and_eq_true]
    omega
  have h1 := n.k1; have h3 := n.k3; have l1 := n.l1; have l2 := n.l2; have ml := n.ml; have wl := n.wl
  unfold okRule
  simp only [h, Bool.and_eq_true, decide_eq_true_eq, Bool.and_true, Bool.true_and]
  omega
theorem Nice.swap : Nice k l m c vs ws := ⟨n.k1, n.k3, n.l1, n.l2, n.ml, n.c1, n.c2, n.vl, n.wl, n.vb, n.wb⟩
theorem Nice.both : okBoth ws vs l m l m = true := by
  have h := n.swap.ok
  unfold okBoth
  simp [h, n.wl, n.vl]
theorem Nice.wid : 0 ≤ wid l m c ∧ wid l m c ≤ 9 ∧ (2 * wid l m c + 1) ^ ws.length ≤ 20000 := by
  have h1 := n.k1; have h3 := n.k3; have ml := n.ml; have c1 := n.c1; have c2 := n.c2
  unfold K40.wid
  rw [n.wl]
  have hk : k = 1 ∨ k = 2 ∨ k = 3 := by omega
  rcases hk with rfl | rfl | rfl
  · have hc : c = 1 ∨ c = 2 ∨ c = 3 := by omega
    rcases hc with rfl | rfl | rfl <;> rcases ml with e | e <;> rw [e] <;> decide
  · have hc : c = 1 ∨ c = 2 := by omega
    rcases hc with rfl | rfl <;> rcases ml with e | e <;> rw [e] <;> decide
  · have hc : c = 1 := by omega
    subst hc
    rcases ml with e | e <;> rw [e] <;> decide
theorem Nice.smallW : Small ws := fun a ha => by have := n.wb a ha; omega
theorem Nice.told : t_law_told (A3 ws vs l m c) = .ret (.sh (foundD ws vs (K40.wid l m c))) (A3 ws vs l m c) := by
  have z := told_find ws vs l m c n.ok n.both ⟨n.c1, by have := n.c2; have := n.k1; omega⟩
  rw [if_neg (by have := n.wid.2.2; omega)] at z
  exact z
theorem Nice.due : t_law_due (A3 ws vs l m c) = .ret (.sh (foundD ws vs (K40.wid l m c))) (A3 ws vs l m c) := by
  have w := n.wid
  have ml := n.ml
  exact t_due ws vs l m c n.smallW n.swap.smallW (by have := n.wl; have := n.k3; omega) (by rw [n.wl, n.vl]) (by unfold cMul; simp; omega) w.1 (by omega) (by rw [n.wl]; exact n.k1) w.2.2
theorem Nice.repr : ∃ x, dRepr [foundD ws vs (K40.wid l m c)] = some (.sh (.str x)) := by
  unfold foundD
  cases hf : found ws vs (K40.wid l m c) with
  | none => exact ⟨_, repr_non⟩
  | some g =>
    unfold found at hf
    obtain ⟨h1, h2⟩ := gaps_mem _ _ g (List.mem_of_find?_eq_some hf)
    have w := n.wid
    rw [n.wl] at h1
    exact repr_gap g (by have := n.k1; omega) (by have := n.k3; omega) fun x hx => by have := h2 x hx; omega
end
theorem foundD_non {ws vs : List Int} {w : Int} (h : found ws vs w = none) : foundD ws vs w = .non := by unfold foundD; rw [h]
theorem isnot_non (S : Sls) (t : E) (h : t S = .ok (.sh .non) S) : tOf (eBin qIsN t (eC .non)) S = .ok false S := tOf_of (r := .sh (.bl false)) (eBin_of h rfl rfl) rfl
theorem is_non (S : Sls) (t : E) (h : t S = .ok (.sh .non) S) : tOf (eBin qIs t (eC .non)) S = .ok true S := tOf_of (r := .sh (.bl true)) (eBin_of h rfl rfl) rfl
theorem enc_isnot (g : List Int) : qIs (enc g) .non = some (.sh (.bl false)) := rfl
theorem and_f {t u : T} {S : Sls} (h : t S = .ok false S) : tAndT t u S = .ok false S := by unfold tAndT; rw [h]; rfl
theorem and_t {t u : T} {S : Sls} (h : t S = .ok true S) : tAndT t u S = u S := by unfold tAndT; rw [h]; rfl
theorem or_f {t u : T} {S S1 : Sls} (h : t S = .ok false S1) : tOrT t u S = u S1 := by unfold tOrT; rw [h]; rfl
/-- ws scaled -/
theorem comp_scale (sc : D) (ds : List Int) (s2 s3 s4 s5 s6 s8 s9 s12 s13 s14 s15 s11 : Sl) (ws : List Int) (l m t : Int) (ht : t.natAbs < 2 ^ 64) (hl : ws.length ≤ 1000) (h11 : unsh s11) :
    eB dTuple (aCons (eLc [11] (iSeq itemsOf (eBin dIx (eName 7) (eC (.int 0)))) (gN 11) tYesT (eBin dMul (eName 10) (eName 11))) aNil) (SS sc ds s2 s3 s4 s5 s6 (.sh (rl ws l m)) s8 s9 (.sh (.int t)) s11 s12 s13 s14 s15) =
      .ok (.sh (.tup (zs (ws.map (t * ·))))) (SS sc ds s2 s3 s4 s5 s6 (.sh (rl ws l m)) s8 s9 (.sh (.int t)) s11 s12 s13 s14 s15) := by
  have turn : ∀ w : Int, lcT [11] (gN 11) tYesT (eBin dMul (eName 10) (eName 11)) (.int w) (SS sc ds s2 s3 s4 s5 s6 (.sh (rl ws l m)) s8 s9 (.sh (.int t)) .un s12 s13 s14 s15) = .ok (some (.int (t * w))) (SS sc ds s2 s3 s4 s5 s6 (.sh (rl ws l m)) s8 s9 (.sh (.int t)) .un s12 s13 s14 s15) := fun w => by
    have b : eBin dMul (eName 10) (eName 11) (SS sc ds s2 s3 s4 s5 s6 (.sh (rl ws l m)) s8 s9 (.sh (.int t)) (.sh (.int w)) s12 s13 s14 s15) = .ok (.sh (.int (t * w))) (SS sc ds s2 s3 s4 s5 s6 (.sh (rl ws l m)) s8 s9 (.sh (.int t)) (.sh (.int w)) s12 s13 s14 s15) := by
      refine eBin_of (r1 := .sh (.int t)) (r2 := .sh (.int w)) rfl rfl (on2_of rfl rfl ?_)
      show (if cMul t w = true then _ else _) = _
      rw [if_pos (cMul_small ht)]
    exact lcT_of (S1 := SS sc ds s2 s3 s4 s5 s6 (.sh (rl ws l m)) s8 s9 (.sh (.int t)) (.sh (.int w)) s12 s13 s14 s15) rfl rfl b rfl
  have c := eLc_map (vs := [11]) (t := iSeq itemsOf (eBin dIx (eName 7) (eC (.int 0)))) (g := gN 11) (tt := tYesT) (te := eBin dMul (eName 10) (eName 11)) (S := SS sc ds s2 s3 s4 s5 s6 (.sh (rl ws l m)) s8 s9 (.sh (.int t)) s11 s12 s13 s14 s15) (S1 := SS sc ds s2 s3 s4 s5 s6 (.sh (rl ws l m)) s8 s9 (.sh (.int t)) s11 s12 s13 s14 s15) (ds := zs ws)
    (fun d => match d with | .int w => .int (t * w) | _ => .non) rfl (by rcases h11 with rfl | ⟨d, rfl⟩ <;> rfl) (fun d hd => by
      obtain ⟨w, _, rfl⟩ := List.mem_map.mp hd
      exact turn w) (by rw [zs_len]; exact small_len hl) (by rcases h11 with rfl | ⟨d, rfl⟩ <;> rfl)
  refine eB_of (rs := [.sh (.lst (zs (ws.map (t * ·))))]) (ds := [.lst (zs (ws.map (t * ·)))]) (aOne_of (r := .ow (.lst (zs (ws.map (t * ·))))) (c.trans ?_)) rfl rfl
  congr 3
  unfold zs
  simp only [List.map_map]
  rfl
theorem rep_eq (k : Nat) (x : Int) : repD k [D.int x] = zs (List.replicate k x) := by
  unfold repD zs
  induction k with
  | zero => rfl
  | succ k ih => rw [List.replicate_succ, List.flatten_cons, ih, List.replicate_succ]; rfl
theorem mul_rep (k : Nat) (x : Int) (h1 : 1 ≤ k) (h2 : k ≤ 1000) : dMul (.tup [.int x]) (.int (k : Int)) = some (.sh (.tup (zs (List.replicate k x)))) := by
  show dMulT [.int x] (k : Int) = _
  unfold dMulT
  by_cases hk : k = 1
  · subst hk
    rw [if_pos (by rfl), if_pos ⟨by decide, by decide⟩]
    rfl
  · have e : (([D.int x].isEmpty || ((k : Int) == 1)) = true) = False := by
      apply eq_false
      simp
      omega
    rw [if_neg (by rw [e]; exact not_false), if_neg (by omega), if_pos ⟨by omega, by simp⟩, Int.toNat_natCast, rep_eq]
end K40
namespace K40
open PySem PySem.Spec PyProof.Rows L2 LD
section
variable (sc : D) (s2 : Sl)
/-- the first six statements of a turn: what is drawn -/
theorem draw6 (ds : List Int) (s3 s4 s5 s6 s7 s8 s9 s10 s11 s12 s13 s14 s15 : Sl) (h3 : unsh s3) (h4 : unsh s4) (h5 : unsh s5) (h6 : unsh s6) (h7 : unsh s7) (h8 : unsh s8) (h9 : unsh s9) (u : B) :
    ∃ (ds' : List Int) (k : Nat) (l m c : Int) (ws vs : List Int), Nice k l m c ws vs ∧ (∀ w ∈ ws, 1 ≤ w ∧ w ≤ 6) ∧ sSeq b_law_2l1 (sSeq b_law_2l2 (sSeq b_law_2l3 (sSeq b_law_2l4 (sSeq b_law_2l5 (sSeq b_law_2l6 u))))) (SS sc ds s2 s3 s4 s5 s6 s7 s8 s9 s10 s11 s12 s13 s14 s15) =
      u (SS sc ds' s2 (.sh (.int (k : Int))) (.sh (.int l)) (.sh (.int m)) (.sh (.int c)) (.sh (rl ws l m)) s8 (.sh (rl vs l m)) s10 s11 s12 s13 s14 s15) := by
  obtain ⟨r1, d1, p1, q1, t1⟩ := take_at (te := eC (.int 3)) (S := SS sc ds s2 s3 s4 s5 s6 s7 s8 s9 s10 s11 s12 s13 s14 s15) (ds := ds) (b := 3) rfl rfl (by decide)
  obtain ⟨k, hk⟩ : ∃ k : Nat, 1 + r1 = (k : Int) := ⟨(1 + r1).toNat, by omega⟩
  have e1 : b_law_2l1 (SS sc ds s2 s3 s4 s5 s6 s7 s8 s9 s10 s11 s12 s13 s14 s15) = .nx (SS sc d1 s2 (.sh (.int (k : Int))) s4 s5 s6 s7 s8 s9 s10 s11 s12 s13 s14 s15) := by
    rw [← hk]
    exact sSet_of (eBin_of rfl t1 rfl) (unsh_set (S := SS sc d1 s2 s3 s4 s5 s6 s7 s8 s9 s10 s11 s12 s13 s14 s15) (i := 3) rfl h3)
  obtain ⟨r2, d2, p2, q2, t2⟩ := take_at (te := eC (.int 12)) (S := SS sc d1 s2 (.sh (.int (k : Int))) s4 s5 s6 s7 s8 s9 s10 s11 s12 s13 s14 s15) (ds := d1) (b := 12) rfl rfl (by decide)
  have e2 : b_law_2l2 (SS sc d1 s2 (.sh (.int (k : Int))) s4 s5 s6 s7 s8 s9 s10 s11 s12 s13 s14 s15) = .nx (SS sc d2 s2 (.sh (.int (k : Int))) (.sh (.int (r2 - 10))) s5 s6 s7 s8 s9 s10 s11 s12 s13 s14 s15) :=
    sSet_of (eBin_of t2 rfl rfl) (unsh_set (S := SS sc d2 s2 (.sh (.int (k : Int))) s4 s5 s6 s7 s8 s9 s10 s11 s12 s13 s14 s15) (i := 4) rfl h4)
  obtain ⟨r3, d3, p3, q3, t3⟩ := take_at (te := eC (.int 2)) (S := SS sc d2 s2 (.sh (.int (k : Int))) (.sh (.int (r2 - 10))) s5 s6 s7 s8 s9 s10 s11 s12 s13 s14 s15) (ds := d2) (b := 2) rfl rfl (by decide)
  have e3 : b_law_2l3 (SS sc d2 s2 (.sh (.int (k : Int))) (.sh (.int (r2 - 10))) s5 s6 s7 s8 s9 s10 s11 s12 s13 s14 s15) = .nx (SS sc d3 s2 (.sh (.int (k : Int))) (.sh (.int (r2 - 10))) (.sh (.int (r2 - 10 + 2 + r3))) s6 s7 s8 s9 s10 s11 s12 s13 s14 s15) :=
    sSet_of (eBin_of (r1 := .sh (.int (r2 - 10 + 2))) rfl t3 rfl) (unsh_set (S := SS sc d3 s2 (.sh (.int (k : Int))) (.sh (.int (r2 - 10))) s5 s6 s7 s8 s9 s10 s11 s12 s13 s14 s15) (i := 5) rfl h5)
  have hk1 : 1 ≤ k := by omega
  have hk3 : k ≤ 3 := by omega
  obtain ⟨r4, d4, p4, q4, t4⟩ := take_at (te := eBin dIx (eLst (aCons (eC (.int 3)) (aCons (eC (.int 2)) (aCons (eC (.int 1)) aNil)))) (eBin dSub (eName 3) (eC (.int 1)))) (S := SS sc d3 s2 (.sh (.int (k : Int))) (.sh (.int (r2 - 10))) (.sh (.int (r2 - 10 + 2 + r3))) s6 s7 s8 s9 s10 s11 s12 s13 s14 s15) (ds := d3) (b := 4 - (k : Int)) rfl (ix321 _ k rfl hk1 hk3) (by omega)
  have e4 : b_law_2l4 (SS sc d3 s2 (.sh (.int (k : Int))) (.sh (.int (r2 - 10))) (.sh (.int (r2 - 10 + 2 + r3))) s6 s7 s8 s9 s10 s11 s12 s13 s14 s15) = .nx (SS sc d4 s2 (.sh (.int (k : Int))) (.sh (.int (r2 - 10))) (.sh (.int (r2 - 10 + 2 + r3))) (.sh (.int (1 + r4))) s7 s8 s9 s10 s11 s12 s13 s14 s15) :=
    sSet_of (eBin_of rfl t4 rfl) (unsh_set (S := SS sc d4 s2 (.sh (.int (k : Int))) (.sh (.int (r2 - 10))) (.sh (.int (r2 - 10 + 2 + r3))) s6 s7 s8 s9 s10 s11 s12 s13 s14 s15) (i := 6) rfl h6)
  obtain ⟨ws, d5, w1, w2, t5⟩ := comp_take sc d4 s2 (.sh (.int (r2 - 10))) (.sh (.int (r2 - 10 + 2 + r3))) (.sh (.int (1 + r4))) s7 s8 s9 s10 s11 s12 s13 s14 s15 k (by omega) h8
  have e5 : b_law_2l5 (SS sc d4 s2 (.sh (.int (k : Int))) (.sh (.int (r2 - 10))) (.sh (.int (r2 - 10 + 2 + r3))) (.sh (.int (1 + r4))) s7 s8 s9 s10 s11 s12 s13 s14 s15) = .nx (SS sc d5 s2 (.sh (.int (k : Int))) (.sh (.int (r2 - 10))) (.sh (.int (r2 - 10 + 2 + r3))) (.sh (.int (1 + r4))) (.sh (rl ws (r2 - 10) (r2 - 10 + 2 + r3))) s8 s9 s10 s11 s12 s13 s14 s15) :=
    sSet_of (eTup_c (aCons_of t5 (aCons_of (n_of rfl) (aOne_of (n_of rfl)))) rfl (by show (3 : Nat) ≤ 1000; decide)) (unsh_set (S := SS sc d5 s2 (.sh (.int (k : Int))) (.sh (.int (r2 - 10))) (.sh (.int (r2 - 10 + 2 + r3))) (.sh (.int (1 + r4))) s7 s8 s9 s10 s11 s12 s13 s14 s15) (i := 7) rfl h7)
  obtain ⟨vs, d6, v1, v2, t6⟩ := comp_take sc d5 s2 (.sh (.int (r2 - 10))) (.sh (.int (r2 - 10 + 2 + r3))) (.sh (.int (1 + r4))) (.sh (rl ws (r2 - 10) (r2 - 10 + 2 + r3))) s8 s9 s10 s11 s12 s13 s14 s15 k (by omega) h8
  have e6 : b_law_2l6 (SS sc d5 s2 (.sh (.int (k : Int))) (.sh (.int (r2 - 10))) (.sh (.int (r2 - 10 + 2 + r3))) (.sh (.int (1 + r4))) (.sh (rl ws (r2 - 10) (r2 - 10 + 2 + r3))) s8 s9 s10 s11 s12 s13 s14 s15) = .nx (SS sc d6 s2 (.sh (.int (k : Int))) (.sh (.int (r2 - 10))) (.sh (.int (r2 - 10 + 2 + r3))) (.sh (.int (1 + r4))) (.sh (rl ws (r2 - 10) (r2 - 10 + 2 + r3))) s8 (.sh (rl vs (r2 - 10) (r2 - 10 + 2 + r3))) s10 s11 s12 s13 s14 s15) :=
    sSet_of (eTup_c (aCons_of t6 (aCons_of (n_of rfl) (aOne_of (n_of rfl)))) rfl (by show (3 : Nat) ≤ 1000; decide)) (unsh_set (S := SS sc d6 s2 (.sh (.int (k : Int))) (.sh (.int (r2 - 10))) (.sh (.int (r2 - 10 + 2 + r3))) (.sh (.int (1 + r4))) (.sh (rl ws (r2 - 10) (r2 - 10 + 2 + r3))) s8 s9 s10 s11 s12 s13 s14 s15) (i := 9) rfl h9)
  refine ⟨d6, k, r2 - 10, r2 - 10 + 2 + r3, 1 + r4, ws, vs, ⟨hk1, hk3, by omega, by omega, by omega, by omega, by omega, w1, v1, fun w hw => by have := w2 w hw; omega, fun v hv => by have := v2 v hv; omega⟩, w2, ?_⟩
  rw [sSeq_nx e1, sSeq_nx e2, sSeq_nx e3, sSeq_nx e4, sSeq_nx e5, sSeq_nx e6]
/-- the scaling -/
theorem scale7 (ds : List Int) (k : Nat) (l m c : Int) (ws vs : List Int) (n : Nice k l m c ws vs) (hw : ∀ w ∈ ws, 1 ≤ w ∧ w ≤ 6) (s8 s10 s11 s12 s13 s14 s15 : Sl) (h10 : unsh s10) (h11 : unsh s11) :
    ∃ (ds' : List Int) (vs' : List Int) (t10 : Sl), unsh t10 ∧ Nice k l m c ws vs' ∧ b_law_2l7 (SS sc ds s2 (.sh (.int (k : Int))) (.sh (.int l)) (.sh (.int m)) (.sh (.int c)) (.sh (rl ws l m)) s8 (.sh (rl vs l m)) s10 s11 s12 s13 s14 s15) =
      .nx (SS sc ds' s2 (.sh (.int (k : Int))) (.sh (.int l)) (.sh (.int m)) (.sh (.int c)) (.sh (rl ws l m)) s8 (.sh (rl vs' l m)) t10 s11 s12 s13 s14 s15) := by
  obtain ⟨r, d1, p1, q1, t1⟩ := take_at (te := eC (.int 3)) (S := SS sc ds s2 (.sh (.int (k : Int))) (.sh (.int l)) (.sh (.int m)) (.sh (.int c)) (.sh (rl ws l m)) s8 (.sh (rl vs l m)) s10 s11 s12 s13 s14 s15) (ds := ds) (b := 3) rfl rfl (by decide)
  have cond : tOf (eBin qEq (eCallL t_law_take (aCons (eName 1) (aCons (eC (.int 3)) aNil))) (eC (.int 0))) (SS sc ds s2 (.sh (.int (k : Int))) (.sh (.int l)) (.sh (.int m)) (.sh (.int c)) (.sh (rl ws l m)) s8 (.sh (rl vs l m)) s10 s11 s12 s13 s14 s15) = .ok (decide (r = 0)) (SS sc d1 s2 (.sh (.int (k : Int))) (.sh (.int l)) (.sh (.int m)) (.sh (.int c)) (.sh (rl ws l m)) s8 (.sh (rl vs l m)) s10 s11 s12 s13 s14 s15) := by
    refine tOf_of (r := .sh (.bl (decide (r = 0)))) (eBin_of t1 rfl (on2_of (d := .int r) (e := .int 0) rfl rfl ?_)) rfl
    by_cases h : r = 0 <;> simp [fB, rvB, dEq, okEq, plainD, dep, eqD, h]
  have e := sIf_of (t := sSeq b_law_2l7a1 (sSeq b_law_2l7a2 b_law_2l7a3)) (u := sNx) cond
  by_cases hr : r = 0
  · rw [decide_eq_true hr, if_pos rfl] at e
    obtain ⟨r2, d2, p2, q2, t2⟩ := take_at (te := eC (.int 3)) (S := SS sc d1 s2 (.sh (.int (k : Int))) (.sh (.int l)) (.sh (.int m)) (.sh (.int c)) (.sh (rl ws l m)) s8 (.sh (rl vs l m)) s10 s11 s12 s13 s14 s15) (ds := d1) (b := 3) rfl rfl (by decide)
    have a1 : b_law_2l7a1 (SS sc d1 s2 (.sh (.int (k : Int))) (.sh (.int l)) (.sh (.int m)) (.sh (.int c)) (.sh (rl ws l m)) s8 (.sh (rl vs l m)) s10 s11 s12 s13 s14 s15) = .nx (SS sc d2 s2 (.sh (.int (k : Int))) (.sh (.int l)) (.sh (.int m)) (.sh (.int c)) (.sh (rl ws l m)) s8 (.sh (rl vs l m)) (.sh (.int (1 + r2))) s11 s12 s13 s14 s15) :=
      sSet_of (eBin_of rfl t2 rfl) (unsh_set (S := SS sc d2 s2 (.sh (.int (k : Int))) (.sh (.int l)) (.sh (.int m)) (.sh (.int c)) (.sh (rl ws l m)) s8 (.sh (rl vs l m)) s10 s11 s12 s13 s14 s15) (i := 10) rfl h10)
    have t3 := comp_scale sc d2 s2 (.sh (.int (k : Int))) (.sh (.int l)) (.sh (.int m)) (.sh (.int c)) s8 (.sh (rl vs l m)) s12 s13 s14 s15 s11 ws l m (1 + r2) (by omega) (by have := n.wl; have := n.k3; omega) h11
    have a2 : b_law_2l7a2 (SS sc d2 s2 (.sh (.int (k : Int))) (.sh (.int l)) (.sh (.int m)) (.sh (.int c)) (.sh (rl ws l m)) s8 (.sh (rl vs l m)) (.sh (.int (1 + r2))) s11 s12 s13 s14 s15) = .nx (SS sc d2 s2 (.sh (.int (k : Int))) (.sh (.int l)) (.sh (.int m)) (.sh (.int c)) (.sh (rl ws l m)) s8 (.sh (rl (ws.map ((1 + r2) * ·)) l m)) (.sh (.int (1 + r2))) s11 s12 s13 s14 s15) :=
      sSet_of (eTup_c (aCons_of t3 (aCons_of (n_of rfl) (aOne_of (n_of rfl)))) rfl (by show (3 : Nat) ≤ 1000; decide)) (unsh_set (S := SS sc d2 s2 (.sh (.int (k : Int))) (.sh (.int l)) (.sh (.int m)) (.sh (.int c)) (.sh (rl ws l m)) s8 (.sh (rl vs l m)) (.sh (.int (1 + r2))) s11 s12 s13 s14 s15) (i := 9) rfl (.inr ⟨_, rfl⟩))
    have n' : Nice k l m c ws (ws.map ((1 + r2) * ·)) := ⟨n.k1, n.k3, n.l1, n.l2, n.ml, n.c1, n.c2, n.wl, by rw [List.length_map]; exact n.wl, n.wb, fun v hv => by
      obtain ⟨w, hw', rfl⟩ := List.mem_map.mp hv
      have b := hw w hw'
      have hr2 : r2 = 0 ∨ r2 = 1 ∨ r2 = 2 := by omega
      rcases hr2 with rfl | rfl | rfl <;> omega⟩
    have td := n'.told
    rw [foundD_non (found_scale ws (1 + r2) _ (by omega))] at td
    have c3 := isnot_non _ _ (told_at (i := 7) (j := 9) (te := eName 6) (S := SS sc d2 s2 (.sh (.int (k : Int))) (.sh (.int l)) (.sh (.int m)) (.sh (.int c)) (.sh (rl ws l m)) s8 (.sh (rl (ws.map ((1 + r2) * ·)) l m)) (.sh (.int (1 + r2))) s11 s12 s13 s14 s15) rfl rfl (n_of rfl) td)
    have a3 := sIf_of (t := b_law_2l7a3a1) (u := sNx) c3
    exact ⟨d2, _, _, .inr ⟨_, rfl⟩, n', e.trans ((sSeq_nx a1).trans ((sSeq_nx a2).trans a3))⟩
  · rw [decide_eq_false hr, if_neg Bool.false_ne_true] at e
    exact ⟨d1, vs, s10, h10, n, e⟩
/-- the wrong rules -/
theorem odd_right (k : Nat) (l m c : Int) (ws vs : List Int) (n : Nice k l m c ws vs) : ∀ o ∈ [rl (List.replicate k 1) l (m + 1), rl (List.replicate k 1) (l - 1) m, rl (List.replicate (k + 1) 1) l m, rl (List.replicate k 0) l m, .non],
    t_law_told [.sh (rl ws l m), .sh o, .sh (.int 9)] = .ret (.sh (.str "right")) [.sh (rl ws l m), .sh o, .sh (.int 9)] := by
  have lw : ws.length < 1000 := by have := n.wl; have := n.k3; omega
  have hk := n.k3
  intro o ho
  simp only [List.mem_cons, List.not_mem_nil, or_false] at ho
  rcases ho with rfl | rfl | rfl | rfl | rfl
  · exact told_right ws _ l m l (m + 1) 9 lw n.ok (by rw [List.length_replicate]; omega) (by unfold okBoth; simp; intro _ h; omega)
  · exact told_right ws _ l m (l - 1) m 9 lw n.ok (by rw [List.length_replicate]; omega) (by unfold okBoth; simp; intro _ h; omega)
  · exact told_right ws _ l m l m 9 lw n.ok (by rw [List.length_replicate]; omega) (by unfold okBoth; simp [n.wl])
  · refine told_right ws _ l m l m 9 lw n.ok (by rw [List.length_replicate]; omega) ?_
    have h : (List.replicate k (0 : Int)).all okW = false := by
      have h1 := n.k1
      obtain ⟨j, rfl⟩ : ∃ j, k = j + 1 := ⟨k - 1, by omega⟩
      rw [List.replicate_succ, List.all_cons]
      rfl
    unfold okBoth okRule
    simp [h]
  · exact told_non ws l m 9 lw n.ok
end
end K40
namespace K40
open PySem PySem.Spec PyProof.Rows L2 LD
theorem and_f2 {t u : T} {S S1 : Sls} (h : t S = .ok false S1) : tAndT t u S = .ok false S1 := by unfold tAndT; rw [h]; rfl
theorem if_no {c : T} {t : B} {S S1 : Sls} (h : c S = .ok false S1) : sIf c t sNx S = .nx S1 := (sIf_of h).trans rfl
theorem strs_ne (S S1 S2 : Sls) (t u : E) (r1 r2 : Rv) (x : List D) (h1 : t S = .ok r1 S1) (h2 : u S1 = .ok r2 S2) (p1 : peek S2 r1 = some (.lst x)) (p2 : peek S2 r2 = some (.lst x)) (ok : dNe (.lst x) (.lst x) = some false) : tOf (eBin qNe t u) S = .ok false S2 :=
  tOf_of (r := .sh (.bl false)) (eBin_of h1 h2 (on2_of p1 p2 (by show rvB (dNe (.lst x) (.lst x)) = _; rw [ok]; rfl))) rfl
section
variable (sc : D) (s2 s8 s10 s11 : Sl) (ds : List Int) (k : Nat) (l m c : Int) (ws vs : List Int) (n : Nice k l m c ws vs)
include n
abbrev SX (sc : D) (s2 s8 s10 s11 : Sl) (ds : List Int) (k : Nat) (l m c : Int) (ws vs : List Int) (s12 s13 s14 s15 : Sl) : Sls := SS sc ds s2 (.sh (.int (k : Int))) (.sh (.int l)) (.sh (.int m)) (.sh (.int c)) (.sh (rl ws l m)) s8 (.sh (rl vs l m)) s10 s11 s12 s13 s14 s15
theorem st8 (s12 s13 s14 s15 : Sl) (h12 : unsh s12) : b_law_2l8 (SX sc s2 s8 s10 s11 ds k l m c ws vs s12 s13 s14 s15) = .nx (SX sc s2 s8 s10 s11 ds k l m c ws vs (.sh (foundD ws vs (wid l m c))) s13 s14 s15) := by
  have d := n.due
  have e : eCall t_law_due (aCons (eName 7) (aCons (eName 9) (aCons (eName 6) aNil))) (SX sc s2 s8 s10 s11 ds k l m c ws vs s12 s13 s14 s15) = .ok (.sh (foundD ws vs (wid l m c))) (SX sc s2 s8 s10 s11 ds k l m c ws vs s12 s13 s14 s15) :=
    (eCall_of (aCons_of (n_of rfl) (aCons_of (n_of rfl) (aOne_of (n_of rfl)))) (ds := [rl ws l m, rl vs l m, .int c]) rfl d).trans rfl
  exact sSet_of e (unsh_set (S := SX sc s2 s8 s10 s11 ds k l m c ws vs s12 s13 s14 s15) (i := 12) rfl h12)
theorem st9 (s13 s14 s15 : Sl) : b_law_2l9 (SX sc s2 s8 s10 s11 ds k l m c ws vs (.sh (foundD ws vs (wid l m c))) s13 s14 s15) = .nx (SX sc s2 s8 s10 s11 ds k l m c ws vs (.sh (foundD ws vs (wid l m c))) s13 s14 s15) := by
  obtain ⟨x, hx⟩ := n.repr
  have td := told_at (i := 7) (j := 9) (te := eName 6) (S := SX sc s2 s8 s10 s11 ds k l m c ws vs (.sh (foundD ws vs (wid l m c))) s13 s14 s15) rfl rfl (n_of rfl) n.told
  have e1 := eB_of (f := dRepr) (aOne_of td) (ds := [foundD ws vs (wid l m c)]) rfl hx
  have e2 := eB_of (f := dRepr) (aOne_of (n_of (i := 12) (S := SX sc s2 s8 s10 s11 ds k l m c ws vs (.sh (foundD ws vs (wid l m c))) s13 s14 s15) rfl)) (ds := [foundD ws vs (wid l m c)]) rfl hx
  refine if_no (tOf_of (r := .sh (.bl false)) (eBin_of e1 e2 (on2_of (d := .str x) (e := .str x) rfl rfl ?_)) rfl)
  simp [fB, rvB, dNe, okEq, plainD, dep, eqD]
theorem st10 (s13 s14 s15 : Sl) : b_law_2l10 (SX sc s2 s8 s10 s11 ds k l m c ws vs (.sh (foundD ws vs (wid l m c))) s13 s14 s15) = .nx (SX sc s2 s8 s10 s11 ds k l m c ws vs (.sh (foundD ws vs (wid l m c))) s13 s14 s15) := by
  refine if_no ?_
  cases hf : found ws vs (wid l m c) with
  | some g =>
    have e : foundD ws vs (wid l m c) = enc g := by unfold foundD; rw [hf]
    rw [e]
    exact and_f2 (tOf_of (r := .sh (.bl false)) (eBin_of (n_of rfl) rfl (on2_of (d := enc g) (e := .non) rfl rfl (enc_isnot g))) rfl)
  | none =>
    have e := foundD_non hf
    rw [e]
    rw [and_t (is_non _ _ (n_of rfl))]
    by_cases hc : 1 < c
    · have g1 : tOf (eBin qGt (eName 6) (eC (.int 1))) (SX sc s2 s8 s10 s11 ds k l m c ws vs (.sh .non) s13 s14 s15) = .ok true (SX sc s2 s8 s10 s11 ds k l m c ws vs (.sh .non) s13 s14 s15) :=
        tOf_of (r := .sh (.bl true)) (eBin_of (n_of rfl) rfl (on2_of (d := .int c) (e := .int 1) rfl rfl (by show some (Rv.sh (.bl (decide (1 < c)))) = _; rw [decide_eq_true hc]))) rfl
      rw [and_t g1]
      have n' : Nice k l m (c - 1) ws vs := ⟨n.k1, n.k3, n.l1, n.l2, n.ml, by omega, by have := n.c2; omega, n.wl, n.vl, n.wb, n.vb⟩
      have td := n'.told
      have hle : wid l m (c - 1) ≤ wid l m c := by
        unfold wid
        exact Int.mul_le_mul_of_nonneg_right (by omega) (by have := n.ml; omega)
      rw [foundD_non (found_le ws vs _ _ hle hf)] at td
      exact isnot_non _ _ (told_at (i := 7) (j := 9) (te := eBin dSub (eName 6) (eC (.int 1))) (S := SX sc s2 s8 s10 s11 ds k l m c ws vs (.sh .non) s13 s14 s15) rfl rfl (eBin_of (n_of rfl) rfl rfl) td)
    · exact and_f2 (tOf_of (r := .sh (.bl false)) (eBin_of (n_of rfl) rfl (on2_of (d := .int c) (e := .int 1) rfl rfl (by show some (Rv.sh (.bl (decide (1 < c)))) = _; rw [decide_eq_false hc]))) rfl)
def odds (k : Nat) (l m : Int) : List D := [rl (List.replicate k 1) l (m + 1), rl (List.replicate k 1) (l - 1) m, rl (List.replicate (k + 1) 1) l m, rl (List.replicate k 0) l m, .non]
omit n in
theorem rep_e (S : Sls) (j : Int) (te : E) (i : Nat) (h1 : 1 ≤ i) (h2 : i ≤ 1000) (ht : te S = .ok (.sh (.int (i : Int))) S) : eBin dMul (eTup (aCons (eC (.int j)) aNil)) te S = .ok (.sh (.tup (zs (List.replicate i j)))) S :=
  eBin_of (eTup_c (S1 := S) (S2 := S) (rs := [.sh (.int j)]) (ds := [.int j]) rfl rfl (by show (1 : Nat) ≤ 1000; decide)) ht (on2_of rfl rfl (mul_rep i j h1 h2))
omit n in
theorem tup3 (S : Sls) (a b c : E) (x y z : D) (ha : a S = .ok (.sh x) S) (hb : b S = .ok (.sh y) S) (hc : c S = .ok (.sh z) S) : eTup (aCons a (aCons b (aCons c aNil))) S = .ok (.sh (.tup [x, y, z])) S :=
  eTup_c (aCons_of ha (aCons_of hb (aOne_of hc))) rfl (by show (3 : Nat) ≤ 1000; decide)
theorem st11 (s12 s13 s14 s15 : Sl) (h13 : unsh s13) : b_law_2l11 (SX sc s2 s8 s10 s11 ds k l m c ws vs s12 s13 s14 s15) = .nx (SX sc s2 s8 s10 s11 ds k l m c ws vs s12 (.ow (.lst (odds k l m))) s14 s15) := by
  have k1 := n.k1
  have k3 := n.k3
  have nk : eName 3 (SX sc s2 s8 s10 s11 ds k l m c ws vs s12 s13 s14 s15) = .ok (.sh (.int (k : Int))) (SX sc s2 s8 s10 s11 ds k l m c ws vs s12 s13 s14 s15) := n_of rfl
  have nl : eName 4 (SX sc s2 s8 s10 s11 ds k l m c ws vs s12 s13 s14 s15) = .ok (.sh (.int l)) (SX sc s2 s8 s10 s11 ds k l m c ws vs s12 s13 s14 s15) := n_of rfl
  have nm : eName 5 (SX sc s2 s8 s10 s11 ds k l m c ws vs s12 s13 s14 s15) = .ok (.sh (.int m)) (SX sc s2 s8 s10 s11 ds k l m c ws vs s12 s13 s14 s15) := n_of rfl
  have nk1 : eBin dAdd (eName 3) (eC (.int 1)) (SX sc s2 s8 s10 s11 ds k l m c ws vs s12 s13 s14 s15) = .ok (.sh (.int ((k + 1 : Nat) : Int))) (SX sc s2 s8 s10 s11 ds k l m c ws vs s12 s13 s14 s15) := eBin_of nk rfl rfl
  have o1 := tup3 _ _ _ _ _ _ _ (rep_e _ 1 _ k k1 (by omega) nk) nl (eBin_of (f := dAdd) (t2 := eC (.int 1)) nm rfl (o := .ok (.sh (.int (m + 1))) _) rfl)
  have o2 := tup3 _ _ _ _ _ _ _ (rep_e _ 1 _ k k1 (by omega) nk) (eBin_of (f := dSub) (t2 := eC (.int 1)) nl rfl (o := .ok (.sh (.int (l - 1))) _) rfl) nm
  have o3 := tup3 _ _ _ _ _ _ _ (rep_e _ 1 _ (k + 1) (by omega) (by omega) nk1) nl nm
  have o4 := tup3 _ _ _ _ _ _ _ (rep_e _ 0 _ k k1 (by omega) nk) nl nm
  have e := eLst_of (aCons_of o1 (aCons_of o2 (aCons_of o3 (aCons_of o4 (aOne_of (t := eC .non) rfl))))) (ds := odds k l m) rfl (by show (5 : Nat) ≤ 1000; decide)
  refine sSet_of e ?_
  rcases h13 with rfl | ⟨d, rfl⟩ <;> rfl
theorem st12 (s12 s14 s15 : Sl) (h14 : unsh s14) (h15 : unsh s15) : b_law_2l12 (SX sc s2 s8 s10 s11 ds k l m c ws vs s12 (.ow (.lst (odds k l m))) s14 s15) = .nx (SX sc s2 s8 s10 s11 ds k l m c ws vs s12 (.sh (.lst (odds k l m))) s14 s15) := by
  have c1 := eLc_map (vs := [14]) (t := iSeq itemsOf (eName 13)) (g := gN 14) (tt := tYesT) (te := eCall t_law_told (aCons (eName 7) (aCons (eName 14) (aCons (eC (.int 9)) aNil)))) (S := SX sc s2 s8 s10 s11 ds k l m c ws vs s12 (.ow (.lst (odds k l m))) s14 s15)
    (S1 := SX sc s2 s8 s10 s11 ds k l m c ws vs s12 (.sh (.lst (odds k l m))) s14 s15) (ds := odds k l m) (fun _ => .str "right") rfl (by rcases h14 with rfl | ⟨d, rfl⟩ <;> rfl) (fun o ho => by
      have td := odd_right k l m c ws vs n o ho
      have z : lcT [14] (gN 14) tYesT (eCall t_law_told (aCons (eName 7) (aCons (eName 14) (aCons (eC (.int 9)) aNil)))) o (SX sc s2 s8 s10 s11 ds k l m c ws vs s12 (.sh (.lst (odds k l m))) .un s15) = .ok (some (.str "right")) (SX sc s2 s8 s10 s11 ds k l m c ws vs s12 (.sh (.lst (odds k l m))) .un s15) :=
        lcT_of (S1 := SX sc s2 s8 s10 s11 ds k l m c ws vs s12 (.sh (.lst (odds k l m))) (.sh o) s15) rfl rfl (told_at (i := 7) (j := 14) (te := eC (.int 9)) rfl rfl rfl td) rfl
      exact z)
    (by show (5 : Nat) ≤ sizeLine; exact small_len (by decide)) (by rcases h14 with rfl | ⟨d, rfl⟩ <;> rfl)
  have r5 : ∀ (S : Sls) (x : Str) (j : Int), 0 ≤ j → j ≤ 100 → eBin dMul (eLst (aCons (eC (.str x)) aNil)) (eC (.int j)) S = .ok (.ow (.lst (repD j.toNat [.str x]))) S := fun S x j h0 h1 => by
    refine eBin_of (eLst_of (S1 := S) (S2 := S) (rs := [.sh (.str x)]) (ds := [.str x]) rfl rfl (by show (1 : Nat) ≤ 1000; decide)) rfl (on2_of (d := .lst [.str x]) (e := .int j) rfl rfl ?_)
    exact if_pos ⟨Int.le_trans (by decide) h0, Int.lt_of_le_of_lt h1 (by decide), by show 1 * j.toNat ≤ sizeLine; exact small_len (by omega)⟩
  have b1 := strs_ne _ _ _ _ _ _ _ [.str "right", .str "right", .str "right", .str "right", .str "right"] c1 (r5 _ "right" 5 (by decide) (by decide)) rfl rfl (by simp [dNe, okEq, plainD, plainDs, dep, deps, eqD, eqDs])
  have c2 := eLc_map (vs := [15]) (t := iSeq itemsOf (eLst (aCons (eC (.int 0)) (aCons (eC (.int 7)) (aCons (eUn dNeg (eC (.int 1))) aNil))))) (g := gN 15) (tt := tYesT) (te := eCall t_law_told (aCons (eName 7) (aCons (eName 9) (aCons (eName 15) aNil)))) (S := SX sc s2 s8 s10 s11 ds k l m c ws vs s12 (.sh (.lst (odds k l m))) s14 s15)
    (S1 := SX sc s2 s8 s10 s11 ds k l m c ws vs s12 (.sh (.lst (odds k l m))) s14 s15) (ds := [.int 0, .int 7, .int (-1)]) (fun _ => .str "there") (by
      unfold iSeq
      rw [eLst_of (ts := aCons (eC (.int 0)) (aCons (eC (.int 7)) (aCons (eUn dNeg (eC (.int 1))) aNil))) (S := SX sc s2 s8 s10 s11 ds k l m c ws vs s12 (.sh (.lst (odds k l m))) s14 s15) (S1 := SX sc s2 s8 s10 s11 ds k l m c ws vs s12 (.sh (.lst (odds k l m))) s14 s15) (S2 := SX sc s2 s8 s10 s11 ds k l m c ws vs s12 (.sh (.lst (odds k l m))) s14 s15) (rs := [.sh (.int 0), .sh (.int 7), .sh (.int (-1))]) (ds := [.int 0, .int 7, .int (-1)]) rfl rfl (by show (3 : Nat) ≤ 1000; decide)]
      rfl) (by rcases h15 with rfl | ⟨d, rfl⟩ <;> rfl) (fun o ho => by
      simp only [List.mem_cons, List.not_mem_nil, or_false] at ho
      have td : ∀ j : Int, ¬ (1 ≤ j ∧ j ≤ 6) → _ := fun j hj => told_there ws vs l m l m j (by have := n.wl; have := n.k3; omega) n.ok (by have := n.vl; have := n.k3; omega) n.both hj
      have go : ∀ j : Int, ¬ (1 ≤ j ∧ j ≤ 6) → lcT [15] (gN 15) tYesT (eCall t_law_told (aCons (eName 7) (aCons (eName 9) (aCons (eName 15) aNil)))) (.int j) (SX sc s2 s8 s10 s11 ds k l m c ws vs s12 (.sh (.lst (odds k l m))) s14 .un) = .ok (some (.str "there")) (SX sc s2 s8 s10 s11 ds k l m c ws vs s12 (.sh (.lst (odds k l m))) s14 .un) := fun j hj =>
        lcT_of (S1 := SX sc s2 s8 s10 s11 ds k l m c ws vs s12 (.sh (.lst (odds k l m))) s14 (.sh (.int j))) rfl rfl (told_at (i := 7) (j := 9) (te := eName 15) rfl rfl (n_of rfl) (td j hj)) rfl
      rcases ho with rfl | rfl | rfl
      · exact go 0 (by omega)
      · exact go 7 (by omega)
      · exact go (-1) (by omega))
    (by show (3 : Nat) ≤ sizeLine; exact small_len (by decide)) (by rcases h15 with rfl | ⟨d, rfl⟩ <;> rfl)
  have b2 := strs_ne _ _ _ _ _ _ _ [.str "there", .str "there", .str "there"] c2 (r5 _ "there" 3 (by decide) (by decide)) rfl rfl (by simp [dNe, okEq, plainD, plainDs, dep, deps, eqD, eqDs])
  exact if_no ((or_f b1).trans b2)
end
end K40
namespace K40
open PySem PySem.Spec PyProof.Rows L2 LD
theorem turn_ok (sc : D) (ds : List Int) (d : D) (s2 s3 s4 s5 s6 s7 s8 s9 s10 s11 s12 s13 s14 s15 : Sl) (h2 : unsh s2) (h3 : unsh s3) (h4 : unsh s4) (h5 : unsh s5) (h6 : unsh s6) (h7 : unsh s7) (h8 : unsh s8) (h9 : unsh s9) (h10 : unsh s10) (h11 : unsh s11) (h12 : unsh s12) (h13 : unsh s13) (h14 : unsh s14) (h15 : unsh s15) :
    ∃ ds' t3 t4 t5 t6 t7 t9 t10 t12 t13, unsh t3 ∧ unsh t4 ∧ unsh t5 ∧ unsh t6 ∧ unsh t7 ∧ unsh t9 ∧ unsh t10 ∧ unsh t12 ∧ unsh t13 ∧ gN 2 d (SS sc ds s2 s3 s4 s5 s6 s7 s8 s9 s10 s11 s12 s13 s14 s15) = some (SS sc ds (.sh d) s3 s4 s5 s6 s7 s8 s9 s10 s11 s12 s13 s14 s15) ∧
      (sSeq b_law_2l1 (sSeq b_law_2l2 (sSeq b_law_2l3 (sSeq b_law_2l4 (sSeq b_law_2l5 (sSeq b_law_2l6 (sSeq b_law_2l7 (sSeq b_law_2l8 (sSeq b_law_2l9 (sSeq b_law_2l10 (sSeq b_law_2l11 b_law_2l12))))))))))) (SS sc ds (.sh d) s3 s4 s5 s6 s7 s8 s9 s10 s11 s12 s13 s14 s15) =
        .nx (SS sc ds' (.sh d) t3 t4 t5 t6 t7 s8 t9 t10 s11 t12 t13 s14 s15) := by
  obtain ⟨d1, k, l, m, c, ws, vs, n, hw, e1⟩ := draw6 sc (.sh d) ds s3 s4 s5 s6 s7 s8 s9 s10 s11 s12 s13 s14 s15 h3 h4 h5 h6 h7 h8 h9 (sSeq b_law_2l7 (sSeq b_law_2l8 (sSeq b_law_2l9 (sSeq b_law_2l10 (sSeq b_law_2l11 b_law_2l12)))))
  obtain ⟨d2, vs', t10, h10', n', e2⟩ := scale7 sc (.sh d) d1 k l m c ws vs n hw s8 s10 s11 s12 s13 s14 s15 h10 h11
  have e8 := st8 sc (.sh d) s8 t10 s11 d2 k l m c ws vs' n' s12 s13 s14 s15 h12
  have e9 := st9 sc (.sh d) s8 t10 s11 d2 k l m c ws vs' n' s13 s14 s15
  have e10 := st10 sc (.sh d) s8 t10 s11 d2 k l m c ws vs' n' s13 s14 s15
  have e11 := st11 sc (.sh d) s8 t10 s11 d2 k l m c ws vs' n' (.sh (foundD ws vs' (wid l m c))) s13 s14 s15 h13
  have e12 := st12 sc (.sh d) s8 t10 s11 d2 k l m c ws vs' n' (.sh (foundD ws vs' (wid l m c))) s14 s15 h14 h15
  refine ⟨d2, .sh (.int (k : Int)), .sh (.int l), .sh (.int m), .sh (.int c), .sh (rl ws l m), .sh (rl vs' l m), t10, .sh (foundD ws vs' (wid l m c)), .sh (.lst (odds k l m)), .inr ⟨_, rfl⟩, .inr ⟨_, rfl⟩, .inr ⟨_, rfl⟩, .inr ⟨_, rfl⟩, .inr ⟨_, rfl⟩, .inr ⟨_, rfl⟩, h10', .inr ⟨_, rfl⟩, .inr ⟨_, rfl⟩, unsh_set (S := SS sc ds s2 s3 s4 s5 s6 s7 s8 s9 s10 s11 s12 s13 s14 s15) (i := 2) rfl h2, ?_⟩
  exact e1.trans ((sSeq_nx e2).trans ((sSeq_nx e8).trans ((sSeq_nx e9).trans ((sSeq_nx e10).trans ((sSeq_nx e11).trans e12)))))
/-! ### the end -/
theorem told_same (ws : List Int) (l m c : Int) (ok : okRule ws l m = true) (hc : 1 ≤ c ∧ c ≤ 6) (hb : (2 * wid l m c + 1) ^ ws.length ≤ 20000) : t_law_told (A3 ws ws l m c) = .ret (.sh .non) (A3 ws ws l m c) := by
  have both : okBoth ws ws l m l m = true := by unfold okBoth; simp [ok]
  have z := told_find ws ws l m c ok both hc
  rw [if_neg (by omega), foundD_non (found_same ws _)] at z
  exact z
theorem told_sm : t_law_told (A3 [1, 1, 1] [2, 2, 2] (-3) 10 1) = .ret (.sh .non) (A3 [1, 1, 1] [2, 2, 2] (-3) 10 1) := by
  have z := told_find [1, 1, 1] [2, 2, 2] (-3) 10 1 (by decide) (by decide) (by decide)
  have f : foundD [1, 1, 1] [2, 2, 2] (wid (-3) 10 1) = .non := foundD_non (found_scale [1, 1, 1] 2 _ (by decide))
  rw [if_neg (by decide), f] at z
  exact z
theorem told_wd : t_law_told (A3 [2, 2, 2] [2, 2, 2] (-4) 10 1) = .ret (.sh (.str "large")) (A3 [2, 2, 2] [2, 2, 2] (-4) 10 1) := by
  have z := told_find [2, 2, 2] [2, 2, 2] (-4) 10 1 (by decide) (by decide) (by decide)
  rw [if_pos (by decide)] at z
  exact z
theorem told_6 : t_law_told (A3 [1, 2, 1] [1, 2, 1] 0 2 6) = .ret (.sh .non) (A3 [1, 2, 1] [1, 2, 1] 0 2 6) := told_same _ _ _ _ (by decide) (by decide) (by decide)
theorem told_7 : t_law_told (A3 [1, 2, 1] [1, 2, 1] 0 2 7) = .ret (.sh (.str "there")) (A3 [1, 2, 1] [1, 2, 1] 0 2 7) := told_there [1, 2, 1] [1, 2, 1] 0 2 0 2 7 (by decide) (by decide) (by decide) (by decide) (by omega)
/-- a call of told, any arguments -/
theorem told_e {ta tb tc : E} {S : Sls} {r o d : D} {c : Int} {A : Sls} (ha : ta S = .ok (.sh r) S) (hb : tb S = .ok (.sh o) S) (hc : tc S = .ok (.sh (.int c)) S) (h : t_law_told [.sh r, .sh o, .sh (.int c)] = .ret (.sh d) A) : eCall t_law_told (aCons ta (aCons tb (aCons tc aNil))) S = .ok (.sh d) S :=
  (eCall_of (aCons_of ha (aCons_of hb (aOne_of hc))) (ds := [r, o, .int c]) rfl h).trans rfl
theorem law_ok (ns : List Int) (hn : ns.length ≤ 63) : ∃ A, t_law [.sh (.lst (zs ns))] = .ret (.sh (.bl true)) A := by
  obtain ⟨ds, dr⟩ := t_draws ns hn
  have a1 : b_law_1 [.sh (.lst (zs ns)), .un, .un, .un, .un, .un, .un, .un, .un, .un, .un, .un, .un, .un, .un, .un, .un, .un] = .nx (SS (.lst (zs ns)) ds .un .un .un .un .un .un .un .un .un .un .un .un .un .un) :=
    sSet_of ((eCall_of (aOne_of (n_of rfl)) (ds := [.lst (zs ns)]) rfl dr).trans rfl) rfl
  obtain ⟨S', e2, ds', s2, s3, s4, s5, s6, s7, s9, s10, s12, s13, hS, _⟩ := forL_iter (g := gN 2) (b := sSeq b_law_2l1 (sSeq b_law_2l2 (sSeq b_law_2l3 (sSeq b_law_2l4 (sSeq b_law_2l5 (sSeq b_law_2l6 (sSeq b_law_2l7 (sSeq b_law_2l8 (sSeq b_law_2l9 (sSeq b_law_2l10 (sSeq b_law_2l11 b_law_2l12)))))))))))
    (fun i S => ∃ ds' s2 s3 s4 s5 s6 s7 s9 s10 s12 s13, S = SS (.lst (zs ns)) ds' s2 s3 s4 s5 s6 s7 .un s9 s10 .un s12 s13 .un .un ∧ unsh s2 ∧ unsh s3 ∧ unsh s4 ∧ unsh s5 ∧ unsh s6 ∧ unsh s7 ∧ unsh s9 ∧ unsh s10 ∧ unsh s12 ∧ unsh s13) 3 (fun i d S hi ⟨dsx, s2, s3, s4, s5, s6, s7, s9, s10, s12, s13, hS, h2, h3, h4, h5, h6, h7, h9, h10, h12, h13⟩ => by
      subst hS
      obtain ⟨ds', t3, t4, t5, t6, t7, t9, t10, t12, t13, k3, k4, k5, k6, k7, k9, k10, k12, k13, g, e⟩ := turn_ok (.lst (zs ns)) dsx d s2 s3 s4 s5 s6 s7 .un s9 s10 .un s12 s13 .un .un h2 h3 h4 h5 h6 h7 (.inl rfl) h9 h10 (.inl rfl) h12 h13 (.inl rfl) (.inl rfl)
      exact ⟨_, _, g, e, ds', .sh d, t3, t4, t5, t6, t7, t9, t10, t12, t13, rfl, .inr ⟨_, rfl⟩, k3, k4, k5, k6, k7, k9, k10, k12, k13⟩) (rangeD 0 3) 0 (SS (.lst (zs ns)) ds .un .un .un .un .un .un .un .un .un .un .un .un .un .un)
    ⟨ds, .un, .un, .un, .un, .un, .un, .un, .un, .un, .un, rfl, .inl rfl, .inl rfl, .inl rfl, .inl rfl, .inl rfl, .inl rfl, .inl rfl, .inl rfl, .inl rfl, .inl rfl⟩ (by rw [rangeD_len]; decide)
  subst hS
  have a2 : b_law_2 (SS (.lst (zs ns)) ds .un .un .un .un .un .un .un .un .un .un .un .un .un .un) = _ := (sFor_of (ds := rangeD 0 3) (iRng1_of (aOne_of rfl) rfl (rngOk_i 3 (by decide) (by decide)))).trans e2
  let Z (x y : Sl) : Sls := [.sh (.lst (zs ns)), .ow (.lst (zs ds')), s2, s3, s4, s5, s6, s7, .un, s9, s10, .un, s12, s13, .un, .un, x, y]
  have t1 : ∀ (S : Sls) (a b c : Int), eTup (aCons (eC (.int a)) (aCons (eC (.int b)) (aCons (eC (.int c)) aNil))) S = .ok (.sh (.tup (zs [a, b, c]))) S := fun S a b c => tup3 S _ _ _ _ _ _ rfl rfl rfl
  have t2 : ∀ (S : Sls) (a b c l m : Int), eTup (aCons (eTup (aCons (eC (.int a)) (aCons (eC (.int b)) (aCons (eC (.int c)) aNil)))) (aCons (eUn dNeg (eC (.int l))) (aCons (eC (.int m)) aNil))) S = .ok (.sh (rl [a, b, c] (-l) m)) S := fun S a b c l m => tup3 S _ _ _ _ _ _ (t1 S a b c) rfl rfl
  have t3 : ∀ (S : Sls) (a b c l m : Int), eTup (aCons (eTup (aCons (eC (.int a)) (aCons (eC (.int b)) (aCons (eC (.int c)) aNil)))) (aCons (eC (.int l)) (aCons (eC (.int m)) aNil))) S = .ok (.sh (rl [a, b, c] l m)) S := fun S a b c l m => tup3 S _ _ _ _ _ _ (t1 S a b c) rfl rfl
  have a3 : b_law_3 (Z .un .un) = .nx (Z (.sh (rl [1, 1, 1] (-3) 10)) (.sh (rl [2, 2, 2] (-4) 10))) := by
    have e := eTup_c (aCons_of (t2 (Z .un .un) 1 1 1 3 10) (aOne_of (t2 (Z .un .un) 2 2 2 4 10))) (ds := [rl [1, 1, 1] (-3) 10, rl [2, 2, 2] (-4) 10]) rfl (by show (2 : Nat) ≤ 1000; decide)
    unfold b_law_3 sAsg
    rw [e, outOf_ok]
    rfl
  have a4 : b_law_4 (Z (.sh (rl [1, 1, 1] (-3) 10)) (.sh (rl [2, 2, 2] (-4) 10))) = .nx (Z (.sh (rl [1, 1, 1] (-3) 10)) (.sh (rl [2, 2, 2] (-4) 10))) := by
    have c1 := isnot_non _ _ (told_e (S := Z (.sh (rl [1, 1, 1] (-3) 10)) (.sh (rl [2, 2, 2] (-4) 10))) (n_of (i := 16) rfl) (t2 _ 2 2 2 3 10) (tc := eC (.int 1)) rfl told_sm)
    have c2 := told_e (S := Z (.sh (rl [1, 1, 1] (-3) 10)) (.sh (rl [2, 2, 2] (-4) 10))) (n_of (i := 17) rfl) (n_of (i := 17) rfl) (tc := eC (.int 1)) rfl told_wd
    have c3 : tOf (eBin qNe (eCall t_law_told (aCons (eName 17) (aCons (eName 17) (aCons (eC (.int 1)) aNil)))) (eC (.str "large"))) (Z (.sh (rl [1, 1, 1] (-3) 10)) (.sh (rl [2, 2, 2] (-4) 10))) = .ok false (Z (.sh (rl [1, 1, 1] (-3) 10)) (.sh (rl [2, 2, 2] (-4) 10))) :=
      tOf_of (r := .sh (.bl false)) (eBin_of c2 rfl (on2_of (d := .str "large") (e := .str "large") rfl rfl (by simp [fB, rvB, dNe, okEq, plainD, dep, eqD]))) rfl
    exact if_no ((or_f c1).trans c3)
  have a5 : b_law_5 (Z (.sh (rl [1, 1, 1] (-3) 10)) (.sh (rl [2, 2, 2] (-4) 10))) = .rt (.sh (.bl true)) (Z (.sh (rl [1, 1, 1] (-3) 10)) (.sh (rl [2, 2, 2] (-4) 10))) := by
    have c1 := told_e (S := Z (.sh (rl [1, 1, 1] (-3) 10)) (.sh (rl [2, 2, 2] (-4) 10))) (t3 _ 1 2 1 0 2) (t3 _ 1 2 1 0 2) (tc := eC (.int 6)) rfl told_6
    have c2 := told_e (S := Z (.sh (rl [1, 1, 1] (-3) 10)) (.sh (rl [2, 2, 2] (-4) 10))) (t3 _ 1 2 1 0 2) (t3 _ 1 2 1 0 2) (tc := eC (.int 7)) rfl told_7
    have b1 := eBin_of (f := qIs) c1 (t2 := eC .non) rfl (o := .ok (.sh (.bl true)) _) rfl
    have b2 := eBin_of (f := qEq) c2 (t2 := eC (.str "there")) rfl (on2_of (d := .str "there") (e := .str "there") (res := .sh (.bl true)) rfl rfl (by simp [fB, rvB, dEq, okEq, plainD, dep, eqD]))
    refine sRet_of ?_
    unfold eAndV
    rw [b1, Ou.bind_ok]
    exact b2
  exact ⟨_, semF_of (o := .rt (.sh (.bl true)) (Z (.sh (rl [1, 1, 1] (-3) 10)) (.sh (rl [2, 2, 2] (-4) 10)))) ((sSeq_nx a1).trans ((sSeq_nx a2).trans ((sSeq_nx a3).trans ((sSeq_nx a4).trans a5))))⟩
end K40
namespace K40
open PySem PySem.Spec PyProof.Rows L2 LD
theorem facts {P : Program} {w : World} {K : PySem.W.Frag} {h : Heap} {mg : Str → Option Value} {f : Addr} (X : K.In h) (G : h.Ns mainGlobals mg) (hfa : mg ("law" : Str) = some (.ref f)) (c : He.SaysD fa fn K) :
    ∃ fd : FuncData, (∀ (s : Shared) (v : Value), BindsTo s fd ⟨[v], []⟩ [("script", v)]) ∧ ∀ base : Heap, FnG P w K mg base 7 f fd ["script"] (spAny P w K mg (fun _ => True) t_law) := by
  have E := ge_of X G c
  obtain ⟨f', fd, gf, F⟩ := E.d_law
  rw [hfa] at gf
  cases gf
  have b := FunD.bindsA (ps := ["script"]) F fun _ _ _ _ _ _ us hl => match us, hl with | [_], _ => rfl
  exact ⟨fd, fun s v => b s [v] rfl, fun base => FnG.any fun C _ => fn_law E F⟩
end K40
open PySem PySem.W PySem.Calls PyProof.Rows PySem.Challenge
theorem PySem.Challenge.cw_laurelhall_k40_gaps_that_rules_rank_holds : PySem.Challenge.rw_laurelhall_k40_gaps_that_rules_rank.Holds := by
  w_on; o_law
  refine HandSHeadRun.head_any (r := K40.R) (q := view K40.R.prog [28]) (H := K40.hk) (ob := K40.ob) (M := 6000) (loose := K40.loose) (d := HandSHeadRun.topDef K40.R.prog 28) (kwd := []) K40.ob_eq
    (by kernel_rfl) (fun s => by kernel_rfl) K40.run (by kernel_rfl) (by kernel_rfl) (by kernel_rfl) (by rfl) (by first | assumption | decide +kernel) (by decide +kernel) ⟨rfl, rfl, rfl, rfl, rfl, by decide +kernel⟩ ?hw ?hc
  case hw => w_witness2
  case hc =>
    refine LD.walk_G (l := PySem.Challenge.rw_laurelhall_k40_gaps_that_rules_rank) (n := 63) (k := 7) (x := "script") rfl (by decide) (by kernel_rfl) ⟨rfl, by decide, by decide⟩ ?F
    intro w mg fa h Y G hmg0
    obtain ⟨K, KX, c⟩ := Y
    have hmg : mg ("law" : PySem.Str) = some (.ref fa) := by
      have e : (HandSHeadRun.topDef K40.R.prog 28).name = ("law" : PySem.Str) := by kernel_rfl
      rw [← e]
      exact hmg0
    obtain ⟨fd, hb, hF⟩ := K40.facts (P := (PySem.Challenge.rw_laurelhall_k40_gaps_that_rules_rank).prog) (w := w) KX G hmg c
    refine ⟨K, fd, _, KX, hb, fun H a ns hn _ sq => ?_, fun base _ _ => hF base⟩
    obtain ⟨A, hA⟩ := K40.law_ok ns hn
    exact LD.law_want sq hA
