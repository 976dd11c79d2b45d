import PyProof.Rows.All
import Wide.All
import OpenK.AllK
import Wide.FinOn
import KE.KDictKeyed
import KE.KDictWalk
import KE.GoesEnum
import KE.GoesZip
import KE.SortData
import HandS.ForMost
import HandS.Exc
import HandS.IsInst
import HandS.Zip
import HandS.TupAny
import HandS.TupLe
import HandS.Flow
import HandS.TupMul
import HandS.Style
import HandS.Deep
import HandS.TupLen
import HandS.Conv
import HandS.Small
import HandS.RevTup
import KE.GoesMore
import KE.SortCalls
import HandS.TupSets
import KE.KeyNested
import HandS.HeadHook2
import HandS.HeadWalk
import HandS.Head0
import HandS.Head1
import HandS.Head2
import HandS.HeadEnd
import HandS.HeadHook4
import PySem.Challenge.RW_tagdeeds_k07_whole_rows_and_things
set_option Elab.async false
set_option linter.all false
set_option maxRecDepth 100000
-- TA
set_option maxHeartbeats 1000000
/-! data, its standing in the heap -/
namespace TD
open PySem PySem.Spec PyProof.Rows L2

/-- data of Python; ref: the n-th shared list -/
inductive D where
  | non | bl (b : Bool) | int (i : Int) | str (x : Str)
  | tup (l : List D) | lst (l : List D) | dic (l : List (D × D)) | sdc (l : List (Str × D)) | ref (n : Nat) | kl (l : List D)
  deriving Inhabited

mutual
/-- the key that a datum is -/
def nk : D → Option NestedKey
  | .non => some .none
  | .bl b => some (.num (if b = true then 1 else 0))
  | .int i => some (.num i)
  | .str x => some (.text x)
  | .tup l => (nks l).map .tup
  | .lst _ => none
  | .dic _ => none
  | .sdc _ => none
  | .ref _ => none
  | .kl _ => none
def nks : List D → Option (List NestedKey)
  | [] => some []
  | d :: l => match nk d, nks l with
    | some k, some ks => some (k :: ks)
    | _, _ => none
end
/-- a key of a dict: a tuple, not too deep -/
def keyOf (d : D) : Option NestedKey := match d with
  | .tup l => match nks l with
    | some ks => if (NestedKey.tup ks).depth ≤ 8 then some (.tup ks) else none
    | none => none
  | _ => none

mutual
def dep : D → Nat
  | .tup l => deps l + 1
  | .lst l => deps l + 1
  | _ => 0
def deps : List D → Nat
  | [] => 0
  | d :: l => max (dep d) (deps l)
end
mutual
/-- == -/
def eqv : D → D → Bool
  | .non, .non => true
  | .bl a, .bl b => a == b
  | .bl a, .int j => (if a then 1 else 0) == j
  | .int i, .bl b => i == (if b then 1 else 0)
  | .int i, .int j => i == j
  | .str x, .str y => x == y
  | .lst xs, .lst ys => eqvs xs ys
  | .tup xs, .tup ys => eqvs xs ys
  | _, _ => false
def eqvs : List D → List D → Bool
  | [], [] => true
  | x :: xs, y :: ys => eqv x y && eqvs xs ys
  | _, _ => false
end
mutual
/-- data without dicts and refs -/
def pd : D → Option PyData
  | .non => some .none
  | .bl b => some (.bool b)
  | .int i => some (.int i)
  | .str x => some (.str x)
  | .tup l => (pds l).map .tuple
  | .lst l => (pds l).map .list
  | .dic _ => none
  | .sdc _ => none
  | .ref _ => none
  | .kl _ => none
def pds : List D → Option (List PyData)
  | [] => some []
  | d :: l => match pd d, pds l with
    | some k, some ks => some (k :: ks)
    | _, _ => none
end

/-- the object at a is o, and stays o -/
def Pin (a : Addr) (o : Obj) : HO := .ext fun h => h.get? a = some o
/-- the entries of a dict with tuple keys: key, its place, the value -/
abbrev Ent := NestedKey × Addr × Value

/-- a list that stays: tracked (or frozen), and not among those that may change; or the module's own -/
def LsOk (K : PySem.W.Frag) (M : Addr → Prop) (H : Hp) (a : Addr) (vs : List V) : Prop := (Rd H a (.lst vs) ∧ ¬ M a) ∨
  ∃ (o : Obj) (its : Array Value) (n : Nat), K.lookup a = some o ∧ o.cls = .type "list" ∧ o.dict = none ∧ o.data = .seq its n ∧ its.size ≤ sizeLine ∧ Vals vs its.toList
theorem LsOk.sq {K : PySem.W.Frag} {M : Addr → Prop} {H : Hp} {a : Addr} {vs : List V} (h : LsOk K M H a vs) : SqL K H a vs := h.elim (fun h => .inl h.1) .inr
section
variable (P : Program) (w : World) (K : PySem.W.Frag) (M : Addr → Prop) (γ : List Addr) (H : Hp)
mutual
/-- the value v stands for the datum; M: the addresses that may change -/
inductive Rp : V → D → Prop
  | non : Rp .non .non
  | bl (b : Bool) : Rp (.bl b) (.bl b)
  | int (i : Int) : Rp (.int i) (.int i)
  | str (x : Str) (h : PyData.strOk x = true) : Rp (.str x) (.str x)
  | tup {a : Addr} {vs : List V} {ds : List D} : SqT K H a vs → Rps vs ds → Rp (.ref a) (.tup ds)
  | lst {a : Addr} {vs : List V} {ds : List D} : Rd H a (.lst vs) → ¬ M a → Rps vs ds → Rp (.ref a) (.lst ds)
  | kl {a : Addr} {vs : List V} {ds : List D} : LsOk K M H a vs → Rps vs ds → Rp (.ref a) (.kl ds)
  | dic {a : Addr} {o : Obj} {es : Array DictEntry} {ep : Nat} {xs : List Ent} {l : List (D × D)} : H a = some (Pin a o) → ¬ M a → o.ExactDict → o.data = .dict es ep → (a == sysModules) = false →
      es.toList = xs.map (entryOfKey (nestedKind P w)) → (xs.map (·.1)).Nodup → xs.length ≤ sizeLine → Ens xs l → Rp (.ref a) (.dic l)
  | dks {a : Addr} {kvs : List (Key × V)} {l : List (Str × D)} : H a = some (.dK kvs) → ¬ M a → Sks kvs l → Rp (.ref a) (.sdc l)
  | ref {n : Nat} {a : Addr} : γ[n]? = some a → Rp (.ref a) (.ref n)
inductive Rps : List V → List D → Prop
  | nil : Rps [] []
  | cons {v : V} {vs : List V} {d : D} {ds : List D} : Rp v d → Rps vs ds → Rps (v :: vs) (d :: ds)
/-- entries and pairs -/
inductive Ens : List Ent → List (D × D) → Prop
  | nil : Ens [] []
  | cons {k : NestedKey} {b : Addr} {u : Value} {v : V} {d e : D} {xs : List Ent} {l : List (D × D)} : Rp (.ref b) d → keyOf d = some k → RelV v u → Rp v e → Ens xs l → Ens ((k, b, u) :: xs) ((d, e) :: l)
/-- entries with text keys -/
inductive Sks : List (Key × V) → List (Str × D) → Prop
  | nil : Sks [] []
  | cons {x : Str} {v : V} {e : D} {xs : List (Key × V)} {l : List (Str × D)} : Rp v e → Sks xs l → Sks ((.inr x, v) :: xs) ((x, e) :: l)
end
end

/-- a slot: not set; a datum; a list, a dict that this frame alone holds (own: may be changed; pk: looked at within a block) -/
inductive Sl where
  | no | val (d : D) | oL (l : List D) | oD (l : List (D × D)) | pL (l : List D) | pD (l : List (D × D))
  deriving Inhabited
/-- the state: the slots, the shared lists -/
structure S where
  r : List Sl
  g : List (List D)
/-- an exception: its class's name, its one argument's field -/
structure Exn where
  cls : Str
  arg : Option (Str × D)
inductive R (α : Type) where
  | ok (a : α) (s : S)
  | exc (e : Exn) (s : S)
  | bad
def R.bind {α β : Type} (x : R α) (f : α → S → R β) : R β := match x with
  | .ok a s => f a s
  | .exc e s => .exc e s
  | .bad => .bad

section
variable (P : Program) (w : World) (K : PySem.W.Frag)
/-- the address that a slot owns -/
def Owns (ρ : List Sl) (σ : L2.St) (i : Nat) (a : Addr) : Prop := ((∃ l, ρ[i]? = some (.oL l)) ∨ ∃ l, ρ[i]? = some (.oD l)) ∧ σ[i]? = some (some (.ref a))
def Owned (ρ : List Sl) (σ : L2.St) (a : Addr) : Prop := ∃ i, Owns ρ σ i a
/-- what may change -/
def Cv (γ : List Addr) (σ : L2.St) (ρ : List Sl) : Addr → Prop := fun a => a ∈ γ ∨ Owned ρ σ a
/-- .. and what the callers hold -/
def Mv (U : Addr → Prop) (γ : List Addr) (σ : L2.St) (ρ : List Sl) : Addr → Prop := fun a => U a ∨ Cv γ σ ρ a
/-- a dict's object at a -/
def IsDic (M : Addr → Prop) (γ : List Addr) (H : Hp) (a : Addr) (l : List (D × D)) : Prop :=
  ∃ (o : Obj) (es : Array DictEntry) (ep : Nat) (xs : List Ent), H a = some (Pin a o) ∧ o.ExactDict ∧ o.data = .dict es ep ∧ (a == sysModules) = false ∧
    es.toList = xs.map (entryOfKey (nestedKind P w)) ∧ (xs.map (·.1)).Nodup ∧ xs.length ≤ sizeLine ∧ Ens P w K M γ H xs l
/-- a slot's value stands for what the slot holds -/
def SlOk (M : Addr → Prop) (γ : List Addr) (H : Hp) (v : Option V) : Sl → Prop
  | .no => True
  | .val d => ∃ x, v = some x ∧ Rp P w K M γ H x d
  | .oL l => ∃ a vs, v = some (.ref a) ∧ H a = some (.lst vs) ∧ Rps P w K M γ H vs l
  | .pL l => ∃ a vs, v = some (.ref a) ∧ H a = some (.lst vs) ∧ Rps P w K M γ H vs l
  | .oD l => ∃ a, v = some (.ref a) ∧ IsDic P w K M γ H a l
  | .pD l => ∃ a, v = some (.ref a) ∧ IsDic P w K M γ H a l
/-- the shared lists -/
structure GOk (M : Addr → Prop) (γ : List Addr) (H : Hp) (g : List (List D)) : Prop where
  len : γ.length = g.length
  nd : γ.Nodup
  at_ : ∀ (n : Nat) (l : List D) (a : Addr), g[n]? = some l → γ[n]? = some a → ∃ vs, H a = some (.lst vs) ∧ Rps P w K M γ H vs l
structure Ok (U : Addr → Prop) (γ : List Addr) (H : Hp) (σ : L2.St) (s : S) : Prop where
  len : s.r.length = σ.length
  sl : ∀ (i : Nat) (c : Sl), s.r[i]? = some c → SlOk P w K (Mv U γ σ s.r) γ H (σ[i]?.join) c
  st : GOk P w K (Mv U γ σ s.r) γ H s.g
  dom : ∀ a, Mv U γ σ s.r a → H a ≠ none
  inj : ∀ i j a, Owns s.r σ i a → Owns s.r σ j a → i = j
  ng : ∀ a, Owned s.r σ a → a ∉ γ
  nu : ∀ a, Owned s.r σ a → ¬ U a
  pu : ∀ (i : Nat) (a : Addr), ((∃ l, s.r[i]? = some (.pL l)) ∨ ∃ l, s.r[i]? = some (.pD l)) → σ[i]? = some (some (.ref a)) → U a ∧ a ∉ γ
/-- what holds of a later heap: only what may change has changed; what may change then may change now, or is new -/
structure Ext (M : Addr → Prop) (γ : List Addr) (H : Hp) (M' : Addr → Prop) (γ' : List Addr) (H' : Hp) : Prop where
  keep : ∀ a o, H a = some o → ¬ M a → H' a = some o
  new : ∀ a, M' a → M a ∨ H a = none
  tup : ∀ a xs, H a = some (.tup xs) → H' a = some (.tup xs)
  frz : ∀ a o u, H a = some (.frz o u) → H' a = some (.frz o u)
  dom : ∀ a, H a ≠ none → H' a ≠ none
  pre : ∃ m, γ' = γ ++ m
end
section
variable {P : Program} {w : World} {K : PySem.W.Frag} {M M' M2 : Addr → Prop} {γ γ' γ2 : List Addr} {H H' H2 : Hp}
theorem Ext.refl : Ext M γ H M γ H := ⟨fun _ _ e _ => e, fun _ h => .inl h, fun _ _ e => e, fun _ _ _ e => e, fun _ h => h, ⟨[], by simp⟩⟩
theorem Ext.trans (a : Ext M γ H M' γ' H') (b : Ext M' γ' H' M2 γ2 H2) : Ext M γ H M2 γ2 H2 where
  keep := fun c o e n => b.keep c o (a.keep c o e n) fun m => by
    rcases a.new c m with z | z
    · exact n z
    · rw [e] at z; cases z
  new := fun c m => by
    rcases b.new c m with z | z
    · exact a.new c z
    · refine .inr ?_
      cases q : H c with
      | none => rfl
      | some o => exact absurd z (a.dom c (by rw [q]; exact fun z => nomatch z))
  tup := fun c xs e => b.tup c xs (a.tup c xs e)
  frz := fun c o u e => b.frz c o u (a.frz c o u e)
  dom := fun c h => b.dom c (a.dom c h)
  pre := by
    obtain ⟨m, e⟩ := a.pre
    obtain ⟨n, f⟩ := b.pre
    exact ⟨m ++ n, by rw [f, e, List.append_assoc]⟩
theorem Ext.get (x : Ext M γ H M' γ' H') {n : Nat} {a : Addr} (e : γ[n]? = some a) : γ'[n]? = some a := by
  obtain ⟨m, q⟩ := x.pre
  rw [q]
  have := (List.getElem?_eq_some_iff.mp e).1
  rw [List.getElem?_append_left this]
  exact e
theorem SqT.ext (x : Ext M γ H M' γ' H') {a : Addr} {vs : List V} (h : SqT K H a vs) : SqT K H' a vs := by
  rcases h with (h | ⟨o, h⟩) | h
  · exact .inl (.inl (x.tup _ _ h))
  · exact .inl (.inr ⟨o, x.frz _ _ _ h⟩)
  · exact .inr h
theorem Ext.rd (x : Ext M γ H M' γ' H') {a : Addr} {u : HO} (h : Rd H a u) (n : ¬ M a) : Rd H' a u := by
  rcases h with h | ⟨o, h⟩
  · exact .inl (x.keep _ _ h n)
  · exact .inr ⟨o, x.frz _ _ _ h⟩
theorem Rd.some_ {a : Addr} {u : HO} (h : Rd H a u) : H a ≠ none := by
  rcases h with h | ⟨o, h⟩ <;> (rw [h]; exact fun z => nomatch z)
theorem Ext.nm (x : Ext M γ H M' γ' H') {a : Addr} (h : H a ≠ none) (n : ¬ M a) : ¬ M' a := fun m => by
  rcases x.new a m with z | z
  · exact n z
  · exact h z
theorem LsOk.ext (x : Ext M γ H M' γ' H') {a : Addr} {vs : List V} (h : LsOk K M H a vs) : LsOk K M' H' a vs := h.elim (fun h => .inl ⟨x.rd h.1 h.2, x.nm (Rd.some_ h.1) h.2⟩) .inr
mutual
/-- what stands for a datum goes on doing so -/
theorem Rp.ext (x : Ext M γ H M' γ' H') : ∀ {v : V} {d : D}, Rp P w K M γ H v d → Rp P w K M' γ' H' v d
  | _, _, .non => .non
  | _, _, .bl b => .bl b
  | _, _, .int i => .int i
  | _, _, .str z h => .str z h
  | _, _, .tup h r => .tup (SqT.ext x h) (Rps.ext x r)
  | _, _, .lst h n r => .lst (x.rd h n) (x.nm (Rd.some_ h) n) (Rps.ext x r)
  | _, _, .kl h r => .kl (h.ext x) (Rps.ext x r)
  | _, _, .dic h n e1 e2 e3 e4 e5 e6 r => .dic (x.keep _ _ h n) (x.nm (by rw [h]; exact fun z => nomatch z) n) e1 e2 e3 e4 e5 e6 (Ens.ext x r)
  | _, _, .dks h n r => .dks (x.keep _ _ h n) (x.nm (by rw [h]; exact fun z => nomatch z) n) (Sks.ext x r)
  | _, _, .ref h => .ref (x.get h)
theorem Rps.ext (x : Ext M γ H M' γ' H') : ∀ {v : List V} {d : List D}, Rps P w K M γ H v d → Rps P w K M' γ' H' v d
  | _, _, .nil => .nil
  | _, _, .cons h r => .cons (Rp.ext x h) (Rps.ext x r)
theorem Ens.ext (x : Ext M γ H M' γ' H') : ∀ {v : List Ent} {d : List (D × D)}, Ens P w K M γ H v d → Ens P w K M' γ' H' v d
  | _, _, .nil => .nil
  | _, _, .cons a b c d r => .cons (Rp.ext x a) b c (Rp.ext x d) (Ens.ext x r)
theorem Sks.ext (x : Ext M γ H M' γ' H') : ∀ {v : List (Key × V)} {d : List (Str × D)}, Sks P w K M γ H v d → Sks P w K M' γ' H' v d
  | _, _, .nil => .nil
  | _, _, .cons d r => .cons (Rp.ext x d) (Sks.ext x r)
end
end
/-- .. of a later heap, where what the callers hold (U) is left alone -/
structure Xt (U C : Addr → Prop) (γ : List Addr) (H : Hp) (C' : Addr → Prop) (γ' : List Addr) (H' : Hp) : Prop where
  e : Ext (fun a => U a ∨ C a) γ H (fun a => U a ∨ C' a) γ' H'
  keep : ∀ a o, H a = some o → ¬ C a → H' a = some o
  new : ∀ a, C' a → C a ∨ H a = none
theorem Xt.refl {U C : Addr → Prop} {γ : List Addr} {H : Hp} : Xt U C γ H C γ H := ⟨Ext.refl, fun _ _ e _ => e, fun _ h => .inl h⟩
theorem Xt.trans {U C C1 C2 : Addr → Prop} {γ γ1 γ2 : List Addr} {H H1 H2 : Hp} (a : Xt U C γ H C1 γ1 H1) (b : Xt U C1 γ1 H1 C2 γ2 H2) : Xt U C γ H C2 γ2 H2 where
  e := a.e.trans b.e
  keep := fun c o e n => b.keep c o (a.keep c o e n) fun m => by
    rcases a.new c m with z | z
    · exact n z
    · rw [e] at z; cases z
  new := fun c m => by
    rcases b.new c m with z | z
    · exact a.new c z
    · refine .inr ?_
      cases q : H c with
      | none => rfl
      | some o => exact absurd z (a.e.dom c (by rw [q]; exact fun z => nomatch z))
end TD

-- TB
set_option maxHeartbeats 1000000
/-! my own syntax, and what it does -/
namespace TD
open PySem PySem.Spec PyProof.Rows L2

inductive Ty1 where
  | tup | lst | str | int | bool
  deriving DecidableEq
inductive O2 where
  | add | sub | mul | fdiv | mod | pow | eq | ne | lt | le | gt | ge | isin | notin
  deriving DecidableEq
inductive F1 where
  | len | all | any | tuple | list | int | abs | bool | sum | max | sorted | sset | lset | str
  deriving DecidableEq
/-- a target: slots -/
inductive Tg where
  | v (i : Nat) | t (l : List Tg)
/-- how a new list, a new dict, is held -/
inductive Hold where
  | val | own
  deriving DecidableEq
mutual
inductive Ex where
  | nope | move (i : Nat) | oOp (o : O2) (i : Nat) (e : Ex) | oSl (i : Nat) (lo hi : Option Ex) | oIsi (t : Ty1) (i : Nat)
  | var (i : Nat) | take (i : Nat) | int (i : Int) | bl (b : Bool) | non | str (x : Str) | glob (x : Str)
  | tup (l : List Ex) | lst (l : List Ex) | shr (l : List Ex)
  | dic (ks vs : List Ex) | sdic (ks vs : List Ex)
  | op (o : O2) (a b : Ex) | chain (o o2 : O2) (a b c : Ex) | isN (a : Ex) | notN (a : Ex)
  | and (l : List Ex) | or (l : List Ex) | not (a : Ex) | ite (c a b : Ex)
  | f1 (f : F1) (a : Ex) | min2 (a b : Ex) | isi (t : Ty1) (a : Ex)
  | ix (a i : Ex) | sl (a : Ex) (lo hi : Option Ex) | rev (a : Ex)
  | call (f : Nat) (l : List Ex)
  | lc (e : Ex) (g : Tg) (it : Wk) (c : Option Ex) (ws : List Nat)
  | lc2 (e : Ex) (i j : Nat) (it it2 : Ex) (ws : List Nat)
  | dc (k v : Ex) (g : Tg) (it : Wk) (c : Option Ex) (ws : List Nat)
  | oLen (i : Nat) | oNE (i : Nat) | oEQ (i : Nat) | oIx (i : Nat) (e : Ex) | oIn (e : Ex) (i : Nat) | oNin (e : Ex) (i : Nat)
  | oGet (i : Nat) (k d : Ex) | oPop (i : Nat) | oPopAt (i : Nat) (e : Ex) | oTup (i : Nat) | oLst (i : Nat)
  | get (d k e : Ex) | neg (a : Ex)
  | split (a b : Ex) | join (a b : Ex)
inductive Wk where
  | ex (e : Ex) | rng (e : Ex) | zip (a b : Ex) | enum (a : Ex) | items (a : Ex) | vals (a : Ex)
end
inductive Sx where
  | set (g : Tg) (e : Ex)
  | own (i : Nat) (e : Ex)
  | par (is : List (Nat × Hold)) (es : List Ex)
  | ret (e : Ex) | retN
  | ite (c : Ex) (a b : List Sx)
  | for_ (g : Tg) (it : Wk) (b : List Sx)
  | while_ (c : Ex) (b : List Sx)
  | app (i : Nat) (e : Ex)
  | put (i : Nat) (k e : Ex)
  | shPut (i : Nat) (k : Int) (e : Ex)
  | raise (cls : Str)
  | ex (e : Ex) | pass | nope
structure Fn where
  np : Nat
  ns : Nat
  body : List Sx

/-! ### operations on data -/
mutual
/-- no dict, no ref, not too deep -/
def fl : Nat → D → Bool
  | n + 1, .tup l => fls n l
  | n + 1, .lst l => fls n l
  | 0, .tup _ => false
  | 0, .lst _ => false
  | _, .dic _ => false
  | _, .sdc _ => false
  | _, .ref _ => false
  | _, .kl _ => false
  | _, .non => true
  | _, .bl _ => true
  | _, .int _ => true
  | _, .str _ => true
def fls : Nat → List D → Bool
  | _, [] => true
  | n, d :: l => fl n d && fls n l
end
def pdD (d : D) : PyData := (pd d).getD .none
def isNonD : D → Bool
  | .non => true
  | _ => false
def isDicD : D → Bool
  | .dic _ => true
  | .kl _ => true
  | _ => false
def ltD (a b : D) : Bool := PySem.W.dataLt (pdD a) (pdD b)
def alk (a b : D) : Bool := PySem.W.alike (pdD a) (pdD b)
def sortable (l : List D) : Bool := l.all fun a => fl 40 a && (!isNonD a && l.all fun b => alk a b)
def sortD (l : List D) : List D := l.mergeSort (PySem.W.dataLe false pdD)
def inD (x : D) (l : List D) : Bool := l.any fun y => eqv y x
def dlook (l : List (D × D)) (k : D) : Option D := (l.find? fun p => eqv p.1 k).map (·.2)
/-- look, put: text keys -/
def slook (l : List (Str × D)) (k : Str) : Option D := (l.find? fun p => decide (p.1 = k)).map (·.2)
def sput (l : List (Str × D)) (k : Str) (v : D) : List (Str × D) := if (slook l k).isSome then l.map fun p => if p.1 = k then (p.1, v) else p else l ++ [(k, v)]
def dput (l : List (D × D)) (k v : D) : List (D × D) := if (dlook l k).isSome then l.map fun p => if eqv p.1 k then (p.1, v) else p else l ++ [(k, v)]
/-- the different ones -/
def dedup : List D → List D
  | [] => []
  | d :: l => if inD d (dedup l) then dedup l else d :: dedup l
def allBl : List D → Option (List Bool)
  | [] => some []
  | .bl b :: l => (allBl l).map (b :: ·)
  | _ :: _ => none
def allInt : List D → Option (List Int)
  | [] => some []
  | .int b :: l => (allInt l).map (b :: ·)
  | _ :: _ => none
def allStr : List D → Option (List Str)
  | [] => some []
  | .str b :: l => (allStr l).map (b :: ·)
  | _ :: _ => none
def isTy : Ty1 → D → Bool
  | .tup, .tup _ => true
  | .lst, .lst _ => true
  | .lst, .ref _ => true
  | .str, .str _ => true
  | .int, .int _ => true
  | .int, .bl _ => true
  | .bool, .bl _ => true
  | _, _ => false
def maxL (l : List Int) : Option Int := match l with
  | [] => none
  | x :: r => some (r.foldl (fun a b => if a < b then b else a) x)
def sub1 (x : Str) (i j : Nat) : Str := ⟨((x.cps.toList.drop i).take (j - i)).toArray⟩
/-- a op b -/
def evO : O2 → D → D → Option D
  | .add, .int i, .int j => some (.int (i + j))
  | .add, .str x, .str y => if x.length + y.length ≤ sizeLine then some (.str (x ++ y)) else none
  | .add, .tup x, .tup y => if x.length + y.length ≤ sizeLine then some (.tup (x ++ y)) else none
  | .add, .lst x, .lst y => if x.length + y.length ≤ sizeLine then some (.lst (x ++ y)) else none
  | .sub, .int i, .int j => some (.int (i - j))
  | .mul, .int i, .int j => if -(2 ^ 64) < i ∧ i < 2 ^ 64 ∨ -(2 ^ 64) < j ∧ j < 2 ^ 64 then some (.int (i * j)) else none
  | .mul, .lst x, .int k => if -(2 ^ 62) ≤ k ∧ k < 2 ^ 62 ∧ x.length * k.toNat ≤ sizeLine then some (.lst (List.replicate k.toNat x).flatten) else none
  | .mul, .tup x, .int k => if 1 < k ∧ k ≤ 1000 ∧ x.length ≤ 1000 ∧ x ≠ [] then some (.tup (List.replicate k.toNat x).flatten) else none
  | .fdiv, .int i, .int j => if 0 < j ∧ j < 1073741824 then some (.int (i / j)) else none
  | .mod, .int i, .int j => if 0 < j then some (.int (i % j)) else none
  | .pow, .int i, .int j => if 0 ≤ j ∧ j ≤ 100 ∧ 0 ≤ i ∧ i < 100 then some (.int (i ^ j.toNat)) else none
  | .eq, a, b => if fl 40 a && fl 40 b then some (.bl (eqv a b)) else none
  | .ne, a, b => if fl 40 a && fl 40 b then some (.bl (!eqv a b)) else none
  | .lt, a, b => if fl 40 a && fl 40 b && !isNonD a && alk a b then some (.bl (ltD a b)) else none
  | .gt, .int i, .int j => some (.bl (decide (j < i)))
  | .le, .int i, .int j => some (.bl (decide (i ≤ j)))
  | .ge, .int i, .int j => some (.bl (decide (j ≤ i)))
  | .isin, .str x, .str y => some (.bl (!(Builtin.Str.occurrences y x 0 y.length 1).isEmpty))
  | .notin, .str x, .str y => some (.bl (!(!(Builtin.Str.occurrences y x 0 y.length 1).isEmpty)))
  | .isin, a, .tup l => if fl 40 a && fls 40 l then some (.bl (inD a l)) else none
  | .isin, a, .lst l => if fl 40 a && fls 40 l then some (.bl (inD a l)) else none
  | .notin, a, .tup l => if fl 40 a && fls 40 l then some (.bl (!inD a l)) else none
  | .notin, a, .lst l => if fl 40 a && fls 40 l then some (.bl (!inD a l)) else none
  | .isin, a, .dic l => if (keyOf a).isSome then some (.bl (dlook l a).isSome) else none
  | .notin, a, .dic l => if (keyOf a).isSome then some (.bl (!(dlook l a).isSome)) else none
  | _, _, _ => none
def evF : F1 → D → Option D
  | .len, .str x => if x.length ≤ sizeLine then some (.int x.length) else none
  | .len, .tup l => some (.int l.length)
  | .len, .lst l => some (.int l.length)
  | .len, .dic l => some (.int l.length)
  | .len, .kl l => some (.int l.length)
  | .all, .lst l => (allBl l).map fun b => .bl (b.all id)
  | .any, .lst l => (allBl l).map fun b => .bl (b.any id)
  | .tuple, .lst l => some (.tup l)
  | .tuple, .tup l => some (.tup l)
  | .list, .lst l => some (.lst l)
  | .list, .tup l => some (.lst l)
  | .list, .dic l => some (.lst (l.map (·.1)))
  | .int, .int i => some (.int i)
  | .int, .bl b => some (.int (if b then 1 else 0))
  | .abs, .int i => some (.int (if i < 0 then -i else i))
  | .bool, .lst l => some (.bl (!l.isEmpty))
  | .bool, .tup l => some (.bl (!l.isEmpty))
  | .bool, .bl b => some (.bl b)
  | .sum, .lst l => (allInt l).map fun b => .int b.sum
  | .max, .lst l => (allInt l).bind fun b => (maxL b).map .int
  | .sorted, .lst l => if sortable l then some (.lst (sortD l)) else none
  | .sorted, .tup l => if sortable l then some (.lst (sortD l)) else none
  | .sset, .lst l => if sortable l && (l.all fun d => (keyOf d).isSome) && decide (l.length < 64) then some (.lst (sortD (dedup l))) else none
  | .str, .str x => some (.str x)
  | _, _ => none
/-- an index from either end -/
def atD (l : List D) (i : Int) : Option D := atI l i
def cutD (l : List D) (lo hi : Option Int) : List D := (l.drop (HT.sIx l.length 0 lo)).take (HT.sIx l.length l.length hi - HT.sIx l.length 0 lo)
def evIx : D → D → Option D
  | .tup l, .int i => atD l i
  | .lst l, .int i => atD l i
  | .kl l, .int i => atD l i
  | .dic l, k => if (keyOf k).isSome then dlook l k else none
  | .sdc l, .str x => slook l x
  | _, _ => none
def evSl : D → Option Int → Option Int → Option D
  | .tup l, lo, hi => some (.tup (cutD l lo hi))
  | .lst l, lo, hi => some (.lst (cutD l lo hi))
  | .str x, lo, hi => if x.length ≤ sizeLine then some (.str (L2.cutS x lo hi)) else none
  | _, _, _ => none
def evRev : D → Option D
  | .tup l => some (.tup l.reverse)
  | .lst l => some (.lst l.reverse)
  | _ => none
/-- what is walked -/
def walkD : D → Option (List D)
  | .tup l => some l
  | .lst l => some l
  | .str x => some (x.cps.toList.map fun c => .str ⟨#[c]⟩)
  | _ => none
def lockS : Sl → Sl
  | .oL l => .pL l
  | .oD l => .pD l
  | c => c
def S.lock (s : S) (ws : List Nat) : S := { s with r := ws.foldl (fun r i => r.set i .no) (s.r.map lockS) }
mutual
/-- a target takes a datum -/
def setT : Tg → D → List Sl → Option (List Sl)
  | .v i, d, r => if i < r.length then some (r.set i (.val d)) else none
  | .t l, .tup ds, r => setTs l ds r
  | .t _, _, _ => none
def setTs : List Tg → List D → List Sl → Option (List Sl)
  | [], [], r => some r
  | t :: ts, d :: ds, r => (setT t d r).bind (setTs ts ds)
  | _, _, _ => none
end
def hasO : Option Sl → Bool
  | some (.oL _) => true
  | some (.oD _) => true
  | some (.pL _) => true
  | some (.pD _) => true
  | _ => false
def isPk : Sl → Bool
  | .pL _ => true
  | .pD _ => true
  | _ => false
/-- no exception -/
def R.noX {α : Type} : R α → R α
  | .ok a s => .ok a s
  | .exc _ _ => .bad
  | .bad => .bad
def hasL : Option Sl → Bool
  | some (.oL _) => true
  | _ => false
def hasD : Option Sl → Bool
  | some (.oD _) => true
  | some (.pD _) => true
  | _ => false
def R.of {α : Type} (x : Option α) (s : S) : R α := match x with
  | some a => .ok a s
  | none => .bad
/-- turns of a comprehension: what is made so far, from the left -/
def lcGo (f : D → S → R (Option D)) : List D → List D → S → R (List D)
  | [], acc, s => .ok acc s
  | d :: l, acc, s => (f d s).bind fun o s1 => match o with
    | some x => lcGo f l (acc ++ [x]) s1
    | none => lcGo f l acc s1
def dcGo (f : D → S → R (Option (D × D))) : List D → List (D × D) → S → R (List (D × D))
  | [], acc, s => .ok acc s
  | d :: l, acc, s => (f d s).bind fun o s1 => match o with
    | some (k, v) => if (keyOf k).isSome && decide (acc.length < sizeLine) then dcGo f l (dput acc k v) s1 else .bad
    | none => dcGo f l acc s1
abbrev Fs := Nat → List D → S → R D
def toB : D → S → R Bool
  | .bl b, s => .ok b s
  | _, _ => .bad
/-- behind a call the slots are the caller's -/
def R.called {α : Type} (s : S) : R α → R α
  | .ok a s1 => .ok a { s with g := s1.g }
  | .exc e s1 => .exc e { s with g := s1.g }
  | .bad => .bad
/-- behind a comprehension's turn the slots are as ahead of it -/
def R.back {α : Type} (s : S) : R α → R α
  | .ok a s1 => .ok a { s with g := s1.g }
  | .exc _ _ => .bad
  | .bad => .bad
section
variable (glob : Str → Option D) (F : Fs)
mutual
def evE : Ex → S → R D
  | .var i, s => match s.r[i]? with
    | some (.val d) => .ok d s
    | _ => .bad
  | .take i, s => match s.r[i]? with
    | some (.oL l) => .ok (.lst l) { s with r := s.r.set i (.val (.lst l)) }
    | some (.oD l) => .ok (.dic l) { s with r := s.r.set i (.val (.dic l)) }
    | _ => .bad
  | .nope, _ => .bad
  | .move i, s => match s.r[i]? with
    | some (.oL l) => .ok (.lst l) { s with r := s.r.set i .no }
    | some (.oD l) => .ok (.dic l) { s with r := s.r.set i .no }
    | _ => .bad
  | .oOp o i e, s => if hasL s.r[i]? then (evE e s).bind fun y s1 => match s1.r[i]? with
    | some (.oL l) => match evO o (.lst l) y with
      | some (.bl b) => .ok (.bl b) s1
      | _ => .bad
    | _ => .bad
    else .bad
  | .oSl i lo hi, s => if hasL s.r[i]? then (evEo lo s).bind fun l s1 => (evEo hi s1).bind fun h s2 => match s2.r[i]? with
    | some (.oL x) => .ok (.lst (cutD x l h)) s2
    | _ => .bad
    else .bad
  | .oIsi t i, s => match s.r[i]? with
    | some (.oL l) => .ok (.bl (isTy t (.lst l))) s
    | _ => .bad
  | .int i, s => .ok (.int i) s
  | .bl b, s => .ok (.bl b) s
  | .non, s => .ok .non s
  | .str x, s => .ok (.str x) s
  | .glob x, s => R.of (glob x) s
  | .tup l, s => (evEs l s).bind fun ds s1 => .ok (.tup ds) s1
  | .lst l, s => (evEs l s).bind fun ds s1 => .ok (.lst ds) s1
  | .shr l, s => (evEs l s).bind fun ds s1 => .ok (.ref s1.g.length) { s1 with g := s1.g ++ [ds] }
  | .dic ks vs, s => (evEs ks s).bind fun kd s1 => (evEs vs s1).bind fun vd s2 => match kd, vd with
    | [], [] => .ok (.dic []) s2
    | [k], [v] => if (keyOf k).isSome then .ok (.dic [(k, v)]) s2 else .bad
    | _, _ => .bad
  | .sdic ks vs, s => (evEs ks s).bind fun kd s1 => (evEs vs s1).bind fun vd s2 => match allStr kd with
    | some xs => if decide (xs.length = vd.length) && decide (xs.length ≤ 15) then .ok (.sdc ((xs.zip vd).foldl (fun l p => sput l p.1 p.2) [])) s2 else .bad
    | none => .bad
  | .op o a b, s => (evE a s).bind fun x s1 => (evE b s1).bind fun y s2 => R.of (evO o x y) s2
  | .chain o o2 a b c, s => (evE a s).bind fun x s1 => (evE b s1).bind fun y s2 => match evO o x y with
    | some (.bl true) => (evE c s2).bind fun z s3 => R.of (evO o2 y z) s3
    | some (.bl false) => .ok (.bl false) s2
    | _ => .bad
  | .isN a, s => (evE a s).bind fun x s1 => .ok (.bl (isNonD x)) s1
  | .notN a, s => (evE a s).bind fun x s1 => .ok (.bl (!isNonD x)) s1
  | .and l, s => evAnd l s
  | .or l, s => evOr l s
  | .not a, s => ((evE a s).bind toB).bind fun b s1 => .ok (.bl (!b)) s1
  | .ite c a b, s => ((evE c s).bind toB).bind fun k s1 => if k then evE a s1 else evE b s1
  | .f1 f a, s => (evE a s).bind fun x s1 => R.of (evF f x) s1
  | .min2 a b, s => (evE a s).bind fun x s1 => (evE b s1).bind fun y s2 => match x, y with
    | .int i, .int j => .ok (.int (if j < i then j else i)) s2
    | _, _ => .bad
  | .isi t a, s => (evE a s).bind fun x s1 => if isDicD x then .bad else .ok (.bl (isTy t x)) s1
  | .ix a i, s => (evE a s).bind fun x s1 => (evE i s1).bind fun y s2 => match x with
    | .ref n => match s2.g[n]?, y with
      | some l, .int j => R.of (atD l j) s2
      | _, _ => .bad
    | _ => R.of (evIx x y) s2
  | .sl a lo hi, s => (evE a s).bind fun x s1 => (evEo lo s1).bind fun l s2 => (evEo hi s2).bind fun h s3 => R.of (evSl x l h) s3
  | .rev a, s => (evE a s).bind fun x s1 => R.of (evRev x) s1
  | .call f l, s => (evEs l s).bind fun ds s1 => (F f ds { r := [], g := s1.g }).called s1
  | .lc e g it c ws, s => (evW it s).bind fun xs s1 => if sizeLine < xs.length then .bad else (lcGo (fun d s2 => (R.of (setT g d s2.r) s2).bind fun r s3 =>
      ((evC c { s3 with r := r }).bind fun b s4 => if b then (evE e s4).bind fun x s5 => .ok (some x) s5 else .ok none s4).back s2) xs [] (s1.lock ws)).bind fun l s2 => .ok (.lst l) { s1 with g := s2.g }
  | .lc2 e i j it it2 ws, s => .bad
  | .dc k v g it c ws, s => (evW it s).bind fun xs s1 => (dcGo (fun d s2 => (R.of (setT g d s2.r) s2).bind fun r s3 =>
      ((evC c { s3 with r := r }).bind fun b s4 => if b then (evE k s4).bind fun x s5 => (evE v s5).bind fun y s6 => .ok (some (x, y)) s6 else .ok none s4).back s2) xs [] (s1.lock ws)).bind fun l s2 => .ok (.dic l) { s1 with g := s2.g }
  | .oLen i, s => match s.r[i]? with
    | some (.oL l) => .ok (.int l.length) s
    | some (.pL l) => .ok (.int l.length) s
    | some (.oD l) => .ok (.int l.length) s
    | some (.pD l) => .ok (.int l.length) s
    | _ => .bad
  | .oNE i, s => match s.r[i]? with
    | some (.oL l) => if fls 40 l then .ok (.bl (!l.isEmpty)) s else .bad
    | _ => .bad
  | .oEQ i, s => match s.r[i]? with
    | some (.oL l) => if fls 40 l then .ok (.bl l.isEmpty) s else .bad
    | _ => .bad
  | .oIx i e, s => if hasO s.r[i]? then (evE e s).bind fun k s1 => match s1.r[i]? with
    | some (.oL l) => R.of (evIx (.lst l) k) s1
    | some (.pL l) => R.of (evIx (.lst l) k) s1
    | some (.oD l) => R.of (evIx (.dic l) k) s1
    | some (.pD l) => R.of (evIx (.dic l) k) s1
    | _ => .bad
    else .bad
  | .oIn e i, s => (evE e s).bind fun k s1 => match s1.r[i]? with
    | some (.oL l) => if fl 40 k && fls 40 l then .ok (.bl (inD k l)) s1 else .bad
    | some (.pL l) => if fl 40 k && fls 40 l then .ok (.bl (inD k l)) s1 else .bad
    | some (.oD l) => if (keyOf k).isSome then .ok (.bl (dlook l k).isSome) s1 else .bad
    | some (.pD l) => if (keyOf k).isSome then .ok (.bl (dlook l k).isSome) s1 else .bad
    | _ => .bad
  | .oNin e i, s => (evE e s).bind fun k s1 => match s1.r[i]? with
    | some (.oL l) => if fl 40 k && fls 40 l then .ok (.bl (!inD k l)) s1 else .bad
    | some (.pL l) => if fl 40 k && fls 40 l then .ok (.bl (!inD k l)) s1 else .bad
    | some (.oD l) => if (keyOf k).isSome then .ok (.bl (!(dlook l k).isSome)) s1 else .bad
    | some (.pD l) => if (keyOf k).isSome then .ok (.bl (!(dlook l k).isSome)) s1 else .bad
    | _ => .bad
  | .oGet i e d, s => if hasD s.r[i]? then (evE e s).bind fun k s1 => (evE d s1).bind fun x s2 => match s2.r[i]? with
    | some (.oD l) => if (keyOf k).isSome then .ok ((dlook l k).getD x) s2 else .bad
    | some (.pD l) => if (keyOf k).isSome then .ok ((dlook l k).getD x) s2 else .bad
    | _ => .bad
    else .bad
  | .oPop i, s => match s.r[i]? with
    | some (.oL l) => match l.getLast? with
      | some x => .ok x { s with r := s.r.set i (.oL l.dropLast) }
      | none => .bad
    | _ => .bad
  | .oPopAt i e, s => if hasL s.r[i]? then (evE e s).bind fun k s1 => match s1.r[i]? with
    | some (.oL l) => match k with
      | .int j => if 0 ≤ j ∧ j < 2 ^ 62 then match l[j.toNat]? with
          | some x => .ok x { s1 with r := s1.r.set i (.oL (l.eraseIdx j.toNat)) }
          | none => .bad
        else .bad
      | _ => .bad
    | _ => .bad
    else .bad
  | .oTup i, s => match s.r[i]? with
    | some (.oL l) => .ok (.tup l) s
    | some (.pL l) => .ok (.tup l) s
    | _ => .bad
  | .oLst i, s => match s.r[i]? with
    | some (.oL l) => .ok (.lst l) s
    | some (.pL l) => .ok (.lst l) s
    | some (.oD l) => .ok (.lst (l.map (·.1))) s
    | some (.pD l) => .ok (.lst (l.map (·.1))) s
    | _ => .bad
  | .get d k e, s => (evE d s).bind fun x s1 => (evE k s1).bind fun y s2 => (evE e s2).bind fun z s3 => match x, y with
    | .sdc l, .str t => .ok ((slook l t).getD z) s3
    | .dic l, y => if (keyOf y).isSome then .ok ((dlook l y).getD z) s3 else .bad
    | _, _ => .bad
  | .neg a, s => (evE a s).bind fun x s1 => match x with
    | .int i => .ok (.int (-i)) s1
    | _ => .bad
  | .split a b, s => (evE a s).bind fun x s1 => (evE b s1).bind fun y s2 => match x, y with
    | .str t, .str u => if decide (u.length ≠ 0) && decide (t.length + 2 ≤ sizeLine) then .ok (.lst ((Txt.split t u).map .str)) s2 else .bad
    | _, _ => .bad
  | .join a b, s => (evE a s).bind fun x s1 => (evE b s1).bind fun y s2 => match x, y with
    | .str t, .lst l => match allStr l with
      | some xs => if decide ((xs.map Str.length).sum + t.length * xs.length ≤ 16777216) then .ok (.str (Txt.join t xs)) s2 else .bad
      | none => .bad
    | _, _ => .bad
def evEs : List Ex → S → R (List D)
  | [], s => .ok [] s
  | e :: l, s => (evE e s).bind fun d s1 => (evEs l s1).bind fun ds s2 => .ok (d :: ds) s2
def evAnd : List Ex → S → R D
  | [], _ => .bad
  | [e], s => evE e s
  | e :: l, s => ((evE e s).bind toB).bind fun b s1 => if b then evAnd l s1 else .ok (.bl false) s1
def evOr : List Ex → S → R D
  | [], _ => .bad
  | [e], s => evE e s
  | e :: l, s => ((evE e s).bind toB).bind fun b s1 => if b then .ok (.bl true) s1 else evOr l s1
/-- a slice's bound -/
def evEo : Option Ex → S → R (Option Int)
  | none, s => .ok none s
  | some e, s => (evE e s).bind fun d s1 => match d with
    | .int i => .ok (some i) s1
    | _ => .bad
/-- a comprehension's test -/
def evC : Option Ex → S → R Bool
  | none, s => .ok true s
  | some e, s => (evE e s).bind toB
def evW : Wk → S → R (List D)
  | .ex e, s => (evE e s).bind fun d s1 => R.of (walkD d) s1
  | .rng e, s => (evE e s).bind fun d s1 => match d with
    | .int j => if -(2 ^ 62) ≤ j ∧ j < 2 ^ 62 then .ok ((List.range j.toNat).map fun k => .int (k : Nat)) s1 else .bad
    | _ => .bad
  | .zip a b, s => (evE a s).bind fun x s1 => (evE b s1).bind fun y s2 => match x, y with
    | .tup l, .tup m => .ok ((l.zip m).map fun p => .tup [p.1, p.2]) s2
    | .tup l, .lst m => .ok ((l.zip m).map fun p => .tup [p.1, p.2]) s2
    | .lst l, .tup m => .ok ((l.zip m).map fun p => .tup [p.1, p.2]) s2
    | .lst l, .lst m => .ok ((l.zip m).map fun p => .tup [p.1, p.2]) s2
    | _, _ => .bad
  | .enum a, s => (evE a s).bind fun x s1 => match x with
    | .tup l => .ok (l.zipIdx.map fun p => .tup [.int (p.2 : Nat), p.1]) s1
    | .lst l => .ok (l.zipIdx.map fun p => .tup [.int (p.2 : Nat), p.1]) s1
    | _ => .bad
  | .items a, s => (evE a s).bind fun x s1 => match x with
    | .dic l => .ok (l.map fun p => .tup [p.1, p.2]) s1
    | _ => .bad
  | .vals a, s => (evE a s).bind fun x s1 => match x with
    | .dic l => .ok (l.map (·.2)) s1
    | _ => .bad
end
end

/-- how a statement ends -/
inductive Fl where
  | nx | ret (d : D)
/-- a new list or dict into a slot that owns it -/
def ownS : D → Option Sl
  | .lst l => some (.oL l)
  | .dic l => some (.oD l)
  | _ => none
def holdS : Hold → D → Option Sl
  | .val, d => some (.val d)
  | .own, d => ownS d
def setPar : List (Nat × Hold) → List D → List Sl → Option (List Sl)
  | [], [], r => some r
  | (i, h) :: is, d :: ds, r => if i < r.length then (holdS h d).bind fun c => setPar is ds (r.set i c) else none
  | _, _, _ => none
def forGo (f : D → S → R (Fl)) : List D → S → R Fl
  | [], s => .ok .nx s
  | d :: l, s => (f d s).bind fun o s1 => match o with
    | .nx => forGo f l s1
    | .ret x => .ok (.ret x) s1
def whGo (c : S → R Bool) (f : S → R Fl) : Nat → S → R Fl
  | 0, _ => .bad
  | n + 1, s => (c s).bind fun b s1 => if b then (f s1).bind fun o s2 => match o with
      | .nx => whGo c f n s2
      | .ret x => .ok (.ret x) s2
    else .ok .nx s1
def WF : Nat := 100000
section
variable (glob : Str → Option D) (F : Fs)
mutual
def evS : Sx → S → R Fl
  | .set g e, s => (evE glob F e s).bind fun d s1 => (R.of (setT g d s1.r) s1).bind fun r s2 => .ok .nx { s2 with r := r }
  | .own i e, s => (evE glob F e s).bind fun d s1 => match ownS d with
    | some c => if i < s1.r.length then .ok .nx { s1 with r := s1.r.set i c } else .bad
    | none => .bad
  | .par is es, s => (evEs glob F es s).noX.bind fun ds s1 => if s1.r.any isPk then .bad else (R.of (setPar is ds s1.r) s1).bind fun r s2 => .ok .nx { s2 with r := r }
  | .ret e, s => (evE glob F e s).bind fun d s1 => .ok (.ret d) s1
  | .retN, s => .ok (.ret .non) s
  | .ite c a b, s => ((evE glob F c s).bind toB).bind fun k s1 => if k then evSs a s1 else evSs b s1
  | .for_ g it b, s => (evW glob F it s).bind fun xs s1 => forGo (fun d s2 => (R.of (setT g d s2.r) s2).bind fun r s3 => evSs b { s3 with r := r }) xs s1
  | .while_ c b, s => whGo (fun s1 => evC glob F (some c) s1) (fun s1 => evSs b s1) WF s
  | .app i e, s => if hasL s.r[i]? then (evE glob F e s).bind fun d s1 => match s1.r[i]? with
    | some (.oL l) => if l.length < sizeLine then .ok .nx { s1 with r := s1.r.set i (.oL (l ++ [d])) } else .bad
    | _ => .bad
    else .bad
  | .put i k e, s => (evE glob F e s).bind fun d s1 => (evE glob F k s1).bind fun kd s2 => match s2.r[i]? with
    | some (.oD l) => if (keyOf kd).isSome && decide (l.length < sizeLine) then .ok .nx { s2 with r := s2.r.set i (.oD (dput l kd d)) } else .bad
    | _ => .bad
  | .shPut i k e, s => (evE glob F e s).bind fun d s1 => match s1.r[i]? with
    | some (.val (.ref n)) => match s1.g[n]? with
      | some l => if 0 ≤ k ∧ k < l.length then .ok .nx { s1 with g := s1.g.set n (l.set k.toNat d) } else .bad
      | none => .bad
    | _ => .bad
  | .raise c, s => .exc ⟨c, none⟩ s
  | .ex e, s => (evE glob F e s).bind fun _ s1 => .ok .nx s1
  | .pass, s => .ok .nx s
  | .nope, _ => .bad
def evSs : List Sx → S → R Fl
  | [], s => .ok .nx s
  | x :: l, s => (evS x s).bind fun o s1 => match o with
    | .nx => evSs l s1
    | .ret d => .ok (.ret d) s1
end
/-- a call -/
def evFn (fn : Fn) (ds : List D) (s : S) : R D :=
  if ds.length = fn.np ∧ fn.np ≤ fn.ns then (evSs glob F fn.body { s with r := ds.map .val ++ List.replicate (fn.ns - fn.np) .no }).bind fun o s1 => match o with
    | .nx => .ok .non s1
    | .ret d => .ok d s1
  else .bad
end
/-- the program: n calls deep -/
def run (glob : Str → Option D) (tbl : Nat → Option Fn) : Nat → Fs
  | 0, _, _, _ => .bad
  | n + 1, f, ds, s => match tbl f with
    | some fn => evFn glob (run glob tbl n) fn ds s
    | none => .bad
example (glob : Str → Option D) (F : Fs) (s : S) : evE glob F (.op .add (.int 3) (.int 4)) s = .ok (.int 7) s := rfl
example (glob : Str → Option D) (F : Fs) : evSs glob F [.set (.v 0) (.op .add (.int 3) (.int 4)), .ret (.var 0)] ⟨[.no], []⟩ = .ok (.ret (.int 7)) ⟨[.val (.int 7)], []⟩ := rfl
end TD

-- TC
set_option maxHeartbeats 1000000
/-! readings -/
namespace TD
open PySem PySem.Spec PyProof.Rows L2

section
variable {P : Program} {w : World} {K : PySem.W.Frag} {M M' : Addr → Prop} {γ : List Addr} {H H' : Hp} {U : Addr → Prop} {σ : L2.St} {s : S}
theorem Ext.same (h : Same H H') : Ext M γ H M γ H' :=
  ⟨fun a o e _ => h a o e, fun _ m => .inl m, fun a xs e => h _ _ e, fun a o u e => h _ _ e, (fun a n => by
    cases q : H a with
    | none => exact absurd q n
    | some o => rw [h a o q]; exact fun z => nomatch z), ⟨[], by simp⟩⟩
theorem Ext.less (h : ∀ a, M' a → M a) : Ext M γ H M' γ H := ⟨fun _ _ e _ => e, fun a m => .inl (h a m), fun _ _ e => e, fun _ _ _ e => e, fun _ n => n, ⟨[], by simp⟩⟩
theorem Xt.same {C : Addr → Prop} (h : Same H H') : Xt U C γ H C γ H' := ⟨Ext.same h, fun a o e _ => h a o e, fun _ m => .inl m⟩
theorem SlOk.ext {γ' : List Addr} (x : Ext M γ H M' γ' H') {v : Option V} {c : Sl} (hk : ∀ a, ((∃ l, c = .oL l) ∨ (∃ l, c = .pL l) ∨ (∃ l, c = .oD l) ∨ ∃ l, c = .pD l) → v = some (.ref a) → H' a = H a) (h : SlOk P w K M γ H v c) : SlOk P w K M' γ' H' v c := by
  cases c with
  | no => trivial
  | val d =>
    obtain ⟨y, e, r⟩ := h
    exact ⟨y, e, r.ext x⟩
  | oL l =>
    obtain ⟨a, vs, e, h1, r⟩ := h
    exact ⟨a, vs, e, (hk a (.inl ⟨l, rfl⟩) e).trans h1, r.ext x⟩
  | pL l =>
    obtain ⟨a, vs, e, h1, r⟩ := h
    exact ⟨a, vs, e, (hk a (.inr (.inl ⟨l, rfl⟩)) e).trans h1, r.ext x⟩
  | oD l =>
    obtain ⟨a, e, o, es, ep, xs, h1, h2, h3, h4, h5, h6, h7, r⟩ := h
    exact ⟨a, e, o, es, ep, xs, (hk a (.inr (.inr (.inl ⟨l, rfl⟩))) e).trans h1, h2, h3, h4, h5, h6, h7, r.ext x⟩
  | pD l =>
    obtain ⟨a, e, o, es, ep, xs, h1, h2, h3, h4, h5, h6, h7, r⟩ := h
    exact ⟨a, e, o, es, ep, xs, (hk a (.inr (.inr (.inr ⟨l, rfl⟩))) e).trans h1, h2, h3, h4, h5, h6, h7, r.ext x⟩
/-- the address of a list or dict of a slot is tracked -/
theorem SlOk.there {v : Option V} {c : Sl} {a : Addr} (h : SlOk P w K M γ H v c) (hc : (∃ l, c = .oL l) ∨ (∃ l, c = .pL l) ∨ (∃ l, c = .oD l) ∨ ∃ l, c = .pD l) (e : v = some (.ref a)) : H a ≠ none := by
  have fin : ∀ {b : Addr} {o : HO}, v = some (.ref b) → H b = some o → H a ≠ none := fun {b o} e1 e2 => by
    rw [e1] at e
    cases e
    rw [e2]
    exact fun z => nomatch z
  rcases hc with ⟨l, rfl⟩ | ⟨l, rfl⟩ | ⟨l, rfl⟩ | ⟨l, rfl⟩
  · obtain ⟨b, vs, e1, h1, _⟩ := h; exact fin e1 h1
  · obtain ⟨b, vs, e1, h1, _⟩ := h; exact fin e1 h1
  · obtain ⟨b, e1, o, _, _, _, h1, _⟩ := h; exact fin e1 h1
  · obtain ⟨b, e1, o, _, _, _, h1, _⟩ := h; exact fin e1 h1
theorem same_eq (h : Same H H') {a : Addr} (n : H a ≠ none) : H' a = H a := by
  cases q : H a with
  | none => exact absurd q n
  | some o => exact h a o q
/-- a grown heap -/
theorem Ok.same (ok : Ok P w K U γ H σ s) (h : Same H H') : Ok P w K U γ H' σ s where
  len := ok.len
  sl := fun i c e => (ok.sl i c e).ext (Ext.same h) fun a hc ha => same_eq h ((ok.sl i c e).there hc ha)
  st := ⟨ok.st.len, ok.st.nd, fun n l a e1 e2 => by
    obtain ⟨vs, h1, r⟩ := ok.st.at_ n l a e1 e2
    exact ⟨vs, h _ _ h1, r.ext (Ext.same h)⟩⟩
  dom := fun a m => (Ext.same (M := Mv U γ σ s.r) (γ := γ) h).dom a (ok.dom a m)
  inj := ok.inj
  ng := ok.ng
  nu := ok.nu
  pu := ok.pu
end

/-- an exception as a datum of its class and its field -/
def XRep (K : PySem.W.Frag) (mg : Str → Option Value) (P : Program) (w : World) (M : Addr → Prop) (γ : List Addr) (H : Hp) (e : Exn) (c : Value) (dx : Option Addr) : Prop :=
  mg e.cls = some c ∧ match e.arg with
    | none => dx = none
    | some (f, d) => ∃ x v, dx = some x ∧ H x = some (.xd [(f, v)]) ∧ Rp P w K M γ H v d

section
variable (X : Cx) (Wx : WX)
abbrev XOk (U : Addr → Prop) (γ : List Addr) (H : Hp) (σ : L2.St) (s : S) : Prop := Ok X.prog X.w X.K U γ H σ s
abbrev XRp (U : Addr → Prop) (γ : List Addr) (H : Hp) (σ : L2.St) (s : S) (v : V) (d : D) : Prop := Rp X.prog X.w X.K (Mv U γ σ s.r) γ H v d
/-- what is wanted behind an evaluation that begins at (γ, H, s) -/
def RR {α : Type} (U : Addr → Prop) (γ : List Addr) (H : Hp) (σ : L2.St) (s : S) (r : R α) (k : α → S → List Addr → Hp → Prop) : Prop := match r with
  | .ok a s' => ∀ γ' H', XOk X U γ' H' σ s' → Xt U (Cv γ σ s.r) γ H (Cv γ' σ s'.r) γ' H' → k a s' γ' H'
  | .exc e s' => ∀ γ' H' c dx, XOk X U γ' H' σ s' → Xt U (Cv γ σ s.r) γ H (Cv γ' σ s'.r) γ' H' → XRep X.K X.mg X.prog X.w (Mv U γ' σ s'.r) γ' H' e c dx → Wx c dx σ H'
  | .bad => False
end
section
variable {X : Cx} {Wx : WX} {U : Addr → Prop} {γ γ1 : List Addr} {H H1 : Hp} {σ : L2.St} {s s1 : S} {α β : Type} {r : R α} {k k' : α → S → List Addr → Hp → Prop}
theorem RR.shift (e : Xt U (Cv γ σ s.r) γ H (Cv γ1 σ s1.r) γ1 H1) (h : RR X Wx U γ H σ s r k) : RR X Wx U γ1 H1 σ s1 r k := by
  cases r with
  | ok a s' => exact fun γ' H' ok x => h γ' H' ok (e.trans x)
  | exc e' s' => exact fun γ' H' c dx ok x q => h γ' H' c dx ok (e.trans x) q
  | bad => exact h
theorem RR.imp (h : RR X Wx U γ H σ s r k) (f : ∀ a s' γ' H', XOk X U γ' H' σ s' → Xt U (Cv γ σ s.r) γ H (Cv γ' σ s'.r) γ' H' → k a s' γ' H' → k' a s' γ' H') : RR X Wx U γ H σ s r k' := by
  cases r with
  | ok a s' => exact fun γ' H' ok x => f a s' γ' H' ok x (h γ' H' ok x)
  | exc e' s' => exact h
  | bad => exact h
theorem RR.impE (h : RR X Wx U γ H σ s r k) (f : ∀ a s' γ' H', r = .ok a s' → XOk X U γ' H' σ s' → Xt U (Cv γ σ s.r) γ H (Cv γ' σ s'.r) γ' H' → k a s' γ' H' → k' a s' γ' H') : RR X Wx U γ H σ s r k' := by
  cases r with
  | ok a s' => exact fun γ' H' ok x => f a s' γ' H' rfl ok x (h γ' H' ok x)
  | exc e' s' => exact h
  | bad => exact h
theorem RR.bind {f : α → S → R β} {k : β → S → List Addr → Hp → Prop} (h : RR X Wx U γ H σ s (r.bind f) k) : RR X Wx U γ H σ s r fun a s1 γ1 H1 => RR X Wx U γ1 H1 σ s1 (f a s1) k := by
  cases r with
  | ok a s' => exact fun γ' H' ok x => RR.shift x h
  | exc e' s' => exact h
  | bad => exact h
/-- the evaluation ends here, the heap as it is -/
theorem RR.now {a : α} (ok : XOk X U γ H σ s) (h : RR X Wx U γ H σ s (.ok a s) k) : k a s γ H := h γ H ok Xt.refl
theorem RR.grow {a : α} (ok : XOk X U γ H σ s) (h : RR X Wx U γ H σ s (.ok a s) k) (q : Same H H1) : k a s γ H1 := h γ H1 (ok.same q) (Xt.same q)
end

section
variable (X : Cx) (glob : Str → Option D) (F : Fs) (Wx : WX)
/-- the reading of an expression -/
def rdE (x : Ex) : TE := fun σ H Q => ∃ U γ s, XOk X U γ H σ s ∧ RR X Wx U γ H σ s (evE glob F x s) fun d s' γ' H' => ∀ v, XRp X U γ' H' σ s' v d → Q v H'
/-- .. as a test -/
def rdT (x : Ex) : TT := fun σ H Q => ∃ U γ s, XOk X U γ H σ s ∧ RR X Wx U γ H σ s (evC glob F (some x) s) fun b s' γ' H' => Q b H'
/-- .. of arguments -/
def rdA (xs : List Ex) : TA := fun σ H Q => ∃ U γ s, XOk X U γ H σ s ∧ RR X Wx U γ H σ s (evEs glob F xs s) fun ds s' γ' H' => ∀ vs, Rps X.prog X.w X.K (Mv U γ' σ s'.r) γ' H' vs ds → Q vs H'
end
theorem _root_.L2.PE.imp {X : Cx} {e : Expr} {t t' : TE} (h : PE X e t) (f : ∀ σ H Q, t' σ H Q → t σ H Q) : PE X e t' := ⟨fun pins s σ H Q I q => h.run pins s σ H Q I (f σ H Q q)⟩
theorem _root_.L2.PT.imp {X : Cx} {e : Expr} {t t' : TT} (h : PT X e t) (f : ∀ σ H Q, t' σ H Q → t σ H Q) : PT X e t' := ⟨fun pins s σ H Q I q => h.run pins s σ H Q I (f σ H Q q)⟩
theorem _root_.L2.PA.imp {X : Cx} {e : List Expr} {t t' : TA} (h : PA X e t) (f : ∀ σ H Q, t' σ H Q → t σ H Q) : PA X e t' := ⟨fun pos pins s σ H Q I q => h.run pos pins s σ H Q I (f σ H Q q)⟩

section
variable {X : Cx} {glob : Str → Option D} {F : Fs} {Wx : WX} {pos : Pos}
theorem s_int {i : Int} {j : Nat} : PE X (.Constant (.int i) j pos) (rdE X glob F Wx (.int i)) := pe_int.imp fun σ H Q ⟨U, γ, s, ok, h⟩ => RR.now ok h _ (.int i)
theorem s_bl {b : Bool} {j : Nat} : PE X (.Constant (.bool b) j pos) (rdE X glob F Wx (.bl b)) := pe_bl.imp fun σ H Q ⟨U, γ, s, ok, h⟩ => RR.now ok h _ (.bl b)
theorem s_non {j : Nat} : PE X (.Constant .none j pos) (rdE X glob F Wx .non) := pe_non.imp fun σ H Q ⟨U, γ, s, ok, h⟩ => RR.now ok h _ .non
theorem s_str {x : Str} {j : Nat} (hx : PyData.strOk x = true) : PE X (.Constant (.str x) j pos) (rdE X glob F Wx (.str x)) := pe_str.imp fun σ H Q ⟨U, γ, s, ok, h⟩ => RR.now ok h _ (.str x hx)
theorem s_var {i : Nat} {n : Str} (hN : X.N[i]? = some n) (hv : Vis X.env.scope n) (hd : (n == ("__debug__" : Str)) = false) (hcd : (n == ("__classdict__" : Str)) = false) : PE X (.Name n pos) (rdE X glob F Wx (.var i)) :=
  (pe_var hN hv hd hcd).imp fun σ H Q ⟨U, γ, s, ok, h⟩ => by
    simp only [evE] at h
    cases e : s.r[i]? with
    | none => rw [e] at h; exact h.elim
    | some c =>
      rw [e] at h
      cases c with
      | val d =>
        obtain ⟨x, ex, r⟩ := ok.sl i _ e
        refine ⟨x, ?_, RR.now ok h _ r⟩
        cases q : σ[i]? with
        | none => rw [q] at ex; cases ex
        | some o =>
          rw [q] at ex
          exact congrArg some ex
      | _ => exact h.elim
end
end TD

-- TD
set_option maxHeartbeats 1000000
/-! operations on values -/
namespace TD
open PySem PySem.Spec PyProof.Rows L2
section
variable {X : Cx} {pins : List (Addr × Obj)} {σ : L2.St} {H : Hp} {s : Shared} {M : Addr → Prop} {γ : List Addr}
abbrev XR (X : Cx) (M : Addr → Prop) (γ : List Addr) (H : Hp) : V → D → Prop := Rp X.prog X.w X.K M γ H
abbrev XRs (X : Cx) (M : Addr → Prop) (γ : List Addr) (H : Hp) : List V → List D → Prop := Rps X.prog X.w X.K M γ H
theorem Rp.same {H' : Hp} {v : V} {d : D} (q : Same H H') (r : XR X M γ H v d) : XR X M γ H' v d := r.ext (Ext.same q)
theorem Rps.same {H' : Hp} {v : List V} {d : List D} (q : Same H H') (r : XRs X M γ H v d) : XRs X M γ H' v d := r.ext (Ext.same q)
theorem same_upd {p : Addr} {o : HO} (hp : H p = none) : Same H (upd H p o) := fun b u e => by rw [upd_ne (ne_of_none e hp)]; exact e
theorem Rps.length : ∀ {vs : List V} {ds : List D}, XRs X M γ H vs ds → vs.length = ds.length
  | _, _, .nil => rfl
  | _, _, .cons _ t => by simp [Rps.length t]
theorem Rps.append : ∀ {vs us : List V} {ds es : List D}, XRs X M γ H vs ds → XRs X M γ H us es → XRs X M γ H (vs ++ us) (ds ++ es)
  | _, _, _, _, .nil, q => q
  | _, _, _, _, .cons h t, q => .cons h (Rps.append t q)
theorem Rps.take : ∀ {vs : List V} {ds : List D} (n : Nat), XRs X M γ H vs ds → XRs X M γ H (vs.take n) (ds.take n)
  | _, _, 0, _ => .nil
  | _, _, _ + 1, .nil => .nil
  | _, _, n + 1, .cons h t => .cons h (Rps.take n t)
theorem Rps.drop : ∀ {vs : List V} {ds : List D} (n : Nat), XRs X M γ H vs ds → XRs X M γ H (vs.drop n) (ds.drop n)
  | _, _, 0, h => h
  | _, _, _ + 1, .nil => .nil
  | _, _, n + 1, .cons h t => Rps.drop n t
theorem Rps.reverse {vs : List V} {ds : List D} (h : XRs X M γ H vs ds) : XRs X M γ H vs.reverse ds.reverse := by
  have go : ∀ {vs : List V} {ds : List D}, XRs X M γ H vs ds → XRs X M γ H vs.reverse ds.reverse := fun {vs ds} h => by
    induction vs generalizing ds with
    | nil => cases h; exact .nil
    | cons v vs ih =>
      cases h with
      | cons a t =>
        rw [List.reverse_cons, List.reverse_cons]
        exact Rps.append (ih t) (.cons a .nil)
  exact go h
theorem Rps.flat {vs : List V} {ds : List D} (h : XRs X M γ H vs ds) : ∀ k : Nat, XRs X M γ H (List.replicate k vs).flatten (List.replicate k ds).flatten
  | 0 => .nil
  | k + 1 => by
    rw [List.replicate_succ, List.replicate_succ, List.flatten_cons, List.flatten_cons]
    exact Rps.append h (Rps.flat h k)
theorem Rps.get : ∀ {vs : List V} {ds : List D} {i : Nat} {v : V}, XRs X M γ H vs ds → vs[i]? = some v → ∃ d, ds[i]? = some d ∧ XR X M γ H v d
  | _, _, _, _, .nil, e => by simp at e
  | _, _, 0, _, .cons h _, e => by simp at e; subst e; exact ⟨_, rfl, h⟩
  | _, _, i + 1, _, .cons _ t, e => by simpa using Rps.get (i := i) t (by simpa using e)
theorem Rps.get' : ∀ {vs : List V} {ds : List D} {i : Nat} {d : D}, XRs X M γ H vs ds → ds[i]? = some d → ∃ v, vs[i]? = some v ∧ XR X M γ H v d
  | _, _, _, _, .nil, e => by simp at e
  | _, _, 0, _, .cons h _, e => by simp at e; subst e; exact ⟨_, rfl, h⟩
  | _, _, i + 1, _, .cons _ t, e => by simpa using Rps.get' (i := i) t (by simpa using e)
theorem Rps.set : ∀ {vs : List V} {ds : List D} {v : V} {d : D} (i : Nat), XRs X M γ H vs ds → XR X M γ H v d → XRs X M γ H (vs.set i v) (ds.set i d)
  | _, _, _, _, _, .nil, _ => .nil
  | _, _, _, _, 0, .cons _ t, h => .cons h t
  | _, _, _, _, i + 1, .cons a t, h => .cons a (Rps.set i t h)
theorem Rps.bls : ∀ {vs : List V} {ds : List D} {bs : List Bool}, XRs X M γ H vs ds → allBl ds = some bs → vs = bs.map V.bl
  | _, _, bs, .nil, e => by cases (Option.some.inj (show some [] = some bs from e)); rfl
  | _, _, bs, .cons (d := .bl b) h t, e => by
    cases h
    have e' : (allBl _).map (b :: ·) = some bs := e
    cases q : allBl _ with
    | none => rw [q] at e'; cases e'
    | some l =>
      rw [q] at e'
      cases (Option.some.inj (show some (b :: l) = some bs from e'))
      rw [Rps.bls t q]
      rfl
  | _, _, bs, .cons (d := .non) _ _, e => nomatch (show none = some bs from e)
  | _, _, bs, .cons (d := .int _) _ _, e => nomatch (show none = some bs from e)
  | _, _, bs, .cons (d := .str _) _ _, e => nomatch (show none = some bs from e)
  | _, _, bs, .cons (d := .tup _) _ _, e => nomatch (show none = some bs from e)
  | _, _, bs, .cons (d := .lst _) _ _, e => nomatch (show none = some bs from e)
  | _, _, bs, .cons (d := .dic _) _ _, e => nomatch (show none = some bs from e)
  | _, _, bs, .cons (d := .sdc _) _ _, e => nomatch (show none = some bs from e)
  | _, _, bs, .cons (d := .ref _) _ _, e => nomatch (show none = some bs from e)
theorem Rps.ints : ∀ {vs : List V} {ds : List D} {bs : List Int}, XRs X M γ H vs ds → allInt ds = some bs → vs = bs.map V.int
  | _, _, bs, .nil, e => by cases (Option.some.inj (show some [] = some bs from e)); rfl
  | _, _, bs, .cons (d := .int b) h t, e => by
    cases h
    have e' : (allInt _).map (b :: ·) = some bs := e
    cases q : allInt _ with
    | none => rw [q] at e'; cases e'
    | some l =>
      rw [q] at e'
      cases (Option.some.inj (show some (b :: l) = some bs from e'))
      rw [Rps.ints t q]
      rfl
  | _, _, bs, .cons (d := .non) _ _, e => nomatch (show none = some bs from e)
  | _, _, bs, .cons (d := .bl _) _ _, e => nomatch (show none = some bs from e)
  | _, _, bs, .cons (d := .str _) _ _, e => nomatch (show none = some bs from e)
  | _, _, bs, .cons (d := .tup _) _ _, e => nomatch (show none = some bs from e)
  | _, _, bs, .cons (d := .lst _) _ _, e => nomatch (show none = some bs from e)
  | _, _, bs, .cons (d := .dic _) _ _, e => nomatch (show none = some bs from e)
  | _, _, bs, .cons (d := .sdc _) _ _, e => nomatch (show none = some bs from e)
  | _, _, bs, .cons (d := .ref _) _ _, e => nomatch (show none = some bs from e)
theorem Rps.strs : ∀ {vs : List V} {ds : List D} {bs : List Str}, XRs X M γ H vs ds → allStr ds = some bs → vs = bs.map V.str
  | _, _, bs, .nil, e => by cases (Option.some.inj (show some [] = some bs from e)); rfl
  | _, _, bs, .cons (d := .str b) h t, e => by
    cases h
    have e' : (allStr _).map (b :: ·) = some bs := e
    cases q : allStr _ with
    | none => rw [q] at e'; cases e'
    | some l =>
      rw [q] at e'
      cases (Option.some.inj (show some (b :: l) = some bs from e'))
      rw [Rps.strs t q]
      rfl
  | _, _, bs, .cons (d := .non) _ _, e => nomatch (show none = some bs from e)
  | _, _, bs, .cons (d := .bl _) _ _, e => nomatch (show none = some bs from e)
  | _, _, bs, .cons (d := .int _) _ _, e => nomatch (show none = some bs from e)
  | _, _, bs, .cons (d := .tup _) _ _, e => nomatch (show none = some bs from e)
  | _, _, bs, .cons (d := .lst _) _ _, e => nomatch (show none = some bs from e)
  | _, _, bs, .cons (d := .dic _) _ _, e => nomatch (show none = some bs from e)
  | _, _, bs, .cons (d := .sdc _) _ _, e => nomatch (show none = some bs from e)
  | _, _, bs, .cons (d := .ref _) _ _, e => nomatch (show none = some bs from e)

theorem _root_.L2.Inv.lstR {l : Addr} {xs : List V} (I : Inv X pins σ H s) (h : Rd H l (.lst xs)) : xs.length ≤ sizeLine ∧ ∃ (its : List Value) (n : Nat), Vals xs its ∧ xs.length = its.length ∧ s.heap.get? l = some { cls := .type "list", data := .seq its.toArray n } := by
  obtain ⟨z, its, n, r, e⟩ := h.ok I.hok
  exact ⟨z, its, n, r, r.length, e⟩
theorem sqL_of {K : PySem.W.Frag} {l : Addr} {xs : List V} (h : Rd H l (.lst xs)) : SqL K H l xs := .inl h
theorem lst_size {l : List D} {v : V} (I : Inv X pins σ H s) (r : XR X M γ H v (.lst l)) : l.length ≤ sizeLine := by
  cases r with
  | lst h n t => exact t.length ▸ (I.lstR h).1
theorem tup_size {l : List D} {v : V} (I : Inv X pins σ H s) (r : XR X M γ H v (.tup l)) : l.length ≤ sizeLine := by
  cases r with
  | tup h t => exact t.length ▸ (I.tuple h).choose_spec.2.2
/-- a new list, a new tuple stands for its items -/
theorem new_lst {p : Addr} {vs : List V} {ds : List D} (hp : H p = none) (hm : ¬ M p) (r : XRs X M γ H vs ds) : XR X M γ (upd H p (.lst vs)) (.ref p) (.lst ds) := .lst (.inl upd_same) hm (r.same (same_upd hp))
theorem new_tup {p : Addr} {vs : List V} {ds : List D} (hp : H p = none) (r : XRs X M γ H vs ds) : XR X M γ (upd H p (.tup vs)) (.ref p) (.tup ds) := .tup (.of upd_same) (r.same (same_upd hp))

/-- an operation on two values -/
def OpD (X : Cx) (f : Value → Value → Sem Value) (ev : D → D → Option D) : Prop :=
  ∀ (pins : List (Addr × Obj)) (s : Shared) (σ : L2.St) (H : Hp) (M : Addr → Prop) (γ : List Addr) (x y : V) (v u : Value) (a b d : D) (Q : VK), Inv X pins σ H s → RelV x v → RelV y u → XR X M γ H x a → XR X M γ H y b →
    (∀ m, M m → H m ≠ none) → ev a b = some d → (∀ z H', Same H H' → XR X M γ H' z d → Q z H') → wpAny (model X.prog X.w) X.A (f v u) (EP X pins σ Q) X.xe s

theorem od_add : OpD X (binaryOp .Add) (evO .add) := by
  intro pins s σ H M γ x y v u a b d Q I rx ry ra rb dom h q
  cases a <;> cases b <;> first | exact (nomatch (show none = some d from h)) | skip
  · cases ra; cases rb
    cases (Option.some.inj h)
    exact op_add pins s σ H _ _ v u Q I rx ry ⟨_, _, rfl, rfl, q _ _ (Same.refl H) (.int _)⟩
  · rename_i i j
    have h : (if i.length + j.length ≤ sizeLine then some (D.str (i ++ j)) else none) = some d := h
    split at h
    · cases ra with
      | str _ s1 =>
        cases rb with
        | str _ s2 =>
          cases (Option.some.inj h)
          refine op_add_str pins s σ H _ _ v u Q I rx ry ⟨_, _, rfl, rfl, by assumption, q _ _ (Same.refl H) (.str _ ?_)⟩
          unfold PyData.strOk at *
          show (i.cps ++ j.cps).all _ = true
          rw [Array.all_append, s1, s2]; rfl
    · cases h
  · rename_i l m
    have h : (if l.length + m.length ≤ sizeLine then some (D.tup (l ++ m)) else none) = some d := h
    split at h
    · rename_i hz
      cases (Option.some.inj h)
      cases ra with
      | tup h1 t1 =>
        cases rb with
        | tup h2 t2 =>
          refine op_catA pins s σ H _ _ v u Q I rx ry ⟨_, _, _, _, rfl, rfl, h1, h2, by rw [t1.length, t2.length]; exact hz, fun e => ?_, fun _ e => ?_, fun _ _ p hp => ?_⟩
          · subst e; cases t1; exact q _ _ (Same.refl H) (.tup h2 t2)
          · subst e; cases t2; rw [List.append_nil] at q; exact q _ _ (Same.refl H) (.tup h1 t1)
          · exact q _ _ (same_upd hp) (new_tup hp (t1.append t2))
    · cases h
  · rename_i l m
    have h : (if l.length + m.length ≤ sizeLine then some (D.lst (l ++ m)) else none) = some d := h
    split at h
    · rename_i hz
      cases (Option.some.inj h)
      cases ra with
      | lst h1 n1 t1 =>
        cases rb with
        | lst h2 n2 t2 =>
          cases rx
          cases ry
          obtain ⟨z, its, n, r, hl, e⟩ := I.lstR h1
          obtain ⟨z2, its2, n2, r2, hl2, e2⟩ := I.lstR h2
          have hz' : its.length + its2.length ≤ sizeLine := by rw [← hl, ← hl2, t1.length, t2.length]; exact hz
          refine PySem.P.add_list e e2 ?_ (by rw [List.size_toArray, List.size_toArray]; exact hz')
          have ea : its.toArray ++ its2.toArray = (its ++ its2).toArray := by simp
          rw [ea]
          refine ⟨.ref _, _, I.lnew (t' := s.toks) (r.append r2) (by rw [List.length_append]; omega), rfl, q _ _ (same_upd I.fresh) (new_lst I.fresh (fun m => dom _ m I.fresh) (t1.append t2))⟩
    · cases h
theorem od_sub : OpD X (binaryOp .Sub) (evO .sub) := by
  intro pins s σ H M γ x y v u a b d Q I rx ry ra rb dom h q
  cases a <;> cases b <;> first | exact (nomatch (show none = some d from h)) | skip
  cases ra; cases rb
  cases (Option.some.inj h)
  exact op_sub pins s σ H _ _ v u Q I rx ry ⟨_, _, rfl, rfl, q _ _ (Same.refl H) (.int _)⟩
theorem od_fdiv : OpD X (binaryOp .FloorDiv) (evO .fdiv) := by
  intro pins s σ H M γ x y v u a b d Q I rx ry ra rb dom h q
  cases a <;> cases b <;> first | exact (nomatch (show none = some d from h)) | skip
  cases ra; cases rb
  rename_i i j
  have h : (if 0 < j ∧ j < 1073741824 then some (D.int (i / j)) else none) = some d := h
  split at h
  · cases (Option.some.inj h)
    exact op_fdiv pins s σ H _ _ v u Q I rx ry ⟨_, _, rfl, rfl, by assumption, q _ _ (Same.refl H) (.int _)⟩
  · cases h
theorem od_mod : OpD X (binaryOp .Mod) (evO .mod) := by
  intro pins s σ H M γ x y v u a b d Q I rx ry ra rb dom h q
  cases a <;> cases b <;> first | exact (nomatch (show none = some d from h)) | skip
  cases ra; cases rb
  rename_i i j
  have h : (if 0 < j then some (D.int (i % j)) else none) = some d := h
  split at h
  · cases (Option.some.inj h)
    exact op_mod pins s σ H _ _ v u Q I rx ry ⟨_, _, rfl, rfl, by assumption, q _ _ (Same.refl H) (.int _)⟩
  · cases h
theorem od_pow : OpD X (binaryOp .Pow) (evO .pow) := by
  intro pins s σ H M γ x y v u a b d Q I rx ry ra rb dom h q
  cases a <;> cases b <;> first | exact (nomatch (show none = some d from h)) | skip
  cases ra; cases rb
  rename_i i j
  have h : (if 0 ≤ j ∧ j ≤ 100 ∧ 0 ≤ i ∧ i < 100 then some (D.int (i ^ j.toNat)) else none) = some d := h
  split at h
  · rename_i hc
    cases (Option.some.inj h)
    exact op_pow pins s σ H _ _ v u Q I rx ry ⟨_, _, rfl, rfl, ⟨hc.1, by omega, by omega⟩, q _ _ (Same.refl H) (.int _)⟩
  · cases h
theorem rep_lst {l : Addr} {k : Int} {xs : List V} {v u : Value} {Q : VK} (I : Inv X pins σ H s) (rx : RelV (.ref l) v) (ry : RelV (.int k) u) (hH : Rd H l (.lst xs)) (h1 : -(2 ^ 63) ≤ k) (h2 : k < 2 ^ 63) (hz : xs.length * k.toNat ≤ sizeLine)
    (q : ∀ p, H p = none → Q (.ref p) (upd H p (.lst (List.replicate k.toNat xs).flatten))) : wpAny (model X.prog X.w) X.A (binaryOp .Mult v u) (EP X pins σ Q) X.xe s := by
  cases rx
  obtain ⟨t, rfl⟩ := ry
  obtain ⟨z, its, n, r, hl, e⟩ := I.lstR hH
  have b1 : its.toArray.size * k.toNat ≤ sizeLine := by rw [List.size_toArray, ← hl]; exact hz
  have b2 : ¬ its.toArray.size * k.toNat > (2 ^ 63 - 1) / 8 := fun h => absurd (Nat.lt_of_lt_of_le h b1) (by decide)
  have b3 : ¬ (!Builtin.List.listFitsIndex k) = true := fun h => by rw [fitsIndex_both h1 h2] at h; exact Bool.false_ne_true h
  have b4 : ¬ Builtin.List.listTooLong (its.toArray.size * k.toNat) = true := fun h => by rw [notLongL b1] at h; exact Bool.false_ne_true h
  have many : ∀ m : Nat, List.foldl (fun a b => a ++ b) #[] (List.replicate m its.toArray) = (List.replicate m its).flatten.toArray := fun m => by simpa using foldl_rep its m []
  have b5 : List.foldl (fun a b => a ++ b) #[] (List.replicate (if its.toArray.isEmpty = true then 0 else k.toNat) its.toArray) = (List.replicate k.toNat its).flatten.toArray := by
    rw [many]
    cases its with
    | nil => simp
    | cons a r => rw [if_neg (by simp)]
  refine wpAny_binaryOp_repeat_ref (T := "list") (U := "int") (by decide) ⟨_, e, rfl⟩ (fun s' => typeIs_int s' k t) noFill_list_mul F.fills_int_mul F.slot_int_rmul repeat_list F.slot_int_index.lookup (call_meets F.slot_int_rmul (typeIs_int s k t) F.entry_int_rmul
    (F.args_int_rmul_2 _ _) (int___rmul___int_list k t l its.toArray n) ⟨e, rfl, ⟨_, e, rfl⟩, call_meets F.slot_list_mul ⟨_, e, rfl⟩ F.entry_list_mul (F.args_list_mul_2 _ _) (AutoListH.list___mul___list_int_3 l its.toArray n k t b3 b2 b4) ⟨e, ?_⟩⟩)
  rw [b5]
  refine ⟨.ref _, _, I.lnew (t' := s.toks) (r.rep k.toNat) ?_, rfl, q _ I.fresh⟩
  rw [PyProof.Rows.lm_len_rep_flat, Nat.mul_comm]
  exact hz
theorem od_mul : OpD X (binaryOp .Mult) (evO .mul) := by
  intro pins s σ H M γ x y v u a b d Q I rx ry ra rb dom h q
  cases a <;> cases b <;> first | exact (nomatch (show none = some d from h)) | skip
  · rename_i i j
    have h : (if -(2 ^ 64) < i ∧ i < 2 ^ 64 ∨ -(2 ^ 64) < j ∧ j < 2 ^ 64 then some (D.int (i * j)) else none) = some d := h
    split at h
    · cases ra; cases rb
      cases (Option.some.inj h)
      exact op_mul pins s σ H _ _ v u Q I rx ry ⟨_, _, rfl, rfl, by assumption, q _ _ (Same.refl H) (.int _)⟩
    · cases h
  · rename_i l k
    have h : (if 1 < k ∧ k ≤ 1000 ∧ l.length ≤ 1000 ∧ l ≠ [] then some (D.tup (List.replicate k.toNat l).flatten) else none) = some d := h
    split at h
    · rename_i hc
      cases (Option.some.inj h)
      cases rb
      cases ra with
      | tup h1 t1 =>
        exact op_repT pins s σ H _ _ v u Q I rx ry ⟨_, _, _, rfl, rfl, h1, fun e => hc.2.2.2 (by subst e; cases t1; rfl), by omega, hc.2.1, by rw [t1.length]; exact hc.2.2.1, fun p hp => q _ _ (same_upd hp) (new_tup hp (t1.flat _))⟩
    · cases h
  · rename_i l k
    have h : (if -(2 ^ 62) ≤ k ∧ k < 2 ^ 62 ∧ l.length * k.toNat ≤ sizeLine then some (D.lst (List.replicate k.toNat l).flatten) else none) = some d := h
    split at h
    · rename_i hc
      cases (Option.some.inj h)
      cases rb
      cases ra with
      | lst h1 n1 t1 =>
        have hl1 := t1.length
        exact rep_lst I rx ry h1 (by omega) (by omega) (by rw [hl1]; exact hc.2.2) fun p hp => q _ _ (same_upd hp) (new_lst hp (fun m => dom _ m hp) (t1.flat _))
    · cases h
end
end TD

-- TD2
set_option maxHeartbeats 1000000
namespace TD
open PySem PySem.Spec PyProof.Rows L2
/-! data as the library's data -/
def pdDs (l : List D) : List PyData := l.map pdD
theorem fls_cons {n : Nat} {d : D} {l : List D} : fls n (d :: l) = (fl n d && fls n l) := by cases n <;> rfl
mutual
theorem pd_some : ∀ {d : D} {n : Nat}, fl n d = true → pd d ≠ none
  | .non, _, _ => fun z => nomatch z
  | .bl _, _, _ => fun z => nomatch z
  | .int _, _, _ => fun z => nomatch z
  | .str _, _, _ => fun z => nomatch z
  | .tup l, n, h => by
    cases n with
    | zero => simp [fl] at h
    | succ n =>
      intro z
      have z' : (pds l).map PyData.tuple = none := z
      exact pds_some (n := n) (by simpa [fl] using h) (by simpa using z')
  | .lst l, n, h => by
    cases n with
    | zero => simp [fl] at h
    | succ n =>
      intro z
      have z' : (pds l).map PyData.list = none := z
      exact pds_some (n := n) (by simpa [fl] using h) (by simpa using z')
  | .dic _, n, h => by cases n <;> simp [fl] at h
  | .sdc _, n, h => by cases n <;> simp [fl] at h
  | .ref _, n, h => by cases n <;> simp [fl] at h
  | .kl _, n, h => by cases n <;> simp [fl] at h
theorem pds_some : ∀ {l : List D} {n : Nat}, fls n l = true → pds l ≠ none
  | [], _, _ => fun z => nomatch z
  | d :: l, n, h => by
    rw [fls_cons, Bool.and_eq_true] at h
    intro z
    have z' : (match pd d, pds l with
      | some k, some ks => some (k :: ks)
      | _, _ => none) = none := z
    cases q1 : pd d with
    | none => exact pd_some h.1 q1
    | some k =>
      cases q2 : pds l with
      | none => exact pds_some h.2 q2
      | some ks => rw [q1, q2] at z'; cases z'
end
theorem pds_map : ∀ {l : List D} {n : Nat}, fls n l = true → pds l = some (pdDs l)
  | [], _, _ => rfl
  | d :: l, n, h => by
    rw [fls_cons, Bool.and_eq_true] at h
    have e1 := pds_map h.2
    cases q : pd d with
    | none => exact absurd q (pd_some h.1)
    | some k =>
      show (match pd d, pds l with
        | some k, some ks => some (k :: ks)
        | _, _ => none) = _
      rw [q, e1]
      show some (k :: pdDs l) = some (pdDs (d :: l))
      unfold pdDs
      rw [List.map_cons]
      unfold pdD
      rw [q]; rfl
theorem fls_mem {n : Nat} : ∀ {l : List D}, fls n l = true → ∀ d ∈ l, fl n d = true
  | [], _, _, h => nomatch h
  | d :: l, h, e, m => by
    rw [fls_cons, Bool.and_eq_true] at h
    rcases List.mem_cons.mp m with rfl | m
    · exact h.1
    · exact fls_mem h.2 e m
theorem fls_of {n : Nat} : ∀ {l : List D}, (∀ d ∈ l, fl n d = true) → fls n l = true
  | [], _ => rfl
  | d :: l, h => by
    rw [fls_cons, Bool.and_eq_true]
    exact ⟨h d List.mem_cons_self, fls_of fun e m => h e (List.mem_cons_of_mem _ m)⟩
theorem pdD_tup {l : List D} {n : Nat} (h : fls n l = true) : pdD (.tup l) = .tuple (pdDs l) := by
  show ((pds l).map PyData.tuple).getD .none = _
  rw [pds_map h]; rfl
theorem pdD_lst {l : List D} {n : Nat} (h : fls n l = true) : pdD (.lst l) = .list (pdDs l) := by
  show ((pds l).map PyData.list).getD .none = _
  rw [pds_map h]; rfl
theorem fl_tup {n : Nat} {l : List D} (h : fl n (.tup l) = true) : ∃ m, n = m + 1 ∧ fls m l = true := by
  cases n with
  | zero => simp [fl] at h
  | succ m => exact ⟨m, rfl, by simpa [fl] using h⟩
theorem fl_lst {n : Nat} {l : List D} (h : fl n (.lst l) = true) : ∃ m, n = m + 1 ∧ fls m l = true := by
  cases n with
  | zero => simp [fl] at h
  | succ m => exact ⟨m, rfl, by simpa [fl] using h⟩
section
variable {X : Cx} {M : Addr → Prop} {γ : List Addr} {H : Hp}
mutual
theorem Rp.dp : ∀ {d : D} {v : V} {n : Nat}, fl n d = true → XR X M γ H v d → Dp X.K H v (pdD d) ∧ (pdD d).canLay0 = true ∧ (pdD d).depth ≤ n
  | _, _, _, _, .non => ⟨.non, rfl, Nat.zero_le _⟩
  | _, _, _, _, .bl b => ⟨.bl b, rfl, Nat.zero_le _⟩
  | _, _, _, _, .int b => ⟨.int b, rfl, Nat.zero_le _⟩
  | _, _, _, _, .str b h => ⟨.str b, by simpa [pdD, pd, PyData.canLay0] using h, Nat.zero_le _⟩
  | _, _, n, h, .tup h1 t => by
    obtain ⟨m, rfl, hm⟩ := fl_tup h
    obtain ⟨a, b, c⟩ := Rps.dp hm t
    rw [pdD_tup hm]
    exact ⟨.tup h1 a, by simpa [PyData.canLay0] using b, by simp only [PyData.depth]; omega⟩
  | _, _, n, h, .lst h1 _ t => by
    obtain ⟨m, rfl, hm⟩ := fl_lst h
    obtain ⟨a, b, c⟩ := Rps.dp hm t
    rw [pdD_lst hm]
    exact ⟨.lst (.inl h1) a, by simpa [PyData.canLay0] using b, by simp only [PyData.depth]; omega⟩
  | _, _, n, h, .dic .. => by cases n <;> simp [fl] at h
  | _, _, n, h, .dks .. => by cases n <;> simp [fl] at h
  | _, _, n, h, .ref .. => by cases n <;> simp [fl] at h
  | _, _, n, h, .kl .. => by cases n <;> simp [fl] at h
theorem Rps.dp : ∀ {d : List D} {v : List V} {n : Nat}, fls n d = true → XRs X M γ H v d → DpAll X.K H v (pdDs d) ∧ PyData.canLayAll0 (pdDs d) = true ∧ PyData.depthAll (pdDs d) ≤ n
  | _, _, _, _, .nil => ⟨.nil, rfl, Nat.zero_le _⟩
  | _, _, n, h, .cons h1 t => by
    rw [fls_cons, Bool.and_eq_true] at h
    obtain ⟨a, b, c⟩ := Rp.dp h.1 h1
    obtain ⟨a2, b2, c2⟩ := Rps.dp h.2 t
    refine ⟨.cons a a2, ?_, ?_⟩
    · show PyData.canLayAll0 (_ :: _) = true
      rw [PyData.canLayAll0, b, Bool.true_and]; exact b2
    · show PyData.depthAll (_ :: _) ≤ n
      rw [PyData.depthAll]
      exact Nat.max_le.mpr ⟨c, c2⟩
end
end
mutual
theorem eqv_pd : ∀ {a b : D} {n m : Nat}, fl n a = true → fl m b = true → eqv a b = PyData.eqv (pdD a) (pdD b)
  | .tup l, .tup k, n, m, h1, h2 => by
    obtain ⟨n', rfl, e1⟩ := fl_tup h1
    obtain ⟨m', rfl, e2⟩ := fl_tup h2
    rw [pdD_tup e1, pdD_tup e2, eqv, PyData.eqv]
    exact eqvs_pd e1 e2
  | .lst l, .lst k, n, m, h1, h2 => by
    obtain ⟨n', rfl, e1⟩ := fl_lst h1
    obtain ⟨m', rfl, e2⟩ := fl_lst h2
    rw [pdD_lst e1, pdD_lst e2, eqv, PyData.eqv]
    exact eqvs_pd e1 e2
  | .tup l, .lst k, n, m, h1, h2 => by
    obtain ⟨n', rfl, e1⟩ := fl_tup h1
    obtain ⟨m', rfl, e2⟩ := fl_lst h2
    rw [pdD_tup e1, pdD_lst e2]; simp [eqv, PyData.eqv]
  | .lst l, .tup k, n, m, h1, h2 => by
    obtain ⟨n', rfl, e1⟩ := fl_lst h1
    obtain ⟨m', rfl, e2⟩ := fl_tup h2
    rw [pdD_lst e1, pdD_tup e2]; simp [eqv, PyData.eqv]
  | .tup l, .non, n, m, h1, h2 => by
    obtain ⟨n', rfl, e1⟩ := fl_tup h1
    rw [pdD_tup e1]; simp [eqv, PyData.eqv, pdD, pd]
  | .tup l, .bl _, n, m, h1, h2 => by
    obtain ⟨n', rfl, e1⟩ := fl_tup h1
    rw [pdD_tup e1]; simp [eqv, PyData.eqv, pdD, pd]
  | .tup l, .int _, n, m, h1, h2 => by
    obtain ⟨n', rfl, e1⟩ := fl_tup h1
    rw [pdD_tup e1]; simp [eqv, PyData.eqv, pdD, pd]
  | .tup l, .str _, n, m, h1, h2 => by
    obtain ⟨n', rfl, e1⟩ := fl_tup h1
    rw [pdD_tup e1]; simp [eqv, PyData.eqv, pdD, pd]
  | .lst l, .non, n, m, h1, h2 => by
    obtain ⟨n', rfl, e1⟩ := fl_lst h1
    rw [pdD_lst e1]; simp [eqv, PyData.eqv, pdD, pd]
  | .lst l, .bl _, n, m, h1, h2 => by
    obtain ⟨n', rfl, e1⟩ := fl_lst h1
    rw [pdD_lst e1]; simp [eqv, PyData.eqv, pdD, pd]
  | .lst l, .int _, n, m, h1, h2 => by
    obtain ⟨n', rfl, e1⟩ := fl_lst h1
    rw [pdD_lst e1]; simp [eqv, PyData.eqv, pdD, pd]
  | .lst l, .str _, n, m, h1, h2 => by
    obtain ⟨n', rfl, e1⟩ := fl_lst h1
    rw [pdD_lst e1]; simp [eqv, PyData.eqv, pdD, pd]
  | .non, .tup l, n, m, h1, h2 => by
    obtain ⟨n', rfl, e1⟩ := fl_tup h2
    rw [pdD_tup e1]; simp [eqv, PyData.eqv, pdD, pd]
  | .bl _, .tup l, n, m, h1, h2 => by
    obtain ⟨n', rfl, e1⟩ := fl_tup h2
    rw [pdD_tup e1]; simp [eqv, PyData.eqv, pdD, pd]
  | .int _, .tup l, n, m, h1, h2 => by
    obtain ⟨n', rfl, e1⟩ := fl_tup h2
    rw [pdD_tup e1]; simp [eqv, PyData.eqv, pdD, pd]
  | .str _, .tup l, n, m, h1, h2 => by
    obtain ⟨n', rfl, e1⟩ := fl_tup h2
    rw [pdD_tup e1]; simp [eqv, PyData.eqv, pdD, pd]
  | .non, .lst l, n, m, h1, h2 => by
    obtain ⟨n', rfl, e1⟩ := fl_lst h2
    rw [pdD_lst e1]; simp [eqv, PyData.eqv, pdD, pd]
  | .bl _, .lst l, n, m, h1, h2 => by
    obtain ⟨n', rfl, e1⟩ := fl_lst h2
    rw [pdD_lst e1]; simp [eqv, PyData.eqv, pdD, pd]
  | .int _, .lst l, n, m, h1, h2 => by
    obtain ⟨n', rfl, e1⟩ := fl_lst h2
    rw [pdD_lst e1]; simp [eqv, PyData.eqv, pdD, pd]
  | .str _, .lst l, n, m, h1, h2 => by
    obtain ⟨n', rfl, e1⟩ := fl_lst h2
    rw [pdD_lst e1]; simp [eqv, PyData.eqv, pdD, pd]
  | .dic _, _, n, m, h1, h2 => by cases n <;> simp [fl] at h1
  | .sdc _, _, n, m, h1, h2 => by cases n <;> simp [fl] at h1
  | .ref _, _, n, m, h1, h2 => by cases n <;> simp [fl] at h1
  | .kl _, _, n, m, h1, h2 => by cases n <;> simp [fl] at h1
  | _, .dic _, n, m, h1, h2 => by cases m <;> simp [fl] at h2
  | _, .sdc _, n, m, h1, h2 => by cases m <;> simp [fl] at h2
  | _, .ref _, n, m, h1, h2 => by cases m <;> simp [fl] at h2
  | _, .kl _, n, m, h1, h2 => by cases m <;> simp [fl] at h2
  | .non, .non, _, _, _, _ => by simp [eqv, PyData.eqv, pdD, pd]
  | .non, .bl _, _, _, _, _ => by simp [eqv, PyData.eqv, pdD, pd]
  | .non, .int _, _, _, _, _ => by simp [eqv, PyData.eqv, pdD, pd]
  | .non, .str _, _, _, _, _ => by simp [eqv, PyData.eqv, pdD, pd]
  | .bl _, .non, _, _, _, _ => by simp [eqv, PyData.eqv, pdD, pd]
  | .bl _, .bl _, _, _, _, _ => by simp [eqv, PyData.eqv, pdD, pd]
  | .bl _, .int _, _, _, _, _ => by simp [eqv, PyData.eqv, pdD, pd]
  | .bl _, .str _, _, _, _, _ => by simp [eqv, PyData.eqv, pdD, pd]
  | .int _, .non, _, _, _, _ => by simp [eqv, PyData.eqv, pdD, pd]
  | .int _, .bl _, _, _, _, _ => by simp [eqv, PyData.eqv, pdD, pd]
  | .int _, .int _, _, _, _, _ => by simp [eqv, PyData.eqv, pdD, pd]
  | .int _, .str _, _, _, _, _ => by simp [eqv, PyData.eqv, pdD, pd]
  | .str _, .non, _, _, _, _ => by simp [eqv, PyData.eqv, pdD, pd]
  | .str _, .bl _, _, _, _, _ => by simp [eqv, PyData.eqv, pdD, pd]
  | .str _, .int _, _, _, _, _ => by simp [eqv, PyData.eqv, pdD, pd]
  | .str _, .str _, _, _, _, _ => by simp [eqv, PyData.eqv, pdD, pd]
theorem eqvs_pd : ∀ {a b : List D} {n m : Nat}, fls n a = true → fls m b = true → eqvs a b = PyData.eqvAll (pdDs a) (pdDs b)
  | [], [], _, _, _, _ => by simp [eqvs, PyData.eqvAll, pdDs]
  | [], _ :: _, _, _, _, _ => by simp [eqvs, PyData.eqvAll, pdDs]
  | _ :: _, [], _, _, _, _ => by simp [eqvs, PyData.eqvAll, pdDs]
  | x :: a, y :: b, n, m, h1, h2 => by
    rw [fls_cons, Bool.and_eq_true] at h1 h2
    show eqvs (x :: a) (y :: b) = PyData.eqvAll (pdD x :: pdDs a) (pdD y :: pdDs b)
    rw [eqvs, PyData.eqvAll, eqv_pd h1.1 h2.1, eqvs_pd h1.2 h2.2]
end
end TD

-- TE
set_option maxHeartbeats 1000000
/-! comparisons; dicts -/
namespace TD
open PySem PySem.Spec PyProof.Rows L2
section
variable {X : Cx} {M : Addr → Prop} {γ : List Addr} {H : Hp} {pins : List (Addr × Obj)} {σ : L2.St} {s : Shared}
theorem Rp.rd_ {d : D} {v : V} {u : Value} {n : Nat} (I : Inv X pins σ H s) (h : fl n d = true) (r : XR X M γ H v d) (q : RelV v u) : ∃ as, Reads s.heap u (pdD d) as := Dp.reads I _ v u (r.dp h).1 q
theorem and3 {a b c d : Bool} (h : (a && b && c && d) = true) : a = true ∧ b = true ∧ c = true ∧ d = true := by
  cases a <;> cases b <;> cases c <;> cases d <;> first | exact ⟨rfl, rfl, rfl, rfl⟩ | cases h
theorem od_eq (hu : X.A.units + 64 < cLine) : OpD X (compareOp .Eq) (evO .eq) := by
  intro pins s σ H M γ x y v u a b d Q I rx ry ra rb dom h q
  have h : (if (fl 40 a && fl 40 b) = true then some (D.bl (eqv a b)) else none) = some d := by cases a <;> exact h
  split at h
  · rename_i hc
    rw [Bool.and_eq_true] at hc
    cases (Option.some.inj h)
    obtain ⟨as, r1⟩ := ra.rd_ I hc.1 rx
    obtain ⟨bs, r2⟩ := rb.rd_ I hc.2 ry
    have d1 := (ra.dp hc.1).2
    have d2 := (rb.dp hc.2).2
    refine PySem.SeqAt.compareEq_reads r1 r2 d1.1 d2.1 ?_ ⟨.bl _, H, I, rfl, ?_⟩
    · have := Nat.min_le_left (pdD a).depth (pdD b).depth
      have := d1.2
      omega
    · rw [← eqv_pd hc.1 hc.2]
      exact q _ _ (Same.refl H) (.bl _)
  · cases h
theorem od_ne (hu : X.A.units + 64 < cLine) : OpD X (compareOp .NotEq) (evO .ne) := by
  intro pins s σ H M γ x y v u a b d Q I rx ry ra rb dom h q
  have h : (if (fl 40 a && fl 40 b) = true then some (D.bl (!eqv a b)) else none) = some d := by cases a <;> exact h
  split at h
  · rename_i hc
    rw [Bool.and_eq_true] at hc
    cases (Option.some.inj h)
    obtain ⟨as, r1⟩ := ra.rd_ I hc.1 rx
    obtain ⟨bs, r2⟩ := rb.rd_ I hc.2 ry
    have d1 := (ra.dp hc.1).2
    have d2 := (rb.dp hc.2).2
    refine PySem.SeqAt.compareNe_reads r1 r2 d1.1 d2.1 ?_ ⟨.bl _, H, I, rfl, ?_⟩
    · have := Nat.min_le_left (pdD a).depth (pdD b).depth
      have := d1.2
      omega
    · rw [← eqv_pd hc.1 hc.2]
      exact q _ _ (Same.refl H) (.bl _)
  · cases h
theorem od_lt (hu : X.A.units + 64 < cLine) : OpD X (compareOp .Lt) (evO .lt) := by
  intro pins s σ H M γ x y v u a b d Q I rx ry ra rb dom h q
  have h : (if (fl 40 a && fl 40 b && !isNonD a && alk a b) = true then some (D.bl (ltD a b)) else none) = some d := by cases a <;> exact h
  split at h
  · rename_i hc
    obtain ⟨c1, c2, c3, c4⟩ := and3 hc
    cases (Option.some.inj h)
    obtain ⟨as, r1⟩ := ra.rd_ I c1 rx
    obtain ⟨bs, r2⟩ := rb.rd_ I c2 ry
    have d1 := (ra.dp c1).2
    refine PySem.W.rcLt_alike _ _ X.A s v u as bs r1 r2 c4 (fun e => ?_) ?_ _ _ _ _ ⟨.bl _, H, I, rfl, q _ _ (Same.refl H) (.bl _)⟩
    · cases a with
      | non => cases c3
      | tup l => obtain ⟨m, _, z⟩ := fl_tup c1; rw [pdD_tup z] at e; cases e
      | lst l => obtain ⟨m, _, z⟩ := fl_lst c1; rw [pdD_lst z] at e; cases e
      | dic l => simp [fl] at c1
      | sdc l => simp [fl] at c1
      | ref l => simp [fl] at c1
      | kl l => simp [fl] at c1
      | bl l => cases e
      | int l => cases e
      | str l => cases e
    · have := Nat.min_le_left (pdD a).depth (pdD b).depth
      have := d1.2
      omega
  · cases h
theorem od_gt : OpD X (compareOp .Gt) (evO .gt) := by
  intro pins s σ H M γ x y v u a b d Q I rx ry ra rb dom h q
  cases a <;> cases b <;> first | exact (nomatch (show none = some d from h)) | skip
  cases ra; cases rb
  cases (Option.some.inj h)
  exact op_gt pins s σ H _ _ v u Q I rx ry ⟨_, _, rfl, rfl, q _ _ (Same.refl H) (.bl _)⟩
theorem od_ge : OpD X (compareOp .GtE) (evO .ge) := by
  intro pins s σ H M γ x y v u a b d Q I rx ry ra rb dom h q
  cases a <;> cases b <;> first | exact (nomatch (show none = some d from h)) | skip
  cases ra; cases rb
  cases (Option.some.inj h)
  exact op_ge pins s σ H _ _ v u Q I rx ry ⟨_, _, rfl, rfl, q _ _ (Same.refl H) (.bl _)⟩

theorem od_le : OpD X (compareOp .LtE) (evO .le) := by
  intro pins s σ H M γ x y v u a b d Q I rx ry ra rb dom h q
  cases a <;> cases b <;> first | exact (nomatch (show none = some d from h)) | skip
  cases ra; cases rb
  cases (Option.some.inj h)
  exact op_le pins s σ H _ _ v u Q I rx ry ⟨_, _, rfl, rfl, q _ _ (Same.refl H) (.bl _)⟩

/-! keys -/
mutual
theorem eqv_nk : ∀ {a b : D} {k j : NestedKey}, nk a = some k → nk b = some j → eqv a b = decide (k = j)
  | .tup l, .tup m, k, j, h1, h2 => by
    have e1 : (nks l).map NestedKey.tup = some k := h1
    have e2 : (nks m).map NestedKey.tup = some j := h2
    cases q1 : nks l with
    | none => rw [q1] at e1; cases e1
    | some ks =>
      cases q2 : nks m with
      | none => rw [q2] at e2; cases e2
      | some js =>
        rw [q1] at e1; rw [q2] at e2
        cases (Option.some.inj e1); cases (Option.some.inj e2)
        rw [eqv, eqvs_nk q1 q2]
        simp
  | .tup l, .non, k, j, h1, h2 => by
    have e1 : (nks l).map NestedKey.tup = some k := h1
    cases q1 : nks l with
    | none => rw [q1] at e1; cases e1
    | some ks => rw [q1] at e1; cases (Option.some.inj e1); cases (Option.some.inj h2); simp [eqv]
  | .tup l, .bl _, k, j, h1, h2 => by
    have e1 : (nks l).map NestedKey.tup = some k := h1
    cases q1 : nks l with
    | none => rw [q1] at e1; cases e1
    | some ks => rw [q1] at e1; cases (Option.some.inj e1); cases (Option.some.inj h2); simp [eqv]
  | .tup l, .int _, k, j, h1, h2 => by
    have e1 : (nks l).map NestedKey.tup = some k := h1
    cases q1 : nks l with
    | none => rw [q1] at e1; cases e1
    | some ks => rw [q1] at e1; cases (Option.some.inj e1); cases (Option.some.inj h2); simp [eqv]
  | .tup l, .str _, k, j, h1, h2 => by
    have e1 : (nks l).map NestedKey.tup = some k := h1
    cases q1 : nks l with
    | none => rw [q1] at e1; cases e1
    | some ks => rw [q1] at e1; cases (Option.some.inj e1); cases (Option.some.inj h2); simp [eqv]
  | .non, .tup l, k, j, h1, h2 => by
    have e1 : (nks l).map NestedKey.tup = some j := h2
    cases q1 : nks l with
    | none => rw [q1] at e1; cases e1
    | some ks => rw [q1] at e1; cases (Option.some.inj e1); cases (Option.some.inj h1); simp [eqv]
  | .bl _, .tup l, k, j, h1, h2 => by
    have e1 : (nks l).map NestedKey.tup = some j := h2
    cases q1 : nks l with
    | none => rw [q1] at e1; cases e1
    | some ks => rw [q1] at e1; cases (Option.some.inj e1); cases (Option.some.inj h1); simp [eqv]
  | .int _, .tup l, k, j, h1, h2 => by
    have e1 : (nks l).map NestedKey.tup = some j := h2
    cases q1 : nks l with
    | none => rw [q1] at e1; cases e1
    | some ks => rw [q1] at e1; cases (Option.some.inj e1); cases (Option.some.inj h1); simp [eqv]
  | .str _, .tup l, k, j, h1, h2 => by
    have e1 : (nks l).map NestedKey.tup = some j := h2
    cases q1 : nks l with
    | none => rw [q1] at e1; cases e1
    | some ks => rw [q1] at e1; cases (Option.some.inj e1); cases (Option.some.inj h1); simp [eqv]
  | .non, .non, k, j, h1, h2 => by cases (Option.some.inj h1); cases (Option.some.inj h2); simp [eqv]
  | .non, .bl _, k, j, h1, h2 => by cases (Option.some.inj h1); cases (Option.some.inj h2); simp [eqv]
  | .non, .int _, k, j, h1, h2 => by cases (Option.some.inj h1); cases (Option.some.inj h2); simp [eqv]
  | .non, .str _, k, j, h1, h2 => by cases (Option.some.inj h1); cases (Option.some.inj h2); simp [eqv]
  | .bl _, .non, k, j, h1, h2 => by cases (Option.some.inj h1); cases (Option.some.inj h2); simp [eqv]
  | .bl b, .bl c, k, j, h1, h2 => by cases (Option.some.inj h1); cases (Option.some.inj h2); cases b <;> cases c <;> simp [eqv]
  | .bl b, .int i, k, j, h1, h2 => by
    cases (Option.some.inj h1); cases (Option.some.inj h2)
    rw [eqv, Bool.eq_iff_iff]; simp
  | .bl _, .str _, k, j, h1, h2 => by cases (Option.some.inj h1); cases (Option.some.inj h2); simp [eqv]
  | .int _, .non, k, j, h1, h2 => by cases (Option.some.inj h1); cases (Option.some.inj h2); simp [eqv]
  | .int i, .bl b, k, j, h1, h2 => by
    cases (Option.some.inj h1); cases (Option.some.inj h2)
    rw [eqv, Bool.eq_iff_iff]; simp
  | .int _, .int _, k, j, h1, h2 => by
    cases (Option.some.inj h1); cases (Option.some.inj h2)
    rw [eqv, Bool.eq_iff_iff]; simp
  | .int _, .str _, k, j, h1, h2 => by cases (Option.some.inj h1); cases (Option.some.inj h2); simp [eqv]
  | .str _, .non, k, j, h1, h2 => by cases (Option.some.inj h1); cases (Option.some.inj h2); simp [eqv]
  | .str _, .bl _, k, j, h1, h2 => by cases (Option.some.inj h1); cases (Option.some.inj h2); simp [eqv]
  | .str _, .int _, k, j, h1, h2 => by cases (Option.some.inj h1); cases (Option.some.inj h2); simp [eqv]
  | .str _, .str _, k, j, h1, h2 => by
    cases (Option.some.inj h1); cases (Option.some.inj h2)
    rw [eqv, Bool.eq_iff_iff]; simp
  | .lst _, _, _, _, h1, _ => nomatch (show none = some _ from h1)
  | .sdc _, _, _, _, h1, _ => nomatch (show none = some _ from h1)
  | .dic _, _, _, _, h1, _ => nomatch (show none = some _ from h1)
  | .ref _, _, _, _, h1, _ => nomatch (show none = some _ from h1)
  | .kl _, _, _, _, h1, _ => nomatch (show none = some _ from h1)
  | _, .lst _, _, _, _, h2 => nomatch (show none = some _ from h2)
  | _, .sdc _, _, _, _, h2 => nomatch (show none = some _ from h2)
  | _, .dic _, _, _, _, h2 => nomatch (show none = some _ from h2)
  | _, .ref _, _, _, _, h2 => nomatch (show none = some _ from h2)
  | _, .kl _, _, _, _, h2 => nomatch (show none = some _ from h2)
theorem eqvs_nk : ∀ {a b : List D} {k j : List NestedKey}, nks a = some k → nks b = some j → eqvs a b = decide (k = j)
  | [], [], k, j, h1, h2 => by cases (Option.some.inj h1); cases (Option.some.inj h2); simp [eqvs]
  | [], y :: b, k, j, h1, h2 => by
    cases (Option.some.inj h1)
    obtain ⟨z, zs, rfl, _, _⟩ := nks_cons h2
    simp [eqvs]
  | x :: a, [], k, j, h1, h2 => by
    cases (Option.some.inj h2)
    obtain ⟨z, zs, rfl, _, _⟩ := nks_cons h1
    simp [eqvs]
  | x :: a, y :: b, k, j, h1, h2 => by
    obtain ⟨z, zs, rfl, p1, p2⟩ := nks_cons h1
    obtain ⟨z', zs', rfl, p1', p2'⟩ := nks_cons h2
    rw [eqvs, eqv_nk p1 p1', eqvs_nk p2 p2', Bool.eq_iff_iff]
    simp
theorem nks_cons {d : D} {l : List D} {k : List NestedKey} (h : nks (d :: l) = some k) : ∃ z zs, k = z :: zs ∧ nk d = some z ∧ nks l = some zs := by
  have h' : (match nk d, nks l with
    | some k, some ks => some (k :: ks)
    | _, _ => none) = some k := h
  cases q1 : nk d with
  | none => rw [q1] at h'; cases h'
  | some z =>
    cases q2 : nks l with
    | none => rw [q1, q2] at h'; cases h'
    | some zs => rw [q1, q2] at h'; exact ⟨z, zs, (Option.some.inj h').symm, rfl, rfl⟩
end
theorem keyOf_tup {d : D} {k : NestedKey} (h : keyOf d = some k) : nk d = some k ∧ k.depth ≤ 8 ∧ ∃ l, d = .tup l := by
  cases d with
  | tup l =>
    have h' : (match nks l with
      | some ks => if (NestedKey.tup ks).depth ≤ 8 then some (.tup ks) else none
      | none => none) = some k := h
    cases q : nks l with
    | none => rw [q] at h'; cases h'
    | some ks =>
      rw [q] at h'
      have h2 : (if (NestedKey.tup ks).depth ≤ 8 then some (NestedKey.tup ks) else none) = some k := h'
      split at h2
      · cases (Option.some.inj h2)
        refine ⟨?_, by assumption, l, rfl⟩
        show (nks l).map NestedKey.tup = _
        rw [q]; rfl
      · cases h2
  | _ => cases h
mutual
theorem Rp.nested (I : Inv X pins σ H s) : ∀ {d : D} {v : V} {u : Value} {k : NestedKey}, XR X M γ H v d → RelV v u → nk d = some k → NestedIs s.heap k u
  | _, _, _, _, .non, q, h => by cases q; cases (Option.some.inj h); exact .none
  | _, _, _, _, .bl b, q, h => by cases q; cases (Option.some.inj h); exact .bool rfl
  | _, _, _, _, .int b, q, h => by obtain ⟨t, rfl⟩ := q; cases (Option.some.inj h); exact .int _ _
  | _, _, _, _, .str b _, q, h => by obtain ⟨t, rfl⟩ := q; cases (Option.some.inj h); exact .text _ _
  | _, _, _, k, .tup (ds := ds) h1 t, q, h => by
    have e1 : (nks ds).map NestedKey.tup = some k := h
    cases q1 : nks ds with
    | none => rw [q1] at e1; cases e1
    | some ks =>
      rw [q1] at e1
      cases (Option.some.inj e1)
      cases q
      obtain ⟨its, rv, ⟨o, ho, hc, n, hd⟩, _⟩ := I.tuple h1
      exact .tup ho hc hd (by simpa using Rps.nested I t rv q1)
  | _, _, _, _, .lst _ _ _, _, h => nomatch (show none = some _ from h)
  | _, _, _, _, .dic .., _, h => nomatch (show none = some _ from h)
  | _, _, _, _, .dks .., _, h => nomatch (show none = some _ from h)
  | _, _, _, _, .ref _, _, h => nomatch (show none = some _ from h)
  | _, _, _, _, .kl _ _, _, h => nomatch (show none = some _ from h)
theorem Rps.nested (I : Inv X pins σ H s) : ∀ {d : List D} {v : List V} {u : List Value} {k : List NestedKey}, XRs X M γ H v d → Vals v u → nks d = some k → NestedAll s.heap k u
  | _, _, _, _, .nil, .nil, h => by cases (Option.some.inj h); exact .nil
  | _, _, _, _, .cons h1 t, .cons r1 rt, h => by
    obtain ⟨z, zs, rfl, p1, p2⟩ := nks_cons h
    exact .cons (Rp.nested I h1 r1 p1) (Rps.nested I t rt p2)
end
/-- a key's place -/
theorem Rp.key (I : Inv X pins σ H s) {d : D} {v : V} {u : Value} {k : NestedKey} (r : XR X M γ H v d) (q : RelV v u) (h : keyOf d = some k) : ∃ a, v = .ref a ∧ u = .ref a ∧ (nestedKind X.prog X.w).is s.heap k a := by
  obtain ⟨h1, h2, l, rfl⟩ := keyOf_tup h
  have n := r.nested I q h1
  cases r with
  | tup a t => cases q; exact ⟨_, rfl, rfl, n, h2⟩
/-- the dict at a, for the library -/
theorem Ens.isKey (I : Inv X pins σ H s) : ∀ {xs : List Ent} {l : List (D × D)}, Ens X.prog X.w X.K M γ H xs l → ∀ x ∈ xs, (nestedKind X.prog X.w).is s.heap x.1 x.2.1
  | _, _, .nil, x, h => nomatch h
  | _, _, .cons a b c d r, x, h => by
    rcases List.mem_cons.mp h with rfl | h
    · obtain ⟨a', e1, e2, q⟩ := a.key I (u := .ref _) rfl b
      cases e1
      exact q
    · exact Ens.isKey I r x h
theorem IsDic.of (I : Inv X pins σ H s) {a : Addr} {l : List (D × D)} (h : IsDic X.prog X.w X.K M γ H a l) : ∃ xs : List Ent, s.heap.DictOfH (nestedKind X.prog X.w) a xs ∧ (a == sysModules) = false ∧ xs.length ≤ sizeLine ∧ Ens X.prog X.w X.K M γ H xs l := by
  obtain ⟨o, es, ep, xs, h1, h2, h3, h4, h5, h6, h7, h8⟩ := h
  have h9 : s.heap.get? a = some o := (I.hok a _ h1).1
  exact ⟨xs, ⟨o, es, ep, h9, h2, h3, h5, h8.isKey I, h6⟩, h4, h7, h8⟩
theorem Ens.find : ∀ {xs : List Ent} {l : List (D × D)} {k : D} {j : NestedKey}, Ens X.prog X.w X.K M γ H xs l → keyOf k = some j →
    match atKey xs j, dlook l k with
    | some p, some d => ∃ v, RelV v p.2 ∧ XR X M γ H v d
    | none, none => True
    | _, _ => False
  | _, _, _, _, .nil, _ => trivial
  | _, _, k, j, .cons (k := z) (b := b) (u := u) (d := d) (e := e) (xs := xs) (l := l) a h1 h2 h3 r, h => by
    have e1 : eqv d k = decide (z = j) := eqv_nk (keyOf_tup h1).1 (keyOf_tup h).1
    have ih := Ens.find r h
    unfold atKey dlook at *
    by_cases hz : z = j
    · rw [List.find?_cons, List.find?_cons]
      simp only [hz, e1, decide_true]
      exact ⟨_, h2, h3⟩
    · rw [List.find?_cons, List.find?_cons]
      simp only [hz, e1, decide_false]
      exact ih
theorem Ens.mem_iff {xs : List Ent} {l : List (D × D)} {k : D} {j : NestedKey} (e : Ens X.prog X.w X.K M γ H xs l) (h : keyOf k = some j) : (atKey xs j).isSome = (dlook l k).isSome := by
  have := e.find h
  revert this
  cases atKey xs j <;> cases dlook l k <;> intro q <;> first | rfl | exact q.elim
theorem Rp.isDic {v : V} {l : List (D × D)} (r : XR X M γ H v (.dic l)) : ∃ a, v = .ref a ∧ ¬ M a ∧ IsDic X.prog X.w X.K M γ H a l := by
  cases r with
  | dic h1 n h2 h3 h4 h5 h6 h7 h8 => exact ⟨_, rfl, n, _, _, _, _, h1, h2, h3, h4, h5, h6, h7, h8⟩
end
end TD

-- TF
set_option maxHeartbeats 1000000
/-! in; subscripts; slices -/
namespace TD
open PySem PySem.Spec PyProof.Rows L2
section
variable {X : Cx} {M : Addr → Prop} {γ : List Addr} {H : Hp} {pins : List (Addr × Obj)} {σ : L2.St} {s : Shared}
theorem inD_pd {x : D} {l : List D} {n m : Nat} (h1 : fl n x = true) (h2 : fls m l = true) : inD x l = (pdDs l).any fun y => PyData.eqv y (pdD x) := by
  unfold inD pdDs
  rw [List.any_map]
  rw [Bool.eq_iff_iff, List.any_eq_true, List.any_eq_true]
  constructor
  · rintro ⟨y, m1, e⟩
    exact ⟨y, m1, by rw [Function.comp_apply, ← eqv_pd (fls_mem h2 y m1) h1]; exact e⟩
  · rintro ⟨y, m1, e⟩
    exact ⟨y, m1, by rw [Function.comp_apply, ← eqv_pd (fls_mem h2 y m1) h1] at e; exact e⟩
theorem inseq_ok {b : Bool} {x : V} {y : V} {v u : Value} {a : D} {l : List D} (hu : X.A.units + 65 < cLine) (I : Inv X pins σ H s) (rx : RelV x v) (ry : RelV y u) (ra : XR X M γ H x a) (rb : XR X M γ H y (if b then .tup l else .lst l))
    (h1 : fl 40 a = true) (h2 : fls 40 l = true) :
    wpAny (model X.prog X.w) X.A (compareOp .In v u) (EP X pins σ fun z H' => z = .bl (inD a l) ∧ H' = H) X.xe s ∧ wpAny (model X.prog X.w) X.A (compareOp .NotIn v u) (EP X pins σ fun z H' => z = .bl (!inD a l) ∧ H' = H) X.xe s := by
  obtain ⟨as, r1⟩ := ra.rd_ I h1 rx
  have d1 := (ra.dp h1).2
  have room : X.A.units + 1 + min (PyData.depthAll (pdDs l)) (pdD a).depth < cLine := by
    have := Nat.min_le_right (PyData.depthAll (pdDs l)) (pdD a).depth
    have := d1.2
    omega
  cases b with
  | true =>
    have hf : fl 41 (.tup l) = true := by simpa [fl] using h2
    obtain ⟨bs, r2⟩ := Rp.rd_ I hf rb ry
    rw [pdD_tup h2] at r2
    have d2 := (Rp.dp hf rb).2.1
    rw [pdD_tup h2] at d2
    have d3 : PyData.canLayAll0 (pdDs l) = true := by simpa [PyData.canLay0] using d2
    exact ⟨PySem.SeqAt.in_tuple_reads r2 r1 d3 d1.1 room ⟨.bl _, H, I, rfl, by rw [inD_pd h1 h2], rfl⟩, PySem.SeqAt.notIn_tuple_reads r2 r1 d3 d1.1 room ⟨.bl _, H, I, rfl, by rw [inD_pd h1 h2], rfl⟩⟩
  | false =>
    have hf : fl 41 (.lst l) = true := by simpa [fl] using h2
    obtain ⟨bs, r2⟩ := Rp.rd_ I hf rb ry
    rw [pdD_lst h2] at r2
    have d2 := (Rp.dp hf rb).2.1
    rw [pdD_lst h2] at d2
    have d3 : PyData.canLayAll0 (pdDs l) = true := by simpa [PyData.canLay0] using d2
    exact ⟨PySem.SeqAt.in_list_reads r2 r1 d3 d1.1 room ⟨.bl _, H, I, rfl, by rw [inD_pd h1 h2], rfl⟩, PySem.SeqAt.notIn_list_reads r2 r1 d3 d1.1 room ⟨.bl _, H, I, rfl, by rw [inD_pd h1 h2], rfl⟩⟩
theorem EP.imp {Q Q' : VK} {u : Value} {s' : Shared} (h : EP X pins σ Q u s') (f : ∀ z H', Q z H' → Q' z H') : EP X pins σ Q' u s' := by
  obtain ⟨v, H', I, r, q⟩ := h
  exact ⟨v, H', I, r, f _ _ q⟩
/-- k in d -/
theorem indic_ok {x : V} {v : Value} {c : Addr} {a : D} {l : List (D × D)} (hu : X.A.units + 64 < cLine) (I : Inv X pins σ H s) (rx : RelV x v) (ra : XR X M γ H x a) (rb : IsDic X.prog X.w X.K M γ H c l) (hk : (keyOf a).isSome = true) :
    wpAny (model X.prog X.w) X.A (compareOp .In v (.ref c)) (EP X pins σ fun z H' => z = .bl (dlook l a).isSome ∧ H' = H) X.xe s ∧ wpAny (model X.prog X.w) X.A (compareOp .NotIn v (.ref c)) (EP X pins σ fun z H' => z = .bl (!(dlook l a).isSome) ∧ H' = H) X.xe s := by
  obtain ⟨k, hk⟩ := Option.isSome_iff_exists.mp hk
  obtain ⟨b, rfl, rfl, ik⟩ := ra.key I rx hk
  obtain ⟨xs, dd, hs, hl, en⟩ := rb.of I
  have room : (nestedKind X.prog X.w).room X.A.in1 := by show X.A.units + 1 + 8 < cLine; omega
  have e := en.mem_iff hk
  refine ⟨wpAny_in_heap room ik hs dd ⟨.bl _, H, I.tok _, rfl, by rw [e], rfl⟩, ?_⟩
  have m : s.heap.DictKeyed (nestedKind X.prog X.w) c (pairsH xs) := ⟨xs, dd, rfl⟩
  refine notIn_keyed room ik hs m ⟨.bl _, H, I.tok _, rfl, ?_, rfl⟩
  rw [valueAt_pairsH, Option.isSome_map, e]
theorem od_in (hu : X.A.units + 65 < cLine) : OpD X (compareOp .In) (evO .isin) := by
  intro pins s σ H M γ x y v u a b d Q I rx ry ra rb dom h q
  have fin : ∀ {k : Bool}, d = .bl k → wpAny (model X.prog X.w) X.A (compareOp .In v u) (EP X pins σ fun z H' => z = .bl k ∧ H' = H) X.xe s → wpAny (model X.prog X.w) X.A (compareOp .In v u) (EP X pins σ Q) X.xe s := fun {k} e hw => by
    subst e
    refine thn hw fun u s' p => EP.imp p fun z H' e => ?_
    obtain ⟨rfl, rfl⟩ := e
    exact q _ _ (Same.refl _) (.bl _)
  cases b with
  | str z =>
    cases a <;> first | exact (nomatch (show none = some d from h)) | skip
    cases ra; cases rb
    cases (Option.some.inj h)
    exact op_in_str pins s σ H _ _ v u Q I rx ry ⟨_, _, rfl, rfl, q _ _ (Same.refl H) (.bl _)⟩
  | tup l =>
    have h : (if (fl 40 a && fls 40 l) = true then some (D.bl (inD a l)) else none) = some d := by cases a <;> exact h
    split at h
    · rename_i hc
      rw [Bool.and_eq_true] at hc
      exact fin (Option.some.inj h).symm (inseq_ok (b := true) hu I rx ry ra rb hc.1 hc.2).1
    · cases h
  | lst l =>
    have h : (if (fl 40 a && fls 40 l) = true then some (D.bl (inD a l)) else none) = some d := by cases a <;> exact h
    split at h
    · rename_i hc
      rw [Bool.and_eq_true] at hc
      exact fin (Option.some.inj h).symm (inseq_ok (b := false) hu I rx ry ra rb hc.1 hc.2).1
    · cases h
  | dic l =>
    have h : (if (keyOf a).isSome = true then some (D.bl (dlook l a).isSome) else none) = some d := by cases a <;> exact h
    split at h
    · rename_i hc
      obtain ⟨c, rfl, _, hd⟩ := rb.isDic
      cases ry
      exact fin (Option.some.inj h).symm (indic_ok (by omega) I rx ra hd hc).1
    · cases h
  | _ => cases a <;> exact (nomatch (show none = some d from h))
theorem od_notin (hu : X.A.units + 65 < cLine) : OpD X (compareOp .NotIn) (evO .notin) := by
  intro pins s σ H M γ x y v u a b d Q I rx ry ra rb dom h q
  have fin : ∀ {k : Bool}, d = .bl k → wpAny (model X.prog X.w) X.A (compareOp .NotIn v u) (EP X pins σ fun z H' => z = .bl k ∧ H' = H) X.xe s → wpAny (model X.prog X.w) X.A (compareOp .NotIn v u) (EP X pins σ Q) X.xe s := fun {k} e hw => by
    subst e
    refine thn hw fun u s' p => EP.imp p fun z H' e => ?_
    obtain ⟨rfl, rfl⟩ := e
    exact q _ _ (Same.refl _) (.bl _)
  cases b with
  | str z =>
    cases a <;> first | exact (nomatch (show none = some d from h)) | skip
    cases ra; cases rb
    cases (Option.some.inj h)
    exact op_notin_str pins s σ H _ _ v u Q I rx ry ⟨_, _, rfl, rfl, q _ _ (Same.refl H) (.bl _)⟩
  | tup l =>
    have h : (if (fl 40 a && fls 40 l) = true then some (D.bl (!inD a l)) else none) = some d := by cases a <;> exact h
    split at h
    · rename_i hc
      rw [Bool.and_eq_true] at hc
      exact fin (Option.some.inj h).symm (inseq_ok (b := true) hu I rx ry ra rb hc.1 hc.2).2
    · cases h
  | lst l =>
    have h : (if (fl 40 a && fls 40 l) = true then some (D.bl (!inD a l)) else none) = some d := by cases a <;> exact h
    split at h
    · rename_i hc
      rw [Bool.and_eq_true] at hc
      exact fin (Option.some.inj h).symm (inseq_ok (b := false) hu I rx ry ra rb hc.1 hc.2).2
    · cases h
  | dic l =>
    have h : (if (keyOf a).isSome = true then some (D.bl (!(dlook l a).isSome)) else none) = some d := by cases a <;> exact h
    split at h
    · rename_i hc
      obtain ⟨c, rfl, _, hd⟩ := rb.isDic
      cases ry
      exact fin (Option.some.inj h).symm (indic_ok (by omega) I rx ra hd hc).2
    · cases h
  | _ => cases a <;> exact (nomatch (show none = some d from h))
/-- d[k] by the heap -/
theorem getdic_ok {x : V} {v : Value} {c : Addr} {a d : D} {l : List (D × D)} {Q : VK} (hu : X.A.units + 64 < cLine) (I : Inv X pins σ H s) (rx : RelV x v) (ra : XR X M γ H x a) (rb : IsDic X.prog X.w X.K M γ H c l) (hk : (keyOf a).isSome = true)
    (hd : dlook l a = some d) (q : ∀ z, XR X M γ H z d → Q z H) : s.TypeIs (.ref c) "dict" ∧ wpAny (model X.prog X.w) X.A (getItem (.ref c) v) (EP X pins σ Q) X.xe s := by
  obtain ⟨k, hk⟩ := Option.isSome_iff_exists.mp hk
  obtain ⟨b, rfl, rfl, ik⟩ := ra.key I rx hk
  obtain ⟨xs, dd, hs, hl, en⟩ := rb.of I
  have room : (nestedKind X.prog X.w).room X.A.in1 := by show X.A.units + 1 + 8 < cLine; omega
  have e := en.find hk
  rw [hd] at e
  cases hp : atKey xs k with
  | none => rw [hp] at e; exact e.elim
  | some p =>
    rw [hp] at e
    obtain ⟨z, rz, xz⟩ := e
    exact ⟨dd.typeIs, wpAny_getItem_heap room ik dd hp ⟨z, H, I.tok _, rz, q z xz⟩⟩
end
end TD

-- TG
set_option maxHeartbeats 1000000
/-! built-ins by values -/
namespace TD
open PySem PySem.Spec PyProof.Rows L2
/-- a built-in with one argument -/
def CallD (X : Cx) (f : Value) (ev : D → Option D) : Prop :=
  ∀ (pins : List (Addr × Obj)) (s : Shared) (σ : L2.St) (H : Hp) (M : Addr → Prop) (γ : List Addr) (x : V) (v : Value) (a d : D) (Q : VK), Inv X pins σ H s → RelV x v → XR X M γ H x a →
    (∀ m, M m → H m ≠ none) → ev a = some d → (∀ z H', Same H H' → XR X M γ H' z d → Q z H') → wpAny (model X.prog X.w) X.A (call f [v]) (EP X pins σ Q) X.xe s
section
variable {X : Cx} {M : Addr → Prop} {γ : List Addr} {H : Hp} {pins : List (Addr × Obj)} {σ : L2.St} {s : Shared}
theorem vs1 {x : V} {v : Value} (r : RelV x v) : Vals [x] [v] := .cons r .nil
theorem Ens.length : ∀ {xs : List Ent} {l : List (D × D)}, Ens X.prog X.w X.K M γ H xs l → xs.length = l.length
  | _, _, .nil => rfl
  | _, _, .cons _ _ _ _ r => by simp [Ens.length r]
theorem cd_len : CallD X (.builtin "len") (evF .len) := by
  intro pins s σ H M γ x v a d Q I rx ra dom h q
  cases a with
  | str z =>
    have h : (if z.length ≤ sizeLine then some (D.int z.length) else none) = some d := h
    split at h
    · cases (Option.some.inj h); cases ra
      exact call_len_str pins s σ H [_] [v] Q I (vs1 rx) ⟨_, rfl, by assumption, q _ _ (Same.refl H) (.int _)⟩
    · cases h
  | tup l =>
    cases (Option.some.inj h)
    cases ra with
    | tup h1 t =>
      refine call_len_seq pins s σ H [_] [v] Q I (vs1 rx) ⟨_, _, rfl, .inr h1, ?_⟩
      rw [t.length]; exact q _ _ (Same.refl H) (.int _)
  | lst l =>
    cases (Option.some.inj h)
    cases ra with
    | lst h1 n t =>
      refine call_len_seq pins s σ H [_] [v] Q I (vs1 rx) ⟨_, _, rfl, .inl (sqL_of h1), ?_⟩
      rw [t.length]; exact q _ _ (Same.refl H) (.int _)
  | kl l =>
    cases (Option.some.inj h)
    cases ra with
    | kl h1 t =>
      refine call_len_seq pins s σ H [_] [v] Q I (vs1 rx) ⟨_, _, rfl, .inl h1.sq, ?_⟩
      rw [t.length]; exact q _ _ (Same.refl H) (.int _)
  | dic l =>
    cases (Option.some.inj h)
    obtain ⟨c, rfl, _, hd⟩ := ra.isDic
    cases rx
    obtain ⟨xs, dd, hs, hl, en⟩ := hd.of I
    refine call_len_dictH hs dd (by have := line63; omega) ⟨.int _, H, (I.tok _).tok _, ⟨_, rfl⟩, ?_⟩
    rw [en.length]; exact q _ _ (Same.refl H) (.int _)
  | _ => exact (nomatch (show none = some d from h))
theorem cd_all (hc : X.calm = true) : CallD X (.builtin "all") (evF .all) := by
  intro pins s σ H M γ x v a d Q I rx ra dom h q
  cases a with
  | lst l =>
    have h : (allBl l).map (fun b => D.bl (b.all id)) = some d := h
    obtain ⟨bs, e1, rfl⟩ := Option.map_eq_some_iff.mp h
    cases ra with
    | lst h1 n t =>
      have e2 := t.bls e1
      subst e2
      exact cr_all hc pins s σ H [_] [v] Q I (vs1 rx) ⟨_, _, rfl, sqL_of h1, q _ _ (Same.refl H) (.bl _)⟩
  | _ => exact (nomatch (show none = some d from h))
theorem cd_any (hc : X.calm = true) : CallD X (.builtin "any") (evF .any) := by
  intro pins s σ H M γ x v a d Q I rx ra dom h q
  cases a with
  | lst l =>
    have h : (allBl l).map (fun b => D.bl (b.any id)) = some d := h
    obtain ⟨bs, e1, rfl⟩ := Option.map_eq_some_iff.mp h
    cases ra with
    | lst h1 n t =>
      have e2 := t.bls e1
      subst e2
      exact cr_any hc pins s σ H [_] [v] Q I (vs1 rx) ⟨_, _, rfl, sqL_of h1, q _ _ (Same.refl H) (.bl _)⟩
  | _ => exact (nomatch (show none = some d from h))
theorem cd_sum (hc : X.calm = true) : CallD X (.builtin "sum") (evF .sum) := by
  intro pins s σ H M γ x v a d Q I rx ra dom h q
  cases a with
  | lst l =>
    have h : (allInt l).map (fun b => D.int b.sum) = some d := h
    obtain ⟨bs, e1, rfl⟩ := Option.map_eq_some_iff.mp h
    cases ra with
    | lst h1 n t =>
      have e2 := t.ints e1
      subst e2
      exact cr_sum hc pins s σ H [_] [v] Q I (vs1 rx) ⟨_, _, rfl, sqL_of h1, q _ _ (Same.refl H) (.int _)⟩
  | _ => exact (nomatch (show none = some d from h))
theorem max_unique : ∀ {l : List Int} {x m : Int}, m ∈ x :: l → (∀ y ∈ x :: l, y ≤ m) → m = l.foldl (fun a b => if a < b then b else a) x
  | [], x, m, h1, _ => by simpa using h1
  | y :: l, x, m, h1, h2 => by
    rw [List.foldl_cons]
    refine max_unique ?_ ?_
    · rcases List.mem_cons.mp h1 with rfl | h1
      · have := h2 y (by simp)
        rw [if_neg (by omega)]; simp
      · rcases List.mem_cons.mp h1 with rfl | h1
        · have := h2 x (by simp)
          by_cases hx : x < m
          · rw [if_pos hx]; simp
          · rw [if_neg hx]; have : x = m := by omega
            subst this; simp
        · exact List.mem_cons_of_mem _ h1
    · intro z hz
      rcases List.mem_cons.mp hz with rfl | hz
      · split
        · exact h2 y (by simp)
        · exact h2 x (by simp)
      · exact h2 z (by simp [hz])
theorem cd_max (hc : X.calm = true) : CallD X (.builtin "max") (evF .max) := by
  intro pins s σ H M γ x v a d Q I rx ra dom h q
  cases a with
  | lst l =>
    have h : ((allInt l).bind fun b => (maxL b).map D.int) = some d := h
    obtain ⟨bs, e1, h⟩ := Option.bind_eq_some_iff.mp h
    obtain ⟨m, e2, rfl⟩ := Option.map_eq_some_iff.mp h
    cases bs with
    | nil => cases e2
    | cons b bs =>
      cases ra with
      | lst h1 n t =>
        have e3 := t.ints e1
        subst e3
        refine cr_max hc pins s σ H [_] [v] Q I (vs1 rx) ⟨_, _, rfl, sqL_of h1, by simp, fun k hk hle => ?_⟩
        rw [max_unique hk hle, Option.some.inj e2]
        exact q _ _ (Same.refl H) (.int _)
  | _ => exact (nomatch (show none = some d from h))
theorem cd_abs : CallD X (.builtin "abs") (evF .abs) := by
  intro pins s σ H M γ x v a d Q I rx ra dom h q
  cases a with
  | int i =>
    cases (Option.some.inj h); cases ra
    exact call_abs pins s σ H [_] [v] Q I (vs1 rx) ⟨_, rfl, q _ _ (Same.refl H) (.int _)⟩
  | _ => exact (nomatch (show none = some d from h))
theorem cd_int : CallD X (.type "int") (evF .int) := by
  intro pins s σ H M γ x v a d Q I rx ra dom h q
  cases a with
  | int i =>
    cases (Option.some.inj h); cases ra
    exact call_int1 pins s σ H [_] [v] Q I (vs1 rx) (.inl ⟨_, rfl, q _ _ (Same.refl H) (.int _)⟩)
  | bl i =>
    cases (Option.some.inj h); cases ra
    exact call_int1 pins s σ H [_] [v] Q I (vs1 rx) (.inr ⟨_, rfl, q _ _ (Same.refl H) (.int _)⟩)
  | _ => exact (nomatch (show none = some d from h))
theorem cd_tuple : CallD X (.type "tuple") (evF .tuple) := by
  intro pins s σ H M γ x v a d Q I rx ra dom h q
  cases a with
  | tup l =>
    cases (Option.some.inj h)
    cases ra with
    | tup h1 t => exact call_tuple_of pins s σ H [_] [v] Q I (vs1 rx) ⟨_, _, rfl, .inr ⟨h1, q _ _ (Same.refl H) (.tup h1 t)⟩⟩
  | lst l =>
    cases (Option.some.inj h)
    cases ra with
    | lst h1 n t => exact call_tuple_of pins s σ H [_] [v] Q I (vs1 rx) ⟨_, _, rfl, .inl ⟨sqL_of h1, fun p hp => q _ _ (same_upd hp) (new_tup hp t)⟩⟩
  | _ => exact (nomatch (show none = some d from h))
theorem Ens.keys : ∀ {xs : List Ent} {l : List (D × D)}, Ens X.prog X.w X.K M γ H xs l → XRs X M γ H (xs.map fun x => V.ref x.2.1) (l.map (·.1))
  | _, _, .nil => .nil
  | _, _, .cons a _ _ _ r => .cons a (Ens.keys r)
/-- list(d): the keys -/
theorem listdic_ok {c : Addr} {l : List (D × D)} {Q : VK} (I : Inv X pins σ H s) (hc : X.calm = true) (hd : IsDic X.prog X.w X.K M γ H c l) (q : ∀ p vs, H p = none → XRs X M γ H vs (l.map (·.1)) → Q (.ref p) (upd H p (.lst vs))) :
    wpAny (model X.prog X.w) X.A (call (.type "list") [.ref c]) (EP X pins σ Q) X.xe s := by
  obtain ⟨o, es, ep, ks, h1, hx, hdt, hs, he, hn, hz, en⟩ := hd
  have ho : s.heap.get? c = some o := (I.hok c _ h1).1
  have l1 : es.size = ks.length := size_of_entries he
  refine PySem.W.kdl_call (kdl_raw hs hx hdt) (I.ok.hd hc) ho (by omega) fun h' tk acc' c' kp e it => ?_
  have ea : acc'.toList = ks.map fun x => Value.ref x.2.1 := by
    have hl : acc'.toList.length = ks.length := by rw [Array.length_toList, it.1]; exact l1
    refine List.ext_getElem? fun j => ?_
    rw [List.getElem?_map]
    cases hj : acc'.toList[j]? with
    | none =>
      have h2 := List.getElem?_eq_none_iff.mp hj
      rw [List.getElem?_eq_none (by omega)]
      rfl
    | some v =>
      obtain ⟨e1, hen, hv⟩ := it.2 j v (by rw [← Array.getElem?_toList]; exact hj)
      have qe := entry_at he j
      rw [hen] at qe
      cases hb : ks[j]? with
      | none => rw [hb] at qe; cases qe
      | some b =>
        rw [hb] at qe
        rw [hv, Option.some.inj qe]
        rfl
  have rv : Vals (ks.map fun x => V.ref x.2.1) acc'.toList := by
    rw [ea]
    have : ∀ zs : List Ent, Vals (zs.map fun x => V.ref x.2.1) (zs.map fun x => Value.ref x.2.1) := fun zs => by
      induction zs with
      | nil => exact .nil
      | cons z zs ih => exact .cons rfl ih
    exact this ks
  refine ⟨.ref s.heap.objs.size, _, I.laid (t' := tk) (o := .lst (ks.map fun x => V.ref x.2.1)) kp (Nat.le_refl _) ?_, rfl, q _ _ (I.hok.fresh (Nat.le_refl _)) en.keys⟩
  exact ⟨by rw [List.length_map]; exact hz, acc'.toList, c', rv, by rw [Array.toArray_toList]; exact e⟩
theorem cd_list (hc : X.calm = true) : CallD X (.type "list") (evF .list) := by
  intro pins s σ H M γ x v a d Q I rx ra dom h q
  cases a with
  | tup l =>
    cases (Option.some.inj h)
    cases ra with
    | tup h1 t => exact call_list_of pins s σ H [_] [v] Q I (vs1 rx) ⟨_, _, rfl, .inr h1, fun p hp => q _ _ (same_upd hp) (new_lst hp (fun m => dom _ m hp) t)⟩
  | lst l =>
    cases (Option.some.inj h)
    cases ra with
    | lst h1 n t => exact call_list_of pins s σ H [_] [v] Q I (vs1 rx) ⟨_, _, rfl, .inl (sqL_of h1), fun p hp => q _ _ (same_upd hp) (new_lst hp (fun m => dom _ m hp) t)⟩
  | dic l =>
    cases (Option.some.inj h)
    obtain ⟨c, rfl, _, hd⟩ := ra.isDic
    cases rx
    exact listdic_ok I hc hd fun p vs hp t => q _ _ (same_upd hp) (new_lst hp (fun m => dom _ m hp) t)
  | _ => exact (nomatch (show none = some d from h))

/-! subscripts -/
def IxD (X : Cx) (ev : D → D → Option D) : Prop :=
  ∀ (value slice : Expr) (pins : List (Addr × Obj)) (s : Shared) (σ : L2.St) (H : Hp) (M : Addr → Prop) (γ : List Addr) (x y : V) (v u : Value) (a b d : D) (Q : VK), Inv X pins σ H s → RelV x v → RelV y u → XR X M γ H x a → XR X M γ H y b →
    (∀ m, M m → H m ≠ none) → ev a b = some d → (∀ z, XR X M γ H z d → Q z H) → subscripted slice false v u = operate [v, u] (getItem v u) →
    wpAny (model X.prog X.w) X.A (subscriptTail value slice v u) (EP X pins σ Q) X.xe s
theorem atI_rps {vs : List V} {ds : List D} {i : Int} {d : D} (t : XRs X M γ H vs ds) (h : atI ds i = some d) : ∃ v, atI vs i = some v ∧ XR X M γ H v d := by
  unfold atI at *
  rw [t.length]
  cases q : ixN ds.length i with
  | none => rw [q] at h; cases h
  | some j =>
    rw [q] at h
    obtain ⟨v, e, r⟩ := t.get' (i := j) h
    exact ⟨v, e, r⟩
theorem Sks.find : ∀ {kvs : List (Key × V)} {l : List (Str × D)} {x : Str} {d : D}, Sks X.prog X.w X.K M γ H kvs l → slook l x = some d → ∃ v, valV kvs (Sum.inr x) = some v ∧ XR X M γ H v d
  | _, _, _, _, .nil, h => nomatch (show none = some _ from h)
  | _, _, x, d, .cons (x := z) (v := v) (e := e) (l := l) r t, h => by
    unfold slook at h
    rw [List.find?_cons] at h
    by_cases hz : z = x
    · subst hz
      simp only [decide_true, Option.map_some, Option.some.injEq] at h
      subst h
      exact ⟨v, by unfold valV; simp, r⟩
    · simp only [hz, decide_false] at h
      obtain ⟨v', e1, r'⟩ := Sks.find t (show slook l x = some d from h)
      refine ⟨v', ?_, r'⟩
      unfold valV at *
      have : ¬ (Sum.inr z : Key) = Sum.inr x := fun q => hz (Sum.inr.inj q)
      simpa [this] using e1
end
end TD

-- TG2
set_option maxHeartbeats 1000000
namespace TD
open PySem PySem.Spec PyProof.Rows L2
section
variable {prog : Program} {w : World} {A : Around} {E : Value → Shared → Prop} {s : Shared}
theorem filterMap_some {α β : Type} {f : α → Option β} {g : α → β} : ∀ {l : List α}, (∀ m ∈ l, f m = some (g m)) → l.filterMap f = l.map g
  | [], _ => rfl
  | a :: l, h => by
    rw [List.filterMap_cons, h a List.mem_cons_self, List.map_cons, filterMap_some fun m hm => h m (List.mem_cons_of_mem _ hm)]
theorem pick_back (xs : Array Value) : ((List.range xs.size).filterMap fun (m : Nat) => xs[(((xs.size : Nat) : Int) - 1 + (m : Int) * -1).toNat]?).toArray = xs.toList.reverse.toArray := by
  congr 1
  rw [filterMap_some (g := fun m => xs.toList.reverse.getD m .none) fun m hm => ?_]
  · refine List.ext_getElem? fun j => ?_
    rw [List.getElem?_map]
    by_cases hj : j < xs.size
    · rw [List.getElem?_range hj]
      show some (xs.toList.reverse.getD j Value.none) = _
      rw [List.getD_eq_getElem?_getD, List.getElem?_eq_getElem (by simpa using hj)]
      rfl
    · rw [List.getElem?_eq_none (by simpa using hj), List.getElem?_eq_none (by simpa using hj)]
      rfl
  · have hm := List.mem_range.mp hm
    have e1 : (((xs.size : Nat) : Int) - 1 + (m : Int) * -1).toNat = xs.size - 1 - m := by omega
    show xs[(((xs.size : Nat) : Int) - 1 + (m : Int) * -1).toNat]? = some (xs.toList.reverse.getD m Value.none)
    rw [e1, List.getD_eq_getElem?_getD, List.getElem?_reverse (by simpa using hm), Array.length_toList, Array.getElem?_toList, Array.getElem?_eq_getElem (by omega)]
    rfl
theorem applied_back {sl : Addr} {vs : Value} {n : Nat} {Q : Int × Int × Nat → Shared → Prop} (hs : s.heap.IsSliceOf sl .none .none vs) (ps : IsPart vs (some (-1))) (h : Q (((n : Nat) : Int) - 1, -1, n) s) :
    wpAny (model prog w) A (Builtin.Slice.sliceApplied (.ref sl) (pure (n : Int))) Q E s := by
  obtain ⟨os, hos, hcs, hds⟩ := id hs
  unfold Builtin.Slice.sliceApplied Builtin.Slice.sliceFields
  refine wpAny_bind (wpAny_bind (wpAny_field hos hds (x := .none) rfl (wpAny_bind (wpAny_field hos hds (x := .none) rfl (wpAny_bind (wpAny_field hos hds (x := vs) rfl (wpAny_pure ?_)))))))
  refine wpAny_bind (HT.slicePart_ ps ?_)
  show wpAny _ _ (if ((-1 : Int) == 0) = true then _ else _) _ _ s
  rw [if_neg (by decide)]
  refine wpAny_bind (slicePart_none (wpAny_bind (slicePart_none (wpAny_bind (wpAny_pure ?_)))))
  have e1 : Builtin.Slice.sliceAdjust none none (-1) (n : Int) = ((n : Int) - 1, -1) := by simp [Builtin.Slice.sliceAdjust]
  have e2 : Builtin.Slice.slicePlaces ((n : Int) - 1) (-1) (-1) = n := by
    unfold Builtin.Slice.slicePlaces
    rw [if_neg (by omega)]
    by_cases hn : n = 0
    · subst hn; rfl
    · rw [if_pos (by omega)]
      have : (((n : Int) - 1 - -1 - 1) / - -1 + 1).toNat = n := by
        have : (- -1 : Int) = 1 := by omega
        rw [this, Int.ediv_one]; omega
      exact this
  show wpAny _ _ (match Builtin.Slice.sliceAdjust none none (-1) (n : Int) with | (lo, hi) => pure (lo, (-1 : Int), Builtin.Slice.slicePlaces lo hi (-1))) _ _ s
  rw [e1]
  show wpAny _ _ (pure ((n : Int) - 1, (-1 : Int), Builtin.Slice.slicePlaces ((n : Int) - 1) (-1) (-1))) _ _ s
  rw [e2]
  exact wpAny_pure h
theorem getItem_tuple_back {t sl : Addr} {items : Array Value} {vs : Value} {Q : Value → Shared → Prop} (ht : IsTup s.heap t items) (hs : s.heap.IsSliceOf sl .none .none vs) (ps : IsPart vs (some (-1)))
    (h : Q (.ref s.heap.objs.size) { s with heap := s.heap.push { cls := .type "tuple", data := .seq items.toList.reverse.toArray } }) (hsz : items.size ≤ sizeLine) :
    wpAny (model prog w) A (getItem (.ref t) (.ref sl)) Q E s := by
  have hz : sizeOk (.seq items.toList.reverse.toArray) := by
    show items.toList.reverse.toArray.size ≤ sizeLine
    rw [List.size_toArray, List.length_reverse, Array.length_toList]; exact hsz
  obtain ⟨os, hos, hcs, hds⟩ := id hs
  have hT : s.TypeIs (.ref sl) "slice" := ⟨os, hos, hcs⟩
  unfold getItem
  try with_reducible refine wpAny_holding ?_
  first | refine wpAny_bind (wpAny_pure ?_) | skip
  refine wpAny_bind (wpAny_sequenceKey ht.typeIs (by decide) ?_)
  refine wpAny_bind (wpAny_callSpecial?_slot (name := Str.ofString "__getitem__") ht.typeIs PyProof.Rows.slot_tuple_getitem (wpAny_call_entry PyProof.Rows.slot_tuple_getitem ht.typeIs entry_tuple_getitem ?_ (args_tuple_getitem _ _)))
  show wpAny _ _ (Builtin.Tuple.tupleItemsOf (.ref t) >>= _) _ _ s
  refine wpAny_bind (tupleItemsOf_ ht ?_)
  refine wpAny_bind (wpAny_typeOf hT ?_)
  rw [if_pos (by decide)]
  refine wpAny_bind (applied_back hs ps ?_)
  show wpAny _ _ (if ((((items.size : Nat) : Int) - 1 == 0 && (-1 : Int) == 1 && items.size == items.size) = true) then _ else _) _ _ s
  rw [if_neg (by simp), pick_back]
  first
    | exact wpAny_bind (m := Builtin.Tuple.tupleExact _) (wpAny_newObj_type (wpAny_pure ⟨_, rfl, wpAny_pure h⟩) hz)
    | exact wpAny_bind (m := Builtin.Tuple.tupleExact _) (wpAny_newObj_type (wpAny_bind (wpAny_pure (wpAny_pure ⟨_, rfl, wpAny_pure h⟩))) hz)
    | exact wpAny_bind (wpAny_bind (m := Builtin.Tuple.tupleExact _) (wpAny_newObj_type (wpAny_pure (wpAny_pure ⟨_, rfl, wpAny_pure h⟩)) hz))
    | exact wpAny_bind (wpAny_bind (m := Builtin.Tuple.tupleExact _) (wpAny_newObj_type (wpAny_pure ⟨_, rfl, wpAny_pure h⟩) hz))
end
section
variable {X : Cx} {M : Addr → Prop} {γ : List Addr} {H : Hp} {pins : List (Addr × Obj)} {σ : L2.St} {s : Shared}
/-- a[::-1] -/
def tRevD (K : PySem.W.Frag) (te : TE) : TE := fun σ H Q => te σ H fun x H1 => ∃ a xs, x = .ref a ∧ ((SqL K H1 a xs ∧ ∀ p, H1 p = none → Q (.ref p) (upd H1 p (.lst xs.reverse))) ∨ (SqT K H1 a xs ∧ ∀ p, H1 p = none → Q (.ref p) (upd H1 p (.tup xs.reverse))))
theorem pe_rev {e : Expr} {te : TE} {k : Nat} {p1 p2 p3 pos : Pos} (he : PE X e te) : PE X (.Subscript e (.Slice none none (some (.UnaryOp .USub (.Constant (.int 1) k p1) p2)) p3) pos) (tRevD X.K te) := by
  refine ⟨fun pins s σ H Q I h => ?_⟩
  refine Subscript_ (thn (he.run pins s σ H _ I h) fun v s1 ⟨x, H1, I1, r1, q1⟩ => ?_)
  obtain ⟨a, xs, ex, q1⟩ := q1
  subst ex
  cases r1
  have hst : PO X (some (.UnaryOp .USub (.Constant (.int 1) k p1) p2)) (tPart (tUn (rU fun i => .int (-i)) (tC (.int 1)))) := po_some (pe_un un_neg pe_int)
  refine wpAny_Slice (thn (po_none.run pins s1 σ H1 (fun o H2 => o = none ∧ H2 = H1) I1 ⟨rfl, rfl⟩) fun vl s2 ⟨l, H2, I2, pl, el, e2⟩ => ?_)
  subst el e2
  refine thn (po_none.run pins s2 σ H2 (fun o H3 => o = none ∧ H3 = H2) I2 ⟨rfl, rfl⟩) fun vu s3 ⟨u, H3, I3, pu, eu, e3⟩ => ?_
  subst eu e3
  refine thn (hst.run pins s3 σ H3 (fun o H4 => o = some (-1) ∧ H4 = H3) I3 ⟨1, rfl, -1, rfl, rfl, rfl⟩) fun vs s4 ⟨o, H4, I4, ps, eo, e4⟩ => ?_
  subst eo e4
  have I5 : Inv X pins σ H4 { s4 with heap := s4.heap.push { cls := .type "slice", data := .fields #[vl, vu, vs] } } := I4.kept (t' := s4.toks) fun b ob q => Heap.get?_push_of_some _ q
  have hsl := Heap.IsSliceOf.new s4.heap vl vu vs
  show wpAny (model X.prog X.w) X.A (subscriptTail e (.Slice none none (some (.UnaryOp .USub (.Constant (.int 1) k p1) p2)) p3) (.ref a) (.ref s4.heap.objs.size)) (EP X pins σ Q) X.xe { s4 with heap := s4.heap.push { cls := .type "slice", data := .fields #[vl, vu, vs] } }
  cases pl
  cases pu
  rcases q1 with ⟨hx, q⟩ | ⟨hx, q⟩
  · obtain ⟨its, r, ht, hz⟩ := I5.list hx
    have hlen := r.length
    refine tail_any (ops := [.ref a, .ref s4.heap.objs.size]) ht.isList.typeIs (PySem.slot_list_getitem.lookup) ?_ (by with_unfolding_all rfl)
    refine wpAny_getItem_list_slice ht.isList hsl .none .none ps (by decide) ?_ (by rw [List.size_toArray]; omega)
    rw [PySem.W.krv_pick]
    refine ⟨.ref _, _, I5.laid (t' := s4.toks) (o := .lst xs.reverse) (fun b ob q => Heap.get?_push_of_some _ q) (Nat.le_refl _) ?_, rfl, q _ (I5.hok.fresh (Nat.le_refl _))⟩
    exact ⟨by rw [List.length_reverse]; exact hz, _, 0, r.reverse, Heap.get?_push_size _ rfl⟩
  · obtain ⟨its, r, ht, hz⟩ := I5.tuple hx
    have hlen := r.length
    refine tail_any (ops := [.ref a, .ref s4.heap.objs.size]) ht.typeIs (PyProof.Rows.slot_tuple_getitem.lookup) ?_ (by with_unfolding_all rfl)
    refine getItem_tuple_back ht hsl ps ?_ (by rw [List.size_toArray]; omega)
    refine ⟨.ref _, _, I5.laid (t' := s4.toks) (o := .tup xs.reverse) (fun b ob q => Heap.get?_push_of_some _ q) (Nat.le_refl _) ?_, rfl, q _ (I5.hok.fresh (Nat.le_refl _))⟩
    refine ⟨by rw [List.length_reverse]; exact hz, its.reverse, r.reverse, _, Heap.get?_push_size _ rfl, rfl, 0, ?_⟩
    simp
theorem strOk_cut {z : Str} {lo hi : Option Int} (h : PyData.strOk z = true) : PyData.strOk (cutS z lo hi) = true := by
  unfold PyData.strOk cutS at *
  rw [← Array.all_toList] at h ⊢
  rw [List.all_eq_true] at h ⊢
  intro x hx
  exact h x (List.mem_of_mem_drop (List.mem_of_mem_take (by simpa using hx)))
/-- a slice of data -/
theorem sl_ok : SlR X (fun x lo hi H Q => ∃ (M : Addr → Prop) (γ : List Addr) (a d : D), XR X M γ H x a ∧ (∀ m, M m → H m ≠ none) ∧ evSl a lo hi = some d ∧ ∀ z H', Same H H' → XR X M γ H' z d → Q z H') := by
  intro pins s σ H x v vl vu lo hi sl Q I rx hs pl pu h
  obtain ⟨M, γ, a, d, ra, dom, h, q⟩ := h
  cases a with
  | tup l =>
    cases (Option.some.inj h)
    cases ra with
    | tup h1 t =>
      rename_i xs
      have e := t.length
      refine sl_tupA pins s σ H _ v vl vu lo hi sl Q I rx hs pl pu ⟨_, _, rfl, h1, fun hw => q _ _ (Same.refl H) (.tup h1 ?_), fun hw p hp => q _ _ (same_upd hp) (new_tup hp ?_)⟩
      · unfold cutD
        rw [← e, hw.1, hw.2, List.drop_zero, Nat.sub_zero, e, List.take_length]
        exact t
      · unfold cutD cutV
        rw [e]
        exact (t.drop _).take _
  | lst l =>
    cases (Option.some.inj h)
    cases ra with
    | lst h1 n t =>
      refine sl_list pins s σ H _ v vl vu lo hi sl Q I rx hs pl pu ⟨_, _, rfl, sqL_of h1, fun p hp => q _ _ (same_upd hp) (new_lst hp (fun m => dom _ m hp) ?_)⟩
      unfold cutD cutV
      rw [t.length]
      exact (t.drop _).take _
  | str z =>
    have h : (if z.length ≤ sizeLine then some (D.str (cutS z lo hi)) else none) = some d := h
    split at h
    · cases (Option.some.inj h)
      cases ra with
      | str _ hz =>
        refine sl_str pins s σ H _ v vl vu lo hi sl Q I rx hs pl pu ⟨_, rfl, by assumption, q _ _ (Same.refl H) (.str _ (strOk_cut hz))⟩
    · cases h
  | _ => exact (nomatch (show none = some d from h))
theorem ix_ok (hu : X.A.units + 64 < cLine) : IxD X evIx := by
  intro value slice pins s σ H M γ x y v u a b d Q I rx ry ra rb dom h q hs
  cases a with
  | tup l =>
    cases b <;> first | exact (nomatch (show none = some d from h)) | skip
    cases rb
    cases ra with
    | tup h1 t =>
      obtain ⟨z, e, r⟩ := atI_rps t h
      exact ix_tup value slice pins s σ H _ _ v u Q I rx ry ⟨_, _, _, _, rfl, rfl, h1, e, q _ r⟩ hs
  | lst l =>
    cases b <;> first | exact (nomatch (show none = some d from h)) | skip
    cases rb
    cases ra with
    | lst h1 n t =>
      obtain ⟨z, e, r⟩ := atI_rps t h
      exact ix_list value slice pins s σ H _ _ v u Q I rx ry ⟨_, _, _, _, rfl, rfl, sqL_of h1, e, q _ r⟩ hs
  | kl l =>
    cases b <;> first | exact (nomatch (show none = some d from h)) | skip
    cases rb
    cases ra with
    | kl h1 t =>
      obtain ⟨z, e, r⟩ := atI_rps t h
      exact ix_list value slice pins s σ H _ _ v u Q I rx ry ⟨_, _, _, _, rfl, rfl, h1.sq, e, q _ r⟩ hs
  | dic l =>
    have h : (if (keyOf b).isSome = true then dlook l b else none) = some d := by cases b <;> exact h
    split at h
    · rename_i hc
      obtain ⟨c, rfl, _, hd⟩ := ra.isDic
      cases rx
      obtain ⟨t1, t2⟩ := getdic_ok hu I ry rb hd hc h (Q := Q) fun z r => q z r
      exact tail_any t1 F.slot_dict_getitem.lookup t2 hs
    · cases h
  | sdc l =>
    cases b <;> first | exact (nomatch (show none = some d from h)) | skip
    cases rb
    cases ra with
    | dks h1 n t =>
      obtain ⟨z, e, r⟩ := t.find h
      cases rx
      have g : DGet H _ (.str _) (some z) := e ▸ DGet.k (k := Sum.inr _) h1
      refine tail_any (dict_typeIs I g) F.slot_dict_getitem.lookup (d_getItem (by omega) I g ry fun w' s' I' rw' => ⟨z, H, I', rw', q z r⟩) hs
  | _ => cases b <;> exact (nomatch (show none = some d from h))
end
end TD

-- TH
set_option maxHeartbeats 1000000
/-! expressions -/
namespace TD
open PySem PySem.Spec PyProof.Rows L2
section
variable {X : Cx} {glob : Str → Option D} {F : Fs} {Wx : WX} {pos : Pos} {U : Addr → Prop} {γ : List Addr} {H : Hp} {σ : L2.St} {s : S}
abbrev DE (X : Cx) (glob : Str → Option D) (F : Fs) (Wx : WX) (e : Expr) (x : Ex) : Prop := PE X e (rdE X glob F Wx x)
abbrev DT (X : Cx) (glob : Str → Option D) (F : Fs) (Wx : WX) (e : Expr) (x : Ex) : Prop := PT X e (rdT X glob F Wx x)
abbrev DA (X : Cx) (glob : Str → Option D) (F : Fs) (Wx : WX) (e : List Expr) (x : List Ex) : Prop := PA X e (rdA X glob F Wx x)
theorem RR.of {α : Type} {o : Option α} {k : α → S → List Addr → Hp → Prop} (h : RR X Wx U γ H σ s (R.of o s) k) : ∃ a, o = some a ∧ RR X Wx U γ H σ s (.ok a s) k := by
  cases o with
  | none => exact h.elim
  | some a => exact ⟨a, rfl, h⟩
/-- a reading by values -/
def rV (X : Cx) (ev : D → D → Option D) : R2 := fun v u H Q => ∃ M γ a b d, XR X M γ H v a ∧ XR X M γ H u b ∧ (∀ m, M m → H m ≠ none) ∧ ev a b = some d ∧ ∀ z H', Same H H' → XR X M γ H' z d → Q z H'
theorem OpD.r {f : Value → Value → Sem Value} {ev : D → D → Option D} (h : OpD X f ev) : OpR X f (rV X ev) := fun pins s σ H x y v u Q I rx ry ⟨M, γ, a, b, d, ra, rb, dom, e, q⟩ => h pins s σ H M γ x y v u a b d Q I rx ry ra rb dom e q
theorem op_read {ev : D → D → Option D} {x y : Ex} {H : Hp} {Q : VK} (ok : XOk X U γ H σ s) (h : RR X Wx U γ H σ s ((evE glob F x s).bind fun p s1 => (evE glob F y s1).bind fun q s2 => R.of (ev p q) s2) fun d s' γ' H' => ∀ v, XRp X U γ' H' σ s' v d → Q v H') :
    tOp (rV X ev) (rdE X glob F Wx x) (rdE X glob F Wx y) σ H Q :=
  ⟨U, γ, s, ok, h.bind.imp fun p s1 γ1 H1 ok1 x1 h1 v rv => ⟨U, γ1, s1, ok1, h1.bind.imp fun q s2 γ2 H2 ok2 x2 h2 u ru => by
    obtain ⟨d, e, h3⟩ := h2.of
    exact ⟨_, γ2, p, q, d, rv.ext x2.e, ru, ok2.dom, e, fun z H' sm xr => RR.grow ok2 h3 sm _ xr⟩⟩⟩
theorem s_op {a b : Expr} {x y : Ex} {o : Operator} {O : O2} (hf : OpD X (binaryOp o) (evO O)) (ha : DE X glob F Wx a x) (hb : DE X glob F Wx b y) : DE X glob F Wx (.BinOp a o b pos) (.op O x y) :=
  (pe_op hf.r ha hb).imp fun σ H Q ⟨U, γ, s, ok, h⟩ => op_read ok (by simpa only [evE] using h)
theorem s_cmp {a b : Expr} {x y : Ex} {o : CmpOp} {O : O2} (hf : OpD X (compareOp o) (evO O)) (ha : DE X glob F Wx a x) (hb : DE X glob F Wx b y) (hm : behindInMarks o b = false) : DE X glob F Wx (.Compare a [o] [b] pos) (.op O x y) :=
  (pe_cmpR hf.r ha hb hm).imp fun σ H Q ⟨U, γ, s, ok, h⟩ => op_read ok (by simpa only [evE] using h)
/-- a value's reading, as a test's -/
theorem test_read {x : Ex} {t : TE} {H : Hp} {Q : Bool → Hp → Prop} (f : ∀ σ H Q, rdE X glob F Wx x σ H Q → t σ H Q) (q : rdT X glob F Wx x σ H Q) : tTest t σ H Q := by
  obtain ⟨U, γ, s, ok, h⟩ := q
  refine f σ H _ ⟨U, γ, s, ok, ?_⟩
  simp only [evC] at h
  refine h.bind.imp fun d s1 γ1 H1 ok1 x1 h1 v rv => ?_
  cases d with
  | bl b => cases rv; exact ⟨b, rfl, RR.now (a := b) ok1 h1⟩
  | _ => exact h1.elim
theorem s_cmpT {a b : Expr} {x y : Ex} {o : CmpOp} {O : O2} (hf : OpD X (compareOp o) (evO O)) (ha : DE X glob F Wx a x) (hb : DE X glob F Wx b y) (hm : behindInMarks o b = false) : DT X glob F Wx (.Compare a [o] [b] pos) (.op O x y) :=
  (pt_cmpR hf.r ha hb hm).imp fun σ H Q q => test_read (fun σ H Q ⟨U, γ, s, ok, h⟩ => op_read ok (by simpa only [evE] using h)) q
/-- any expression that gives a bool, as a test -/
theorem s_test {e : Expr} {x : Ex} (he : DE X glob F Wx e x) (ht : ∀ whole, isTrue e X.env whole = (do let v ← whole; standAt e.pos; holding [v] (truthy v))) : DT X glob F Wx e x :=
  (pt_val he ht).imp fun σ H Q q => test_read (fun σ H Q h => h) q
theorem isNon_iff {v : V} {d : D} {M : Addr → Prop} (r : XR X M γ H v d) : decide (v = .non) = isNonD d := by
  cases r <;> first | rfl | (exact decide_eq_false (fun z => nomatch z))
theorem isN_read {x : Ex} {H : Hp} {Q : VK} {f : Bool → Bool} (ok : XOk X U γ H σ s) (h : RR X Wx U γ H σ s ((evE glob F x s).bind fun p s1 => .ok (.bl (f (isNonD p))) s1) fun d s' γ' H' => ∀ v, XRp X U γ' H' σ s' v d → Q v H') :
    rdE X glob F Wx x σ H fun v H1 => Q (.bl (f (decide (v = .non)))) H1 :=
  ⟨U, γ, s, ok, h.bind.imp fun p s1 γ1 H1 ok1 x1 h1 v rv => by
    show Q (.bl (f (decide (v = .non)))) H1
    rw [isNon_iff rv]
    exact RR.now ok1 h1 _ (.bl _)⟩
theorem s_isN {a : Expr} {x : Ex} {j p'} (ha : DE X glob F Wx a x) : DE X glob F Wx (.Compare a [.Is] [.Constant .none j p'] pos) (.isN x) :=
  (pe_cmp (pc_isN ha) rfl).imp fun σ H Q ⟨U, γ, s, ok, h⟩ => isN_read (f := fun b => b) ok (by simpa only [evE] using h)
theorem s_notN {a : Expr} {x : Ex} {j p'} (ha : DE X glob F Wx a x) : DE X glob F Wx (.Compare a [.IsNot] [.Constant .none j p'] pos) (.notN x) :=
  (pe_cmp (pc_notN ha) rfl).imp fun σ H Q ⟨U, γ, s, ok, h⟩ => isN_read (f := (!·)) ok (by simpa only [evE] using h)
theorem tB_of {t : TE} {σ : L2.St} {H : Hp} {Q : Bool → Hp → Prop} (h : tTest t σ H Q) : tB t σ H Q := h
theorem s_isNT {a : Expr} {x : Ex} {j p'} (ha : DE X glob F Wx a x) : DT X glob F Wx (.Compare a [.Is] [.Constant .none j p'] pos) (.isN x) :=
  (pt_cmp (pc_isN ha) rfl).imp fun σ H Q q => tB_of (test_read (t := tIsN (rdE X glob F Wx x)) (fun σ H Q ⟨U, γ, s, ok, h⟩ => isN_read (f := fun b => b) ok (by simpa only [evE] using h)) q)
theorem s_notNT {a : Expr} {x : Ex} {j p'} (ha : DE X glob F Wx a x) : DT X glob F Wx (.Compare a [.IsNot] [.Constant .none j p'] pos) (.notN x) :=
  (pt_cmp (pc_notN ha) rfl).imp fun σ H Q q => tB_of (test_read (t := tNotN (rdE X glob F Wx x)) (fun σ H Q ⟨U, γ, s, ok, h⟩ => isN_read (f := (!·)) ok (by simpa only [evE] using h)) q)
/-- a op b op c -/
theorem chain_read {O O' : O2} {x y z : Ex} {H : Hp} {Q : VK} (ok : XOk X U γ H σ s) (h : RR X Wx U γ H σ s (evE glob F (.chain O O' x y z) s) fun d s' γ' H' => ∀ v, XRp X U γ' H' σ s' v d → Q v H') :
    tChain (rV X (evO O)) (rV X (evO O')) (rdE X glob F Wx x) (rdE X glob F Wx y) (rdE X glob F Wx z) σ H Q := by
  simp only [evE] at h
  refine ⟨U, γ, s, ok, h.bind.imp fun p s1 γ1 H1 ok1 x1 h1 v rv => ⟨U, γ1, s1, ok1, h1.bind.imp fun q s2 γ2 H2 ok2 x2 h2 u ru => ?_⟩⟩
  cases e : evO O p q with
  | none => rw [e] at h2; exact h2.elim
  | some d =>
    rw [e] at h2
    refine ⟨_, γ2, p, q, d, rv.ext x2.e, ru, ok2.dom, e, fun w H' sm xr => ?_⟩
    cases d with
    | bl b =>
      cases xr
      cases b with
      | false => exact ⟨false, rfl, by rw [if_neg Bool.false_ne_true]; exact RR.grow ok2 h2 sm _ (.bl _)⟩
      | true =>
        refine ⟨true, rfl, ?_⟩
        rw [if_pos rfl]
        have ok3 := ok2.same sm
        refine ⟨U, γ2, s2, ok3, (RR.shift (Xt.same sm) h2).bind.imp fun r s3 γ3 H3 ok4 x3 h3 w rw' => ?_⟩
        obtain ⟨d', e', h4⟩ := h3.of
        exact ⟨_, γ3, q, r, d', (ru.ext (Ext.same sm)).ext x3.e, rw', ok4.dom, e', fun z H' sm xr => RR.grow ok4 h4 sm _ xr⟩
    | _ => exact h2.elim
theorem chain_test {O O' : O2} {x y z : Ex} {H : Hp} {Q : Bool → Hp → Prop} (q : rdT X glob F Wx (.chain O O' x y z) σ H Q) :
    tTest (tChain (rV X (evO O)) (rV X (evO O')) (rdE X glob F Wx x) (rdE X glob F Wx y) (rdE X glob F Wx z)) σ H Q :=
  test_read (fun σ H Q ⟨U, γ, s, ok, h⟩ => chain_read ok h) q
end
end TD

-- TI
set_option maxHeartbeats 1000000
/-! expressions: displays, and, or, calls -/
namespace TD
open PySem PySem.Spec PyProof.Rows L2
section
variable {X : Cx} {glob : Str → Option D} {F : Fs} {Wx : WX} {pos : Pos} {U : Addr → Prop} {γ : List Addr} {H : Hp} {σ : L2.St} {s : S}
theorem s_chain {a b c : Expr} {x y z : Ex} {o o' : CmpOp} {O O' : O2} (hf : OpD X (compareOp o) (evO O)) (hf' : OpD X (compareOp o') (evO O')) (ha : DE X glob F Wx a x) (hb : DE X glob F Wx b y) (hc : DE X glob F Wx c z) (hm : lastMarks [o, o'] [b, c] = false) :
    DE X glob F Wx (.Compare a [o, o'] [b, c] pos) (.chain O O' x y z) := (pe_chain hf.r hf'.r ha hb hc hm).imp fun σ H Q ⟨U, γ, s, ok, h⟩ => chain_read ok h
theorem s_chainT {a b c : Expr} {x y z : Ex} {o o' : CmpOp} {O O' : O2} (hf : OpD X (compareOp o) (evO O)) (hf' : OpD X (compareOp o') (evO O')) (ha : DE X glob F Wx a x) (hb : DE X glob F Wx b y) (hc : DE X glob F Wx c z) (hm : lastMarks [o, o'] [b, c] = false) :
    DT X glob F Wx (.Compare a [o, o'] [b, c] pos) (.chain O O' x y z) := (pt_chain hf.r hf'.r ha hb hc hm).imp fun σ H Q q => chain_test q
/-! arguments -/
theorem a_nil : DA X glob F Wx [] [] := pa_nil.imp fun σ H Q ⟨U, γ, s, ok, h⟩ => by
  simp only [evEs] at h
  exact RR.now ok h _ .nil
theorem a_cons {e : Expr} {es : List Expr} {x : Ex} {xs : List Ex} (he : DE X glob F Wx e x) (hs : DA X glob F Wx es xs) (h : starEach (e :: es) X.env = (false, eval e X.env) :: starEach es X.env) : DA X glob F Wx (e :: es) (x :: xs) :=
  (pa_cons he hs h).imp fun σ H Q ⟨U, γ, s, ok, h⟩ => by
    simp only [evEs] at h
    exact ⟨U, γ, s, ok, h.bind.imp fun d s1 γ1 H1 ok1 x1 h1 v rv => ⟨U, γ1, s1, ok1, h1.bind.imp fun ds s2 γ2 H2 ok2 x2 h2 vs rs => RR.now ok2 h2 _ (.cons (rv.ext x2.e) rs)⟩⟩
theorem bind_ok {α β : Type} {r : R α} {f : α → S → R β} {b : β} {s' : S} (h : r.bind f = .ok b s') : ∃ a s1, r = .ok a s1 ∧ f a s1 = .ok b s' := by
  cases r with
  | ok a s1 => exact ⟨a, s1, rfl, h⟩
  | exc e g => cases h
  | bad => cases h
theorem evEs_len : ∀ {xs : List Ex} {s s' : S} {ds : List D}, evEs glob F xs s = .ok ds s' → ds.length = xs.length
  | [], s, s', ds, h => by
    simp only [evEs] at h
    cases h; rfl
  | x :: xs, s, s', ds, h => by
    simp only [evEs] at h
    obtain ⟨d, s1, _, h⟩ := bind_ok h
    obtain ⟨es, s2, h2, h⟩ := bind_ok h
    cases h
    simp [evEs_len h2]
theorem s_tup {es : List Expr} {xs : List Ex} {k : Nat} (h : DA X glob F Wx es xs) (hl : xs.length ≤ sizeLine) : DE X glob F Wx (.Tuple es k pos) (.tup xs) := (pe_tup h).imp fun σ H Q ⟨U, γ, s, ok, h⟩ => by
  simp only [evE] at h
  refine ⟨U, γ, s, ok, (RR.bind h).impE fun ds s1 γ1 H1 e ok1 x1 h1 vs rs => ⟨?_, fun p hp => RR.grow ok1 h1 (same_upd hp) _ (new_tup hp rs)⟩⟩
  rw [rs.length, evEs_len e]; exact hl
theorem s_lst {es : List Expr} {xs : List Ex} (h : DA X glob F Wx es xs) (hl : xs.length ≤ sizeLine) : DE X glob F Wx (.List es pos) (.lst xs) := (pe_lst h).imp fun σ H Q ⟨U, γ, s, ok, h⟩ => by
  simp only [evE] at h
  refine ⟨U, γ, s, ok, (RR.bind h).impE fun ds s1 γ1 H1 e ok1 x1 h1 vs rs => ⟨?_, fun p hp => RR.grow ok1 h1 (same_upd hp) _ (new_lst hp (fun m => ok1.dom _ m hp) rs)⟩⟩
  rw [rs.length, evEs_len e]; exact hl
/-! and, or, not, if -/
theorem b_bind {α : Type} {x : Ex} {k : Bool → S → R α} {kk : α → S → List Addr → Hp → Prop} (h : RR X Wx U γ H σ s (((evE glob F x s).bind toB).bind k) kk) : RR X Wx U γ H σ s (evC glob F (some x) s) fun b s1 γ1 H1 => RR X Wx U γ1 H1 σ s1 (k b s1) kk := by
  simp only [evC]
  exact RR.bind h
/-- a bool's value by its test's reading -/
theorem bl_read {α : Type} {x : Ex} {k : Bool → S → R α} {kk : α → S → List Addr → Hp → Prop} {Q : V → Hp → Prop} (ok : XOk X U γ H σ s) (h : RR X Wx U γ H σ s (((evE glob F x s).bind toB).bind k) kk)
    (f : ∀ b s1 γ1 H1, XOk X U γ1 H1 σ s1 → RR X Wx U γ1 H1 σ s1 (k b s1) kk → Q (.bl b) H1) : rdE X glob F Wx x σ H Q := by
  refine ⟨U, γ, s, ok, (RR.bind (RR.bind h)).imp fun d s1 γ1 H1 ok1 x1 h1 v rv => ?_⟩
  cases d with
  | bl b => cases rv; exact f b s1 γ1 H1 ok1 (RR.now (a := b) ok1 h1)
  | _ => exact h1.elim
theorem s_and1 {e : Expr} {x : Ex} (he : DE X glob F Wx e x) : DE X glob F Wx (.BoolOp .And [e] pos) (.and [x]) := (pe_one he).imp fun σ H Q ⟨U, γ, s, ok, h⟩ => ⟨U, γ, s, ok, by simpa only [evE, evAnd] using h⟩
theorem s_and {e e2 : Expr} {es : List Expr} {x x2 : Ex} {xs : List Ex} (he : DE X glob F Wx e x) (hs : DE X glob F Wx (.BoolOp .And (e2 :: es) pos) (.and (x2 :: xs))) : DE X glob F Wx (.BoolOp .And (e :: e2 :: es) pos) (.and (x :: x2 :: xs)) :=
  (pe_and he hs).imp fun σ H Q ⟨U, γ, s, ok, h⟩ => by
    simp only [evE, evAnd] at h
    refine bl_read ok h fun b s1 γ1 H1 ok1 h1 => ⟨b, rfl, ?_⟩
    cases b with
    | true => rw [if_pos rfl] at h1 ⊢; exact ⟨U, γ1, s1, ok1, by simpa only [evE] using h1⟩
    | false => rw [if_neg Bool.false_ne_true] at h1 ⊢; exact RR.now ok1 h1 _ (.bl _)
theorem s_or1 {e : Expr} {x : Ex} (he : DE X glob F Wx e x) : DE X glob F Wx (.BoolOp .Or [e] pos) (.or [x]) := (pe_one he).imp fun σ H Q ⟨U, γ, s, ok, h⟩ => ⟨U, γ, s, ok, by simpa only [evE, evOr] using h⟩
theorem s_or {e e2 : Expr} {es : List Expr} {x x2 : Ex} {xs : List Ex} (he : DE X glob F Wx e x) (hs : DE X glob F Wx (.BoolOp .Or (e2 :: es) pos) (.or (x2 :: xs))) : DE X glob F Wx (.BoolOp .Or (e :: e2 :: es) pos) (.or (x :: x2 :: xs)) :=
  (pe_or he hs).imp fun σ H Q ⟨U, γ, s, ok, h⟩ => by
    simp only [evE, evOr] at h
    refine bl_read ok h fun b s1 γ1 H1 ok1 h1 => ⟨b, rfl, ?_⟩
    cases b with
    | false => rw [if_neg Bool.false_ne_true] at h1 ⊢; exact ⟨U, γ1, s1, ok1, by simpa only [evE] using h1⟩
    | true => rw [if_pos rfl] at h1 ⊢; exact RR.now ok1 h1 _ (.bl _)
theorem s_not {e : Expr} {x : Ex} (he : DE X glob F Wx e x) : DE X glob F Wx (.UnaryOp .Not e pos) (.not x) := (pe_not he).imp fun σ H Q ⟨U, γ, s, ok, h⟩ => by
  simp only [evE] at h
  exact bl_read ok h fun b s1 γ1 H1 ok1 h1 => ⟨b, rfl, RR.now ok1 h1 _ (.bl _)⟩
theorem s_ite {c a b : Expr} {z x y : Ex} (hc : DT X glob F Wx c z) (ha : DE X glob F Wx a x) (hb : DE X glob F Wx b y) : DE X glob F Wx (.IfExp c a b pos) (.ite z x y) := (pe_ifExp hc ha hb).imp fun σ H Q ⟨U, γ, s, ok, h⟩ => by
  simp only [evE] at h
  refine ⟨U, γ, s, ok, (b_bind h).imp fun k s1 γ1 H1 ok1 x1 h1 => ?_⟩
  cases k with
  | true => rw [if_pos rfl] at h1 ⊢; exact ⟨U, γ1, s1, ok1, h1⟩
  | false => rw [if_neg Bool.false_ne_true] at h1 ⊢; exact ⟨U, γ1, s1, ok1, h1⟩
/-! .. as tests -/
theorem bind_assoc {α β δ : Type} {r : R α} {f : α → S → R β} {g : β → S → R δ} : (r.bind f).bind g = r.bind fun a s => (f a s).bind g := by cases r <;> rfl
theorem t_and1 {e : Expr} {x : Ex} (he : DT X glob F Wx e x) : PW X (.BoolOp .And [e] pos) (rdT X glob F Wx (.and [x])) := by
  have h : PW X (.BoolOp .And [e] pos) (rdT X glob F Wx x) := pw_and1 he
  exact ⟨fun wh pins s σ H Q I ⟨U, γ, s', ok, q⟩ => h.run wh pins s σ H Q I ⟨U, γ, s', ok, by simpa only [evC, evE, evAnd] using q⟩⟩
theorem t_or1 {e : Expr} {x : Ex} (he : DT X glob F Wx e x) : PW X (.BoolOp .Or [e] pos) (rdT X glob F Wx (.or [x])) := by
  have h : PW X (.BoolOp .Or [e] pos) (rdT X glob F Wx x) := pw_or1 he
  exact ⟨fun wh pins s σ H Q I ⟨U, γ, s', ok, q⟩ => h.run wh pins s σ H Q I ⟨U, γ, s', ok, by simpa only [evC, evE, evOr] using q⟩⟩
theorem _root_.L2.PW.imp {X : Cx} {e : Expr} {t t' : TT} (h : PW X e t) (f : ∀ σ H Q, t' σ H Q → t σ H Q) : PW X e t' := ⟨fun wh pins s σ H Q I q => h.run wh pins s σ H Q I (f σ H Q q)⟩
theorem t_and {e e2 : Expr} {es : List Expr} {x x2 : Ex} {xs : List Ex} (he : DT X glob F Wx e x) (hs : PW X (.BoolOp .And (e2 :: es) pos) (rdT X glob F Wx (.and (x2 :: xs)))) : PW X (.BoolOp .And (e :: e2 :: es) pos) (rdT X glob F Wx (.and (x :: x2 :: xs))) :=
  (pw_and he hs).imp fun σ H Q ⟨U, γ, s, ok, h⟩ => by
    simp only [evC, evE, evAnd] at h
    rw [bind_assoc] at h
    refine ⟨U, γ, s, ok, (b_bind h).imp fun k s1 γ1 H1 ok1 x1 h1 => ?_⟩
    cases k with
    | true => rw [if_pos rfl] at h1 ⊢; exact ⟨U, γ1, s1, ok1, by simpa only [evC, evE] using h1⟩
    | false => rw [if_neg Bool.false_ne_true] at h1 ⊢; exact RR.now (a := false) ok1 h1
theorem t_or {e e2 : Expr} {es : List Expr} {x x2 : Ex} {xs : List Ex} (he : DT X glob F Wx e x) (hs : PW X (.BoolOp .Or (e2 :: es) pos) (rdT X glob F Wx (.or (x2 :: xs)))) : PW X (.BoolOp .Or (e :: e2 :: es) pos) (rdT X glob F Wx (.or (x :: x2 :: xs))) :=
  (pw_or he hs).imp fun σ H Q ⟨U, γ, s, ok, h⟩ => by
    simp only [evC, evE, evOr] at h
    rw [bind_assoc] at h
    refine ⟨U, γ, s, ok, (b_bind h).imp fun k s1 γ1 H1 ok1 x1 h1 => ?_⟩
    cases k with
    | false => rw [if_neg Bool.false_ne_true] at h1 ⊢; exact ⟨U, γ1, s1, ok1, by simpa only [evC, evE] using h1⟩
    | true => rw [if_pos rfl] at h1 ⊢; exact RR.now (a := true) ok1 h1
theorem t_not {e : Expr} {x : Ex} (he : DT X glob F Wx e x) : DT X glob F Wx (.UnaryOp .Not e pos) (.not x) := (pt_not he).imp fun σ H Q ⟨U, γ, s, ok, h⟩ => by
  simp only [evC, evE] at h
  rw [bind_assoc] at h
  exact ⟨U, γ, s, ok, (b_bind h).imp fun k s1 γ1 H1 ok1 x1 h1 => RR.now (a := !k) ok1 h1⟩
/-! names of the module, calls of built-ins -/
theorem s_glob {x : Str} {u : Value} {d : D} {v : V} (hg : Gl X x) (hm : X.mg x = some u) (r : RelV v u) (hd : (x == ("__debug__" : Str)) = false) (e : glob x = some d) (hv : ∀ M γ H, XR X M γ H v d) : DE X glob F Wx (.Name x pos) (.glob x) :=
  (pe_glob hg hm r hd).imp fun σ H Q ⟨U, γ, s, ok, h⟩ => by
    simp only [evE, e] at h
    exact RR.now ok h _ (hv _ _ _)
def rC (X : Cx) (ev : D → Option D) : List V → Hp → VK → Prop := fun xs H Q => ∃ M γ v a d, xs = [v] ∧ XR X M γ H v a ∧ (∀ m, M m → H m ≠ none) ∧ ev a = some d ∧ ∀ z H', Same H H' → XR X M γ H' z d → Q z H'
theorem CallD.r {f : Value} {ev : D → Option D} (h : CallD X f ev) : CallR X f (rC X ev) := fun pins s σ H xs us Q I r ⟨M, γ, v, a, d, e, ra, dom, e2, q⟩ => by
  subst e
  cases r with
  | cons r1 r2 =>
    cases r2
    exact h pins s σ H M γ v _ a d Q I r1 ra dom e2 q
theorem f1_read {ev : D → Option D} {x : Ex} {H : Hp} {Q : VK} (ok : XOk X U γ H σ s) (h : RR X Wx U γ H σ s ((evE glob F x s).bind fun p s1 => R.of (ev p) s1) fun d s' γ' H' => ∀ v, XRp X U γ' H' σ s' v d → Q v H') :
    tCB (rC X ev) (tCons (rdE X glob F Wx x) tNil) σ H Q :=
  ⟨U, γ, s, ok, h.bind.imp fun p s1 γ1 H1 ok1 x1 h1 v rv => by
    obtain ⟨d, e, h2⟩ := h1.of
    exact ⟨_, γ1, v, p, d, rfl, rv, ok1.dom, e, fun z H' sm xr => RR.grow ok1 h2 sm _ xr⟩⟩
theorem s_f1B {n : Str} {id : String} {f : F1} {a : Expr} {x : Ex} {p : Pos} (hf : CallD X (.builtin id) (evF f)) (hg : Gl X n) (hm : X.mg n = none) (hv : bootBuiltins n = some (.builtin id)) (hn : n ≠ "__name__") (hd : (n == ("__debug__" : Str)) = false) (ha : DE X glob F Wx a x)
    (hs : starEach [a] X.env = (false, eval a X.env) :: starEach [] X.env) : DE X glob F Wx (.Call (.Name n p) [a] [] pos) (.f1 f x) :=
  (pe_callB hf.r hg hm hv (pa_cons ha pa_nil hs) hn hd hs).imp fun σ H Q ⟨U, γ, s, ok, h⟩ => f1_read ok (by simpa only [evE] using h)
theorem s_f1T {n : Str} {T : String} {f : F1} {a : Expr} {x : Ex} {p : Pos} (hf : CallD X (.type T) (evF f)) (hg : Gl X n) (hm : X.mg n = none) (hv : bootBuiltins n = some (.type T)) (hn : n ≠ "__name__") (hd : (n == ("__debug__" : Str)) = false) (ha : DE X glob F Wx a x)
    (hs : starEach [a] X.env = (false, eval a X.env) :: starEach [] X.env) : DE X glob F Wx (.Call (.Name n p) [a] [] pos) (.f1 f x) :=
  (pe_callTy hf.r hg hm hv (pa_cons ha pa_nil hs) hn hd hs).imp fun σ H Q ⟨U, γ, s, ok, h⟩ => f1_read ok (by simpa only [evE] using h)
theorem s_min2 {n : Str} {a b : Expr} {x y : Ex} {p : Pos} (hc : X.calm = true) (hg : Gl X n) (hm : X.mg n = none) (hv : bootBuiltins n = some (.builtin "min")) (hn : n ≠ "__name__") (hd : (n == ("__debug__" : Str)) = false) (ha : DE X glob F Wx a x) (hb : DE X glob F Wx b y)
    (hs : starEach [a, b] X.env = (false, eval a X.env) :: starEach [b] X.env) (hs2 : starEach [b] X.env = (false, eval b X.env) :: starEach [] X.env) (hp : (backTo pos (starEach [b] X.env)).any (·.1) = false) : DE X glob F Wx (.Call (.Name n p) [a, b] [] pos) (.min2 x y) :=
  (pe_callB (call_min2 hc) hg hm hv (pa_cons ha (pa_cons hb pa_nil hs2) hs) hn hd hs hp).imp fun σ H Q ⟨U, γ, s, ok, h⟩ => by
    simp only [evE] at h
    refine ⟨U, γ, s, ok, (RR.bind h).imp fun d s1 γ1 H1 ok1 x1 h1 v rv => ⟨U, γ1, s1, ok1, (RR.bind h1).imp fun e s2 γ2 H2 ok2 x2 h2 u ru => ?_⟩⟩
    cases d <;> cases e <;> first | exact h2.elim | skip
    cases rv; cases ru
    exact ⟨_, _, rfl, RR.now ok2 h2 _ (.int _)⟩
def tyN : Ty1 → String
  | .tup => "tuple" | .lst => "list" | .str => "str" | .int => "int" | .bool => "bool"
theorem kb_bool (t : Ty1) : kitB "bool" (tyN t) = some (decide (t = .int ∨ t = .bool)) := by cases t <;> decide +kernel
theorem kb_int (t : Ty1) : kitB "int" (tyN t) = some (decide (t = .int)) := by cases t <;> decide +kernel
theorem kb_str (t : Ty1) : kitB "str" (tyN t) = some (decide (t = .str)) := by cases t <;> decide +kernel
theorem kb_tup (t : Ty1) : kitB "tuple" (tyN t) = some (decide (t = .tup)) := by cases t <;> decide +kernel
theorem kb_lst (t : Ty1) : kitB "list" (tyN t) = some (decide (t = .lst)) := by cases t <;> decide +kernel
theorem kb_non (t : Ty1) : kitB "NoneType" (tyN t) = some false := by cases t <;> decide +kernel
theorem kb_dict (t : Ty1) : kitB "dict" (tyN t) = some false := by cases t <;> decide +kernel
theorem isi_ans {M : Addr → Prop} {v : V} {d : D} (t : Ty1) (r : XR X M γ H v d) (hd : isDicD d = false) (hr : ∀ n, d = .ref n → ∃ a vs, v = .ref a ∧ H a = some (.lst vs)) : ∃ u, TyX X.K H v u ∧ PySem.W.kitOne X.K u (.type (tyN t)) = some (isTy t d) := by
  have tp : ∀ {a : Addr} {vs : List V}, SqT X.K H a vs → TyX X.K H (.ref a) (.type "tuple") := fun {a vs} h => by
    rcases h with (h | ⟨o, h⟩) | ⟨o, its, n, h, hc, _⟩
    · exact .base (.tup h)
    · exact .fTuple h
    · exact .kTuple h hc
  cases r with
  | non => exact ⟨_, .base .non, kit_ty ((kb_non t).trans (by cases t <;> rfl))⟩
  | bl b => exact ⟨_, .base (.bl b), kit_ty ((kb_bool t).trans (by cases t <;> rfl))⟩
  | int b => exact ⟨_, .base (.int b), kit_ty ((kb_int t).trans (by cases t <;> rfl))⟩
  | str b => exact ⟨_, .base (.str b), kit_ty ((kb_str t).trans (by cases t <;> rfl))⟩
  | tup h _ => exact ⟨_, tp h, kit_ty ((kb_tup t).trans (by cases t <;> rfl))⟩
  | lst h _ _ =>
    rcases h with h | ⟨o, h⟩
    · exact ⟨_, .base (.lst h), kit_ty ((kb_lst t).trans (by cases t <;> rfl))⟩
    · exact ⟨_, .base (.frz h), kit_ty ((kb_lst t).trans (by cases t <;> rfl))⟩
  | dic => cases hd
  | kl => cases hd
  | dks h _ _ => exact ⟨_, .base (.dK h), kit_ty ((kb_dict t).trans (by cases t <;> rfl))⟩
  | ref e =>
    obtain ⟨a, vs, e1, e2⟩ := hr _ rfl
    cases e1
    exact ⟨_, .base (.lst e2), kit_ty ((kb_lst t).trans (by cases t <;> rfl))⟩
theorem Ok.shared {U : Addr → Prop} {n : Nat} {a : Addr} (ok : XOk X U γ H σ s) (h : γ[n]? = some a) : ∃ l vs, s.g[n]? = some l ∧ H a = some (.lst vs) ∧ XRs X (Mv U γ σ s.r) γ H vs l := by
  have hl : n < s.g.length := by rw [← ok.st.len]; exact (List.getElem?_eq_some_iff.mp h).1
  obtain ⟨vs, e, r⟩ := ok.st.at_ n s.g[n] a (List.getElem?_eq_getElem hl) h
  exact ⟨_, vs, List.getElem?_eq_getElem hl, e, r⟩
theorem s_isi {n m : Str} {t : Ty1} {a : Expr} {x : Ex} {p p2 : Pos} (hg : Gl X n) (hm : X.mg n = none) (hv : bootBuiltins n = some (.builtin "isinstance")) (hn : n ≠ "__name__") (hd : (n == ("__debug__" : Str)) = false) (hg2 : Gl X m) (hm2 : X.mg m = none)
    (hv2 : bootBuiltins m = some (.type (tyN t))) (hn2 : m ≠ "__name__") (hd2 : (m == ("__debug__" : Str)) = false) (ha : DE X glob F Wx a x) (hs : starEach [a, .Name m p2] X.env = (false, eval a X.env) :: starEach [.Name m p2] X.env) : DE X glob F Wx (.Call (.Name n p) [a, .Name m p2] [] pos) (.isi t x) :=
  (pe_callB call_isi hg hm hv (pa_cons ha (pa_cons (pe_bltn (v := .ty (tyN t)) hg2 hm2 hv2 rfl hn2 hd2) pa_nil rfl) hs) hn hd hs rfl).imp fun σ H Q ⟨U, γ, s, ok, h⟩ => by
    simp only [evE] at h
    refine ⟨U, γ, s, ok, (RR.bind h).imp fun d s1 γ1 H1 ok1 x1 h1 v rv => ?_⟩
    cases e : isDicD d with
    | true => rw [e] at h1; exact h1.elim
    | false =>
      rw [e] at h1
      obtain ⟨u, ty, k⟩ := isi_ans t rv e fun n hn => by
        subst hn
        cases rv with
        | ref q =>
          obtain ⟨l, vs, _, e2, _⟩ := ok1.shared q
          exact ⟨_, vs, rfl, e2⟩
      exact ⟨v, _, u, _, _, rfl, .ty _, ty, k, RR.now ok1 h1 _ (.bl _)⟩
end
end TD

-- TJ
set_option maxHeartbeats 1000000
/-! subscripts, slices, slots that own, calls -/
namespace TD
open PySem PySem.Spec PyProof.Rows L2
section
variable {X : Cx} {glob : Str → Option D} {F : Fs} {Wx : WX} {pos : Pos} {U : Addr → Prop} {γ : List Addr} {H : Hp} {σ : L2.St} {s : S}
def rIX (X : Cx) : R2 := fun v u H Q => ∃ M γ a b d, XR X M γ H v a ∧ XR X M γ H u b ∧ (∀ m, M m → H m ≠ none) ∧ evIx a b = some d ∧ ∀ z, XR X M γ H z d → Q z H
theorem ixd (hu : X.A.units + 64 < cLine) : IxR X (rIX X) := fun value slice pins s σ H x y v u Q I rx ry ⟨M, γ, a, b, d, ra, rb, dom, e, q⟩ hs => ix_ok hu value slice pins s σ H M γ x y v u a b d Q I rx ry ra rb dom e q hs
theorem s_ix {a b : Expr} {x y : Ex} (hu : X.A.units + 64 < cLine) (ha : DE X glob F Wx a x) (hb : DE X glob F Wx b y) (hs : PlainIx b) : DE X glob F Wx (.Subscript a b pos) (.ix x y) :=
  (pe_ix ((ixd hu).or ix_list) ha hb hs).imp fun σ H Q ⟨U, γ, s, ok, h⟩ => by
    simp only [evE] at h
    refine ⟨U, γ, s, ok, (RR.bind h).imp fun p s1 γ1 H1 ok1 x1 h1 v rv => ⟨U, γ1, s1, ok1, (RR.bind h1).imp fun q s2 γ2 H2 ok2 x2 h2 u ru => ?_⟩⟩
    have rv := rv.ext x2.e
    cases p with
    | ref n =>
      cases rv with
      | ref e =>
        obtain ⟨l, vs, e1, e2, rs⟩ := ok2.shared e
        dsimp only at h2
        rw [e1] at h2
        cases q with
        | int j =>
          obtain ⟨d, e3, h3⟩ := h2.of
          cases ru
          obtain ⟨z, e4, rz⟩ := atI_rps rs e3
          exact .inr ⟨_, vs, j, z, rfl, rfl, .of e2, e4, RR.now ok2 h3 z rz⟩
        | _ => exact h2.elim
    | _ =>
      dsimp only at h2
      obtain ⟨d, e3, h3⟩ := h2.of
      exact .inl ⟨_, γ2, _, q, d, rv, ru, ok2.dom, e3, fun z rz => RR.now ok2 h3 z rz⟩
/-- a slice's bound -/
def rdO (X : Cx) (glob : Str → Option D) (F : Fs) (Wx : WX) (x : Option Ex) : TO := fun σ H Q => ∃ U γ s, XOk X U γ H σ s ∧ RR X Wx U γ H σ s (evEo glob F x s) fun o s' γ' H' => Q o H'
abbrev DO' (X : Cx) (glob : Str → Option D) (F : Fs) (Wx : WX) (e : Option Expr) (x : Option Ex) : Prop := PO X e (rdO X glob F Wx x)
theorem PO.imp {e : Option Expr} {t t' : TO} (h : PO X e t) (f : ∀ σ H Q, t' σ H Q → t σ H Q) : PO X e t' := ⟨fun pins s σ H Q I q => h.run pins s σ H Q I (f σ H Q q)⟩
theorem o_none : DO' X glob F Wx none none := PO.imp po_none fun σ H Q ⟨U, γ, s, ok, h⟩ => RR.now (a := none) ok (by simpa only [evEo] using h)
theorem o_some {e : Expr} {x : Ex} (he : DE X glob F Wx e x) : DO' X glob F Wx (some e) (some x) := PO.imp (po_some he) fun σ H Q ⟨U, γ, s, ok, h⟩ => by
  simp only [evEo] at h
  refine ⟨U, γ, s, ok, (RR.bind h).imp fun d s1 γ1 H1 ok1 x1 h1 v rv => ?_⟩
  cases d with
  | int i => cases rv; exact ⟨i, rfl, RR.now (a := some i) ok1 h1⟩
  | _ => exact h1.elim
theorem s_sl {a : Expr} {x : Ex} {lo hi : Option Expr} {xl xh : Option Ex} {p2 : Pos} (ha : DE X glob F Wx a x) (hl : DO' X glob F Wx lo xl) (hh : DO' X glob F Wx hi xh) : DE X glob F Wx (.Subscript a (.Slice lo hi none p2) pos) (.sl x xl xh) :=
  (pe_slice sl_ok ha hl hh).imp fun σ H Q ⟨U, γ, s, ok, h⟩ => by
    simp only [evE] at h
    refine ⟨U, γ, s, ok, (RR.bind h).imp fun p s1 γ1 H1 ok1 x1 h1 v rv => ⟨U, γ1, s1, ok1, (RR.bind h1).imp fun l s2 γ2 H2 ok2 x2 h2 => ⟨U, γ2, s2, ok2, (RR.bind h2).imp fun k s3 γ3 H3 ok3 x3 h3 => ?_⟩⟩⟩
    obtain ⟨d, e, h4⟩ := h3.of
    exact ⟨_, γ3, p, d, (rv.ext x2.e).ext x3.e, ok3.dom, e, fun z H' sm xr => RR.grow ok3 h4 sm z xr⟩
theorem s_rev {a : Expr} {x : Ex} {k : Nat} {p1 p2 p3 : Pos} (ha : DE X glob F Wx a x) : DE X glob F Wx (.Subscript a (.Slice none none (some (.UnaryOp .USub (.Constant (.int 1) k p1) p2)) p3) pos) (.rev x) :=
  (pe_rev ha).imp fun σ H Q ⟨U, γ, s, ok, h⟩ => by
    simp only [evE] at h
    refine ⟨U, γ, s, ok, (RR.bind h).imp fun p s1 γ1 H1 ok1 x1 h1 v rv => ?_⟩
    obtain ⟨d, e, h2⟩ := h1.of
    cases p with
    | tup l =>
      cases (Option.some.inj e)
      cases rv with
      | tup q t => exact ⟨_, _, rfl, .inr ⟨q, fun p hp => RR.grow ok1 h2 (same_upd hp) _ (new_tup hp (Rps.reverse t))⟩⟩
    | lst l =>
      cases (Option.some.inj e)
      cases rv with
      | lst q n t => exact ⟨_, _, rfl, .inl ⟨sqL_of q, fun p hp => RR.grow ok1 h2 (same_upd hp) _ (new_lst hp (fun m => ok1.dom _ m hp) (Rps.reverse t))⟩⟩
    | _ => cases e
theorem s_neg {a : Expr} {x : Ex} (ha : DE X glob F Wx a x) : DE X glob F Wx (.UnaryOp .USub a pos) (.neg x) := (pe_un un_neg ha).imp fun σ H Q ⟨U, γ, s, ok, h⟩ => by
  simp only [evE] at h
  refine ⟨U, γ, s, ok, (RR.bind h).imp fun p s1 γ1 H1 ok1 x1 h1 v rv => ?_⟩
  cases p with
  | int i => cases rv; exact ⟨i, rfl, RR.now ok1 h1 _ (.int _)⟩
  | _ => exact h1.elim

/-! slots that own -/
theorem join_some {o : Option (Option V)} {v : V} (h : o.join = some v) : o = some (some v) := by
  cases o with
  | none => cases h
  | some x => exact congrArg some h
/-- the list of a slot -/
theorem Ok.oL {i : Nat} {l : List D} (ok : XOk X U γ H σ s) (h : s.r[i]? = some (.oL l) ∨ s.r[i]? = some (.pL l)) : ∃ a vs, σ[i]? = some (some (.ref a)) ∧ H a = some (.lst vs) ∧ XRs X (Mv U γ σ s.r) γ H vs l := by
  rcases h with h | h
  · obtain ⟨a, vs, e, h1, r⟩ := ok.sl i _ h; exact ⟨a, vs, join_some e, h1, r⟩
  · obtain ⟨a, vs, e, h1, r⟩ := ok.sl i _ h; exact ⟨a, vs, join_some e, h1, r⟩
theorem Ok.oD {i : Nat} {l : List (D × D)} (ok : XOk X U γ H σ s) (h : s.r[i]? = some (.oD l) ∨ s.r[i]? = some (.pD l)) : ∃ a, σ[i]? = some (some (.ref a)) ∧ IsDic X.prog X.w X.K (Mv U γ σ s.r) γ H a l := by
  rcases h with h | h
  · obtain ⟨a, e, r⟩ := ok.sl i _ h; exact ⟨a, join_some e, r⟩
  · obtain ⟨a, e, r⟩ := ok.sl i _ h; exact ⟨a, join_some e, r⟩
theorem s_oLen {n m : Str} {i : Nat} {p p2 : Pos} (hg : Gl X n) (hm : X.mg n = none) (hv : bootBuiltins n = some (.builtin "len")) (hn : n ≠ "__name__") (hd : (n == ("__debug__" : Str)) = false) (ha : PE X (.Name m p2) (tVar i))
    (hs : starEach [.Name m p2] X.env = (false, eval (.Name m p2) X.env) :: starEach [] X.env) : DE X glob F Wx (.Call (.Name n p) [.Name m p2] [] pos) (.oLen i) := by
  have hl : CallR X (.builtin "len") (fun xs H Q => ∃ x, xs = [x] ∧ ((∃ a vs, x = .ref a ∧ H a = some (.lst vs) ∧ Q (.int vs.length) H) ∨ ∃ M γ a l, x = .ref a ∧ IsDic X.prog X.w X.K M γ H a l ∧ Q (.int l.length) H)) := fun pins s σ H xs us Q I r ⟨x, e, h⟩ => by
    subst e
    cases r with
    | cons r1 r2 =>
      cases r2
      rcases h with ⟨a, vs, rfl, h1, q⟩ | ⟨M, γ, a, l, rfl, h1, q⟩
      · exact call_len_seq pins s σ H [_] [_] Q I (vs1 r1) ⟨_, _, rfl, .inl (.of h1), q⟩
      · cases r1
        obtain ⟨xs, dd, hs, hl, en⟩ := h1.of I
        refine call_len_dictH hs dd (by have := line63; omega) ⟨.int _, H, (I.tok _).tok _, ⟨_, rfl⟩, ?_⟩
        rw [en.length]; exact q
  refine (pe_callB hl hg hm hv (pa_cons ha pa_nil hs) hn hd hs).imp fun σ H Q ⟨U, γ, s, ok, h⟩ => ?_
  simp only [evE] at h
  cases e : s.r[i]? with
  | none => rw [e] at h; exact h.elim
  | some c =>
    rw [e] at h
    cases c with
    | oL l => obtain ⟨a, vs, e1, e2, r⟩ := ok.oL (.inl e); exact ⟨_, e1, _, rfl, .inl ⟨a, vs, rfl, e2, by rw [r.length]; exact RR.now ok h _ (.int _)⟩⟩
    | pL l => obtain ⟨a, vs, e1, e2, r⟩ := ok.oL (.inr e); exact ⟨_, e1, _, rfl, .inl ⟨a, vs, rfl, e2, by rw [r.length]; exact RR.now ok h _ (.int _)⟩⟩
    | oD l => obtain ⟨a, e1, r⟩ := ok.oD (.inl e); exact ⟨_, e1, _, rfl, .inr ⟨_, _, a, l, rfl, r, RR.now ok h _ (.int _)⟩⟩
    | pD l => obtain ⟨a, e1, r⟩ := ok.oD (.inr e); exact ⟨_, e1, _, rfl, .inr ⟨_, _, a, l, rfl, r, RR.now ok h _ (.int _)⟩⟩
    | _ => exact h.elim
/-- an owned list against [] -/
theorem vs_nil (hu : X.A.units + 64 < cLine) : OpR X (compareOp .NotEq) (fun x y H Q => ∃ M γ a b vs l, x = .ref a ∧ y = .ref b ∧ H a = some (.lst vs) ∧ XRs X M γ H vs l ∧ fls 40 l = true ∧ H b = some (.lst []) ∧ Q (.bl (!l.isEmpty)) H) ∧
    OpR X (compareOp .Eq) (fun x y H Q => ∃ M γ a b vs l, x = .ref a ∧ y = .ref b ∧ H a = some (.lst vs) ∧ XRs X M γ H vs l ∧ fls 40 l = true ∧ H b = some (.lst []) ∧ Q (.bl l.isEmpty) H) := by
  have key : ∀ {pins : List (Addr × Obj)} {s : Shared} {σ : L2.St} {H : Hp} {M : Addr → Prop} {γ : List Addr} {a b : Addr} {vs : List V} {l : List D}, Inv X pins σ H s → H a = some (.lst vs) → XRs X M γ H vs l → fls 40 l = true → H b = some (.lst []) →
      ∃ as bs, Reads s.heap (.ref a) (.list (pdDs l)) as ∧ Reads s.heap (.ref b) (.list []) bs ∧ PyData.canLay0 (.list (pdDs l)) = true ∧ PyData.canLay0 (.list []) = true ∧ X.A.units + min (PyData.depth (.list (pdDs l))) (PyData.depth (.list [])) < cLine ∧ PyData.eqv (.list (pdDs l)) (.list []) = l.isEmpty := by
    intro pins s σ H M γ a b vs l I h1 r h2 h3
    obtain ⟨c1, c2, c3⟩ := r.dp h2
    obtain ⟨as, r1⟩ := Dp.reads I _ _ (.ref a) (Dp.lst (.of h1) c1) rfl
    obtain ⟨bs, r2⟩ := Dp.reads I (.list []) (.ref b) (.ref b) (Dp.lst (.of h3) .nil) rfl
    refine ⟨as, bs, r1, r2, by simpa [PyData.canLay0] using c2, rfl, ?_, ?_⟩
    · have : min (PyData.depth (.list (pdDs l))) (PyData.depth (.list [])) ≤ PyData.depth (.list []) := Nat.min_le_right _ _
      have e : PyData.depth (.list []) = 1 := by simp [PyData.depth, PyData.depthAll]
      omega
    · cases l <;> simp [PyData.eqv, PyData.eqvAll, pdDs]
  constructor
  · intro pins s σ H x y v u Q I rx ry ⟨M, γ, a, b, vs, l, e1, e2, h1, r, h2, h3, q⟩
    subst e1 e2
    cases rx; cases ry
    obtain ⟨as, bs, r1, r2, c1, c2, c3, c4⟩ := key I h1 r h2 h3
    exact PySem.SeqAt.compareNe_reads r1 r2 c1 c2 c3 ⟨.bl _, H, I, rfl, by rw [c4]; exact q⟩
  · intro pins s σ H x y v u Q I rx ry ⟨M, γ, a, b, vs, l, e1, e2, h1, r, h2, h3, q⟩
    subst e1 e2
    cases rx; cases ry
    obtain ⟨as, bs, r1, r2, c1, c2, c3, c4⟩ := key I h1 r h2 h3
    exact PySem.SeqAt.compareEq_reads r1 r2 c1 c2 c3 ⟨.bl _, H, I, rfl, by rw [c4]; exact q⟩
theorem oNE_read {i : Nat} {H : Hp} {Q : VK} (ok : XOk X U γ H σ s) (h : RR X Wx U γ H σ s (evE glob F (.oNE i) s) fun d s' γ' H' => ∀ v, XRp X U γ' H' σ s' v d → Q v H') :
    tOp (fun x y H Q => ∃ M γ a b vs l, x = .ref a ∧ y = .ref b ∧ H a = some (.lst vs) ∧ XRs X M γ H vs l ∧ fls 40 l = true ∧ H b = some (.lst []) ∧ Q (.bl (!l.isEmpty)) H) (tVar i) (tLst tNil) σ H Q := by
  simp only [evE] at h
  cases e : s.r[i]? with
  | none => rw [e] at h; exact h.elim
  | some c =>
    rw [e] at h
    cases c with
    | oL l =>
      obtain ⟨a, vs, e1, e2, r⟩ := ok.oL (.inl e)
      have h : RR X Wx U γ H σ s (if fls 40 l = true then R.ok (D.bl (!l.isEmpty)) s else .bad) fun d s' γ' H' => ∀ v, XRp X U γ' H' σ s' v d → Q v H' := h
      split at h
      · refine ⟨_, e1, Nat.zero_le _, fun p hp => ⟨_, _, a, p, vs, l, rfl, rfl, ?_, r.same (same_upd hp), by assumption, upd_same, RR.grow ok h (same_upd hp) _ (.bl _)⟩⟩
        rw [upd_ne (ne_of_none e2 hp)]; exact e2
      · exact h.elim
    | _ => exact h.elim
theorem oEQ_read {i : Nat} {H : Hp} {Q : VK} (ok : XOk X U γ H σ s) (h : RR X Wx U γ H σ s (evE glob F (.oEQ i) s) fun d s' γ' H' => ∀ v, XRp X U γ' H' σ s' v d → Q v H') :
    tOp (fun x y H Q => ∃ M γ a b vs l, x = .ref a ∧ y = .ref b ∧ H a = some (.lst vs) ∧ XRs X M γ H vs l ∧ fls 40 l = true ∧ H b = some (.lst []) ∧ Q (.bl l.isEmpty) H) (tVar i) (tLst tNil) σ H Q := by
  simp only [evE] at h
  cases e : s.r[i]? with
  | none => rw [e] at h; exact h.elim
  | some c =>
    rw [e] at h
    cases c with
    | oL l =>
      obtain ⟨a, vs, e1, e2, r⟩ := ok.oL (.inl e)
      have h : RR X Wx U γ H σ s (if fls 40 l = true then R.ok (D.bl l.isEmpty) s else .bad) fun d s' γ' H' => ∀ v, XRp X U γ' H' σ s' v d → Q v H' := h
      split at h
      · refine ⟨_, e1, Nat.zero_le _, fun p hp => ⟨_, _, a, p, vs, l, rfl, rfl, ?_, r.same (same_upd hp), by assumption, upd_same, RR.grow ok h (same_upd hp) _ (.bl _)⟩⟩
        rw [upd_ne (ne_of_none e2 hp)]; exact e2
      · exact h.elim
    | _ => exact h.elim
theorem s_oNE {m : Str} {i : Nat} {p2 p3 : Pos} (hu : X.A.units + 64 < cLine) (ha : PE X (.Name m p2) (tVar i)) : DE X glob F Wx (.Compare (.Name m p2) [.NotEq] [.List [] p3] pos) (.oNE i) := (pe_cmpR (vs_nil hu).1 ha (pe_lst pa_nil) rfl).imp fun σ H Q ⟨U, γ, s, ok, h⟩ => oNE_read ok h
theorem s_oNET {m : Str} {i : Nat} {p2 p3 : Pos} (hu : X.A.units + 64 < cLine) (ha : PE X (.Name m p2) (tVar i)) : DT X glob F Wx (.Compare (.Name m p2) [.NotEq] [.List [] p3] pos) (.oNE i) :=
  (pt_cmpR (vs_nil hu).1 ha (pe_lst pa_nil) rfl).imp fun σ H Q q => test_read (fun σ H Q ⟨U, γ, s, ok, h⟩ => oNE_read ok h) q
theorem s_oEQ {m : Str} {i : Nat} {p2 p3 : Pos} (hu : X.A.units + 64 < cLine) (ha : PE X (.Name m p2) (tVar i)) : DE X glob F Wx (.Compare (.Name m p2) [.Eq] [.List [] p3] pos) (.oEQ i) := (pe_cmpR (vs_nil hu).2 ha (pe_lst pa_nil) rfl).imp fun σ H Q ⟨U, γ, s, ok, h⟩ => oEQ_read ok h
theorem s_oEQT {m : Str} {i : Nat} {p2 p3 : Pos} (hu : X.A.units + 64 < cLine) (ha : PE X (.Name m p2) (tVar i)) : DT X glob F Wx (.Compare (.Name m p2) [.Eq] [.List [] p3] pos) (.oEQ i) :=
  (pt_cmpR (vs_nil hu).2 ha (pe_lst pa_nil) rfl).imp fun σ H Q q => test_read (fun σ H Q ⟨U, γ, s, ok, h⟩ => oEQ_read ok h) q
end
end TD

-- TK
set_option maxHeartbeats 1000000
/-! slots that own: changes -/
namespace TD
open PySem PySem.Spec PyProof.Rows L2
section
variable {X : Cx} {glob : Str → Option D} {F : Fs} {Wx : WX} {pos : Pos} {U : Addr → Prop} {γ : List Addr} {H : Hp} {σ : L2.St} {s : S}
def isOwn : Sl → Bool
  | .oL _ => true
  | .oD _ => true
  | _ => false
theorem owns_iff {ρ : List Sl} {i : Nat} {a : Addr} : Owns ρ σ i a ↔ (∃ c, ρ[i]? = some c ∧ isOwn c = true) ∧ σ[i]? = some (some (.ref a)) := by
  constructor
  · rintro ⟨⟨l, e⟩ | ⟨l, e⟩, h⟩
    · exact ⟨⟨_, e, rfl⟩, h⟩
    · exact ⟨⟨_, e, rfl⟩, h⟩
  · rintro ⟨⟨c, e, k⟩, h⟩
    cases c with
    | oL l => exact ⟨.inl ⟨l, e⟩, h⟩
    | oD l => exact ⟨.inr ⟨l, e⟩, h⟩
    | _ => cases k
theorem owns_set {ρ : List Sl} {i j : Nat} {a : Addr} {c c' : Sl} (h : ρ[i]? = some c) (k : isOwn c = true) (k' : isOwn c' = true) : Owns (ρ.set i c') σ j a ↔ Owns ρ σ j a := by
  have hi : i < ρ.length := (List.getElem?_eq_some_iff.mp h).1
  rw [owns_iff, owns_iff]
  by_cases e : i = j
  · subst e
    rw [List.getElem?_set_self hi, h]
    simp [k, k']
  · rw [List.getElem?_set_ne e]
theorem owned_set {ρ : List Sl} {i : Nat} {c c' : Sl} (h : ρ[i]? = some c) (k : isOwn c = true) (k' : isOwn c' = true) : Owned (ρ.set i c') σ = Owned ρ σ := by
  funext a
  exact propext ⟨fun ⟨j, q⟩ => ⟨j, (owns_set h k k').mp q⟩, fun ⟨j, q⟩ => ⟨j, (owns_set h k k').mpr q⟩⟩
theorem Mut.of_lst {o : HO} (h : (∃ vs, o = .lst vs) ∨ ∃ a ob, o = Pin a ob) : Mut (some o) ∧ (∀ xs, o ≠ .tup xs) ∧ ∀ ob u, o ≠ .frz ob u := by
  rcases h with ⟨vs, rfl⟩ | ⟨a, ob, rfl⟩
  · exact ⟨trivial, (fun _ z => nomatch z), fun _ _ z => nomatch z⟩
  · exact ⟨trivial, (fun _ z => by unfold Pin at z; cases z), fun _ _ z => by unfold Pin at z; cases z⟩
/-- an address that may change is written -/
theorem Xt.write {C : Addr → Prop} {a : Addr} {o o' : HO} (h : H a = some o) (k : (∃ vs, o = .lst vs) ∨ ∃ a ob, o = Pin a ob) (ha : C a) : Xt U C γ H C γ (upd H a o') := by
  obtain ⟨_, k1, k2⟩ := Mut.of_lst k
  refine ⟨⟨fun b ob e n => ?_, fun _ m => .inl m, fun b xs e => ?_, fun b ob u e => ?_, fun b n => ?_, ⟨[], by simp⟩⟩, fun b ob e n => ?_, fun _ m => .inl m⟩
  · rw [upd_ne (fun z => n (by subst z; exact .inr ha))]; exact e
  · rw [upd_ne (fun z => by subst z; rw [h] at e; exact k1 xs (Option.some.inj e))]; exact e
  · rw [upd_ne (fun z => by subst z; rw [h] at e; exact k2 ob u (Option.some.inj e))]; exact e
  · by_cases z : b = a
    · subst z; rw [upd_same]; exact fun z => nomatch z
    · rw [upd_ne z]; exact n
  · rw [upd_ne (fun z => n (by subst z; exact ha))]; exact e
/-- a slot's own object is changed -/
theorem Ok.change {i : Nat} {a : Addr} {c c' : Sl} {o o' : HO} (ok : XOk X U γ H σ s) (hc : s.r[i]? = some c) (hv : σ[i]? = some (some (.ref a))) (k : isOwn c = true) (k' : isOwn c' = true) (h : H a = some o) (ho : (∃ vs, o = .lst vs) ∨ ∃ a ob, o = Pin a ob)
    (new : SlOk X.prog X.w X.K (Mv U γ σ s.r) γ (upd H a o') (some (.ref a)) c') : XOk X U γ (upd H a o') σ { s with r := s.r.set i c' } ∧ Xt U (Cv γ σ s.r) γ H (Cv γ σ (s.r.set i c')) γ (upd H a o') := by
  have own : Owns s.r σ i a := owns_iff.mpr ⟨⟨c, hc, k⟩, hv⟩
  have eO := owned_set (σ := σ) hc k k'
  have eC : Cv γ σ (s.r.set i c') = Cv γ σ s.r := by unfold Cv; rw [eO]
  have eM : Mv U γ σ (s.r.set i c') = Mv U γ σ s.r := by unfold Mv; rw [eC]
  have hC : Cv γ σ s.r a := .inr ⟨i, own⟩
  have x : Xt U (Cv γ σ s.r) γ H (Cv γ σ s.r) γ (upd H a o') := Xt.write h ho hC
  have hi : i < s.r.length := (List.getElem?_eq_some_iff.mp hc).1
  refine ⟨⟨?_, fun j d e => ?_, ?_, fun b m => ?_, fun j l b q1 q2 => ?_, fun b q => ?_, fun b q => ?_, fun j b q1 q2 => ?_⟩, by rw [eC]; exact x⟩
  · show (s.r.set i c').length = _
    rw [List.length_set]; exact ok.len
  · show SlOk X.prog X.w X.K (Mv U γ σ (s.r.set i c')) γ _ _ d
    rw [eM]
    have e : (s.r.set i c')[j]? = some d := e
    by_cases z : i = j
    · subst z
      rw [List.getElem?_set_self hi] at e
      cases (Option.some.inj e)
      rw [hv]
      exact new
    · rw [List.getElem?_set_ne z] at e
      have old := ok.sl j d e
      refine old.ext x.e fun b hb hw => ?_
      refine upd_ne fun z2 => z ?_
      subst z2
      have hj : σ[j]? = some (some (.ref b)) := join_some hw
      rcases hb with ⟨l, rfl⟩ | ⟨l, rfl⟩ | ⟨l, rfl⟩ | ⟨l, rfl⟩
      · exact ok.inj _ _ _ own (owns_iff.mpr ⟨⟨_, e, rfl⟩, hj⟩)
      · exact absurd (ok.pu j b (.inl ⟨l, e⟩) hj).1 (ok.nu b ⟨i, own⟩)
      · exact ok.inj _ _ _ own (owns_iff.mpr ⟨⟨_, e, rfl⟩, hj⟩)
      · exact absurd (ok.pu j b (.inr ⟨l, e⟩) hj).1 (ok.nu b ⟨i, own⟩)
  · show GOk X.prog X.w X.K (Mv U γ σ (s.r.set i c')) γ _ s.g
    rw [eM]
    refine ⟨ok.st.len, ok.st.nd, fun n l b e1 e2 => ?_⟩
    obtain ⟨vs, h1, r⟩ := ok.st.at_ n l b e1 e2
    refine ⟨vs, ?_, r.ext x.e⟩
    rw [upd_ne (fun z => by subst z; exact ok.ng b ⟨i, own⟩ (List.mem_of_getElem? e2))]
    exact h1
  · have m : Mv U γ σ s.r b := by rw [← eM]; exact m
    exact x.e.dom b (ok.dom b m)
  · exact ok.inj j l b ((owns_set hc k k').mp q1) ((owns_set hc k k').mp q2)
  · have q : Owned s.r σ b := by rw [← eO]; exact q
    exact ok.ng b q
  · have q : Owned s.r σ b := by rw [← eO]; exact q
    exact ok.nu b q
  · refine ok.pu j b ?_ q2
    by_cases z : i = j
    · subst z
      have e : (s.r.set i c')[i]? = some c' := List.getElem?_set_self hi
      rcases q1 with ⟨l, q1⟩ | ⟨l, q1⟩
      · have q1 : (s.r.set i c')[i]? = some (.pL l) := q1
        rw [e] at q1; cases (Option.some.inj q1); cases k'
      · have q1 : (s.r.set i c')[i]? = some (.pD l) := q1
        rw [e] at q1; cases (Option.some.inj q1); cases k'
    · rcases q1 with ⟨l, q1⟩ | ⟨l, q1⟩
      · have q1 : (s.r.set i c')[j]? = some (.pL l) := q1
        rw [List.getElem?_set_ne z] at q1
        exact .inl ⟨l, q1⟩
      · have q1 : (s.r.set i c')[j]? = some (.pD l) := q1
        rw [List.getElem?_set_ne z] at q1
        exact .inr ⟨l, q1⟩
end
end TD

-- TK2
set_option maxHeartbeats 1000000
/-! slots that own: reads, pops -/
namespace TD
open PySem PySem.Spec PyProof.Rows L2
section
variable {X : Cx} {glob : Str → Option D} {F : Fs} {Wx : WX} {pos : Pos} {U : Addr → Prop} {γ : List Addr} {H : Hp} {σ : L2.St} {s : S}
theorem Ok.hasO {i : Nat} (ok : XOk X U γ H σ s) (h : hasO s.r[i]? = true) : ∃ a, σ[i]? = some (some (.ref a)) := by
  cases e : s.r[i]? with
  | none => rw [e] at h; cases h
  | some c =>
    rw [e] at h
    cases c with
    | oL l => obtain ⟨a, vs, e1, _⟩ := ok.oL (.inl e); exact ⟨a, e1⟩
    | pL l => obtain ⟨a, vs, e1, _⟩ := ok.oL (.inr e); exact ⟨a, e1⟩
    | oD l => obtain ⟨a, e1, _⟩ := ok.oD (.inl e); exact ⟨a, e1⟩
    | pD l => obtain ⟨a, e1, _⟩ := ok.oD (.inr e); exact ⟨a, e1⟩
    | _ => cases h
theorem Ok.hasL {i : Nat} (ok : XOk X U γ H σ s) (h : hasL s.r[i]? = true) : ∃ a vs, σ[i]? = some (some (.ref a)) ∧ H a = some (.lst vs) := by
  cases e : s.r[i]? with
  | none => rw [e] at h; cases h
  | some c =>
    rw [e] at h
    cases c with
    | oL l => obtain ⟨a, vs, e1, h1, _⟩ := ok.oL (.inl e); exact ⟨a, vs, e1, h1⟩
    | _ => cases h
theorem Ok.hasD {i : Nat} (ok : XOk X U γ H σ s) (h : hasD s.r[i]? = true) : ∃ a l, σ[i]? = some (some (.ref a)) ∧ IsDic X.prog X.w X.K (Mv U γ σ s.r) γ H a l := by
  cases e : s.r[i]? with
  | none => rw [e] at h; cases h
  | some c =>
    rw [e] at h
    cases c with
    | oD l => obtain ⟨a, e1, h1⟩ := ok.oD (.inl e); exact ⟨a, l, e1, h1⟩
    | pD l => obtain ⟨a, e1, h1⟩ := ok.oD (.inr e); exact ⟨a, l, e1, h1⟩
    | _ => cases h
theorem some_ref {i : Nat} {a b : Addr} {σ : L2.St} (h : σ[i]? = some (some (.ref a))) (h' : σ[i]? = some (some (.ref b))) : a = b := by
  rw [h] at h'
  cases h'
  rfl
theorem RR.ite_t {α : Type} {c : Prop} [Decidable c] {r : R α} {k : α → S → List Addr → Hp → Prop} (h : RR X Wx U γ H σ s (if c then r else .bad) k) : c ∧ RR X Wx U γ H σ s r k := by
  split at h
  · exact ⟨by assumption, h⟩
  · exact h.elim
/-- the list of a slot, as a datum where nothing changes -/
theorem Rps.lst_ {M : Addr → Prop} {a : Addr} {vs : List V} {l : List D} (h : H a = some (.lst vs)) (r : XRs X M γ H vs l) : XR X (fun _ => False) γ H (.ref a) (.lst l) := .lst (.inl h) (fun z => z) (r.ext (Ext.less fun _ z => z.elim))
theorem XR.less {M : Addr → Prop} {v : V} {d : D} (r : XR X M γ H v d) : XR X (fun _ => False) γ H v d := r.ext (Ext.less fun _ z => z.elim)
/-- a list's subscript: also where the list may change -/
theorem s_oIx {m : Str} {i : Nat} {b : Expr} {y : Ex} {p2 : Pos} (hu : X.A.units + 64 < cLine) (ha : PE X (.Name m p2) (tVar i)) (hb : DE X glob F Wx b y) (hs : PlainIx b) : DE X glob F Wx (.Subscript (.Name m p2) b pos) (.oIx i y) := by
  have hi : IxR X (fun x y H Q => (∃ M γ a b l d, x = .ref a ∧ IsDic X.prog X.w X.K M γ H a l ∧ XR X M γ H y b ∧ (keyOf b).isSome = true ∧ dlook l b = some d ∧ ∀ z, XR X M γ H z d → Q z H)) := by
    intro value slice pins s σ H x y v u Q I rx ry ⟨M, γ, a, b, l, d, e1, hd, rb, hk, hl, q⟩ hs
    subst e1
    cases rx
    obtain ⟨ty, hw⟩ := getdic_ok (Q := Q) hu I ry rb hd hk hl q
    exact tail_any ty PySem.F.slot_dict_getitem.lookup hw hs
  refine (pe_ix (ix_list.or hi) ha hb hs).imp fun σ H Q ⟨U, γ, s, ok, h⟩ => ?_
  simp only [evE] at h
  obtain ⟨hc, h⟩ := h.ite_t
  obtain ⟨a, ea⟩ := ok.hasO hc
  refine ⟨.ref a, ea, U, γ, s, ok, (RR.bind h).imp fun q s2 γ2 H2 ok2 x2 h2 u ru => ?_⟩
  have lst : ∀ {l : List D}, (s2.r[i]? = some (.oL l) ∨ s2.r[i]? = some (.pL l)) → RR X Wx U γ2 H2 σ s2 (R.of (evIx (.lst l) q) s2) (fun d s' γ' H' => ∀ v, XRp X U γ' H' σ s' v d → Q v H') → rIxL X.K (.ref a) u H2 Q := fun {l} e h2 => by
    obtain ⟨d, e3, h3⟩ := h2.of
    obtain ⟨a', vs, e1, e2, rs⟩ := ok2.oL e
    cases some_ref ea e1
    cases q with
    | int j =>
      cases ru
      obtain ⟨z, e4, rz⟩ := atI_rps rs e3
      exact ⟨_, vs, j, z, rfl, rfl, .of e2, e4, RR.now ok2 h3 z rz⟩
    | _ => cases e3
  have dic : ∀ {l : List (D × D)}, (s2.r[i]? = some (.oD l) ∨ s2.r[i]? = some (.pD l)) → RR X Wx U γ2 H2 σ s2 (R.of (evIx (.dic l) q) s2) (fun d s' γ' H' => ∀ v, XRp X U γ' H' σ s' v d → Q v H') →
      (∃ M γ a' b l d, V.ref a = .ref a' ∧ IsDic X.prog X.w X.K M γ H2 a' l ∧ XR X M γ H2 u b ∧ (keyOf b).isSome = true ∧ dlook l b = some d ∧ ∀ z, XR X M γ H2 z d → Q z H2) := fun {l} e h2 => by
    obtain ⟨d, e3, h3⟩ := h2.of
    obtain ⟨a', e1, rs⟩ := ok2.oD e
    cases some_ref ea e1
    have e3 : (if (keyOf q).isSome = true then dlook l q else none) = some d := e3
    split at e3
    · exact ⟨_, γ2, a, q, l, d, rfl, rs, ru, by assumption, e3, fun z rz => RR.now ok2 h3 z rz⟩
    · cases e3
  cases e : s2.r[i]? with
  | none => rw [e] at h2; exact h2.elim
  | some c =>
    rw [e] at h2
    cases c with
    | oL l => exact .inl (lst (.inl e) h2)
    | pL l => exact .inl (lst (.inr e) h2)
    | oD l => exact .inr (dic (.inl e) h2)
    | pD l => exact .inr (dic (.inr e) h2)
    | _ => exact h2.elim
/-- a op b, an owned list on the left -/
theorem oOp_read {ev : D → D → Option D} {i : Nat} {y : Ex} {H : Hp} {Q : VK} (ok : XOk X U γ H σ s) (h : RR X Wx U γ H σ s (if hasL s.r[i]? = true then (evE glob F y s).bind fun q s1 => match s1.r[i]? with
    | some (.oL l) => match ev (.lst l) q with
      | some (.bl b) => .ok (.bl b) s1
      | _ => .bad
    | _ => .bad else .bad) fun d s' γ' H' => ∀ v, XRp X U γ' H' σ s' v d → Q v H') :
    tOp (rV X ev) (tVar i) (rdE X glob F Wx y) σ H Q := by
  obtain ⟨hc, h⟩ := h.ite_t
  obtain ⟨a, vs, ea, _⟩ := ok.hasL hc
  refine ⟨.ref a, ea, U, γ, s, ok, (RR.bind h).imp fun q s2 γ2 H2 ok2 x2 h2 u ru => ?_⟩
  cases e : s2.r[i]? with
  | none => rw [e] at h2; exact h2.elim
  | some c =>
    rw [e] at h2
    cases c with
    | oL l =>
      obtain ⟨a', vs, e1, e2, rs⟩ := ok2.oL (.inl e)
      cases some_ref ea e1
      dsimp only at h2
      cases e3 : ev (.lst l) q with
      | none => rw [e3] at h2; exact h2.elim
      | some d =>
        rw [e3] at h2
        cases d with
        | bl b =>
          refine ⟨fun _ => False, γ2, _, q, _, Rps.lst_ e2 rs, XR.less ru, fun _ z => z.elim, e3, fun z H' sm xr => ?_⟩
          cases xr
          exact RR.grow ok2 h2 sm _ (.bl _)
        | _ => exact h2.elim
    | _ => exact h2.elim
theorem s_oOp {m : Str} {i : Nat} {b : Expr} {y : Ex} {p2 : Pos} {o : CmpOp} {O : O2} (hf : OpD X (compareOp o) (evO O)) (ha : PE X (.Name m p2) (tVar i)) (hb : DE X glob F Wx b y) (hm : behindInMarks o b = false) : DE X glob F Wx (.Compare (.Name m p2) [o] [b] pos) (.oOp O i y) :=
  (pe_cmpR hf.r ha hb hm).imp fun σ H Q ⟨U, γ, s, ok, h⟩ => oOp_read ok (by simp only [evE] at h; exact h)
theorem s_oOpT {m : Str} {i : Nat} {b : Expr} {y : Ex} {p2 : Pos} {o : CmpOp} {O : O2} (hf : OpD X (compareOp o) (evO O)) (ha : PE X (.Name m p2) (tVar i)) (hb : DE X glob F Wx b y) (hm : behindInMarks o b = false) : DT X glob F Wx (.Compare (.Name m p2) [o] [b] pos) (.oOp O i y) :=
  (pt_cmpR hf.r ha hb hm).imp fun σ H Q q => test_read (fun σ H Q ⟨U, γ, s, ok, h⟩ => oOp_read ok (by simp only [evE] at h; exact h)) q
theorem s_oSl {m : Str} {i : Nat} {lo hi : Option Expr} {xl xh : Option Ex} {p p2 : Pos} (ha : PE X (.Name m p) (tVar i)) (hl : DO' X glob F Wx lo xl) (hh : DO' X glob F Wx hi xh) : DE X glob F Wx (.Subscript (.Name m p) (.Slice lo hi none p2) pos) (.oSl i xl xh) :=
  (pe_slice sl_list ha hl hh).imp fun σ H Q ⟨U, γ, s, ok, h⟩ => by
    simp only [evE] at h
    obtain ⟨hc, h⟩ := h.ite_t
    obtain ⟨a, vs, ea, _⟩ := ok.hasL hc
    refine ⟨_, ea, U, γ, s, ok, (RR.bind h).imp fun l s2 γ2 H2 ok2 x2 h2 => ⟨U, γ2, s2, ok2, (RR.bind h2).imp fun k s3 γ3 H3 ok3 x3 h3 => ?_⟩⟩
    cases e : s3.r[i]? with
    | none => rw [e] at h3; exact h3.elim
    | some c =>
      rw [e] at h3
      cases c with
      | oL x =>
        obtain ⟨a', vs, e1, e2, rs⟩ := ok3.oL (.inl e)
        cases some_ref ea e1
        refine ⟨a, vs, rfl, .of e2, fun p hp => RR.grow ok3 h3 (same_upd hp) _ (new_lst hp (fun m => ok3.dom _ m hp) ?_)⟩
        unfold cutD cutV
        rw [rs.length]
        exact Rps.take _ (Rps.drop _ rs)
      | _ => exact h3.elim
/-- isinstance of an owned list -/
theorem s_oIsi {n m q : Str} {i : Nat} {t : Ty1} {p p2 p3 : Pos} (hg : Gl X n) (hm : X.mg n = none) (hv : bootBuiltins n = some (.builtin "isinstance")) (hn : n ≠ "__name__") (hd : (n == ("__debug__" : Str)) = false) (hg2 : Gl X m) (hm2 : X.mg m = none)
    (hv2 : bootBuiltins m = some (.type (tyN t))) (hn2 : m ≠ "__name__") (hd2 : (m == ("__debug__" : Str)) = false) (ha : PE X (.Name q p3) (tVar i)) (hs : starEach [.Name q p3, .Name m p2] X.env = (false, eval (.Name q p3) X.env) :: starEach [.Name m p2] X.env) :
    DE X glob F Wx (.Call (.Name n p) [.Name q p3, .Name m p2] [] pos) (.oIsi t i) :=
  (pe_callB call_isi hg hm hv (pa_cons ha (pa_cons (pe_bltn (v := .ty (tyN t)) hg2 hm2 hv2 rfl hn2 hd2) pa_nil rfl) hs) hn hd hs rfl).imp fun σ H Q ⟨U, γ, s, ok, h⟩ => by
    simp only [evE] at h
    cases e : s.r[i]? with
    | none => rw [e] at h; exact h.elim
    | some c =>
      rw [e] at h
      cases c with
      | oL l =>
        obtain ⟨a, vs, e1, e2, rs⟩ := ok.oL (.inl e)
        obtain ⟨u, ty, k⟩ := isi_ans (X := X) (H := H) t (Rps.lst_ e2 rs) rfl (fun n hn => nomatch hn)
        exact ⟨_, e1, _, _, u, _, _, rfl, .ty _, ty, k, RR.now ok h _ (.bl _)⟩
      | _ => exact h.elim
/-- k in an owned list or dict -/
def rIn (X : Cx) (f : Bool → Bool) : R2 := fun x y H Q => (∃ γ k l, XR X (fun _ => False) γ H x k ∧ XR X (fun _ => False) γ H y (.lst l) ∧ fl 40 k = true ∧ fls 40 l = true ∧ Q (.bl (f (inD k l))) H) ∨
  ∃ M γ k a l, y = .ref a ∧ XR X M γ H x k ∧ IsDic X.prog X.w X.K M γ H a l ∧ (keyOf k).isSome = true ∧ Q (.bl (f (dlook l k).isSome)) H
theorem rIn_in (hu : X.A.units + 65 < cLine) : OpR X (compareOp .In) (rIn X fun b => b) := by
  intro pins s σ H x y v u Q I rx ry h
  rcases h with ⟨γ, k, l, rk, rl, h1, h2, q⟩ | ⟨M, γ, k, a, l, rfl, rk, rd, hk, q⟩
  · exact thn (inseq_ok (b := false) hu I rx ry rk rl h1 h2).1 fun u s' p => EP.imp p fun z H' e => by obtain ⟨rfl, rfl⟩ := e; exact q
  · cases ry
    exact thn (indic_ok (by omega) I rx rk rd hk).1 fun u s' p => EP.imp p fun z H' e => by obtain ⟨rfl, rfl⟩ := e; exact q
theorem rIn_notin (hu : X.A.units + 65 < cLine) : OpR X (compareOp .NotIn) (rIn X fun b => !b) := by
  intro pins s σ H x y v u Q I rx ry h
  rcases h with ⟨γ, k, l, rk, rl, h1, h2, q⟩ | ⟨M, γ, k, a, l, rfl, rk, rd, hk, q⟩
  · exact thn (inseq_ok (b := false) hu I rx ry rk rl h1 h2).2 fun u s' p => EP.imp p fun z H' e => by obtain ⟨rfl, rfl⟩ := e; exact q
  · cases ry
    exact thn (indic_ok (by omega) I rx rk rd hk).2 fun u s' p => EP.imp p fun z H' e => by obtain ⟨rfl, rfl⟩ := e; exact q
/-- what the evaluator does -/
def evIn (f : Bool → Bool) (k : D) (c : Option Sl) (s : S) : R D := match c with
  | some (.oL l) => if fl 40 k && fls 40 l then .ok (.bl (f (inD k l))) s else .bad
  | some (.pL l) => if fl 40 k && fls 40 l then .ok (.bl (f (inD k l))) s else .bad
  | some (.oD l) => if (keyOf k).isSome then .ok (.bl (f (dlook l k).isSome)) s else .bad
  | some (.pD l) => if (keyOf k).isSome then .ok (.bl (f (dlook l k).isSome)) s else .bad
  | _ => .bad
theorem in_read {f : Bool → Bool} {i : Nat} {x : Ex} {H : Hp} {Q : VK} (ok : XOk X U γ H σ s) (h : RR X Wx U γ H σ s ((evE glob F x s).bind fun k s1 => evIn f k s1.r[i]? s1) fun d s' γ' H' => ∀ v, XRp X U γ' H' σ s' v d → Q v H') :
    tOp (rIn X f) (rdE X glob F Wx x) (tVar i) σ H Q := by
  refine ⟨U, γ, s, ok, (RR.bind h).imp fun k s2 γ2 H2 ok2 x2 h2 u ru => ?_⟩
  have lst : ∀ {l : List D}, (s2.r[i]? = some (.oL l) ∨ s2.r[i]? = some (.pL l)) → RR X Wx U γ2 H2 σ s2 (if (fl 40 k && fls 40 l) = true then .ok (.bl (f (inD k l))) s2 else .bad) (fun d s' γ' H' => ∀ v, XRp X U γ' H' σ s' v d → Q v H') → ∃ v, σ[i]? = some (some v) ∧ rIn X f u v H2 Q := fun {l} e h2 => by
    obtain ⟨hc, h3⟩ := h2.ite_t
    obtain ⟨a', vs, e1, e2, rs⟩ := ok2.oL e
    rw [Bool.and_eq_true] at hc
    exact ⟨_, e1, .inl ⟨_, k, l, XR.less ru, Rps.lst_ e2 rs, hc.1, hc.2, RR.now ok2 h3 _ (.bl _)⟩⟩
  have dic : ∀ {l : List (D × D)}, (s2.r[i]? = some (.oD l) ∨ s2.r[i]? = some (.pD l)) → RR X Wx U γ2 H2 σ s2 (if (keyOf k).isSome = true then .ok (.bl (f (dlook l k).isSome)) s2 else .bad) (fun d s' γ' H' => ∀ v, XRp X U γ' H' σ s' v d → Q v H') → ∃ v, σ[i]? = some (some v) ∧ rIn X f u v H2 Q := fun {l} e h2 => by
    obtain ⟨hc, h3⟩ := h2.ite_t
    obtain ⟨a', e1, rs⟩ := ok2.oD e
    exact ⟨_, e1, .inr ⟨_, γ2, k, a', l, rfl, ru, rs, hc, RR.now ok2 h3 _ (.bl _)⟩⟩
  cases e : s2.r[i]? with
  | none => rw [e] at h2; exact h2.elim
  | some c =>
    rw [e] at h2
    cases c with
    | oL l => exact lst (.inl e) h2
    | pL l => exact lst (.inr e) h2
    | oD l => exact dic (.inl e) h2
    | pD l => exact dic (.inr e) h2
    | _ => exact h2.elim
theorem evE_oIn {i : Nat} {x : Ex} {s : S} : evE glob F (.oIn x i) s = (evE glob F x s).bind fun k s1 => evIn (fun b => b) k s1.r[i]? s1 := by
  simp only [evE]
  refine congrArg _ ?_
  funext k s1
  cases e : s1.r[i]? with
  | none => rfl
  | some c => cases c <;> rfl
theorem evE_oNin {i : Nat} {x : Ex} {s : S} : evE glob F (.oNin x i) s = (evE glob F x s).bind fun k s1 => evIn (fun b => !b) k s1.r[i]? s1 := by
  simp only [evE]
  refine congrArg _ ?_
  funext k s1
  cases e : s1.r[i]? with
  | none => rfl
  | some c => cases c <;> rfl
theorem s_oIn {m : Str} {i : Nat} {a : Expr} {x : Ex} {p2 : Pos} (hu : X.A.units + 65 < cLine) (hb : PE X (.Name m p2) (tVar i)) (ha : DE X glob F Wx a x) (hm : behindInMarks .In (.Name m p2) = false) : DE X glob F Wx (.Compare a [.In] [.Name m p2] pos) (.oIn x i) :=
  (pe_cmpR (rIn_in hu) ha hb hm).imp fun σ H Q ⟨U, γ, s, ok, h⟩ => in_read ok (by rw [evE_oIn] at h; exact h)
theorem s_oInT {m : Str} {i : Nat} {a : Expr} {x : Ex} {p2 : Pos} (hu : X.A.units + 65 < cLine) (hb : PE X (.Name m p2) (tVar i)) (ha : DE X glob F Wx a x) (hm : behindInMarks .In (.Name m p2) = false) : DT X glob F Wx (.Compare a [.In] [.Name m p2] pos) (.oIn x i) :=
  (pt_cmpR (rIn_in hu) ha hb hm).imp fun σ H Q q => test_read (fun σ H Q ⟨U, γ, s, ok, h⟩ => in_read ok (by rw [evE_oIn] at h; exact h)) q
theorem s_oNin {m : Str} {i : Nat} {a : Expr} {x : Ex} {p2 : Pos} (hu : X.A.units + 65 < cLine) (hb : PE X (.Name m p2) (tVar i)) (ha : DE X glob F Wx a x) (hm : behindInMarks .NotIn (.Name m p2) = false) : DE X glob F Wx (.Compare a [.NotIn] [.Name m p2] pos) (.oNin x i) :=
  (pe_cmpR (rIn_notin hu) ha hb hm).imp fun σ H Q ⟨U, γ, s, ok, h⟩ => in_read ok (by rw [evE_oNin] at h; exact h)
theorem s_oNinT {m : Str} {i : Nat} {a : Expr} {x : Ex} {p2 : Pos} (hu : X.A.units + 65 < cLine) (hb : PE X (.Name m p2) (tVar i)) (ha : DE X glob F Wx a x) (hm : behindInMarks .NotIn (.Name m p2) = false) : DT X glob F Wx (.Compare a [.NotIn] [.Name m p2] pos) (.oNin x i) :=
  (pt_cmpR (rIn_notin hu) ha hb hm).imp fun σ H Q q => test_read (fun σ H Q ⟨U, γ, s, ok, h⟩ => in_read ok (by rw [evE_oNin] at h; exact h)) q
end
end TD

-- TK3
set_option maxHeartbeats 1000000
/-! slots are set -/
namespace TD
open PySem PySem.Spec PyProof.Rows L2
section
variable {X : Cx} {glob : Str → Option D} {F : Fs} {Wx : WX} {pos : Pos} {U : Addr → Prop} {γ : List Addr} {H : Hp} {σ σ' : L2.St} {s : S}
theorem Xt.less {C C' : Addr → Prop} (h : ∀ a, C' a → C a) : Xt U C γ H C' γ H := ⟨Ext.less fun a m => m.elim .inl fun m => .inr (h a m), fun _ _ e _ => e, fun a m => .inl (h a m)⟩
/-- σ' differs from σ at i alone -/
def At (i : Nat) (σ σ' : L2.St) : Prop := σ'.length = σ.length ∧ ∀ j, j ≠ i → σ'[j]? = σ[j]?
theorem At.set {i : Nat} {v : Option V} : At i σ (σ.set i v) := ⟨List.length_set .., fun j h => List.getElem?_set_ne (Ne.symm h)⟩
theorem At.refl {i : Nat} : At i σ σ := ⟨rfl, fun _ _ => rfl⟩
theorem owns_less {ρ : List Sl} {i j : Nat} {a : Addr} {c : Sl} (at_ : At i σ σ') (k : isOwn c = false) (h : Owns (ρ.set i c) σ' j a) : Owns ρ σ j a ∧ j ≠ i := by
  obtain ⟨⟨d, e, kd⟩, hv⟩ := owns_iff.mp h
  by_cases z : i = j
  · subst z
    have hi : i < ρ.length := by
      have := (List.getElem?_eq_some_iff.mp e).1
      rwa [List.length_set] at this
    rw [List.getElem?_set_self hi] at e
    cases (Option.some.inj e)
    rw [k] at kd; cases kd
  · rw [List.getElem?_set_ne z] at e
    rw [at_.2 j (Ne.symm z)] at hv
    exact ⟨owns_iff.mpr ⟨⟨d, e, kd⟩, hv⟩, Ne.symm z⟩
/-- a slot takes what no one owns -/
theorem Ok.put {i : Nat} {c : Sl} (ok : XOk X U γ H σ s) (at_ : At i σ σ') (k : isOwn c = false) (kp : isPk c = false)
    (new : SlOk X.prog X.w X.K (Mv U γ σ' (s.r.set i c)) γ H (σ'[i]?.join) c) : XOk X U γ H σ' { s with r := s.r.set i c } ∧ Xt U (Cv γ σ s.r) γ H (Cv γ σ' (s.r.set i c)) γ H := by
  have hO : ∀ a, Owned (s.r.set i c) σ' a → Owned s.r σ a := fun a ⟨j, q⟩ => ⟨j, (owns_less at_ k q).1⟩
  have hC : ∀ a, Cv γ σ' (s.r.set i c) a → Cv γ σ s.r a := fun a m => m.elim .inl fun m => .inr (hO a m)
  have hM : ∀ a, Mv U γ σ' (s.r.set i c) a → Mv U γ σ s.r a := fun a m => m.elim .inl fun m => .inr (hC a m)
  have x : Ext (Mv U γ σ s.r) γ H (Mv U γ σ' (s.r.set i c)) γ H := Ext.less hM
  refine ⟨⟨?_, fun j d e => ?_, ⟨ok.st.len, ok.st.nd, fun n l a e1 e2 => ?_⟩, fun b m => ok.dom b (hM b m), fun j l b q1 q2 => ?_, fun b q => ok.ng b (hO b q), fun b q => ok.nu b (hO b q), fun j b q1 q2 => ?_⟩, Xt.less hC⟩
  · show (s.r.set i c).length = _
    rw [List.length_set, at_.1]; exact ok.len
  · have e : (s.r.set i c)[j]? = some d := e
    by_cases z : i = j
    · subst z
      have hi : i < s.r.length := by
        have := (List.getElem?_eq_some_iff.mp e).1
        rwa [List.length_set] at this
      rw [List.getElem?_set_self hi] at e
      cases (Option.some.inj e)
      exact new
    · rw [List.getElem?_set_ne z] at e
      rw [at_.2 j (Ne.symm z)]
      exact (ok.sl j d e).ext x fun b hb hw => rfl
  · obtain ⟨vs, h1, r⟩ := ok.st.at_ n l a e1 e2
    exact ⟨vs, h1, r.ext x⟩
  · exact ok.inj j l b (owns_less at_ k q1).1 (owns_less at_ k q2).1
  · have e : ∀ {d : Sl}, isPk d = true → (s.r.set i c)[j]? = some d → s.r[j]? = some d ∧ j ≠ i := fun {d} hd e => by
      by_cases z : i = j
      · subst z
        have hi : i < s.r.length := by
          have := (List.getElem?_eq_some_iff.mp e).1
          rwa [List.length_set] at this
        rw [List.getElem?_set_self hi] at e
        cases (Option.some.inj e)
        rw [kp] at hd; cases hd
      · rw [List.getElem?_set_ne z] at e
        exact ⟨e, Ne.symm z⟩
    rcases q1 with ⟨l, q1⟩ | ⟨l, q1⟩
    · obtain ⟨e1, z⟩ := e rfl q1
      rw [at_.2 j z] at q2
      exact ok.pu j b (.inl ⟨l, e1⟩) q2
    · obtain ⟨e1, z⟩ := e rfl q1
      rw [at_.2 j z] at q2
      exact ok.pu j b (.inr ⟨l, e1⟩) q2
/-- .. a datum -/
theorem Ok.val {i : Nat} {v : V} {d : D} (ok : XOk X U γ H σ s) (hi : i < s.r.length) (r : XRp X U γ H σ s v d) : XOk X U γ H (σ.set i (some v)) { s with r := s.r.set i (.val d) } ∧ Xt U (Cv γ σ s.r) γ H (Cv γ (σ.set i (some v)) (s.r.set i (.val d))) γ H := by
  refine ok.put At.set rfl rfl ⟨v, ?_, ?_⟩
  · rw [List.getElem?_set_self (by rw [← ok.len]; exact hi)]; rfl
  · have hM : ∀ a, Mv U γ (σ.set i (some v)) (s.r.set i (.val d)) a → Mv U γ σ s.r a := fun a m => m.elim .inl fun m => .inr (m.elim .inl fun ⟨j, q⟩ => .inr ⟨j, (owns_less At.set rfl q).1⟩)
    exact r.ext (Ext.less hM)
/-- with one more that is held -/
def Us (U : Addr → Prop) (a : Addr) : Addr → Prop := fun b => U b ∨ b = a
theorem mv_us {ρ : List Sl} {a b : Addr} : Mv (Us U a) γ σ ρ b ↔ Mv U γ σ ρ b ∨ b = a := by
  unfold Mv Us
  constructor
  · rintro ((m | m) | m)
    · exact .inl (.inl m)
    · exact .inr m
    · exact .inl (.inr m)
  · rintro ((m | m) | m)
    · exact .inl (.inl m)
    · exact .inr m
    · exact .inl (.inr m)
/-- a slot's own object is given up: it is held outside -/
theorem Ok.give {i : Nat} {a : Addr} {c : Sl} (ok : XOk X U γ H σ s) (hc : s.r[i]? = some c) (hv : σ[i]? = some (some (.ref a))) (k : isOwn c = true) :
    XOk X (Us U a) γ H σ { s with r := s.r.set i .no } ∧ Xt U (Cv γ σ s.r) γ H (Cv γ σ (s.r.set i .no)) γ H ∧ SlOk X.prog X.w X.K (Mv (Us U a) γ σ (s.r.set i .no)) γ H (some (.ref a)) c ∧ ¬ Mv U γ σ (s.r.set i .no) a ∧ Cv γ σ s.r a := by
  have own : Owns s.r σ i a := owns_iff.mpr ⟨⟨c, hc, k⟩, hv⟩
  have hi : i < s.r.length := (List.getElem?_eq_some_iff.mp hc).1
  have hO : ∀ b, Owned (s.r.set i .no) σ b → Owned s.r σ b ∧ b ≠ a := fun b ⟨j, q⟩ => by
    obtain ⟨q1, q2⟩ := owns_less At.refl rfl q
    exact ⟨⟨j, q1⟩, fun z => by subst z; exact q2 (ok.inj _ _ _ q1 own)⟩
  have hC : ∀ b, Cv γ σ (s.r.set i .no) b → Cv γ σ s.r b := fun b m => m.elim .inl fun m => .inr (hO b m).1
  have hM : ∀ b, Mv (Us U a) γ σ (s.r.set i .no) b → Mv U γ σ s.r b := fun b m => (mv_us.mp m).elim (fun m => m.elim .inl fun m => .inr (hC b m)) fun m => by
    subst m; exact .inr (.inr ⟨i, own⟩)
  have x : Ext (Mv U γ σ s.r) γ H (Mv (Us U a) γ σ (s.r.set i .no)) γ H := Ext.less hM
  have na : ¬ Mv U γ σ (s.r.set i .no) a := by
    rintro (m | m | m)
    · exact ok.nu a ⟨i, own⟩ m
    · exact ok.ng a ⟨i, own⟩ m
    · exact (hO a m).2 rfl
  obtain ⟨ok1, x1⟩ := ok.put (c := .no) (i := i) At.refl rfl rfl trivial
  refine ⟨⟨ok1.len, fun j d e => ?_, ⟨ok.st.len, ok.st.nd, fun n l b e1 e2 => ?_⟩, fun b m => ok.dom b (hM b m), ok1.inj, ok1.ng, fun b q => ?_, fun j b q1 q2 => ?_⟩, x1, ?_, na, .inr ⟨i, own⟩⟩
  · have e : (s.r.set i .no)[j]? = some d := e
    by_cases z : i = j
    · subst z
      rw [List.getElem?_set_self hi] at e
      cases (Option.some.inj e)
      trivial
    · rw [List.getElem?_set_ne z] at e
      exact (ok.sl j d e).ext x fun b hb hw => rfl
  · obtain ⟨vs, h1, r⟩ := ok.st.at_ n l b e1 e2
    exact ⟨vs, h1, r.ext x⟩
  · obtain ⟨q1, q2⟩ := hO b q
    exact fun m => m.elim (ok.nu b q1) q2
  · obtain ⟨m, n⟩ := ok1.pu j b q1 q2
    exact ⟨.inl m, n⟩
  · have old := ok.sl i c hc
    rw [hv] at old
    exact old.ext x fun b hb hw => rfl
/-- a held object becomes a slot's own -/
theorem Ok.own {i : Nat} {a : Addr} {c : Sl} (ok0 : XOk X U γ H σ s) (ok : XOk X (Us U a) γ H σ s) (hi : i < s.r.length) (na : ¬ Mv U γ σ s.r a) (k : isOwn c = true) (new : SlOk X.prog X.w X.K (Mv (Us U a) γ σ s.r) γ H (some (.ref a)) c) :
    XOk X U γ H (σ.set i (some (.ref a))) { s with r := s.r.set i c } ∧ ∀ b, Cv γ (σ.set i (some (.ref a))) (s.r.set i c) b → Cv γ σ s.r b ∨ b = a := by
  have hs : i < σ.length := by rw [← ok.len]; exact hi
  have owns : ∀ {j : Nat} {b : Addr}, Owns (s.r.set i c) (σ.set i (some (.ref a))) j b → (j = i ∧ b = a) ∨ (j ≠ i ∧ Owns s.r σ j b) := fun {j b} q => by
    obtain ⟨⟨d, e, kd⟩, hv⟩ := owns_iff.mp q
    by_cases z : i = j
    · subst z
      rw [List.getElem?_set_self hs] at hv
      cases hv
      exact .inl ⟨rfl, rfl⟩
    · rw [List.getElem?_set_ne z] at e hv
      exact .inr ⟨Ne.symm z, owns_iff.mpr ⟨⟨d, e, kd⟩, hv⟩⟩
  have hO : ∀ b, Owned (s.r.set i c) (σ.set i (some (.ref a))) b → Owned s.r σ b ∨ b = a := fun b ⟨j, q⟩ => (owns q).elim (fun q => .inr q.2) fun q => .inl ⟨j, q.2⟩
  have hC : ∀ b, Cv γ (σ.set i (some (.ref a))) (s.r.set i c) b → Cv γ σ s.r b ∨ b = a := fun b m => m.elim (fun m => .inl (.inl m)) fun m => (hO b m).elim (fun m => .inl (.inr m)) .inr
  have hM : ∀ b, Mv U γ (σ.set i (some (.ref a))) (s.r.set i c) b → Mv (Us U a) γ σ s.r b := fun b m => mv_us.mpr (m.elim (fun m => .inl (.inl m)) fun m => (hC b m).elim (fun m => .inl (.inr m)) .inr)
  have x : Ext (Mv (Us U a) γ σ s.r) γ H (Mv U γ (σ.set i (some (.ref a))) (s.r.set i c)) γ H := Ext.less hM
  have nO : ¬ Owned s.r σ a := fun m => na (.inr (.inr m))
  refine ⟨⟨?_, fun j d e => ?_, ⟨ok.st.len, ok.st.nd, fun n l b e1 e2 => ?_⟩, fun b m => ok.dom b (hM b m), fun j l b q1 q2 => ?_, fun b q => ?_, fun b q => ?_, fun j b q1 q2 => ?_⟩, hC⟩
  · show (s.r.set i c).length = _
    rw [List.length_set, List.length_set]; exact ok.len
  · have e : (s.r.set i c)[j]? = some d := e
    by_cases z : i = j
    · subst z
      rw [List.getElem?_set_self hi] at e
      cases (Option.some.inj e)
      rw [List.getElem?_set_self hs]
      exact new.ext x fun b hb hw => rfl
    · rw [List.getElem?_set_ne z] at e
      rw [List.getElem?_set_ne z]
      exact (ok.sl j d e).ext x fun b hb hw => rfl
  · obtain ⟨vs, h1, r⟩ := ok.st.at_ n l b e1 e2
    exact ⟨vs, h1, r.ext x⟩
  · rcases owns q1 with ⟨z1, w1⟩ | ⟨z1, q1⟩
    · rcases owns q2 with ⟨z2, _⟩ | ⟨z2, q3⟩
      · rw [z1, z2]
      · rw [w1] at q3; exact absurd ⟨_, q3⟩ nO
    · rcases owns q2 with ⟨z2, w2⟩ | ⟨z2, q3⟩
      · rw [w2] at q1; exact absurd ⟨_, q1⟩ nO
      · exact ok.inj _ _ _ q1 q3
  · rcases hO b q with q | rfl
    · exact ok.ng b q
    · exact fun m => na (.inr (.inl m))
  · rcases hO b q with q | rfl
    · exact fun m => ok.nu b q (.inl m)
    · exact fun m => na (.inl m)
  · have e : ∀ {d : Sl}, isPk d = true → (s.r.set i c)[j]? = some d → s.r[j]? = some d ∧ j ≠ i := fun {d} hd e => by
      by_cases z : i = j
      · subst z
        rw [List.getElem?_set_self hi] at e
        cases (Option.some.inj e)
        cases c <;> first | (cases hd; done) | cases k
      · rw [List.getElem?_set_ne z] at e
        exact ⟨e, Ne.symm z⟩
    have fin : (∃ d, isPk d = true ∧ (s.r.set i c)[j]? = some d ∧ ((∃ l, d = .pL l) ∨ ∃ l, d = .pD l)) → U b ∧ b ∉ γ := fun ⟨d, hd, q, w⟩ => by
      obtain ⟨e1, z⟩ := e hd q
      rw [List.getElem?_set_ne (Ne.symm z)] at q2
      have hp : (∃ l, s.r[j]? = some (.pL l)) ∨ ∃ l, s.r[j]? = some (.pD l) := w.elim (fun ⟨l, w⟩ => .inl ⟨l, by rw [e1, w]⟩) fun ⟨l, w⟩ => .inr ⟨l, by rw [e1, w]⟩
      exact ok0.pu j b hp q2
    rcases q1 with ⟨l, q1⟩ | ⟨l, q1⟩
    · exact fin ⟨_, rfl, q1, .inl ⟨l, rfl⟩⟩
    · exact fin ⟨_, rfl, q1, .inr ⟨l, rfl⟩⟩
end
end TD

-- TK4
set_option maxHeartbeats 1000000
/-! what is fresh; pops -/
namespace TD
open PySem PySem.Spec PyProof.Rows L2
/-- what a fresh list, a fresh dict may rely on -/
def kFp (P : Program) (w : World) (K : PySem.W.Frag) (U : Addr → Prop) (γ : List Addr) (H : Hp) (σ : L2.St) (s : S) (Q : VK) : D → S → List Addr → Hp → Prop := fun d s' γ' H' => match ownS d with
  | some c => ∀ a, ¬ Mv U γ' σ s'.r a → (Cv γ σ s.r a ∨ H a = none) → SlOk P w K (Mv (Us U a) γ' σ s'.r) γ' H' (some (.ref a)) c → Ok P w K (Us U a) γ' H' σ s' → Q (.ref a) H'
  | none => ∀ v, Rp P w K (Mv U γ' σ s'.r) γ' H' v d → Q v H'
section
variable (X : Cx) (glob : Str → Option D) (F : Fs) (Wx : WX)
abbrev kF (U : Addr → Prop) (γ : List Addr) (H : Hp) (σ : L2.St) (s : S) (Q : VK) : D → S → List Addr → Hp → Prop := kFp X.prog X.w X.K U γ H σ s Q
def rdF (x : Ex) : TE := fun σ H Q => ∃ U γ s, XOk X U γ H σ s ∧ RR X Wx U γ H σ s (evE glob F x s) (kF X U γ H σ s Q)
abbrev DF (e : Expr) (x : Ex) : Prop := PE X e (rdF X glob F Wx x)
end
section
variable {X : Cx} {glob : Str → Option D} {F : Fs} {Wx : WX} {pos : Pos} {U : Addr → Prop} {γ γ1 : List Addr} {H H1 : Hp} {σ : L2.St} {s s1 : S}
theorem SlOk.rp {a : Addr} {c : Sl} {d : D} (ho : ownS d = some c) (na : ¬ Mv U γ σ s.r a) (h : SlOk X.prog X.w X.K (Mv (Us U a) γ σ s.r) γ H (some (.ref a)) c) : XRp X U γ H σ s (.ref a) d := by
  have x : Ext (Mv (Us U a) γ σ s.r) γ H (Mv U γ σ s.r) γ H := Ext.less fun b m => mv_us.mpr (.inl m)
  cases d with
  | lst l =>
    cases (Option.some.inj ho)
    obtain ⟨b, vs, e, h1, r⟩ := h
    cases e
    exact .lst (.inl h1) na (r.ext x)
  | dic l =>
    cases (Option.some.inj ho)
    obtain ⟨b, e, o, es, ep, xs, h1, h2, h3, h4, h5, h6, h7, r⟩ := h
    cases e
    exact .dic h1 na h2 h3 h4 h5 h6 h7 (r.ext x)
  | _ => cases ho
theorem DF.e {e : Expr} {x : Ex} (h : DF X glob F Wx e x) : DE X glob F Wx e x := h.imp fun σ H Q ⟨U, γ, s, ok, h⟩ => ⟨U, γ, s, ok, h.imp fun d s' γ' H' ok' x' k => by
  unfold kF kFp
  cases ho : ownS d with
  | none => exact k
  | some c => exact fun a na _ sl _ => k _ (SlOk.rp ho na sl)⟩
/-- a new object that is held outside -/
theorem Ok.fresh {p : Addr} {o : HO} (ok : XOk X U γ H σ s) (hp : H p = none) : XOk X (Us U p) γ (upd H p o) σ s := by
  have sm : Same H (upd H p o) := same_upd hp
  have x : Ext (Mv U γ σ s.r) γ H (Mv (Us U p) γ σ s.r) γ (upd H p o) := by
    refine ⟨fun a o' e _ => sm a o' e, fun a m => ?_, fun a xs e => sm _ _ e, fun a o u e => sm _ _ e, fun a n => ?_, ⟨[], by simp⟩⟩
    · rcases mv_us.mp m with m | m
      · exact .inl m
      · exact .inr (by rw [m]; exact hp)
    · by_cases z : a = p
      · rw [z] at n; exact absurd hp n
      · rw [upd_ne z]; exact n
  have k : ∀ {a : Addr}, H a ≠ none → (upd H p o) a = H a := fun {a} n => upd_ne fun z => n (by rw [z]; exact hp)
  refine ⟨ok.len, fun i c e => (ok.sl i c e).ext x fun a hb hw => k ((ok.sl i c e).there hb hw), ⟨ok.st.len, ok.st.nd, fun n l a e1 e2 => ?_⟩, fun a m => ?_, ok.inj, ok.ng, fun a q m => ?_, fun i a q1 q2 => ?_⟩
  · obtain ⟨vs, h1, r⟩ := ok.st.at_ n l a e1 e2
    exact ⟨vs, sm _ _ h1, r.ext x⟩
  · rcases mv_us.mp m with m | m
    · exact x.dom a (ok.dom a m)
    · rw [m, upd_same]; exact fun z => nomatch z
  · rcases m with m | m
    · exact ok.nu a q m
    · exact ok.dom a (.inr (.inr q)) (by rw [m]; exact hp)
  · obtain ⟨m, n⟩ := ok.pu i a q1 q2
    exact ⟨.inl m, n⟩
theorem Xt.none_ {C C' : Addr → Prop} (x : Xt U C γ H C' γ1 H1) {a : Addr} (h : H1 a = none) : H a = none := by
  cases q : H a with
  | none => rfl
  | some o => exact absurd h (x.e.dom a (by rw [q]; exact fun z => nomatch z))
theorem fresh_lst {ds : List D} {vs : List V} {p : Addr} {Q : VK} (ok1 : XOk X U γ1 H1 σ s1) (x1 : Xt U (Cv γ σ s.r) γ H (Cv γ1 σ s1.r) γ1 H1) (h1 : RR X Wx U γ1 H1 σ s1 (.ok (.lst ds) s1) (kF X U γ H σ s Q))
    (rs : XRs X (Mv U γ1 σ s1.r) γ1 H1 vs ds) (hp : H1 p = none) : Q (.ref p) (upd H1 p (.lst vs)) := by
  have ok2 := ok1.fresh (o := .lst vs) hp
  refine h1 γ1 _ (ok1.same (same_upd hp)) (Xt.same (same_upd hp)) p (fun m => ok1.dom _ m hp) (.inr (x1.none_ hp)) ⟨p, vs, rfl, upd_same, ?_⟩ ok2
  refine rs.ext ⟨fun a o e _ => same_upd hp a o e, fun a m => ?_, fun a xs e => same_upd hp _ _ e, fun a o u e => same_upd hp _ _ e, fun a n => ?_, ⟨[], by simp⟩⟩
  · rcases mv_us.mp m with m | m
    · exact .inl m
    · exact .inr (by rw [m]; exact hp)
  · by_cases z : a = p
    · rw [z] at n; exact absurd hp n
    · rw [upd_ne z]; exact n
theorem f_lst {es : List Expr} {xs : List Ex} (h : DA X glob F Wx es xs) (hl : xs.length ≤ sizeLine) : DF X glob F Wx (.List es pos) (.lst xs) := (pe_lst h).imp fun σ H Q ⟨U, γ, s, ok, h⟩ => by
  simp only [evE] at h
  refine ⟨U, γ, s, ok, (RR.bind h).impE fun ds s1 γ1 H1 e ok1 x1 h1 vs rs => ⟨?_, fun p hp => fresh_lst ok1 x1 h1 rs hp⟩⟩
  rw [rs.length, evEs_len e]; exact hl
/-- list(xs) -/
theorem f_list {n : Str} {a : Expr} {x : Ex} {p : Pos} (hc : X.calm = true) (hg : Gl X n) (hm : X.mg n = none) (hv : bootBuiltins n = some (.type "list")) (hn : n ≠ "__name__") (hd : (n == ("__debug__" : Str)) = false) (ha : DE X glob F Wx a x)
    (hs : starEach [a] X.env = (false, eval a X.env) :: starEach [] X.env) : DF X glob F Wx (.Call (.Name n p) [a] [] pos) (.f1 .list x) := by
  have hl : CallR X (.type "list") (fun xs H Q => (∃ p ys, xs = [.ref p] ∧ (SqL X.K H p ys ∨ SqT X.K H p ys) ∧ ∀ l, H l = none → Q (.ref l) (upd H l (.lst ys))) ∨
      ∃ M γ c l, xs = [.ref c] ∧ IsDic X.prog X.w X.K M γ H c l ∧ ∀ p vs, H p = none → XRs X M γ H vs (l.map (·.1)) → Q (.ref p) (upd H p (.lst vs))) := call_list_of.or fun pins s σ H xs us Q I r ⟨M, γ, c, l, e, hd, q⟩ => by
    subst e
    cases r with
    | cons r1 r2 =>
      cases r2
      cases r1
      exact listdic_ok I hc hd q
  refine (pe_callTy hl hg hm hv (pa_cons ha pa_nil hs) hn hd hs).imp fun σ H Q ⟨U, γ, s, ok, h⟩ => ⟨U, γ, s, ok, ?_⟩
  simp only [evE] at h
  refine (RR.bind h).imp fun d s1 γ1 H1 ok1 x1 h1 v rv => ?_
  obtain ⟨d', e, h2⟩ := h1.of
  cases d with
  | lst l =>
    cases (Option.some.inj e)
    cases rv with
    | lst q n t => exact .inl ⟨_, _, rfl, .inl (sqL_of q), fun p hp => fresh_lst ok1 x1 h2 t hp⟩
  | tup l =>
    cases (Option.some.inj e)
    cases rv with
    | tup q t => exact .inl ⟨_, _, rfl, .inr q, fun p hp => fresh_lst ok1 x1 h2 t hp⟩
  | dic l =>
    cases (Option.some.inj e)
    obtain ⟨c, rfl, _, hd⟩ := rv.isDic
    exact .inr ⟨_, γ1, c, l, rfl, hd, fun p vs hp rs => fresh_lst ok1 x1 h2 rs hp⟩
  | _ => cases e
/-- an owned slot, given away for good -/
theorem f_move {i : Nat} {m : Str} {p : Pos} (ha : PE X (.Name m p) (tVar i)) : DF X glob F Wx (.Name m p) (.move i) := ha.imp fun σ H Q ⟨U, γ, s, ok, h⟩ => by
  simp only [evE] at h
  have fin : ∀ {a : Addr} {c : Sl} {d : D}, ownS d = some c → s.r[i]? = some c → σ[i]? = some (some (.ref a)) → isOwn c = true → RR X Wx U γ H σ s (.ok d { s with r := s.r.set i .no }) (kF X U γ H σ s Q) → ∃ v, σ[i]? = some (some v) ∧ Q v H := fun {a c d} ho hc hv k h => by
    obtain ⟨ok1, x1, sl, na, ca⟩ := ok.give hc hv k
    refine ⟨_, hv, ?_⟩
    have h := h γ H (ok.put (c := .no) At.refl rfl rfl trivial).1 x1
    unfold kF kFp at h
    rw [ho] at h
    exact h a na (.inl ca) sl ok1
  cases e : s.r[i]? with
  | none => rw [e] at h; exact h.elim
  | some c =>
    rw [e] at h
    cases c with
    | oL l => obtain ⟨a, vs, e1, _⟩ := ok.oL (.inl e); exact fin (c := .oL l) (d := .lst l) rfl e e1 rfl h
    | oD l => obtain ⟨a, e1, _⟩ := ok.oD (.inl e); exact fin (c := .oD l) (d := .dic l) rfl e e1 rfl h
    | _ => exact h.elim
/-- .. to be a datum from now on -/
theorem s_take {i : Nat} {m : Str} {p : Pos} (ha : PE X (.Name m p) (tVar i)) : DE X glob F Wx (.Name m p) (.take i) := ha.imp fun σ H Q ⟨U, γ, s, ok, h⟩ => by
  simp only [evE] at h
  have fin : ∀ {a : Addr} {c : Sl} {d : D}, ownS d = some c → s.r[i]? = some c → σ[i]? = some (some (.ref a)) → isOwn c = true → RR X Wx U γ H σ s (.ok d { s with r := s.r.set i (.val d) }) (fun d s' γ' H' => ∀ v, XRp X U γ' H' σ s' v d → Q v H') → ∃ v, σ[i]? = some (some v) ∧ Q v H := fun {a c d} ho hc hv k h => by
    obtain ⟨ok1, x1, sl, na, ca⟩ := ok.give hc hv k
    have hi : i < s.r.length := (List.getElem?_eq_some_iff.mp hc).1
    have e0 : ∀ (d : D), Owned (s.r.set i (.val d)) σ = Owned (s.r.set i .no) σ := fun d => funext fun b => propext ⟨fun ⟨j, q⟩ => by
        obtain ⟨q1, q2⟩ := owns_less At.refl rfl q
        refine ⟨j, owns_iff.mpr ⟨?_, (owns_iff.mp q1).2⟩⟩
        rw [List.getElem?_set_ne (Ne.symm q2)]
        exact (owns_iff.mp q1).1, fun ⟨j, q⟩ => by
        obtain ⟨q1, q2⟩ := owns_less At.refl rfl q
        refine ⟨j, owns_iff.mpr ⟨?_, (owns_iff.mp q1).2⟩⟩
        rw [List.getElem?_set_ne (Ne.symm q2)]
        exact (owns_iff.mp q1).1⟩
    have eM : Mv U γ σ (s.r.set i (.val d)) = Mv U γ σ (s.r.set i .no) := by unfold Mv Cv; rw [e0]
    have r : Rp X.prog X.w X.K (Mv U γ σ (s.r.set i (.val d))) γ H (.ref a) d := by
      rw [eM]
      exact SlOk.rp (s := { s with r := s.r.set i .no }) ho na sl
    obtain ⟨ok2, x2⟩ := ok.put (i := i) (c := .val d) At.refl rfl rfl ⟨_, by rw [hv]; rfl, r⟩
    exact ⟨_, hv, h γ H ok2 x2 _ r⟩
  cases e : s.r[i]? with
  | none => rw [e] at h; exact h.elim
  | some c =>
    rw [e] at h
    cases c with
    | oL l => obtain ⟨a, vs, e1, _⟩ := ok.oL (.inl e); exact fin (c := .oL l) (d := .lst l) rfl e e1 rfl h
    | oD l => obtain ⟨a, e1, _⟩ := ok.oD (.inl e); exact fin (c := .oD l) (d := .dic l) rfl e e1 rfl h
    | _ => exact h.elim
/-- tuple(xs), list(xs) of an owned one -/
theorem s_oTup {n m : Str} {i : Nat} {p p2 : Pos} (hg : Gl X n) (hm : X.mg n = none) (hv : bootBuiltins n = some (.type "tuple")) (hn : n ≠ "__name__") (hd : (n == ("__debug__" : Str)) = false) (ha : PE X (.Name m p2) (tVar i))
    (hs : starEach [.Name m p2] X.env = (false, eval (.Name m p2) X.env) :: starEach [] X.env) : DE X glob F Wx (.Call (.Name n p) [.Name m p2] [] pos) (.oTup i) :=
  (pe_callTy call_tuple_of hg hm hv (pa_cons ha pa_nil hs) hn hd hs).imp fun σ H Q ⟨U, γ, s, ok, h⟩ => by
    simp only [evE] at h
    cases e : s.r[i]? with
    | none => rw [e] at h; exact h.elim
    | some c =>
      rw [e] at h
      cases c with
      | oL l => obtain ⟨a, vs, e1, e2, r⟩ := ok.oL (.inl e); exact ⟨_, e1, _, vs, rfl, .inl ⟨.of e2, fun p hp => RR.grow ok h (same_upd hp) _ (new_tup hp r)⟩⟩
      | pL l => obtain ⟨a, vs, e1, e2, r⟩ := ok.oL (.inr e); exact ⟨_, e1, _, vs, rfl, .inl ⟨.of e2, fun p hp => RR.grow ok h (same_upd hp) _ (new_tup hp r)⟩⟩
      | _ => exact h.elim
theorem f_oLst {n m : Str} {i : Nat} {p p2 : Pos} (hc : X.calm = true) (hg : Gl X n) (hm : X.mg n = none) (hv : bootBuiltins n = some (.type "list")) (hn : n ≠ "__name__") (hd : (n == ("__debug__" : Str)) = false) (ha : PE X (.Name m p2) (tVar i))
    (hs : starEach [.Name m p2] X.env = (false, eval (.Name m p2) X.env) :: starEach [] X.env) : DF X glob F Wx (.Call (.Name n p) [.Name m p2] [] pos) (.oLst i) := by
  have hl : CallR X (.type "list") (fun xs H Q => (∃ p ys, xs = [.ref p] ∧ (SqL X.K H p ys ∨ SqT X.K H p ys) ∧ ∀ l, H l = none → Q (.ref l) (upd H l (.lst ys))) ∨
      ∃ M γ c l, xs = [.ref c] ∧ IsDic X.prog X.w X.K M γ H c l ∧ ∀ p vs, H p = none → XRs X M γ H vs (l.map (·.1)) → Q (.ref p) (upd H p (.lst vs))) := call_list_of.or fun pins s σ H xs us Q I r ⟨M, γ, c, l, e, hd, q⟩ => by
    subst e
    cases r with
    | cons r1 r2 =>
      cases r2
      cases r1
      exact listdic_ok I hc hd q
  refine (pe_callTy hl hg hm hv (pa_cons ha pa_nil hs) hn hd hs).imp fun σ H Q ⟨U, γ, s, ok, h⟩ => ?_
  simp only [evE] at h
  cases e : s.r[i]? with
  | none => rw [e] at h; exact h.elim
  | some c =>
    rw [e] at h
    cases c with
    | oL l => obtain ⟨a, vs, e1, e2, r⟩ := ok.oL (.inl e); exact ⟨_, e1, .inl ⟨_, vs, rfl, .inl (.of e2), fun p hp => fresh_lst ok Xt.refl h r hp⟩⟩
    | pL l => obtain ⟨a, vs, e1, e2, r⟩ := ok.oL (.inr e); exact ⟨_, e1, .inl ⟨_, vs, rfl, .inl (.of e2), fun p hp => fresh_lst ok Xt.refl h r hp⟩⟩
    | oD l => obtain ⟨a, e1, r⟩ := ok.oD (.inl e); exact ⟨_, e1, .inr ⟨_, γ, a, l, rfl, r, fun p vs hp rs => fresh_lst ok Xt.refl h rs hp⟩⟩
    | pD l => obtain ⟨a, e1, r⟩ := ok.oD (.inr e); exact ⟨_, e1, .inr ⟨_, γ, a, l, rfl, r, fun p vs hp rs => fresh_lst ok Xt.refl h rs hp⟩⟩
    | _ => exact h.elim
end
end TD

-- TL
set_option maxHeartbeats 1000000
/-! plain expressions; methods of owned lists -/
namespace TD
open PySem PySem.Spec PyProof.Rows L2
/-- no star, no set display, no slice, no def's own forms -/
def plainX : Expr → Bool
  | .Starred .. => false
  | .Set .. => false
  | .Slice .. => false
  | .SetComp .. => false
  | .GeneratorExp .. => false
  | .Lambda .. => false
  | .NamedExpr .. => false
  | .Yield .. => false
  | .YieldFrom .. => false
  | .Await .. => false
  | _ => true
def isCompX : Expr → Bool
  | .ListComp .. => true
  | .SetComp .. => true
  | .DictComp .. => true
  | _ => false
theorem star_plain {e : Expr} {es : List Expr} {env : Env} (h : plainX e = true) : starEach (e :: es) env = (false, eval e env) :: starEach es env := by
  cases e <;> first | rfl | cases h
theorem in_plain {o : CmpOp} {e : Expr} (h : plainX e = true) : behindInMarks o e = false := by cases e <;> first | rfl | cases h
theorem fold_plain {e : Expr} {env : Env} (h : plainX e = true) (x : Value) : foldedSetIterable e env x = pure x := by cases e <;> first | rfl | cases h
theorem ix_plain {e : Expr} (h : plainX e = true) : PlainIx e := fun o i => by cases e <;> first | rfl | cases h
theorem swap_plain {e : Expr} {t : Option Expr} {l : Nat} {env : Env} (h : isCompX e = false) : swapsWith e t l env = pure false := by cases e <;> first | rfl | cases h
theorem base_name {x n : Str} {p : Pos} {env : Env} : attributeBase (.Name x p) n env (eval (.Name x p) env) = eval (.Name x p) env := rfl
def plainXs : List Expr → Bool
  | [] => true
  | e :: es => plainX e && plainXs es
theorem backs_plain {pos : Pos} {env : Env} : ∀ {es : List Expr}, plainXs es = true → (backTo pos (starEach es env)).any (·.1) = false ∧ (backTo pos (starEach es env)).all (fun x => !x.1) = true ∧ (starEach es env).length = es.length
  | [], _ => ⟨rfl, rfl, rfl⟩
  | e :: es, h => by
    have h : (plainX e && plainXs es) = true := h
    rw [Bool.and_eq_true] at h
    obtain ⟨h1, h2, h3⟩ := backs_plain (pos := pos) (env := env) h.2
    rw [star_plain h.1]
    refine ⟨?_, ?_, by simp [h3]⟩
    · show (false || (backTo pos (starEach es env)).any (·.1)) = false
      rw [h1]; rfl
    · show (!false && (backTo pos (starEach es env)).all (fun x => !x.1)) = true
      rw [h2]; rfl
theorem few_plain {pos : Pos} {env : Env} {es : List Expr} (h : plainXs es = true) (hl : es.length < 30) : ((backTo pos (starEach es env)).all (fun x => !x.1) && (backToKw pos (keywordEach [] env)).all (fun x => x.1.isSome)
      && decide (es.length + ([] : List Keyword).length + (if ([] : List Keyword).isEmpty then 0 else 1) < 30)) = true := by
  rw [(backs_plain h).2.1]
  simp [backToKw, keywordEach]
  exact hl
section
variable {X : Cx} {glob : Str → Option D} {F : Fs} {Wx : WX} {pos : Pos} {U : Addr → Prop} {γ γ1 : List Addr} {H H1 : Hp} {σ : L2.St} {s s1 : S}
theorem Rps.getLast {M : Addr → Prop} : ∀ {vs : List V} {l : List D} {d : D}, XRs X M γ H vs l → l.getLast? = some d → ∃ v, vs[vs.length - 1]? = some v ∧ XR X M γ H v d := fun {vs l d} r h => by
  rw [List.getLast?_eq_getElem?] at h
  obtain ⟨v, e, q⟩ := r.get' h
  exact ⟨v, by rw [r.length]; exact e, q⟩
theorem Rps.dropLast {M : Addr → Prop} {vs : List V} {l : List D} (r : XRs X M γ H vs l) : XRs X M γ H vs.dropLast l.dropLast := by
  rw [List.dropLast_eq_take, List.dropLast_eq_take, r.length]
  exact Rps.take _ r
theorem Rps.eraseIdx {M : Addr → Prop} : ∀ {vs : List V} {l : List D} (i : Nat), XRs X M γ H vs l → XRs X M γ H (vs.eraseIdx i) (l.eraseIdx i)
  | _, _, _, .nil => .nil
  | _, _, 0, .cons _ r => r
  | _, _, i + 1, .cons q r => .cons q (Rps.eraseIdx i r)
/-- the slot's own list becomes another -/
theorem Ok.lst {i : Nat} {a : Addr} {l l' : List D} {vs vs' : List V} (ok : XOk X U γ H σ s) (hc : s.r[i]? = some (.oL l)) (hv : σ[i]? = some (some (.ref a))) (h : H a = some (.lst vs)) (r : XRs X (Mv U γ σ s.r) γ H vs' l') :
    XOk X U γ (upd H a (.lst vs')) σ { s with r := s.r.set i (.oL l') } ∧ Xt U (Cv γ σ s.r) γ H (Cv γ σ (s.r.set i (.oL l'))) γ (upd H a (.lst vs')) := by
  have own : Cv γ σ s.r a := .inr ⟨i, owns_iff.mpr ⟨⟨_, hc, rfl⟩, hv⟩⟩
  have x : Xt U (Cv γ σ s.r) γ H (Cv γ σ s.r) γ (upd H a (.lst vs')) := Xt.write h (.inl ⟨vs, rfl⟩) own
  exact ok.change hc hv rfl rfl h (.inl ⟨vs, rfl⟩) ⟨a, vs', rfl, upd_same, r.ext x.e⟩
theorem s_oPop {m : Str} {i : Nat} {p2 apos : Pos} (ha : PE X (.Name m p2) (tVar i)) (hl : (apos.endLine == pos.line) = true) : DE X glob F Wx (.Call (.Attribute (.Name m p2) "pop" apos) [] [] pos) (.oPop i) :=
  (pe_bm0 PySem.F.plainAttrs_list PySem.F.slot_list_pop PySem.F.type_list_pop mt_pop ha base_name hl).imp fun σ H Q ⟨U, γ, s, ok, h⟩ => by
    simp only [evE] at h
    cases e : s.r[i]? with
    | none => rw [e] at h; exact h.elim
    | some c =>
      rw [e] at h
      cases c with
      | oL l =>
        obtain ⟨a, vs, e1, e2, r⟩ := ok.oL (.inl e)
        dsimp only at h
        cases e3 : l.getLast? with
        | none => rw [e3] at h; exact h.elim
        | some d =>
          rw [e3] at h
          obtain ⟨v, e4, rv⟩ := Rps.getLast r e3
          obtain ⟨ok1, x1⟩ := ok.lst e e1 e2 (Rps.dropLast r)
          exact ⟨_, e1, .inl ⟨rfl, vs, .of e2⟩, a, vs, v, rfl, rfl, e2, e4, h γ _ ok1 x1 _ (rv.ext x1.e)⟩
      | _ => exact h.elim
theorem s_oPopAt {m : Str} {i : Nat} {b : Expr} {y : Ex} {p2 apos : Pos} (ha : PE X (.Name m p2) (tVar i)) (hb : DE X glob F Wx b y) (hl : (apos.endLine == pos.line) = true) (hp : plainX b = true) : DE X glob F Wx (.Call (.Attribute (.Name m p2) "pop" apos) [b] [] pos) (.oPopAt i y) :=
  (pe_bm PySem.F.plainAttrs_list PySem.F.slot_list_pop PySem.F.type_list_pop mt_popAt ha (pa_cons hb pa_nil (star_plain hp)) base_name (few_plain (by simp [plainXs, hp]) (by simp)) hl (star_plain hp) rfl).imp fun σ H Q ⟨U, γ, s, ok, h⟩ => by
    simp only [evE] at h
    obtain ⟨hc, h⟩ := h.ite_t
    obtain ⟨a, vs, ea, e2⟩ := ok.hasL hc
    refine ⟨_, ea, .inl ⟨rfl, vs, .of e2⟩, U, γ, s, ok, (RR.bind h).imp fun k s2 γ2 H2 ok2 x2 h2 u ru => ?_⟩
    cases e : s2.r[i]? with
    | none => rw [e] at h2; exact h2.elim
    | some c =>
      rw [e] at h2
      cases c with
      | oL l =>
        obtain ⟨a', vs, e1, e2, rs⟩ := ok2.oL (.inl e)
        cases some_ref ea e1
        cases k with
        | int j =>
          dsimp only at h2
          obtain ⟨⟨j0, j1⟩, h2⟩ := h2.ite_t
          cases e3 : l[j.toNat]? with
          | none => rw [e3] at h2; exact h2.elim
          | some d =>
            rw [e3] at h2
            cases ru
            obtain ⟨v, e4, rv⟩ := rs.get' e3
            obtain ⟨ok3, x3⟩ := ok2.lst e e1 e2 (Rps.eraseIdx j.toNat rs)
            have hj : j.toNat < vs.length := (List.getElem?_eq_some_iff.mp e4).1
            exact ⟨a, vs, j, j.toNat, v, rfl, rfl, e2, by omega, by omega, seqIndex_of j0 (by omega), e4, h2 γ2 _ ok3 x3 _ (rv.ext x3.e)⟩
        | _ => exact h2.elim
      | _ => exact h2.elim
end
end TD

-- TM
set_option maxHeartbeats 1000000
/-! calls -/
namespace TD
open PySem PySem.Spec PyProof.Rows L2
/-- RR, of no body in particular -/
def RRp (P : Program) (w : World) (K : PySem.W.Frag) (mg : Str → Option Value) (Wx : WX) {α : Type} (U : Addr → Prop) (γ : List Addr) (H : Hp) (σ : L2.St) (s : S) (r : R α) (k : α → S → List Addr → Hp → Prop) : Prop := match r with
  | .ok a s' => ∀ γ' H', Ok P w K U γ' H' σ s' → Xt U (Cv γ σ s.r) γ H (Cv γ' σ s'.r) γ' H' → k a s' γ' H'
  | .exc e s' => ∀ γ' H' c dx, Ok P w K U γ' H' σ s' → Xt U (Cv γ σ s.r) γ H (Cv γ' σ s'.r) γ' H' → XRep K mg P w (Mv U γ' σ s'.r) γ' H' e c dx → Wx c dx σ H'
  | .bad => False
theorem RRp.eq {X : Cx} {Wx : WX} {α : Type} {U : Addr → Prop} {γ : List Addr} {H : Hp} {σ : L2.St} {s : S} {r : R α} {k : α → S → List Addr → Hp → Prop} : RRp X.prog X.w X.K X.mg Wx U γ H σ s r k = RR X Wx U γ H σ s r k := by cases r <;> rfl
/-- what stands behind a value: fr: a fresh list, a fresh dict, if it is one -/
def kV (P : Program) (w : World) (K : PySem.W.Frag) (fr : Bool) (U : Addr → Prop) (γ : List Addr) (H : Hp) (σ : L2.St) (s : S) (Q : VK) : D → S → List Addr → Hp → Prop := fun d s' γ' H' => match fr with
  | true => kFp P w K U γ H σ s Q d s' γ' H'
  | false => ∀ v, Rp P w K (Mv U γ' σ s'.r) γ' H' v d → Q v H'
abbrev S0 (g : List (List D)) : S := ⟨[], g⟩
/-- a def's promise -/
def spF (P : Program) (w : World) (K : PySem.W.Frag) (mg : Str → Option Value) (F : Fs) (np : Nat) (fr : Bool) (f : Nat) : Sp := fun vs H Q E => vs.length = np ∧ ∃ U γ ds g, Ok P w K U γ H [] (S0 g) ∧ Rps P w K (Mv U γ [] []) γ H vs ds ∧
  RRp P w K mg (fun c dx _ H' => E c dx H') U γ H [] (S0 g) ((F f ds (S0 g)).called (S0 g)) (kV P w K fr U γ H [] (S0 g) Q)
section
variable {X : Cx} {glob : Str → Option D} {F : Fs} {Wx : WX} {pos : Pos} {U U2 : Addr → Prop} {γ γ' : List Addr} {H H' : Hp} {σ : L2.St} {s s1 : S}
theorem not_owned {σ : L2.St} {a : Addr} : ¬ Owned [] σ a := fun ⟨i, q⟩ => by
  rcases q.1 with ⟨l, e⟩ | ⟨l, e⟩ <;> simp at e
/-- held by the callers of a callee -/
def UO (U : Addr → Prop) (σ : L2.St) (ρ : List Sl) : Addr → Prop := fun a => U a ∨ Owned ρ σ a
theorem mv_uo {ρ : List Sl} {σ2 : L2.St} : Mv (UO U σ ρ) γ σ2 [] = Mv U γ σ ρ := by
  funext a
  unfold Mv UO Cv
  refine propext ⟨?_, ?_⟩
  · rintro ((m | m) | m | m)
    · exact .inl m
    · exact .inr (.inr m)
    · exact .inr (.inl m)
    · exact absurd m not_owned
  · rintro (m | m | m)
    · exact .inl (.inl m)
    · exact .inr (.inl m)
    · exact .inl (.inr m)
theorem cv_nil {σ2 : L2.St} {a : Addr} : Cv γ σ2 [] a ↔ a ∈ γ := ⟨fun m => m.elim id fun m => absurd m not_owned, .inl⟩
/-- a callee begins -/
theorem Ok.in_ (ok : XOk X U γ H σ s) : XOk X (UO U σ s.r) γ H [] (S0 s.g) where
  len := rfl
  sl := fun i c e => by simp at e
  st := by rw [mv_uo]; exact ok.st
  dom := fun a m => ok.dom a (by rw [mv_uo] at m; exact m)
  inj := fun i j a q => absurd ⟨i, q⟩ not_owned
  ng := fun a q => absurd q not_owned
  nu := fun a q => absurd q not_owned
  pu := fun i a q => by rcases q with ⟨l, e⟩ | ⟨l, e⟩ <;> simp at e
/-- .. has ended -/
theorem Ok.out {g : List (List D)} (ok : XOk X U γ H σ s) (hU : ∀ b, U b → U2 b) (hV : ∀ b, U2 b → U b ∨ H b = none) (st : GOk X.prog X.w X.K (Mv U2 γ' σ s.r) γ' H' g) (dom : ∀ a, Mv U2 γ' σ s.r a → H' a ≠ none)
    (keep : ∀ a o, H a = some o → a ∉ γ → H' a = some o) (e : Ext (Mv U γ σ s.r) γ H (Mv U2 γ' σ s.r) γ' H') (hg : ∀ a, a ∈ γ' → a ∈ γ ∨ H a = none) : XOk X U2 γ' H' σ { s with g := g } := by
  have there : ∀ {a : Addr}, H a ≠ none → a ∉ γ → H' a = H a := fun {a} n m => by
    cases q : H a with
    | none => exact absurd q n
    | some o => exact keep a o q m
  have pkn : ∀ {j : Nat} {a : Addr} {c : Sl}, s.r[j]? = some c → ((∃ l, c = .oL l) ∨ (∃ l, c = .pL l) ∨ (∃ l, c = .oD l) ∨ ∃ l, c = .pD l) → σ[j]?.join = some (.ref a) → a ∉ γ := fun {j a c} e hb hw => by
    have hw := join_some hw
    rcases hb with ⟨l, rfl⟩ | ⟨l, rfl⟩ | ⟨l, rfl⟩ | ⟨l, rfl⟩
    · exact ok.ng a ⟨j, .inl ⟨l, e⟩, hw⟩
    · exact (ok.pu j a (.inl ⟨l, e⟩) hw).2
    · exact ok.ng a ⟨j, .inr ⟨l, e⟩, hw⟩
    · exact (ok.pu j a (.inr ⟨l, e⟩) hw).2
  refine ⟨ok.len, fun i c q => (ok.sl i c q).ext e fun a hb hw => there ((ok.sl i c q).there hb hw) (pkn q hb hw), st, dom, ok.inj, fun a q m => ?_, fun a q m => ?_, fun i a q1 q2 => ?_⟩
  · rcases hg a m with m | m
    · exact ok.ng a q m
    · exact ok.dom a (.inr (.inr q)) m
  · rcases hV a m with m | m
    · exact ok.nu a q m
    · exact ok.dom a (.inr (.inr q)) m
  · obtain ⟨m, n⟩ := ok.pu i a q1 q2
    refine ⟨hU a m, fun z => (hg a z).elim n fun z => ok.dom a (.inl m) z⟩
/-- behind a call -/
theorem Ok.back {g : List (List D)} {r : List Sl} (ok : XOk X U γ H σ s) (ok1 : XOk X (UO U σ s.r) γ' H' [] (S0 g)) (x : Xt (UO U σ s.r) (Cv γ [] []) γ H (Cv γ' [] []) γ' H') :
    XOk X U γ' H' σ { s with g := g } ∧ Xt U (Cv γ σ s.r) γ H (Cv γ' σ s.r) γ' H' := by
  have xe : Ext (Mv U γ σ s.r) γ H (Mv U γ' σ s.r) γ' H' := by
    have := x.e
    rw [show (fun a => UO U σ s.r a ∨ Cv γ [] [] a) = Mv U γ σ s.r from mv_uo, show (fun a => UO U σ s.r a ∨ Cv γ' [] [] a) = Mv U γ' σ s.r from mv_uo] at this
    exact this
  have keep : ∀ a o, H a = some o → a ∉ γ → H' a = some o := fun a o e n => x.keep a o e fun m => n (cv_nil.mp m)
  have hg : ∀ a, a ∈ γ' → a ∈ γ ∨ H a = none := fun a m => (x.new a (cv_nil.mpr m)).imp cv_nil.mp id
  refine ⟨ok.out (fun _ m => m) (fun _ m => .inl m) (by have := ok1.st; rw [mv_uo] at this; exact this) (fun a m => ok1.dom a (by rw [mv_uo]; exact m)) keep xe hg, xe, fun a o e n => keep a o e fun m => n (.inl m), fun a m => ?_⟩
  rcases m with m | m
  · exact (hg a m).imp .inl id
  · exact .inl (.inr m)
/-- .. with a fresh object -/
theorem Ok.backF {g : List (List D)} {a : Addr} (ok : XOk X U γ H σ s) (hn : H a = none) (ok1 : XOk X (Us (UO U σ s.r) a) γ' H' [] (S0 g)) (x : Xt (UO U σ s.r) (Cv γ [] []) γ H (Cv γ' [] []) γ' H') : XOk X (Us U a) γ' H' σ { s with g := g } := by
  have e1 : Mv (Us (UO U σ s.r) a) γ' [] [] = Mv (Us U a) γ' σ s.r := by
    funext b
    refine propext ⟨fun m => mv_us.mpr ((mv_us.mp m).imp (fun m => by rw [mv_uo] at m; exact m) id), fun m => mv_us.mpr ((mv_us.mp m).imp (fun m => by rw [mv_uo]; exact m) id)⟩
  have xe : Ext (Mv U γ σ s.r) γ H (Mv (Us U a) γ' σ s.r) γ' H' := by
    have q := x.e
    rw [show (fun a => UO U σ s.r a ∨ Cv γ [] [] a) = Mv U γ σ s.r from mv_uo, show (fun a => UO U σ s.r a ∨ Cv γ' [] [] a) = Mv U γ' σ s.r from mv_uo] at q
    exact ⟨q.keep, fun b m => (mv_us.mp m).elim (fun m => q.new b m) fun m => .inr (by rw [m]; exact hn), q.tup, q.frz, q.dom, q.pre⟩
  have keep : ∀ a o, H a = some o → a ∉ γ → H' a = some o := fun a o e n => x.keep a o e fun m => n (cv_nil.mp m)
  have hg : ∀ a, a ∈ γ' → a ∈ γ ∨ H a = none := fun a m => (x.new a (cv_nil.mpr m)).imp cv_nil.mp id
  exact ok.out (fun _ m => .inl m) (fun b m => m.imp id fun m => by rw [m]; exact hn) (by have := ok1.st; rw [e1] at this; exact this) (fun a m => ok1.dom a (by rw [e1]; exact m)) keep xe hg

/-- a call, the wish about exceptions by the slots -/
theorem pe_callW {k : Nat} {f : Addr} {fd : FuncData} {ps : List Str} {sp : Sp} {x : Str} {p : Pos} {e : Expr} {es : List Expr} {t : TA} (Fo : FnOk X.prog X.w X.K X.mg X.base (L2.CX X.prog X.w) k f fd ps sp) (hr : Room k X.A) (hg : Gl X x) (hm : X.mg x = some (.ref f))
    (hk : PySem.W.keepIn X.K (.ref f) = true) (hb : Binds X.K fd ps []) (tk : Takes X Wx) (ha : PA X (e :: es) t) (hdb : (x == ("__debug__" : Str)) = false) (hp : plainXs (e :: es) = true) :
    PE X (.Call (.Name x p) (e :: es) [] pos) (fun σ H Q => t σ H fun vs H1 => sp vs H1 Q fun c d H' => Wx c d σ H') := by
  have hp2 : plainX e = true ∧ plainXs es = true := by
    have h : (plainX e && plainXs es) = true := hp
    rwa [Bool.and_eq_true] at h
  refine ⟨fun pins s σ H Q I h => ?_⟩
  refine wpAny_Call_Name_kw (ld_glob I hg hm ?_ hdb)
  refine PySem.W.callWith_K (h₀ := X.base) I.ok.mod.kin hk (thn (ha.run pos pins s σ H _ I h) fun us s1 ⟨vs, H1, I1, r, q⟩ => ⟨I1.kIn, ?_⟩) (star_plain hp2.1) (backs_plain hp2.2).1
  have hl : (us ++ []).length = ps.length := by rw [List.append_nil, ← r.length]; exact Fo.len _ _ _ _ q
  have hB := hb s1 us I1.kIn hl
  rw [List.append_nil] at hB
  refine wpAny_call (codeAny_mono (Fo.run X.A X.stack s1 H1 ⟨us, []⟩ us vs Q _ hr I1.env0 hB r q) fun r s' hq => ?_)
  cases r with
  | error e => exact tk e s' (XE.of_call I1 (fun cls d H' h => h) hq)
  | ok fl =>
    cases fl with
    | ret u => exact I1.after hq
    | next => exact False.elim hq
    | brk => exact False.elim hq
    | cont => exact False.elim hq
theorem pe_callW0 {k : Nat} {f : Addr} {fd : FuncData} {ps : List Str} {sp : Sp} {x : Str} {p : Pos} (Fo : FnOk X.prog X.w X.K X.mg X.base (L2.CX X.prog X.w) k f fd ps sp) (hr : Room k X.A) (hg : Gl X x) (hm : X.mg x = some (.ref f))
    (hk : PySem.W.keepIn X.K (.ref f) = true) (hb : Binds X.K fd ps []) (tk : Takes X Wx) (hdb : (x == ("__debug__" : Str)) = false) :
    PE X (.Call (.Name x p) [] [] pos) (fun σ H Q => sp [] H Q fun c d H' => Wx c d σ H') := by
  refine ⟨fun pins s σ H Q I q => ?_⟩
  refine wpAny_Call_Name_kw (ld_glob I hg hm ?_ hdb)
  have hl : ([] ++ []).length = ps.length := Fo.len _ _ _ _ q
  have hB := hb s [] I.kIn hl
  refine PySem.W.callWith_K0 I.kIn hk (wpAny_call (codeAny_mono (Fo.run X.A X.stack s H ⟨[], []⟩ [] [] Q _ hr I.env0 hB .nil q) fun r s' hq => ?_))
  cases r with
  | error e => exact tk e s' (XE.of_call I (fun cls d H' h => h) hq)
  | ok fl =>
    cases fl with
    | ret u => exact I.after hq
    | next => exact False.elim hq
    | brk => exact False.elim hq
    | cont => exact False.elim hq
/-- what a call's reading asks of the callee -/
theorem call_read {fr : Bool} {f np : Nat} {ds : List D} {vs : List V} {U : Addr → Prop} {γ : List Addr} {H : Hp} {s : S} {Q : VK} (ok : XOk X U γ H σ s) (rs : XRs X (Mv U γ σ s.r) γ H vs ds) (hn : vs.length = np)
    (h : RR X Wx U γ H σ s ((F f ds (S0 s.g)).called s) (kV X.prog X.w X.K fr U γ H σ s Q)) : spF X.prog X.w X.K X.mg F np fr f vs H Q fun c d H' => Wx c d σ H' := by
  refine ⟨hn, UO U σ s.r, γ, ds, s.g, ok.in_, by rw [mv_uo]; exact rs, ?_⟩
  cases e : F f ds (S0 s.g) with
  | bad => rw [e] at h; exact h.elim
  | exc e' s2 =>
    rw [e] at h
    intro γ' H' c dx ok1 x xr
    obtain ⟨ok2, x2⟩ := ok.back (r := []) ok1 x
    refine h γ' H' c dx ok2 x2 ?_
    have e2 : Mv (UO U σ s.r) γ' [] [] = Mv U γ' σ s.r := mv_uo
    have xr : XRep X.K X.mg X.prog X.w (Mv (UO U σ s.r) γ' [] []) γ' H' e' c dx := xr
    rw [e2] at xr
    exact xr
  | ok d s2 =>
    rw [e] at h
    intro γ' H' ok1 x
    obtain ⟨ok2, x2⟩ := ok.back (r := []) ok1 x
    have h := h γ' H' ok2 x2
    have e2 : Mv (UO U σ s.r) γ' [] [] = Mv U γ' σ s.r := mv_uo
    cases fr with
    | false =>
      intro v rv
      have rv : Rp X.prog X.w X.K (Mv (UO U σ s.r) γ' [] []) γ' H' v d := rv
      rw [e2] at rv
      exact h v rv
    | true =>
      unfold kV kFp at h ⊢
      dsimp only at h ⊢
      cases ho : ownS d with
      | none =>
        rw [ho] at h
        intro v rv
        have rv : Rp X.prog X.w X.K (Mv (UO U σ s.r) γ' [] []) γ' H' v d := rv
        rw [e2] at rv
        exact h v rv
      | some c =>
        rw [ho] at h
        intro a na ca sl okA
        have na : ¬ Mv U γ' σ s.r a := by
          have na : ¬ Mv (UO U σ s.r) γ' [] [] a := na
          rw [e2] at na
          exact na
        have hn : H a = none := by
          rcases ca with ca | ca
          · refine absurd (.inr (.inl ?_)) na
            obtain ⟨m, q⟩ := x.e.pre
            rw [q]
            exact List.mem_append_left _ (cv_nil.mp ca)
          · exact ca
        have okB := ok.backF hn okA x
        refine h a na (.inr hn) ?_ okB
        have e1 : Mv (Us (UO U σ s.r) a) γ' [] [] = Mv (Us U a) γ' σ s.r := by
          funext b
          refine propext ⟨fun m => mv_us.mpr ((mv_us.mp m).imp (fun m => by rw [mv_uo] at m; exact m) id), fun m => mv_us.mpr ((mv_us.mp m).imp (fun m => by rw [mv_uo]; exact m) id)⟩
        have sl : SlOk X.prog X.w X.K (Mv (Us (UO U σ s.r) a) γ' [] []) γ' H' (some (.ref a)) c := sl
        rw [e1] at sl
        exact sl
section
variable {k np i : Nat} {f : Addr} {fd : FuncData} {ps : List Str} {x : Str} {p : Pos} {e : Expr} {es : List Expr} {xs : List Ex} {fr : Bool}
theorem c_call (Fo : FnOk X.prog X.w X.K X.mg X.base (L2.CX X.prog X.w) k f fd ps (spF X.prog X.w X.K X.mg F np fr i)) (hr : Room k X.A) (hg : Gl X x) (hm : X.mg x = some (.ref f)) (hk : PySem.W.keepIn X.K (.ref f) = true) (hb : Binds X.K fd ps []) (tk : Takes X Wx)
    (ha : DA X glob F Wx (e :: es) xs) (hdb : (x == ("__debug__" : Str)) = false) (hp : plainXs (e :: es) = true) (hn : xs.length = np) :
    PE X (.Call (.Name x p) (e :: es) [] pos) (fun σ H Q => ∃ U γ s, XOk X U γ H σ s ∧ RR X Wx U γ H σ s (evE glob F (.call i xs) s) (kV X.prog X.w X.K fr U γ H σ s Q)) :=
  (pe_callW Fo hr hg hm hk hb tk ha hdb hp).imp fun σ H Q ⟨U, γ, s, ok, h⟩ => by
    simp only [evE] at h
    refine ⟨U, γ, s, ok, (RR.bind h).impE fun ds s1 γ1 H1 e1 ok1 x1 h1 vs rs => call_read ok1 rs (by rw [rs.length, evEs_len e1]; exact hn) (h1.imp fun d s2 γ2 H2 ok2 x2 q => ?_)⟩
    unfold kV at q ⊢
    cases fr with
    | false => exact q
    | true =>
      dsimp only at q ⊢
      unfold kFp at q ⊢
      cases ho : ownS d with
      | none => rw [ho] at q; exact q
      | some c =>
        rw [ho] at q
        intro a na ca sl okA
        refine q a na ?_ sl okA
        rcases ca with ca | ca
        · exact x1.new a ca
        · exact .inr (x1.none_ ca)
theorem c_call0 (Fo : FnOk X.prog X.w X.K X.mg X.base (L2.CX X.prog X.w) k f fd ps (spF X.prog X.w X.K X.mg F 0 fr i)) (hr : Room k X.A) (hg : Gl X x) (hm : X.mg x = some (.ref f)) (hk : PySem.W.keepIn X.K (.ref f) = true) (hb : Binds X.K fd ps []) (tk : Takes X Wx)
    (hdb : (x == ("__debug__" : Str)) = false) :
    PE X (.Call (.Name x p) [] [] pos) (fun σ H Q => ∃ U γ s, XOk X U γ H σ s ∧ RR X Wx U γ H σ s (evE glob F (.call i []) s) (kV X.prog X.w X.K fr U γ H σ s Q)) :=
  (pe_callW0 Fo hr hg hm hk hb tk hdb).imp fun σ H Q ⟨U, γ, s, ok, h⟩ => by
    simp only [evE, evEs, R.bind] at h
    exact call_read ok .nil rfl h
/-- of a def whose lists are fresh: the fresh reading -/
theorem f_call {e : Expr} (h : PE X e (fun σ H Q => ∃ U γ s, XOk X U γ H σ s ∧ RR X Wx U γ H σ s (evE glob F (.call i xs) s) (kV X.prog X.w X.K true U γ H σ s Q))) : DF X glob F Wx e (.call i xs) := h
theorem s_call {e : Expr} (h : PE X e (fun σ H Q => ∃ U γ s, XOk X U γ H σ s ∧ RR X Wx U γ H σ s (evE glob F (.call i xs) s) (kV X.prog X.w X.K fr U γ H σ s Q))) : DE X glob F Wx e (.call i xs) := by
  cases fr with
  | true => exact DF.e (f_call h)
  | false => exact h
end
end
end TD

-- TN
set_option maxHeartbeats 1000000
/-! what is walked -/
namespace TD
open PySem PySem.Spec PyProof.Rows L2
/-! ### lists and tuples alike: b: a tuple -/
def Sq (K : PySem.W.Frag) (b : Bool) (H : Hp) (a : Addr) (xs : List V) : Prop := match b with | true => SqT K H a xs | false => SqL K H a xs
def IsSq (h : Heap) (b : Bool) (a : Addr) (its : Array Value) : Prop := match b with | true => h.IsTuple a its | false => h.IsList a its
def SqIt (h : Heap) (b : Bool) (it a : Addr) (i : Nat) : Prop := match b with | true => h.IsTupleIter it a i | false => h.IsListIter it a i
def sqO (b : Bool) (a : Addr) : Obj := match b with | true => { cls := .type "tuple_iterator", data := .fields #[.ref a, .int 0 0] } | false => { cls := .type "list_iterator", data := .fields #[.ref a, .int 0 0] }
theorem sq_draws {P : Program} {w : World} {A : Around} (hd : A.handled = none) (b : Bool) (it a : Addr) (hne : a ≠ it) (its : Array Value) :
    Draws P w A it [it, a] its.size (fun i v => its[i]? = some v) (fun i h => SqIt h b it a i ∧ IsSq h b a its) := by
  cases b with
  | true => exact Draws.tuple hd it a hne its
  | false => exact Draws.list hd it a hne its
theorem sq_begins (b : Bool) (a : Addr) (its : Array Value) : Begins (.ref a) (sqO b a) fun h => IsSq h b a its := by
  cases b with
  | true => exact begins_tuple a its
  | false => exact begins_list a its
theorem sq_start {h : Heap} {b : Bool} {it a : Addr} (e : h.get? it = some (sqO b a)) : SqIt h b it a 0 := by
  cases b with
  | true => exact ⟨_, e, rfl, rfl⟩
  | false => exact ⟨_, e, rfl, rfl⟩
theorem SqIt.at {h h' : Heap} {b : Bool} {it a : Addr} {i : Nat} (s : SqIt h b it a i) (k : ∀ o, h.get? it = some o → h'.get? it = some o) : SqIt h' b it a i := by
  cases b with
  | true => exact Heap.IsTupleIter.at s k
  | false => exact Heap.IsListIter.at s k
theorem SqIt.obj {h : Heap} {b : Bool} {it a : Addr} {i : Nat} (s : SqIt h b it a i) : ∃ o, h.get? it = some o ∧ ∀ v, o.data ≠ .cell v := by
  cases b with
  | true => obtain ⟨o, e, _, d⟩ := s; exact ⟨o, e, fun v z => by rw [d] at z; cases z⟩
  | false => obtain ⟨o, e, _, d⟩ := s; exact ⟨o, e, fun v z => by rw [d] at z; cases z⟩
section
variable {X : Cx} {pins : List (Addr × Obj)} {σ : L2.St} {H : Hp} {s : Shared} {a : Addr} {xs ys : List V} {b : Bool}
theorem Inv.sq (I : Inv X pins σ H s) (h : Sq X.K b H a xs) : ∃ its : List Value, Vals xs its ∧ IsSq s.heap b a its.toArray ∧ xs.length ≤ sizeLine ∧ a < s.heap.objs.size := by
  cases b with
  | true =>
    obtain ⟨its, r, p, z⟩ := I.tuple h
    exact ⟨its, r, p, z, p.lt⟩
  | false =>
    obtain ⟨its, r, p, z⟩ := I.list h
    exact ⟨its, r, p.isList, z, p.lt⟩
theorem Inv.sq_inj (I : Inv X pins σ H s) (h : Sq X.K b H a xs) (h' : Sq X.K b H a ys) : xs = ys := by
  cases b with
  | true => exact I.tuple_inj h h'
  | false => exact I.list_inj h h'
end
theorem ty_ne {o o' : Obj} {S T : String} {h : Heap} {a b : Addr} (e : h.get? a = some o) (c : o.cls = .type S) (e' : h.get? b = some o') (c' : o'.cls = .type T) (n : (S == T) = false) : a ≠ b := fun z => by
  subst z
  rw [e] at e'
  cases e'
  rw [c] at c'
  injection c' with q
  subst q
  simp at n
theorem sq_ne {h : Heap} {b b' : Bool} {it a a' : Addr} {i : Nat} {its : Array Value} (q : SqIt h b it a i) (p : IsSq h b' a' its) : a' ≠ it := by
  cases b <;> cases b' <;> (obtain ⟨o1, e1, c1, _⟩ := q; obtain ⟨o2, e2, c2, _⟩ := p; exact ty_ne e2 c2 e1 c1 (by decide +kernel))
/-! ### zip of two -/
def It2 (K : PySem.W.Frag) (b1 b2 : Bool) (a1 a2 : Addr) : It :=
  ⟨fun i H => ∃ (xs ys : List V) (x y : V), Sq K b1 H a1 xs ∧ Sq K b2 H a2 ys ∧ xs[i]? = some x ∧ ys[i]? = some y,
    fun i H v H' => ∃ T x y, v = .ref T ∧ H T = none ∧ H' = upd H T (.tup [x, y]) ∧ (∀ xs, Sq K b1 H a1 xs → xs[i]? = some x) ∧ ∀ ys, Sq K b2 H a2 ys → ys[i]? = some y,
    fun i H => ∃ xs ys : List V, Sq K b1 H a1 xs ∧ Sq K b2 H a2 ys ∧ i ≤ xs.length ∧ i ≤ ys.length ∧ (i = xs.length ∨ i = ys.length)⟩
theorem turn2 {P : Program} {w : World} {K : PySem.W.Frag} {elts : List Expr} {kk : Nat} {tpos : Pos} {b1 b2 : Bool} {a1 a2 z TI TO i1 i2 : Addr} (S : ZipSep2 z TI TO i1 i2 [i1, a1] [i2, a2]) :
    Turn P w K (.Tuple elts kk tpos) (It2 K b1 b2 a1 a2) [z, TI, TO, i1, i2] z (fun i h => IsZip h z TI TO .none ∧ IsTupOf2 h TI (.ref i1) (.ref i2) ∧ (∃ x y, IsTupOf2 h TO x y) ∧ SqIt h b1 i1 a1 i ∧ SqIt h b2 i2 a2 i) where
  mem := by simp
  obj := fun i h st c hc => by
    obtain ⟨hz, hTI, ⟨x, y, hTO⟩, q1, q2⟩ := st
    rcases (show c = z ∨ c = TI ∨ c = TO ∨ c = i1 ∨ c = i2 by simpa using hc) with q | q | q | q | q
    · subst q; exact ⟨_, hz, fun v z => nomatch z⟩
    · subst q; exact ⟨_, hTI, fun v z => nomatch z⟩
    · subst q; exact ⟨_, hTO, fun v z => nomatch z⟩
    · subst q; exact q1.obj
    · subst q; exact q2.obj
  keep := fun i h h' st k => by
    obtain ⟨hz, hTI, ⟨x, y, hTO⟩, q1, q2⟩ := st
    exact ⟨k z (by simp) _ hz, k TI (by simp) _ hTI, ⟨x, y, k TO (by simp) _ hTO⟩, q1.at fun o q => k i1 (by simp) o q, q2.at fun o q => k i2 (by simp) o q⟩
  item := by
    intro X hP hw hK hc i pins s σ H E I hf st hg
    subst hP hw hK
    obtain ⟨hz, hTI, ⟨x0, y0, hTO⟩, q1, q2⟩ := st
    obtain ⟨xs, ys, x, y, hqx, hqy, hx, hy⟩ := hg
    obtain ⟨its, rv, p, _⟩ := Inv.sq I hqx
    obtain ⟨its2, rv2, p2, _⟩ := Inv.sq I hqy
    obtain ⟨u, hu, ru⟩ := rv.get hx
    obtain ⟨u2, hu2, ru2⟩ := rv2.get hy
    have hzl : z < s.heap.objs.size := Heap.lt_size hz
    have hd : X.A.in1.handled = none := I.ok.hd hc
    refine wpAny_pyNext_zipD2_item S (sq_draws hd b1 i1 a1 (sq_ne q1 p) its.toArray) (sq_draws hd b2 i2 a2 (sq_ne q2 p2) its2.toArray) hz hTI hTO ⟨q1, p⟩ ⟨q2, p2⟩ (List.getElem?_eq_some_iff.mp hu).1 (List.getElem?_eq_some_iff.mp hu2).1
      fun x1 x2 h' tk e1 e2 z' TO' r1 r2 hT hsz hk => ?_
    rw [show its.toArray[i]? = its[i]? from by simp, hu] at e1
    rw [show its2.toArray[i]? = its2[i]? from by simp, hu2] at e2
    cases e1; cases e2
    refine ⟨_, rfl, wpAny_letOwnedTupleGo_zip (s := { s with heap := h', toks := tk }) z' fun h'' z'' sb => ?_⟩
    have hT2 : h''.get? s.heap.objs.size = some { cls := .type "tuple", data := .seq #[u, u2] } := (sb.2 _ (Nat.ne_of_gt hzl)).trans hT
    have kk : ∀ c o, c ∉ [z, TI, TO, i1, i2] → s.heap.get? c = some o → h''.get? c = some o := fun c o hb q =>
      (sb.2 c (fun q' => hb (by simp [q']))).trans (hk c o (fun q' => hb (by simp [q'])) (fun q' => hb (by simp [q'])) (fun q' => hb (by simp [q'])) (fun q' => hb (by simp [q'])) q)
    have I1 : Inv X pins σ (upd H s.heap.objs.size (.tup [x, y])) { s with heap := h'', toks := tk } :=
      I.turnedNew kk hf (Nat.le_refl _) ⟨by show 2 ≤ sizeLine; decide, [u, u2], .cons ru (.cons ru2 .nil), ⟨_, hT2, rfl, _, rfl⟩⟩
    refine ⟨.ref s.heap.objs.size, _, I1, rfl, ⟨_, x, y, rfl, I.hok.fresh (Nat.le_refl _), rfl, fun l hl => by rw [Inv.sq_inj I hl hqx]; exact hx, fun l hl => by rw [Inv.sq_inj I hl hqy]; exact hy⟩, ⟨z'', ?_, ⟨u, u2, ?_⟩, ?_, ?_⟩, fun c hcm => ?_⟩
    · exact (sb.2 _ S.TIz).trans (hk _ _ S.TIz S.TITO S.TIi1 S.TIi2 hTI)
    · exact (sb.2 _ S.TOz).trans TO'
    · exact r1.1.at fun o q => (sb.2 _ (Ne.symm S.zi1)).trans q
    · exact r2.1.at fun o q => (sb.2 _ (Ne.symm S.zi2)).trans q
    · have hlt : c < s.heap.objs.size := by
        rcases (show c = z ∨ c = TI ∨ c = TO ∨ c = i1 ∨ c = i2 by simpa using hcm) with q | q | q | q | q
        · rw [q]; exact hzl
        · rw [q]; exact Heap.lt_size hTI
        · rw [q]; exact Heap.lt_size hTO
        · rw [q]; obtain ⟨_, e1, _⟩ := q1.obj; exact Heap.lt_size e1
        · rw [q]; obtain ⟨_, e2, _⟩ := q2.obj; exact Heap.lt_size e2
      rw [upd_ne (Nat.ne_of_lt hlt)]
      exact (hf c hcm).1
  done := by
    intro X hP hw hK hc i pins s σ H E I hf st hg
    subst hP hw hK
    obtain ⟨hz, hTI, ⟨x0, y0, hTO⟩, q1, q2⟩ := st
    obtain ⟨xs, ys, hqx, hqy, l1, l2, hend⟩ := hg
    obtain ⟨its, rv, p, _⟩ := Inv.sq I hqx
    obtain ⟨its2, rv2, p2, _⟩ := Inv.sq I hqy
    have hd : X.A.in1.handled = none := I.ok.hd hc
    have e1 : its.toArray.size = xs.length := by rw [List.size_toArray, rv.length]
    have e2 : its2.toArray.size = ys.length := by rw [List.size_toArray, rv2.length]
    exact wpAny_pyNext_zipD2_end S (sq_draws hd b1 i1 a1 (sq_ne q1 p) its.toArray) (sq_draws hd b2 i2 a2 (sq_ne q2 p2) its2.toArray) hz hTI hTO ⟨q1, p⟩ ⟨q2, p2⟩ (by omega) (by omega) (by omega)
      fun h' tk hk => ⟨rfl, I.turnedL (ch := [z, TI, TO, i1, i2]) (fun c o hb q => hk c o (fun q' => hb (by simp [q'])) (fun q' => hb (by simp [q'])) (fun q' => hb (by simp [q'])) (fun q' => hb (by simp [q'])) q) hf⟩
  self := fun A i s Q E st h => wpAny_pyIter_zip st.1 h
/-! ### enumerate -/
set_option maxHeartbeats 4000000 in
theorem enum_new1 {v : Value} {o : Obj} {Hs : Heap → Prop} (B : Begins v o Hs) :
    Meets (Builtin.«enumerate.__new__» ⟨[.type "enumerate", v], []⟩) (fun _ R s => Hs s.heap ∧
      R (.ok (.ret (.ref (s.heap.push o).objs.size))) { s with heap := (s.heap.push o).push { cls := .type "enumerate", data := .fields #[.none, .bool false, .ref s.heap.objs.size, rawInt 0, .none, .none] } }) :=
  .of_wp fun prog w A R s hh => by
    obtain ⟨hp, g, d, tk, os⟩ := s; obtain ⟨h1, hR⟩ := hh
    have hsub := sub_enumerate
    have step : ∀ {A' : Around} {E : Value → Shared → Prop} {Q : Value → Shared → Prop}, Q (.ref hp.objs.size) ⟨hp.push o, g, d, tk, os⟩ → wpAny (model prog w) A' (pyIter v) Q E ⟨hp, g, d, tk, os⟩ :=
      fun q => B.iter prog w _ _ ⟨hp, g, d, tk, os⟩ _ h1 q
    wp_walk using step
    refine wpAny_stack_any fun st => wpAny_pure ?_
    split
    · rename_i c _ _ _ _ _
      cases (c == Value.type "enumerate") <;> (wp_walk using step; exact ⟨_, rfl, hR⟩)
    · wp_walk using step
      exact ⟨_, rfl, hR⟩
theorem call_enum1 {prog : Program} {w : World} {A : Around} {E : Value → Shared → Prop} {s : Shared} {v : Value} {o : Obj} {Hs : Heap → Prop} {Q : Value → Shared → Prop} (B : Begins v o Hs) (h1 : Hs s.heap)
    (h : ∀ h', IsEnum h' (s.heap.objs.size + 1) s.heap.objs.size 0 .none → h'.get? s.heap.objs.size = some o → (∀ b o, s.heap.get? b = some o → h'.get? b = some o) → Q (.ref (s.heap.objs.size + 1)) { s with heap := h' }) :
    wpAny (model prog w) A (call (.type "enumerate") [v]) Q E s := by
  refine callType_new PySem.F.called_enumerate (by decide) (PySem.F.typeCall_enumerate_1 _) (PySem.F.newCall_enumerate_1 _) (fun obj => PySem.F.args_object_init_2 obj _) PySem.F.entry_enumerate_new (enum_new1 B) ⟨h1, ?_⟩
  have hz : (s.heap.push o).objs.size = s.heap.objs.size + 1 := Heap.size_push ..
  show _ ∧ _
  rw [hz]
  have he : IsEnum ((s.heap.push o).push { cls := .type "enumerate", data := .fields #[.none, .bool false, .ref s.heap.objs.size, rawInt 0, .none, .none] }) (s.heap.objs.size + 1) s.heap.objs.size 0 .none := by
    have q := Heap.get?_push_size (s.heap.push o) (o := { cls := .type "enumerate", data := .fields #[.none, .bool false, .ref s.heap.objs.size, rawInt 0, .none, .none] }) rfl
    rwa [hz] at q
  exact ⟨⟨_, he, rfl⟩, h _ he (Heap.get?_push_of_some _ (Heap.get?_push_size _ B.free)) fun b o x => Heap.get?_push_of_some _ (Heap.get?_push_of_some _ x)⟩
def ItE (K : PySem.W.Frag) (b : Bool) (a : Addr) : It :=
  ⟨fun i H => ∃ (xs : List V) (x : V), Sq K b H a xs ∧ xs[i]? = some x, fun i H v H' => ∃ T x, v = .ref T ∧ H T = none ∧ H' = upd H T (.tup [.int (i : Nat), x]) ∧ ∀ xs, Sq K b H a xs → xs[i]? = some x, fun i H => ∃ xs : List V, Sq K b H a xs ∧ i = xs.length⟩
theorem turnE {P : Program} {w : World} {K : PySem.W.Frag} {elts : List Expr} {kk : Nat} {tpos : Pos} {b : Bool} (a e it : Addr) :
    Turn P w K (.Tuple elts kk tpos) (ItE K b a) [e, it] e (fun i h => (∃ old, IsEnum h e it ((i : Nat) : Int) old) ∧ SqIt h b it a i ∧ e ≠ it ∧ e ≠ a) where
  mem := by simp
  obj := fun i h st c hc => by
    obtain ⟨⟨old, he⟩, hi, _⟩ := st
    rcases (show c = e ∨ c = it by simpa using hc) with z | z
    · rw [z]; exact ⟨_, he, fun v q => nomatch q⟩
    · rw [z]; exact hi.obj
  keep := fun i h h' st k => let ⟨⟨old, he⟩, hi, hne⟩ := st; ⟨⟨old, k e (by simp) _ he⟩, hi.at fun o q => k it (by simp) o q, hne⟩
  item := by
    intro X hP hw hK hc i pins s σ H E I hf st hg
    subst hP hw hK
    obtain ⟨⟨old, he⟩, hit, hne, hna⟩ := st
    obtain ⟨xs, x, hq, hx⟩ := hg
    obtain ⟨its, rv, p, _⟩ := Inv.sq I hq
    obtain ⟨u, hu, ru⟩ := rv.get hx
    have hel : e < s.heap.objs.size := Heap.lt_size he
    have hil : it < s.heap.objs.size := by obtain ⟨_, q, _⟩ := hit.obj; exact Heap.lt_size q
    have hd : X.A.in1.handled = none := I.ok.hd hc
    refine wpAny_pyNext_enum_itemC (sq_draws hd b it a (sq_ne hit p) its.toArray) he ⟨hit, p⟩ (List.getElem?_eq_some_iff.mp hu).1 hne (by simp [hne, hna]) fun x1 h' tk e1 ho r1 hT hsz hk => ?_
    rw [show its.toArray[i]? = its[i]? from by simp, hu] at e1
    cases e1
    refine ⟨_, rfl, wpAny_letOwnedTupleGo_enum (s := { s with heap := h', toks := tk + 1 }) ho fun h'' he' sb => ?_⟩
    have hT2 : h''.get? s.heap.objs.size = some { cls := .type "tuple", data := .seq #[.int i tk, u] } := (sb.2 _ (Nat.ne_of_gt hel)).trans hT
    have I1 : Inv X pins σ (upd H s.heap.objs.size (.tup [.int (i : Nat), x])) { s with heap := h'', toks := tk + 1 } :=
      I.turnedNew (ch := [e, it]) (fun c ob hb q => (sb.2 c (fun z => hb (by simp [z]))).trans (hk c ob (fun z => hb (by simp [z])) (fun z => hb (by simp [z])) q)) hf (Nat.le_refl _)
        ⟨by show 2 ≤ sizeLine; decide, [.int i tk, u], .cons ⟨_, rfl⟩ (.cons ru .nil), ⟨_, hT2, rfl, _, rfl⟩⟩
    refine ⟨.ref s.heap.objs.size, _, I1, rfl, ⟨_, x, rfl, I.hok.fresh (Nat.le_refl _), rfl, fun ys hy => by rw [Inv.sq_inj I hy hq]; exact hx⟩, ⟨⟨u, ?_⟩, r1.1.at fun o q => (sb.2 it (Ne.symm hne)).trans q, hne, hna⟩, fun c hcm => ?_⟩
    · rw [show ((i + 1 : Nat) : Int) = (i : Int) + 1 by omega]; exact he'
    · have hlt : c < s.heap.objs.size := by
        rcases (show c = e ∨ c = it by simpa using hcm) with z | z
        · rw [z]; exact hel
        · rw [z]; exact hil
      rw [upd_ne (Nat.ne_of_lt hlt)]
      exact (hf c hcm).1
  done := by
    intro X hP hw hK hc i pins s σ H E I hf st hg
    subst hP hw hK
    obtain ⟨⟨old, he⟩, hit, hne, hna⟩ := st
    obtain ⟨xs, hq, hx⟩ := hg
    obtain ⟨its, rv, p, _⟩ := Inv.sq I hq
    obtain ⟨f0, f1, f2, f3, f4, f5⟩ := hf it (by simp)
    have hd : X.A.in1.handled = none := I.ok.hd hc
    have e1 : its.toArray.size = i := by rw [List.size_toArray, ← rv.length, hx]
    exact wpAny_pyNext_enum_endD (sq_draws hd b it a (sq_ne hit p) its.toArray) he (by rw [e1]; exact ⟨hit, p⟩) fun h' eb => ⟨rfl, I.turned (t' := s.toks) (fun c o hb q => eb c o hb q) f0 f1 f3 f4 f5⟩
  self := fun A i s Q E st h => let ⟨⟨_, he⟩, _⟩ := st; wpAny_pyIter_enum he h
end TD

-- TO
set_option maxHeartbeats 1000000
/-! walks: their readings -/
namespace TD
open PySem PySem.Spec PyProof.Rows L2
/-- the walk J goes through l, in this heap and every later one -/
def Goes (X : Cx) (J : It) (l : List D) (M : Addr → Prop) (γ : List Addr) (H : Hp) : Prop :=
  ∀ M' γ' H', Ext M γ H M' γ' H' → (∀ i d, l[i]? = some d → J.go i H' ∧ ∀ x H2, J.yld i H' x H2 → Same H' H2 ∧ XR X M' γ' H2 x d) ∧ J.stop l.length H'
section
variable {X : Cx} {glob : Str → Option D} {F : Fs} {Wx : WX} {pos : Pos} {U : Addr → Prop} {M : Addr → Prop} {γ : List Addr} {H : Hp} {σ : L2.St} {s : S} {tg : Expr} {e e2 : Expr} {te : TE} {ta : TA}
def ItS (K : PySem.W.Frag) (b : Bool) (a : Addr) : It := match b with | true => Itt K a | false => Itl K a
theorem pi_ex (he : PE X e te) : PI X tg e (fun σ H R => te σ H fun x H1 => (∃ b a xs, x = .ref a ∧ Sq X.K b H1 a xs ∧ R (ItS X.K b a) H1) ∨ ∃ z, x = .str z ∧ R (Its z) H1) := by
  refine ⟨fun pins s σ H R I h => thn (he.run pins s σ H _ I h) fun v s1 ⟨y, H1, I1, r1, q1⟩ => ?_⟩
  rcases q1 with ⟨b, a, xs, rfl, hq, q⟩ | ⟨z, rfl, q⟩
  · cases r1
    cases b with
    | true =>
      obtain ⟨its, rv, p, hz⟩ := I1.tuple hq
      exact wpAny_pyIter_tuple (show s1.heap.IsTuple a its.toArray from p) (pi_one (tk := s1.toks) I1 _ (turn_tuple a _) ⟨_, Heap.get?_push_size _ rfl, rfl, rfl⟩ q)
    | false =>
      obtain ⟨its, rv, p, hz⟩ := I1.list hq
      exact wpAny_pyIter_list p.isList (pi_one (tk := s1.toks) I1 _ (turn_list a _) ⟨_, Heap.get?_push_size _ rfl, rfl, rfl⟩ q)
  · obtain ⟨t, rfl⟩ := r1
    cases ha : z.cps.all (· < 128)
    · exact wpAny_pyIter_wide ha (pi_one (tk := s1.toks) I1 _ (turn_str _ z t "str_iterator" (.inr rfl)) ⟨_, Heap.get?_push_size _ rfl, rfl, rfl⟩ q)
    · exact wpAny_pyIter_ascii ha (pi_one (tk := s1.toks) I1 _ (turn_str _ z t "str_ascii_iterator" (.inl rfl)) ⟨_, Heap.get?_push_size _ rfl, rfl, rfl⟩ q)
theorem pi_zip2 {p tpos : Pos} {elts : List Expr} {kk : Nat} (hg : Gl X "zip") (hm : X.mg "zip" = none) (ha : PA X [e, e2] ta) (h1 : plainX e = true) (h2 : plainX e2 = true) :
    PI X (.Tuple elts kk tpos) (.Call (.Name "zip" p) [e, e2] [] pos) (fun σ H R => ta σ H fun vs H1 => ∃ b1 b2 a1 a2 xs ys, vs = [.ref a1, .ref a2] ∧ Sq X.K b1 H1 a1 xs ∧ Sq X.K b2 H1 a2 ys ∧ R (It2 X.K b1 b2 a1 a2) H1) := by
  refine ⟨fun pins s σ H R I h => ?_⟩
  refine Call_ (ld_blt I hg hm PyProof.Rows.boot_zip (PyProof.Rows.callWith_type1 (thn (ha.run pos pins s σ H _ I h) fun us s1 ⟨vs, H1, I1, r1, q1⟩ => ?_) (star_plain h1) (backs_plain (by simp [plainXs, h2])).1))
  obtain ⟨b1, b2, a1, a2, xs, ys, ex, hqx, hqy, q⟩ := q1
  subst ex
  cases r1 with
  | cons r rr =>
    cases rr with
    | cons r' rr =>
      cases rr
      cases r
      cases r'
      obtain ⟨its, rv, p1, _, l1⟩ := Inv.sq I1 hqx
      obtain ⟨its2, rv2, p2, _, l2⟩ := Inv.sq I1 hqy
      refine zip_begins2 (sq_begins b1 a1 its.toArray) (sq_begins b2 a2 its2.toArray) p1 p2 fun h' hz hTI hTO o1 o2 hsz hk => wpAny_pyIter_zip hz ?_
      have I2 : Inv X pins σ H1 { s1 with heap := h' } := I1.kept (t' := s1.toks) hk
      have S := zip_sep2 (N := s1.heap.objs.size) (fp1 := [a1]) (fp2 := [a2]) (fun b hb => by rw [List.mem_singleton.mp hb]; exact l1) (fun b hb => by rw [List.mem_singleton.mp hb]; exact l2)
      refine ⟨s1.heap.objs.size + 4, [s1.heap.objs.size + 4, s1.heap.objs.size + 2, s1.heap.objs.size + 3, s1.heap.objs.size, s1.heap.objs.size + 1], _, _, H1, rfl, I2, turn2 S, ⟨hz, hTI, ⟨_, _, hTO⟩, sq_start o1, sq_start o2⟩, fun c hcm => ?_, q⟩
      have hle : s1.heap.objs.size ≤ c := by
        rcases (show c = s1.heap.objs.size + 4 ∨ c = s1.heap.objs.size + 2 ∨ c = s1.heap.objs.size + 3 ∨ c = s1.heap.objs.size ∨ c = s1.heap.objs.size + 1 by simpa using hcm) with z | z | z | z | z
        · rw [z]; exact Nat.le_add_right _ _
        · rw [z]; exact Nat.le_add_right _ _
        · rw [z]; exact Nat.le_add_right _ _
        · rw [z]; exact Nat.le_refl _
        · rw [z]; exact Nat.le_add_right _ _
      exact I1.fpOk hle (I1.hok.fresh hle)
theorem pi_enumA {p tpos : Pos} {elts : List Expr} {kk : Nat} (hg : Gl X "enumerate") (hm : X.mg "enumerate" = none) (ha : PA X [e] ta) (h1 : plainX e = true) :
    PI X (.Tuple elts kk tpos) (.Call (.Name "enumerate" p) [e] [] pos) (fun σ H R => ta σ H fun vs H1 => ∃ b a xs, vs = [.ref a] ∧ Sq X.K b H1 a xs ∧ R (ItE X.K b a) H1) := by
  refine ⟨fun pins s σ H R I h => ?_⟩
  refine Call_ (ld_blt I hg hm boot_enumerate (PyProof.Rows.callWith_type1 (thn (ha.run pos pins s σ H _ I h) fun us s1 ⟨vs, H1, I1, r1, q1⟩ => ?_) (star_plain h1) rfl))
  obtain ⟨b, a, xs, ex, hq, q⟩ := q1
  subst ex
  cases r1 with
  | cons r rr =>
    cases rr
    cases r
    obtain ⟨its, rv, p', _, la⟩ := Inv.sq I1 hq
    refine call_enum1 (sq_begins b a its.toArray) p' fun h' he ho hk => wpAny_pyIter_enum he ?_
    have I2 : Inv X pins σ H1 { s1 with heap := h' } := I1.kept (t' := s1.toks) hk
    refine ⟨s1.heap.objs.size + 1, [s1.heap.objs.size + 1, s1.heap.objs.size], _, _, H1, rfl, I2, turnE a (s1.heap.objs.size + 1) s1.heap.objs.size, ⟨⟨.none, he⟩, sq_start ho, Nat.succ_ne_self _, Nat.ne_of_gt (Nat.lt_succ_of_lt la)⟩, fun c hcm => ?_, q⟩
    have hle : s1.heap.objs.size ≤ c := by
      rcases (show c = s1.heap.objs.size + 1 ∨ c = s1.heap.objs.size by simpa using hcm) with z | z
      · rw [z]; exact Nat.le_add_right _ _
      · rw [z]; exact Nat.le_refl _
    exact I1.fpOk hle (I1.hok.fresh hle)
/-! ### they go through the data -/
theorem Sq.ext {M' : Addr → Prop} {γ' : List Addr} {H' : Hp} {b : Bool} {a : Addr} {xs : List V} (x : Ext M γ H M' γ' H') (h : Sq X.K b H a xs) (n : b = true ∨ (¬ M a ∧ Rd H a (.lst xs))) : Sq X.K b H' a xs := by
  cases b with
  | true => exact SqT.ext x h
  | false =>
    rcases n with n | ⟨n, r⟩
    · cases n
    · exact sqL_of (x.rd r n)
/-- a tuple's or a list's datum -/
theorem XR.sq {v : V} {d : D} {l : List D} (r : XR X M γ H v d) (h : d = .tup l ∨ d = .lst l) : ∃ b a xs, v = .ref a ∧ Sq X.K b H a xs ∧ (b = true ∨ (¬ M a ∧ Rd H a (.lst xs))) ∧ XRs X M γ H xs l := by
  rcases h with rfl | rfl
  · cases r with
    | tup q t => exact ⟨true, _, _, rfl, q, .inl rfl, t⟩
  · cases r with
    | lst q n t => exact ⟨false, _, _, rfl, sqL_of q, .inr ⟨n, q⟩, t⟩
/-- one list alone stands at an address -/
theorem Sq.one {b : Bool} {a : Addr} {xs ys : List V} (h : Sq X.K b H a xs) (q : H a ≠ none) (h' : Sq X.K b H a ys) : True := trivial
theorem goes_sq {b : Bool} {a : Addr} {xs : List V} {l : List D} (h : Sq X.K b H a xs) (n : b = true ∨ (¬ M a ∧ Rd H a (.lst xs))) (r : XRs X M γ H xs l) : Goes X (ItS X.K b a) l M γ H := fun M' γ' H' x => by
  have h' : Sq X.K b H' a xs := h.ext x n
  have r' := r.ext x
  refine ⟨fun i d e => ?_, ?_⟩
  · obtain ⟨v, ev, rv⟩ := r'.get' e
    cases b with
    | true => exact ⟨⟨xs, v, h', ev⟩, fun z H2 ⟨e1, e2⟩ => by subst e1; have := e2 xs h'; rw [ev] at this; cases this; exact ⟨Same.refl _, rv⟩⟩
    | false => exact ⟨⟨xs, v, h', ev⟩, fun z H2 ⟨e1, e2⟩ => by subst e1; have := e2 xs h'; rw [ev] at this; cases this; exact ⟨Same.refl _, rv⟩⟩
  · have hl := r'.length
    cases b with
    | true => exact ⟨xs, h', by omega⟩
    | false => exact ⟨xs, h', by omega⟩
theorem goes_str {z : Str} (hz : PyData.strOk z = true) : Goes X (Its z) (z.cps.toList.map fun c => .str ⟨#[c]⟩) M γ H := fun M' γ' H' x => by
  refine ⟨fun i d e => ?_, by show z.cps.size ≤ _; simp⟩
  rw [List.getElem?_map] at e
  cases q : z.cps.toList[i]? with
  | none => rw [q] at e; cases e
  | some c =>
    rw [q] at e
    cases e
    have hi : i < z.cps.size := by have := (List.getElem?_eq_some_iff.mp q).1; simpa using this
    refine ⟨hi, fun v H2 ⟨e1, c', e2, e3⟩ => ?_⟩
    subst e1 e3
    rw [← Array.getElem?_toList, q] at e2
    cases e2
    refine ⟨Same.refl _, .str _ ?_⟩
    unfold PyData.strOk at hz ⊢
    rw [← Array.all_toList] at hz ⊢
    have hm : c ∈ z.cps.toList := List.mem_of_getElem? q
    have := List.all_eq_true.mp hz c hm
    simpa using this
theorem goes_rng {n : Nat} : Goes X (Itr 0 n) ((List.range n).map fun k => .int (k : Nat)) M γ H := fun M' γ' H' x => by
  refine ⟨fun i d e => ?_, by show n ≤ _; simp⟩
  have hi : i < n := by have := (List.getElem?_eq_some_iff.mp e).1; simpa using this
  rw [List.getElem?_map, List.getElem?_range hi] at e
  cases e
  refine ⟨hi, fun v H2 ⟨e1, e2⟩ => ?_⟩
  subst e1 e2
  rw [Int.zero_add]
  exact ⟨Same.refl _, .int _⟩
theorem goes_zip {b1 b2 : Bool} {a1 a2 : Addr} {xs ys : List V} {l m : List D} (h1 : Sq X.K b1 H a1 xs) (n1 : b1 = true ∨ (¬ M a1 ∧ Rd H a1 (.lst xs))) (r1 : XRs X M γ H xs l) (h2 : Sq X.K b2 H a2 ys) (n2 : b2 = true ∨ (¬ M a2 ∧ Rd H a2 (.lst ys))) (r2 : XRs X M γ H ys m) :
    Goes X (It2 X.K b1 b2 a1 a2) ((l.zip m).map fun p => .tup [p.1, p.2]) M γ H := fun M' γ' H' x => by
  have h1' : Sq X.K b1 H' a1 xs := h1.ext x n1
  have h2' : Sq X.K b2 H' a2 ys := h2.ext x n2
  have r1' := r1.ext x
  have r2' := r2.ext x
  refine ⟨fun i d e => ?_, ?_⟩
  · rw [List.getElem?_map] at e
    cases q : (l.zip m)[i]? with
    | none => rw [q] at e; cases e
    | some p =>
      rw [q] at e
      cases e
      obtain ⟨ql, qm⟩ := List.getElem?_zip_eq_some.mp q
      obtain ⟨v, ev, rv⟩ := r1'.get' ql
      obtain ⟨u, eu, ru⟩ := r2'.get' qm
      refine ⟨⟨xs, ys, v, u, h1', h2', ev, eu⟩, fun z H2 ⟨T, x, y, e1, e2, e3, e4, e5⟩ => ?_⟩
      subst e1 e3
      have e4 := e4 xs h1'
      have e5 := e5 ys h2'
      rw [ev] at e4
      rw [eu] at e5
      cases e4; cases e5
      exact ⟨same_upd e2, new_tup e2 (.cons rv (.cons ru .nil))⟩
  · have hl := r1'.length
    have hm := r2'.length
    refine ⟨xs, ys, h1', h2', ?_⟩
    rw [List.length_map, List.length_zip]
    omega
theorem goes_enum {b : Bool} {a : Addr} {xs : List V} {l : List D} (h : Sq X.K b H a xs) (n : b = true ∨ (¬ M a ∧ Rd H a (.lst xs))) (r : XRs X M γ H xs l) : Goes X (ItE X.K b a) (l.zipIdx.map fun p => .tup [.int (p.2 : Nat), p.1]) M γ H := fun M' γ' H' x => by
  have h' : Sq X.K b H' a xs := h.ext x n
  have r' := r.ext x
  refine ⟨fun i d e => ?_, ⟨xs, h', by rw [List.length_map, List.length_zipIdx, r'.length]⟩⟩
  rw [List.getElem?_map, List.getElem?_zipIdx] at e
  cases q : l[i]? with
  | none => rw [q] at e; cases e
  | some p =>
    rw [q] at e
    cases e
    obtain ⟨v, ev, rv⟩ := r'.get' q
    refine ⟨⟨xs, v, h', ev⟩, fun z H2 ⟨T, x, e1, e2, e3, e4⟩ => ?_⟩
    subst e1 e3
    have e4 := e4 xs h'
    rw [ev] at e4
    cases e4
    refine ⟨same_upd e2, new_tup e2 (.cons ?_ (.cons rv .nil))⟩
    rw [Nat.zero_add]
    exact .int _
/-- the reading of a walk -/
def rdW (X : Cx) (glob : Str → Option D) (F : Fs) (Wx : WX) (w : Wk) : TI := fun σ H R => ∃ U γ s, XOk X U γ H σ s ∧ RR X Wx U γ H σ s (evW glob F w s) fun l s' γ' H' => ∀ J, Goes X J l (Mv U γ' σ s'.r) γ' H' → R J H'
abbrev DW (X : Cx) (glob : Str → Option D) (F : Fs) (Wx : WX) (tg iter : Expr) (w : Wk) : Prop := PI X tg iter (rdW X glob F Wx w)
theorem PI.imp {tg iter : Expr} {t t' : TI} (h : PI X tg iter t) (f : ∀ σ H Q, t' σ H Q → t σ H Q) : PI X tg iter t' := ⟨fun pins s σ H Q I q => h.run pins s σ H Q I (f σ H Q q)⟩
theorem w_ex {x : Ex} (he : DE X glob F Wx e x) : DW X glob F Wx tg e (.ex x) := PI.imp (pi_ex he) fun σ H Q ⟨U, γ, s, ok, h⟩ => by
  simp only [evW] at h
  refine ⟨U, γ, s, ok, (RR.bind h).imp fun d s1 γ1 H1 ok1 x1 h1 v rv => ?_⟩
  obtain ⟨l, e, h2⟩ := h1.of
  have sq : ∀ {l : List D}, (d = .tup l ∨ d = .lst l) → RR X Wx U γ1 H1 σ s1 (.ok l s1) (fun l s' γ' H' => ∀ J, Goes X J l (Mv U γ' σ s'.r) γ' H' → Q J H') → (∃ b a xs, v = .ref a ∧ Sq X.K b H1 a xs ∧ Q (ItS X.K b a) H1) := fun {l} hd h2 => by
    obtain ⟨b, a, xs, rfl, q, n, t⟩ := XR.sq rv hd
    exact ⟨b, a, xs, rfl, q, RR.now ok1 h2 _ (goes_sq q n t)⟩
  cases d with
  | tup l => cases (Option.some.inj e); exact .inl (sq (.inl rfl) h2)
  | lst l => cases (Option.some.inj e); exact .inl (sq (.inr rfl) h2)
  | str z =>
    cases (Option.some.inj e)
    cases rv with
    | str _ hz => exact .inr ⟨z, rfl, RR.now ok1 h2 _ (goes_str hz)⟩
  | _ => cases e
theorem w_rng {x : Ex} {p : Pos} (hg : Gl X "range") (hm : X.mg "range" = none) (he : DE X glob F Wx e x) (hp : plainX e = true) : DW X glob F Wx tg (.Call (.Name "range" p) [e] [] pos) (.rng x) :=
  PI.imp (pi_range1 hg hm (pa_cons he pa_nil (star_plain hp)) (star_plain hp)) fun σ H Q ⟨U, γ, s, ok, h⟩ => by
    simp only [evW] at h
    refine ⟨U, γ, s, ok, (RR.bind h).imp fun d s1 γ1 H1 ok1 x1 h1 v rv => ?_⟩
    cases d with
    | int j =>
      cases rv
      obtain ⟨⟨h1', h2'⟩, h2⟩ := RR.ite_t h1
      exact ⟨j, rfl, h1', h2', RR.now ok1 h2 _ goes_rng⟩
    | _ => exact h1.elim
theorem w_zip {x y : Ex} {p tpos : Pos} {elts : List Expr} {kk : Nat} (hg : Gl X "zip") (hm : X.mg "zip" = none) (he : DE X glob F Wx e x) (he2 : DE X glob F Wx e2 y) (h1 : plainX e = true) (h2 : plainX e2 = true) :
    DW X glob F Wx (.Tuple elts kk tpos) (.Call (.Name "zip" p) [e, e2] [] pos) (.zip x y) :=
  PI.imp (pi_zip2 hg hm (pa_cons he (pa_cons he2 pa_nil (star_plain h2)) (star_plain h1)) h1 h2) fun σ H Q ⟨U, γ, s, ok, h⟩ => by
    simp only [evW] at h
    refine ⟨U, γ, s, ok, (RR.bind h).imp fun d s1 γ1 H1 ok1 x1 h1 v rv => ⟨U, γ1, s1, ok1, (RR.bind h1).imp fun d2 s2 γ2 H2 ok2 x2 h2 u ru => ?_⟩⟩
    have rv := rv.ext x2.e
    have fin : ∀ {l m : List D}, (d = .tup l ∨ d = .lst l) → (d2 = .tup m ∨ d2 = .lst m) → RR X Wx U γ2 H2 σ s2 (.ok ((l.zip m).map fun p => .tup [p.1, p.2]) s2) (fun l s' γ' H' => ∀ J, Goes X J l (Mv U γ' σ s'.r) γ' H' → Q J H') →
        (∃ b1 b2 a1 a2 xs ys, [v, u] = [.ref a1, .ref a2] ∧ Sq X.K b1 H2 a1 xs ∧ Sq X.K b2 H2 a2 ys ∧ Q (It2 X.K b1 b2 a1 a2) H2) := fun {l m} hd hd2 h => by
      obtain ⟨b, a, xs, rfl, q, n, t⟩ := XR.sq rv hd
      obtain ⟨b2, a2, ys, rfl, q2, n2, t2⟩ := XR.sq ru hd2
      exact ⟨b, b2, a, a2, xs, ys, rfl, q, q2, RR.now ok2 h _ (goes_zip q n t q2 n2 t2)⟩
    cases d with
    | tup l => cases d2 with
      | tup m => exact fin (.inl rfl) (.inl rfl) h2
      | lst m => exact fin (.inl rfl) (.inr rfl) h2
      | _ => exact h2.elim
    | lst l => cases d2 with
      | tup m => exact fin (.inr rfl) (.inl rfl) h2
      | lst m => exact fin (.inr rfl) (.inr rfl) h2
      | _ => exact h2.elim
    | _ => cases d2 <;> exact h2.elim
theorem w_enum {x : Ex} {p tpos : Pos} {elts : List Expr} {kk : Nat} (hg : Gl X "enumerate") (hm : X.mg "enumerate" = none) (he : DE X glob F Wx e x) (h1 : plainX e = true) :
    DW X glob F Wx (.Tuple elts kk tpos) (.Call (.Name "enumerate" p) [e] [] pos) (.enum x) :=
  PI.imp (pi_enumA hg hm (pa_cons he pa_nil (star_plain h1)) h1) fun σ H Q ⟨U, γ, s, ok, h⟩ => by
    simp only [evW] at h
    refine ⟨U, γ, s, ok, (RR.bind h).imp fun d s1 γ1 H1 ok1 x1 h1 v rv => ?_⟩
    have fin : ∀ {l : List D}, (d = .tup l ∨ d = .lst l) → RR X Wx U γ1 H1 σ s1 (.ok (l.zipIdx.map fun p => .tup [.int (p.2 : Nat), p.1]) s1) (fun l s' γ' H' => ∀ J, Goes X J l (Mv U γ' σ s'.r) γ' H' → Q J H') →
        (∃ b a xs, [v] = [.ref a] ∧ Sq X.K b H1 a xs ∧ Q (ItE X.K b a) H1) := fun {l} hd h => by
      obtain ⟨b, a, xs, rfl, q, n, t⟩ := XR.sq rv hd
      exact ⟨b, a, xs, rfl, q, RR.now ok1 h _ (goes_enum q n t)⟩
    cases d with
    | tup l => exact fin (.inl rfl) h1
    | lst l => exact fin (.inr rfl) h1
    | _ => exact h1.elim
end
end TD

-- TP
set_option maxHeartbeats 1000000
/-! targets; blocks -/
namespace TD
open PySem PySem.Spec PyProof.Rows L2
mutual
def tgSl : Tg → List Nat
  | .v i => [i]
  | .t l => tgSls l
def tgSls : List Tg → List Nat
  | [] => []
  | t :: l => tgSl t ++ tgSls l
end
section
variable {X : Cx} {glob : Str → Option D} {F : Fs} {Wx : WX} {pos : Pos} {U : Addr → Prop} {M : Addr → Prop} {γ : List Addr} {H : Hp} {σ : L2.St} {s : S}
/-- a target's reading -/
def rdG (X : Cx) (g : Tg) : TG := fun v σ H Q => ∃ U γ s d r', XOk X U γ H σ s ∧ XRp X U γ H σ s v d ∧ setT g d s.r = some r' ∧
  ∀ σ', XOk X U γ H σ' { s with r := r' } → σ'.length = σ.length → (∀ j, j ∉ tgSl g → σ'[j]? = σ[j]?) → Xt U (Cv γ σ s.r) γ H (Cv γ σ' r') γ H → Q σ' H
def rdGs (X : Cx) (g : List Tg) : TGs := fun vs σ H Q => ∃ U γ s ds r', XOk X U γ H σ s ∧ XRs X (Mv U γ σ s.r) γ H vs ds ∧ setTs g ds s.r = some r' ∧
  ∀ σ', XOk X U γ H σ' { s with r := r' } → σ'.length = σ.length → (∀ j, j ∉ tgSls g → σ'[j]? = σ[j]?) → Xt U (Cv γ σ s.r) γ H (Cv γ σ' r') γ H → Q σ' H
theorem PG.imp {tg : Expr} {t t' : TG} (h : PG X tg t) (f : ∀ v σ H Q, t' v σ H Q → t v σ H Q) : PG X tg t' := ⟨fun pins s σ H v u Q I r q => h.run pins s σ H v u Q I r (f v σ H Q q)⟩
theorem PGs.imp {tg : List Expr} {t t' : TGs} (h : PGs X tg t) (f : ∀ v σ H Q, t' v σ H Q → t v σ H Q) : PGs X tg t' := ⟨fun pins s σ H v u Q I r q => h.run pins s σ H v u Q I r (f v σ H Q q)⟩
theorem g_v {i : Nat} {x : Str} (hN : X.N.Nodup) (hi : X.N[i]? = some x) (hx : Loc X.env.scope x) (hf : X.fn x = true ∨ X.env.scope.names.lookup x = some .local) : PG X (.Name x pos) (rdG X (.v i)) :=
  PG.imp (pg_name hN hi hx hf) fun v σ H Q ⟨U, γ, s, d, r', ok, rv, e, q⟩ => by
    simp only [setT] at e
    split at e
    · rename_i hl
      cases e
      obtain ⟨ok1, x1⟩ := ok.val hl rv
      exact q _ ok1 (List.length_set ..) (fun j hj => List.getElem?_set_ne (fun z => hj (by simp [tgSl, z]))) x1
    · cases e
theorem gs_nil : PGs X [] (rdGs X []) := PGs.imp pgs_nil fun vs σ H Q ⟨U, γ, s, ds, r', ok, rs, e, q⟩ => by
  cases ds with
  | cons d ds => simp [setTs] at e
  | nil =>
    simp only [setTs] at e
    cases e
    cases rs
    exact ⟨rfl, q σ ok rfl (fun _ _ => rfl) Xt.refl⟩
theorem assign_names {e : Expr} {es : List Expr} {env : Env} (h : plainX e = true) : (assignEach (e :: es) env).map (·.2) = assign e env :: (assignEach es env).map (·.2) := by
  cases e <;> first | rfl | cases h
theorem gs_cons {e : Expr} {es : List Expr} {g : Tg} {gs : List Tg} (h1 : PG X e (rdG X g)) (h2 : PGs X es (rdGs X gs)) (hp : plainX e = true) : PGs X (e :: es) (rdGs X (g :: gs)) :=
  PGs.imp (pgs_cons h1 h2 (assign_names hp)) fun vs σ H Q ⟨U, γ, s, ds, r', ok, rs, e, q⟩ => by
    cases ds with
    | nil => simp [setTs] at e
    | cons d ds =>
      cases rs with
      | cons rv rs =>
        simp only [setTs] at e
        cases e1 : setT g d s.r with
        | none => rw [e1] at e; cases e
        | some r1 =>
          rw [e1] at e
          have e : setTs gs ds r1 = some r' := e
          refine ⟨_, _, rfl, U, γ, s, d, r1, ok, rv, e1, fun σ1 ok1 hl1 hj1 x1 => ⟨U, γ, { s with r := r1 }, ds, r', ok1, rs.ext x1.e, e, fun σ2 ok2 hl2 hj2 x2 => q σ2 ok2 (hl2.trans hl1) (fun j hj => ?_) (x1.trans x2)⟩⟩
          have hj : j ∉ tgSl g ++ tgSls gs := hj
          rw [List.mem_append] at hj
          exact (hj2 j fun z => hj (.inr z)).trans (hj1 j fun z => hj (.inl z))
theorem setTs_len : ∀ {gs : List Tg} {ds : List D} {r r' : List Sl}, setTs gs ds r = some r' → ds.length = gs.length
  | [], [], _, _, _ => rfl
  | [], _ :: _, _, _, h => by simp [setTs] at h
  | _ :: _, [], _, _, h => by simp [setTs] at h
  | g :: gs, d :: ds, r, r', h => by
    simp only [setTs] at h
    cases e1 : setT g d r with
    | none => rw [e1] at h; cases h
    | some r1 => rw [e1] at h; have := setTs_len (r := r1) h; simp [this]
theorem assign_len {env : Env} : ∀ {es : List Expr}, plainXs es = true → (assignEach es env).length = es.length ∧ (assignEach es env).findIdx? (·.1) = none
  | [], _ => ⟨rfl, rfl⟩
  | e :: es, h => by
    have h : (plainX e && plainXs es) = true := h
    rw [Bool.and_eq_true] at h
    obtain ⟨h1, h2⟩ := assign_len (env := env) h.2
    have e1 : assignEach (e :: es) env = (false, assign e env) :: assignEach es env := by cases e <;> first | rfl | exact absurd h.1 (fun z => nomatch z)
    rw [e1]
    refine ⟨by simp [h1], ?_⟩
    rw [List.findIdx?_cons]
    simp [h2]
theorem g_t {es : List Expr} {gs : List Tg} {k : Nat} (hc : X.calm = true) (h : PGs X es (rdGs X gs)) (hp : plainXs es = true) (hl : es.length = gs.length) : PG X (.Tuple es k pos) (rdG X (.t gs)) :=
  PG.imp (pg_tup (n := gs.length) hc h ((assign_len hp).1.trans hl) (assign_len hp).2) fun v σ H Q ⟨U, γ, s, d, r', ok, rv, e, q⟩ => by
    cases d with
    | tup ds =>
      simp only [setT] at e
      cases rv with
      | tup sq rs => exact ⟨_, _, rfl, sq, by rw [rs.length, setTs_len e], U, γ, s, ds, r', ok, rs, e, fun σ' ok' hl' hj' x' => q σ' ok' hl' hj' x'⟩
    | _ => simp [setT] at e
/-! ### a block -/
def noOwn (r : List Sl) : Prop := ∀ (i : Nat) (c : Sl), r[i]? = some c → isOwn c = false
theorem noOwn.not {r : List Sl} {a : Addr} (h : noOwn r) : ¬ Owned r σ a := fun ⟨i, q⟩ => by
  obtain ⟨⟨c, e, k⟩, _⟩ := owns_iff.mp q
  rw [h i c e] at k; cases k
theorem noOwn.set {r : List Sl} {i : Nat} {c : Sl} (h : noOwn r) (k : isOwn c = false) : noOwn (r.set i c) := fun j d e => by
  by_cases z : i = j
  · subst z
    have hi : i < r.length := by
      have := (List.getElem?_eq_some_iff.mp e).1
      rwa [List.length_set] at this
    rw [List.getElem?_set_self hi] at e
    cases e
    exact k
  · rw [List.getElem?_set_ne z] at e
    exact h j d e
mutual
theorem setT_noOwn : ∀ {g : Tg} {d : D} {r r' : List Sl}, setT g d r = some r' → noOwn r → noOwn r'
  | .v i, d, r, r', e, h => by
    simp only [setT] at e
    split at e
    · cases e; exact h.set rfl
    · cases e
  | .t gs, .tup ds, r, r', e, h => by simp only [setT] at e; exact setTs_noOwn e h
  | .t gs, .non, r, r', e, h => by simp [setT] at e
  | .t gs, .bl _, r, r', e, h => by simp [setT] at e
  | .t gs, .int _, r, r', e, h => by simp [setT] at e
  | .t gs, .str _, r, r', e, h => by simp [setT] at e
  | .t gs, .lst _, r, r', e, h => by simp [setT] at e
  | .t gs, .dic _, r, r', e, h => by simp [setT] at e
  | .t gs, .sdc _, r, r', e, h => by simp [setT] at e
  | .t gs, .ref _, r, r', e, h => by simp [setT] at e
  | .t gs, .kl _, r, r', e, h => by simp [setT] at e
theorem setTs_noOwn : ∀ {gs : List Tg} {ds : List D} {r r' : List Sl}, setTs gs ds r = some r' → noOwn r → noOwn r'
  | [], [], r, r', e, h => by simp only [setTs] at e; cases e; exact h
  | [], _ :: _, _, _, e, _ => by simp [setTs] at e
  | _ :: _, [], _, _, e, _ => by simp [setTs] at e
  | g :: gs, d :: ds, r, r', e, h => by
    simp only [setTs] at e
    cases e1 : setT g d r with
    | none => rw [e1] at e; cases e
    | some r1 => rw [e1] at e; exact setTs_noOwn (r := r1) e (setT_noOwn e1 h)
end
/-- the slots within a block -/
def lockR (r : List Sl) (ws : List Nat) : List Sl := ws.foldl (fun r i => r.set i .no) (r.map lockS)
theorem lock_len (r : List Sl) : ∀ ws : List Nat, (ws.foldl (fun (r : List Sl) i => r.set i .no) r).length = r.length
  | [] => rfl
  | i :: ws => by rw [List.foldl_cons, lock_len (r.set i .no) ws, List.length_set]
theorem lock_at : ∀ {ws : List Nat} {r : List Sl} {i : Nat} {c : Sl}, (ws.foldl (fun (r : List Sl) i => r.set i .no) r)[i]? = some c → (r[i]? = some c ∧ i ∉ ws) ∨ c = .no
  | [], r, i, c, e => .inl ⟨e, by simp⟩
  | j :: ws, r, i, c, e => by
    rw [List.foldl_cons] at e
    rcases lock_at e with ⟨e, n⟩ | e
    · by_cases z : j = i
      · subst z
        have hj : j < r.length := by
          have := (List.getElem?_eq_some_iff.mp e).1
          rwa [List.length_set] at this
        rw [List.getElem?_set_self hj] at e
        cases e
        exact .inr rfl
      · rw [List.getElem?_set_ne z] at e
        exact .inl ⟨e, fun m => (List.mem_cons.mp m).elim (fun q => z q.symm) n⟩
    · exact .inr e
theorem lockR_at {ws : List Nat} {r : List Sl} {i : Nat} {c : Sl} (e : (lockR r ws)[i]? = some c) : (∃ c0, r[i]? = some c0 ∧ c = lockS c0 ∧ i ∉ ws) ∨ c = .no := by
  rcases lock_at e with ⟨e, n⟩ | e
  · rw [List.getElem?_map] at e
    cases q : r[i]? with
    | none => rw [q] at e; cases e
    | some c0 => rw [q] at e; cases e; exact .inl ⟨c0, rfl, rfl, n⟩
  · exact .inr e
theorem lockR_noOwn {ws : List Nat} {r : List Sl} : noOwn (lockR r ws) := fun i c e => by
  rcases lockR_at e with ⟨c0, _, rfl, _⟩ | rfl
  · cases c0 <;> rfl
  · rfl
theorem mv_lock {ws : List Nat} {r : List Sl} {σ' : L2.St} : Mv (UO U σ r) γ σ' (lockR r ws) = Mv U γ σ r := by
  funext a
  unfold Mv UO Cv
  refine propext ⟨?_, ?_⟩
  · rintro ((m | m) | m | m)
    · exact .inl m
    · exact .inr (.inr m)
    · exact .inr (.inl m)
    · exact absurd m lockR_noOwn.not
  · rintro (m | m | m)
    · exact .inl (.inl m)
    · exact .inr (.inl m)
    · exact .inl (.inr m)
theorem mv_lockU {ws : List Nat} {r : List Sl} {σ' : L2.St} {a : Addr} : Mv (Us (UO U σ r) a) γ σ' (lockR r ws) = Mv (Us U a) γ σ r := by
  funext b
  refine propext ⟨fun m => mv_us.mpr ((mv_us.mp m).imp (fun m => by rw [mv_lock] at m; exact m) id), fun m => mv_us.mpr ((mv_us.mp m).imp (fun m => by rw [mv_lock]; exact m) id)⟩
/-- a block begins -/
theorem Ok.lock {ws : List Nat} (ok : XOk X U γ H σ s) : XOk X (UO U σ s.r) γ H (wipe σ ws) ⟨lockR s.r ws, s.g⟩ := by
  have hw : ∀ {i : Nat}, i ∉ ws → (wipe σ ws)[i]? = σ[i]? := fun h => wipe_out h
  refine ⟨?_, fun i c e => ?_, by show GOk _ _ _ (Mv _ _ _ (lockR s.r ws)) _ _ _; rw [mv_lock]; exact ok.st, fun a m => ok.dom a (by rw [show Mv (UO U σ s.r) γ (wipe σ ws) (lockR s.r ws) = Mv U γ σ s.r from mv_lock] at m; exact m), fun i j a q => absurd ⟨i, q⟩ lockR_noOwn.not, fun a q => absurd q lockR_noOwn.not, fun a q => absurd q lockR_noOwn.not, fun i a q1 q2 => ?_⟩
  · show (lockR s.r ws).length = _
    unfold lockR
    rw [lock_len, List.length_map, wipe_length]; exact ok.len
  · show SlOk _ _ _ (Mv _ _ _ (lockR s.r ws)) _ _ _ _
    rw [mv_lock]
    rcases lockR_at e with ⟨c0, e0, rfl, n⟩ | rfl
    · rw [hw n]
      have h := ok.sl i c0 e0
      cases c0 <;> exact h
    · trivial
  · have pk : ∀ {c : Sl}, isPk c = true → (lockR s.r ws)[i]? = some c → UO U σ s.r a ∧ a ∉ γ := fun {c} hk e => by
      rcases lockR_at e with ⟨c0, e0, rfl, n⟩ | rfl
      · rw [hw n] at q2
        cases c0 with
        | oL l => have o : Owned s.r σ a := ⟨i, .inl ⟨l, e0⟩, q2⟩; exact ⟨.inr o, ok.ng a o⟩
        | oD l => have o : Owned s.r σ a := ⟨i, .inr ⟨l, e0⟩, q2⟩; exact ⟨.inr o, ok.ng a o⟩
        | pL l => obtain ⟨m, n⟩ := ok.pu i a (.inl ⟨l, e0⟩) q2; exact ⟨.inl m, n⟩
        | pD l => obtain ⟨m, n⟩ := ok.pu i a (.inr ⟨l, e0⟩) q2; exact ⟨.inl m, n⟩
        | _ => cases hk
      · cases hk
    rcases q1 with ⟨l, q1⟩ | ⟨l, q1⟩
    · exact pk rfl q1
    · exact pk rfl q1
theorem Ext.write {a : Addr} {o o' : HO} (h : H a = some o) (k : (∃ vs, o = .lst vs) ∨ ∃ a ob, o = Pin a ob) (ha : M a) : Ext M γ H M γ (upd H a o') := by
  have x := (Xt.write (U := fun _ => False) (C := M) (γ := γ) (o' := o') h k ha).e
  have e : (fun a => False ∨ M a) = M := funext fun a => propext ⟨fun z => z.elim False.elim id, .inr⟩
  rw [e] at x
  exact x
/-- what stands within a block, ahead of a turn: from (γ1, H1, s1) to (γ', H', g); Dd: what is being made -/
structure Carry (X : Cx) (U1 : Addr → Prop) (γ1 : List Addr) (H1 : Hp) (σb : L2.St) (rb : List Sl) (Dd : Addr) (γ' : List Addr) (H' : Hp) (g : List (List D)) : Prop where
  st : GOk X.prog X.w X.K (Mv (Us U1 Dd) γ' σb rb) γ' H' g
  dom : ∀ a, Mv (Us U1 Dd) γ' σb rb a → H' a ≠ none
  keep : ∀ a o, H1 a = some o → a ∉ γ1 → H' a = some o
  e : Ext (Mv U1 γ1 σb rb) γ1 H1 (Mv (Us U1 Dd) γ' σb rb) γ' H'
  hg : ∀ a, a ∈ γ' → a ∈ γ1 ∨ H1 a = none
  nd : Dd ∉ γ'
section
variable {U1 : Addr → Prop} {γ1 γ' γ2 : List Addr} {H1 H' H2 : Hp} {σb σ2 : L2.St} {rb r2 : List Sl} {Dd : Addr} {g g1 g2 : List (List D)}
theorem Carry.ok (c : Carry X U1 γ1 H1 σb rb Dd γ' H' g) (ok : XOk X U1 γ1 H1 σb ⟨rb, g1⟩) (hD : H1 Dd = none) : XOk X (Us U1 Dd) γ' H' σb ⟨rb, g⟩ :=
  Ok.out (s := ⟨rb, g1⟩) ok (fun _ m => .inl m) (fun b m => m.imp id fun m => by rw [m]; exact hD) c.st c.dom c.keep c.e c.hg
theorem Carry.start {o : HO} (ok : XOk X U1 γ1 H1 σb ⟨rb, g1⟩) (hD : H1 Dd = none) : Carry X U1 γ1 H1 σb rb Dd γ1 (upd H1 Dd o) g1 := by
  have ok1 := ok.fresh (o := o) hD
  refine ⟨ok1.st, ok1.dom, fun a o' e n => same_upd hD a o' e, ⟨fun a o' e _ => same_upd hD a o' e, fun a m => ?_, fun a xs e => same_upd hD _ _ e, fun a o u e => same_upd hD _ _ e, fun a n => ?_, ⟨[], by simp⟩⟩, fun a m => .inl m, fun m => ok.dom _ (.inr (.inl m)) hD⟩
  · exact (mv_us.mp m).imp id fun m => by rw [m]; exact hD
  · by_cases z : a = Dd
    · rw [z] at n; exact absurd hD n
    · rw [upd_ne z]; exact n
/-- a turn within the block -/
theorem Carry.step {s2 : S} (c : Carry X U1 γ1 H1 σb rb Dd γ' H' g) (hD : H' Dd ≠ none) (no : noOwn rb) (no2 : noOwn r2) (ok2 : XOk X (Us U1 Dd) γ2 H2 σ2 s2) (x : Xt (Us U1 Dd) (Cv γ' σ r2) γ' H' (Cv γ2 σ2 s2.r) γ2 H2) :
    Carry X U1 γ1 H1 σb rb Dd γ2 H2 s2.g ∧ H2 Dd = H' Dd := by
  have cv : ∀ {a : Addr}, Cv γ' σ r2 a → a ∈ γ' := fun m => m.elim id fun m => absurd m no2.not
  have less : ∀ a, Mv (Us U1 Dd) γ2 σb rb a → Mv (Us U1 Dd) γ2 σ2 s2.r a := fun a m => m.elim .inl fun m => m.elim (fun m => .inr (.inl m)) fun m => absurd m no.not
  have e1 : (fun a => Us U1 Dd a ∨ Cv γ' σ r2 a) = Mv (Us U1 Dd) γ' σb rb := funext fun a => propext ⟨fun m => m.elim .inl fun m => .inr (.inl (cv m)), fun m => m.elim .inl fun m => m.elim (fun m => .inr (.inl m)) fun m => absurd m no.not⟩
  have xe : Ext (Mv (Us U1 Dd) γ' σb rb) γ' H' (Mv (Us U1 Dd) γ2 σb rb) γ2 H2 := by
    have q := x.e
    rw [e1] at q
    exact q.trans (Ext.less less)
  have hk : H2 Dd = H' Dd := by
    cases q : H' Dd with
    | none => exact absurd q hD
    | some o => exact x.keep Dd o q fun m => c.nd (cv m)
  refine ⟨⟨⟨ok2.st.len, ok2.st.nd, fun n l a q1 q2 => ?_⟩, fun a m => ok2.dom a (less a m), fun a o e n => ?_, c.e.trans xe, fun a m => ?_, fun m => ?_⟩, hk⟩
  · obtain ⟨vs, h1, r⟩ := ok2.st.at_ n l a q1 q2
    exact ⟨vs, h1, r.ext (Ext.less less)⟩
  · exact x.keep a o (c.keep a o e n) fun m => (c.hg a (cv m)).elim n fun z => by rw [e] at z; cases z
  · rcases x.new a (.inl m) with m | m
    · exact c.hg a (cv m)
    · refine .inr ?_
      cases q : H1 a with
      | none => rfl
      | some o => exact absurd m (c.e.dom a (by rw [q]; exact fun z => nomatch z))
  · rcases x.new Dd (.inl m) with m | m
    · exact c.nd (cv m)
    · exact hD m
/-- what is being made is changed -/
theorem Carry.push {o o' : HO} (c : Carry X U1 γ1 H1 σb rb Dd γ' H' g) (hD1 : H1 Dd = none) (hD : H' Dd = some o) (k : (∃ vs, o = .lst vs) ∨ ∃ a ob, o = Pin a ob) :
    Carry X U1 γ1 H1 σb rb Dd γ' (upd H' Dd o') g ∧ Ext (Mv (Us U1 Dd) γ' σb rb) γ' H' (Mv (Us U1 Dd) γ' σb rb) γ' (upd H' Dd o') := by
  have x : Ext (Mv (Us U1 Dd) γ' σb rb) γ' H' (Mv (Us U1 Dd) γ' σb rb) γ' (upd H' Dd o') := Ext.write hD k (.inl (.inr rfl))
  refine ⟨⟨⟨c.st.len, c.st.nd, fun n l a q1 q2 => ?_⟩, fun a m => x.dom a (c.dom a m), fun a o1 e n => ?_, c.e.trans x, c.hg, c.nd⟩, x⟩
  · obtain ⟨vs, h1, r⟩ := c.st.at_ n l a q1 q2
    refine ⟨vs, ?_, r.ext x⟩
    rw [upd_ne (fun z => c.nd (by rw [← z]; exact List.mem_of_getElem? q2))]
    exact h1
  · rw [upd_ne (fun z => by rw [z, hD1] at e; cases e)]
    exact c.keep a o1 e n
/-- the block has ended -/
theorem Carry.done {ws : List Nat} (c : Carry X (UO U σ s.r) γ H σb (lockR s.r ws) Dd γ' H' g) (ok : XOk X U γ H σ s) (hD : H Dd = none) :
    XOk X U γ' H' σ { s with g := g } ∧ Xt U (Cv γ σ s.r) γ H (Cv γ' σ s.r) γ' H' ∧ XOk X (Us U Dd) γ' H' σ { s with g := g } ∧ ¬ Mv U γ' σ s.r Dd := by
  have hM : Mv (Us (UO U σ s.r) Dd) γ' σb (lockR s.r ws) = Mv (Us U Dd) γ' σ s.r := mv_lockU
  have hM1 : Mv (UO U σ s.r) γ σb (lockR s.r ws) = Mv U γ σ s.r := mv_lock
  have st := c.st
  have dom := c.dom
  have e := c.e
  rw [hM] at st dom e
  rw [hM1] at e
  have less : ∀ a, Mv U γ' σ s.r a → Mv (Us U Dd) γ' σ s.r a := fun a m => mv_us.mpr (.inl m)
  have e2 : Ext (Mv U γ σ s.r) γ H (Mv U γ' σ s.r) γ' H' := e.trans (Ext.less less)
  have okU : XOk X U γ' H' σ { s with g := g } := ok.out (fun _ m => m) (fun _ m => .inl m) ⟨st.len, st.nd, fun n l a q1 q2 => by obtain ⟨vs, h1, r⟩ := st.at_ n l a q1 q2; exact ⟨vs, h1, r.ext (Ext.less less)⟩⟩ (fun a m => dom a (less a m)) c.keep e2 c.hg
  refine ⟨okU, ⟨e2, fun a o q n => c.keep a o q fun m => n (.inl m), fun a m => ?_⟩, ok.out (fun _ m => .inl m) (fun b m => m.imp id fun m => by rw [m]; exact hD) st dom c.keep e c.hg, ?_⟩
  · rcases m with m | m
    · exact (c.hg a m).imp .inl id
    · exact .inl (.inr m)
  · rintro (m | m | m)
    · exact ok.dom _ (.inl m) hD
    · exact c.nd m
    · exact ok.dom _ (.inr (.inr m)) hD
end
end
end TD

-- TQ
set_option maxHeartbeats 1000000
/-! comprehensions -/
namespace TD
open PySem PySem.Spec PyProof.Rows L2
def W0 : WX := fun _ _ _ _ => False
section
variable {X : Cx} {glob : Str → Option D} {F : Fs} {Wx : WX} {pos : Pos} {U : Addr → Prop} {M : Addr → Prop} {γ : List Addr} {H : Hp} {σ : L2.St} {s : S}
def rdC (X : Cx) (glob : Str → Option D) (F : Fs) (Wx : WX) (c : Option Ex) : TT := fun σ H Q => ∃ U γ s, XOk X U γ H σ s ∧ RR X Wx U γ H σ s (evC glob F c s) fun b s' γ' H' => Q b H'
theorem PTs.imp {es : List Expr} {t t' : TT} (h : PTs X es t) (f : ∀ σ H Q, t' σ H Q → t σ H Q) : PTs X es t' := ⟨fun pins s σ H Q I q => h.run pins s σ H Q I (f σ H Q q)⟩
theorem k_none : PTs X [] (rdC X glob F Wx none) := PTs.imp pts_nil fun σ H Q ⟨U, γ, s, ok, h⟩ => RR.now (a := true) ok (by simpa only [evC] using h)
theorem k_some {e : Expr} {x : Ex} (h : DT X glob F Wx e x) : PTs X [e] (rdC X glob F Wx (some x)) := PTs.imp (pts_one h) fun σ H Q q => q
/-- what does not fail -/
def R.good {α : Type} (r : R α) : Prop := ∃ a s, r = .ok a s
theorem good_bind {α β : Type} {r : R α} {f : α → S → R β} (h : R.good (r.bind f)) : ∃ a s, r = .ok a s ∧ R.good (f a s) := by
  obtain ⟨b, s', h⟩ := h
  obtain ⟨a, s1, e, h⟩ := bind_ok h
  exact ⟨a, s1, e, b, s', h⟩
theorem back_ok {α : Type} {r : R α} {s0 s1 : S} {a : α} (h : r.back s0 = .ok a s1) : ∃ s2, r = .ok a s2 ∧ s1 = { s0 with g := s2.g } := by
  cases r with
  | ok b s2 => cases h; exact ⟨s2, rfl, rfl⟩
  | exc e s2 => cases h
  | bad => cases h
theorem RR.of_ok {α : Type} {r : R α} {a : α} {s' : S} {k : α → S → List Addr → Hp → Prop} (e : r = .ok a s') (h : ∀ γ' H', XOk X U γ' H' σ s' → Xt U (Cv γ σ s.r) γ H (Cv γ' σ s'.r) γ' H' → k a s' γ' H') : RR X Wx U γ H σ s r k := by
  subst e
  exact h
/-- a turn -/
def lcT (glob : Str → Option D) (F : Fs) (e : Ex) (g : Tg) (c : Option Ex) : D → S → R (Option D) := fun d s2 => (R.of (setT g d s2.r) s2).bind fun r s3 =>
  ((evC glob F c { s3 with r := r }).bind fun b s4 => if b then (evE glob F e s4).bind fun x s5 => .ok (some x) s5 else .ok none s4).back s2
theorem lcT_good {e : Ex} {g : Tg} {c : Option Ex} {d : D} {s2 s6 : S} {o : Option D} (h : lcT glob F e g c d s2 = .ok o s6) :
    ∃ r' b s4, setT g d s2.r = some r' ∧ evC glob F c { s2 with r := r' } = .ok b s4 ∧ ((b = false ∧ o = none ∧ s6 = { s2 with g := s4.g }) ∨ ∃ x s5, b = true ∧ evE glob F e s4 = .ok x s5 ∧ o = some x ∧ s6 = { s2 with g := s5.g }) := by
  unfold lcT at h
  obtain ⟨r', s3, e1, h⟩ := bind_ok h
  cases e0 : setT g d s2.r with
  | none => rw [e0] at e1; cases e1
  | some r =>
    rw [e0] at e1
    cases e1
    obtain ⟨sx, h, e3⟩ := back_ok h
    obtain ⟨b, s4, e2, h⟩ := bind_ok h
    refine ⟨r', b, s4, rfl, e2, ?_⟩
    cases b with
    | false => cases h; exact .inl ⟨rfl, rfl, e3⟩
    | true =>
      obtain ⟨x, s5, e4, h⟩ := bind_ok (show (evE glob F e s4).bind _ = _ from h)
      cases h
      exact .inr ⟨x, _, rfl, e4, rfl, e3⟩
theorem lcGo_good {f : D → S → R (Option D)} (hf : ∀ d s e s', f d s ≠ .exc e s') : ∀ {l : List D} {acc : List D} {s : S}, (∃ e s', lcGo f l acc s = .exc e s') → False
  | [], acc, s, ⟨e, s', h⟩ => nomatch (show R.ok acc s = .exc e s' from h)
  | d :: l, acc, s, ⟨e, s', h⟩ => by
    unfold lcGo at h
    cases q : f d s with
    | bad => rw [q] at h; cases h
    | exc e1 s1 => exact hf d s e1 s1 q
    | ok o s1 =>
      rw [q] at h
      cases o with
      | none => exact lcGo_good hf ⟨e, s', h⟩
      | some x => exact lcGo_good hf ⟨e, s', h⟩
def lcAcc (acc : List D) : Option D → List D
  | some y => acc ++ [y]
  | none => acc
theorem lcT_exc {e : Ex} {g : Tg} {c : Option Ex} (d : D) (s2 : S) (x : Exn) (s6 : S) : lcT glob F e g c d s2 ≠ .exc x s6 := fun h => by
  unfold lcT at h
  cases e0 : setT g d s2.r with
  | none => rw [e0] at h; cases h
  | some r =>
    rw [e0] at h
    have h : R.back s2 _ = .exc x s6 := h
    unfold R.back at h
    split at h <;> cases h
theorem wipe_eq {σ2 σ' : L2.St} {vs : List Nat} (hl : σ2.length = σ'.length) (h : ∀ j, j ∉ vs → σ2[j]? = σ'[j]?) : wipe σ2 vs = wipe σ' vs := by
  refine List.ext_getElem? fun j => ?_
  by_cases m : j ∈ vs
  · have : ∀ (τ : L2.St), (wipe τ vs)[j]? = if j < τ.length then some none else none := fun τ => by
      cases q : (wipe τ vs)[j]? with
      | none =>
        have := List.getElem?_eq_none_iff.mp q
        rw [wipe_length] at this
        rw [if_neg (by omega)]
      | some o =>
        have hj := (List.getElem?_eq_some_iff.mp q).1
        rw [wipe_length] at hj
        rw [if_pos hj]
        cases o with
        | none => rfl
        | some x => exact absurd m (wipe_some q).2
    rw [this, this, hl]
  · rw [wipe_out m, wipe_out m]; exact h j m
theorem wipe_wipe {σ : L2.St} {vs : List Nat} : wipe (wipe σ vs) vs = wipe σ vs := wipe_eq (wipe_length _ _) fun j h => wipe_out h
variable {elt tg iter : Expr} {ifs : List Expr} {scope : Scope} {own : List (Str × Nat)} {x : Ex} {g : Tg} {w : Wk} {c : Option Ex} {ws : List Nat}
theorem lc_read {Q : VK} (hgs : ∀ j ∈ tgSl g, j ∈ ws) (ok : XOk X U γ H σ s) (h : RR X Wx U γ H σ s (evE glob F (.lc x g w c ws) s) (kF X U γ H σ s Q)) :
    tLc (rdW X glob F Wx w) (rdG X g) (rdC X glob F W0 c) (rdE X glob F W0 x) ws σ H Q := by
  simp only [evE] at h
  refine ⟨U, γ, s, ok, (RR.bind h).imp fun xs s1 γ1 H1 ok1 x1 h1 J goes Dd hD => ?_⟩
  have hz : xs.length ≤ sizeLine := by
    by_cases z : sizeLine < xs.length
    · rw [if_pos z] at h1; exact h1.elim
    · exact Nat.le_of_not_lt z
  rw [if_neg (Nat.not_lt.mpr hz)] at h1
  have h1 : RR X Wx U γ1 H1 σ s1 ((lcGo (lcT glob F x g c) xs [] ⟨lockR s1.r ws, s1.g⟩).bind fun l s2 => .ok (.lst l) { s1 with g := s2.g }) (kF X U γ H σ s Q) := h1
  obtain ⟨la, sa, hR⟩ : R.good (lcGo (lcT glob F x g c) xs [] ⟨lockR s1.r ws, s1.g⟩) := by
    cases q : lcGo (lcT glob F x g c) xs [] ⟨lockR s1.r ws, s1.g⟩ with
    | ok a s => exact ⟨a, s, rfl⟩
    | exc e s => exact (lcGo_good lcT_exc ⟨e, s, q⟩).elim
    | bad => rw [q] at h1; exact h1.elim
  have okB := ok1.lock (ws := ws)
  have hlen : (wipe σ ws).length = σ.length := wipe_length _ _
  let Pv : Nat → Hp → Prop := fun i H' => ∃ γ' g' acc vacc, Carry X (UO U σ s1.r) γ1 H1 (wipe σ ws) (lockR s1.r ws) Dd γ' H' g' ∧ H' Dd = some (.lst vacc) ∧ XRs X (Mv (Us (UO U σ s1.r) Dd) γ' (wipe σ ws) (lockR s1.r ws)) γ' H' vacc acc ∧ acc.length ≤ i ∧
    lcGo (lcT glob F x g c) (xs.drop i) acc ⟨lockR s1.r ws, g'⟩ = lcGo (lcT glob F x g c) xs [] ⟨lockR s1.r ws, s1.g⟩
  refine ⟨fun i m H' => m = xs.length - i ∧ i ≤ xs.length ∧ Pv i H', ⟨xs.length, rfl, Nat.zero_le _, γ1, s1.g, [], [], Carry.start okB hD, upd_same, .nil, Nat.le_refl _, rfl⟩, ?_⟩
  rintro i m H' ⟨rfl, hi, γ', g', acc, vacc, cy, hDd, racc, hacc, hgo⟩
  have ext1 : Ext (Mv U γ1 σ s1.r) γ1 H1 (Mv (Us (UO U σ s1.r) Dd) γ' (wipe σ ws) (lockR s1.r ws)) γ' H' := by
    have e := cy.e
    rw [show Mv (UO U σ s1.r) γ1 (wipe σ ws) (lockR s1.r ws) = Mv U γ1 σ s1.r from mv_lock] at e
    exact e
  obtain ⟨go, stop⟩ := goes _ _ _ ext1
  by_cases hlt : i < xs.length
  · refine .inr ⟨(go i xs[i] (List.getElem?_eq_getElem hlt)).1, Pv (i + 1), fun H2 p2 => ⟨xs.length - (i + 1), by omega, rfl, hlt, p2⟩, fun v H2 hy => ?_⟩
    obtain ⟨sm, rv⟩ := (go i xs[i] (List.getElem?_eq_getElem hlt)).2 v H2 hy
    rw [List.drop_eq_getElem_cons hlt] at hgo
    -- what the turn does
    have hturn : ∃ o s6, lcT glob F x g c xs[i] ⟨lockR s1.r ws, g'⟩ = .ok o s6 := by
      have hgo2 := hgo.trans hR
      unfold lcGo at hgo2
      obtain ⟨o, s6, e, _⟩ := bind_ok hgo2
      exact ⟨o, s6, e⟩
    obtain ⟨o, s6, hT⟩ := hturn
    have hnext : lcGo (lcT glob F x g c) (xs.drop (i + 1)) (lcAcc acc o) s6 = lcGo (lcT glob F x g c) xs [] ⟨lockR s1.r ws, s1.g⟩ := by
      rw [← hgo]
      conv => rhs; unfold lcGo
      rw [hT]
      cases o <;> rfl
    obtain ⟨r', b, s4, eT, eC, hcase⟩ := lcT_good hT
    have okT := (cy.ok okB hD).same sm
    have no2 : noOwn r' := setT_noOwn eT lockR_noOwn
    refine ⟨_, γ', ⟨lockR s1.r ws, g'⟩, xs[i], r', okT, rv, eT, fun σ2 ok2 hl2 hj2 x2 => ⟨?_, ?_⟩⟩
    · rw [wipe_eq (σ' := wipe σ ws) hl2 (fun j hj => hj2 j fun z => hj (hgs j z)), wipe_wipe]
    have hD2 : H2 Dd = H' Dd := sm Dd _ hDd |>.trans hDd.symm
    refine ⟨_, γ', ⟨r', g'⟩, ok2, RR.of_ok eC fun γ4 H4 ok4 x4 => ?_⟩
    have cy2 : Carry X (UO U σ s1.r) γ1 H1 (wipe σ ws) (lockR s1.r ws) Dd γ' H2 g' :=
      ⟨okT.st, okT.dom, fun a o e n => sm _ _ (cy.keep a o e n), cy.e.trans (Ext.same sm), cy.hg, cy.nd⟩
    have racc2 := racc.ext (Ext.same (M := Mv (Us (UO U σ s1.r) Dd) γ' (wipe σ ws) (lockR s1.r ws)) (γ := γ') sm)
    have e1 : Mv (Us (UO U σ s1.r) Dd) γ' (wipe σ ws) (lockR s1.r ws) = fun a => Us (UO U σ s1.r) Dd a ∨ Cv γ' σ2 r' a :=
      funext fun a => propext ⟨fun m => m.elim .inl fun m => m.elim (fun m => .inr (.inl m)) fun m => absurd m lockR_noOwn.not, fun m => m.elim .inl fun m => m.elim (fun m => .inr (.inl m)) fun m => absurd m no2.not⟩
    have less : ∀ (γ5 : List Addr) (s5 : S), ∀ a, Mv (Us (UO U σ s1.r) Dd) γ5 (wipe σ ws) (lockR s1.r ws) a → Mv (Us (UO U σ s1.r) Dd) γ5 σ2 s5.r a := fun γ5 s5 a m => m.elim .inl fun m => m.elim (fun m => .inr (.inl m)) fun m => absurd m lockR_noOwn.not
    cases b with
    | false =>
      rcases hcase with ⟨_, rfl, rfl⟩ | ⟨y, s5, hb, _⟩
      · show Pv (i + 1) H4
        obtain ⟨cy4, hk⟩ := cy2.step (by rw [hD2, hDd]; exact fun z => nomatch z) lockR_noOwn no2 ok4 x4
        refine ⟨γ4, s4.g, acc, vacc, cy4, by rw [hk, hD2, hDd], ?_, Nat.le_succ_of_le hacc, hnext⟩
        have r2 := racc2
        rw [e1] at r2
        exact (r2.ext x4.e).ext (Ext.less (less γ4 s4))
      · cases hb
    | true =>
      rcases hcase with ⟨hb, _⟩ | ⟨y, s5, _, eE, rfl, rfl⟩
      · cases hb
      · show rdE X glob F W0 x σ2 H4 _
        refine ⟨_, γ4, s4, ok4, RR.of_ok eE fun γ5 H5 ok5 x5 v5 rv5 => ?_⟩
        obtain ⟨cy5, hk⟩ := cy2.step (by rw [hD2, hDd]; exact fun z => nomatch z) lockR_noOwn no2 ok5 (x4.trans x5)
        have hD5 : H5 Dd = some (.lst vacc) := by rw [hk, hD2, hDd]
        have r5 : XRs X (Mv (Us (UO U σ s1.r) Dd) γ5 (wipe σ ws) (lockR s1.r ws)) γ5 H5 vacc acc := by
          have r2 := racc2
          rw [e1] at r2
          exact (r2.ext (x4.trans x5).e).ext (Ext.less (less γ5 s5))
        have rv5' : XR X (Mv (Us (UO U σ s1.r) Dd) γ5 (wipe σ ws) (lockR s1.r ws)) γ5 H5 v5 y := rv5.ext (Ext.less (less γ5 s5))
        obtain ⟨cy6, x6⟩ := cy5.push (o' := .lst (vacc ++ [v5])) hD hD5 (.inl ⟨_, rfl⟩)
        refine ⟨vacc, hD5, by rw [r5.length]; omega, γ5, s5.g, acc ++ [y], vacc ++ [v5], cy6, upd_same, (Rps.append r5 (.cons rv5' .nil)).ext x6, by simp; omega, hnext⟩
  · have e : i = xs.length := by omega
    subst e
    refine .inl ⟨stop, ?_⟩
    rw [List.drop_length] at hgo
    rw [← hgo] at h1
    obtain ⟨okU, x2, okUD, nm⟩ := cy.done ok1 hD
    have k := h1 γ' H' okU x2
    refine k Dd nm (.inr (x1.none_ hD)) ⟨Dd, vacc, rfl, hDd, ?_⟩ okUD
    have := racc
    rw [show Mv (Us (UO U σ s1.r) Dd) γ' (wipe σ ws) (lockR s1.r ws) = Mv (Us U Dd) γ' σ s1.r from mv_lockU] at this
    exact this
theorem f_lc (hc : X.calm = true) (hN : X.N.Nodup) (hi : DW X glob F Wx tg iter w) (okb : BlkOk X.N X.env.scope scope own) (hw : own.map (·.2) = ws) (hgs : ∀ j ∈ tgSl g, j ∈ ws)
    (hg : ∀ (s : Shared) (H : Hp) (C : Addr) (cl : List (Str × Addr)) (fp : List Addr), PG (X.blk s H scope (compEnvC scope cl C X.env) fp) tg (rdG X g)) (ht : ∀ (s : Shared) (H : Hp) (C : Addr) (cl : List (Str × Addr)) (fp : List Addr), PTs (X.blk s H scope (compEnvC scope cl C X.env) fp) ifs (rdC X glob F W0 c))
    (he : ∀ (s : Shared) (H : Hp) (C : Addr) (cl : List (Str × Addr)) (fp : List Addr), PE (X.blk s H scope (compEnvC scope cl C X.env) fp) elt (rdE X glob F W0 x)) (hp : plainX iter = true) :
    DF X glob F Wx (.ListComp elt [⟨tg, iter, ifs, 0⟩] scope pos) (.lc x g w c ws) :=
  (pe_lc hc hN hi okb hg ht he (fold_plain hp)).imp fun σ H Q ⟨U, γ, s, ok, h⟩ => by rw [hw]; exact lc_read hgs ok h
end
end TD

-- TR
set_option maxHeartbeats 1000000
/-! statements -/
namespace TD
open PySem PySem.Spec PyProof.Rows L2
section
variable (X : Cx) (glob : Str → Option D) (F : Fs) (Wx : WX) (fr : Bool)
/-- what stands behind a returned value -/
def kS (U : Addr → Prop) (γ : List Addr) (H : Hp) (σ : L2.St) (s : S) (rt : VK) (d : D) (s' : S) (σ' : L2.St) (γ' : List Addr) (H' : Hp) : Prop := match (if fr = true then ownS d else none) with
  | some c => ∀ a, ¬ Mv U γ' σ' s'.r a → (Cv γ σ s.r a ∨ H a = none) → SlOk X.prog X.w X.K (Mv (Us U a) γ' σ' s'.r) γ' H' (some (.ref a)) c → XOk X (Us U a) γ' H' σ' s' → rt (.ref a) H'
  | none => ∀ v, XRp X U γ' H' σ' s' v d → rt v H'
def RS (U : Addr → Prop) (γ : List Addr) (H : Hp) (σ : L2.St) (s : S) (r : R Fl) (Dn : Ends) : Prop := match r with
  | .ok .nx s' => ∀ γ' H' σ', XOk X U γ' H' σ' s' → Xt U (Cv γ σ s.r) γ H (Cv γ' σ' s'.r) γ' H' → Dn.nx σ' H'
  | .ok (.ret d) s' => ∀ γ' H' σ', XOk X U γ' H' σ' s' → Xt U (Cv γ σ s.r) γ H (Cv γ' σ' s'.r) γ' H' → kS X fr U γ H σ s Dn.rt d s' σ' γ' H'
  | .exc e s' => ∀ γ' H' σ' c dx, XOk X U γ' H' σ' s' → Xt U (Cv γ σ s.r) γ H (Cv γ' σ' s'.r) γ' H' → XRep X.K X.mg X.prog X.w (Mv U γ' σ' s'.r) γ' H' e c dx → Wx c dx σ' H'
  | .bad => False
def rdS (x : Sx) : TS := fun Dn σ H => ∃ U γ s, XOk X U γ H σ s ∧ RS X Wx fr U γ H σ s (evS glob F x s) Dn
def rdSs (x : List Sx) : TS := fun Dn σ H => ∃ U γ s, XOk X U γ H σ s ∧ RS X Wx fr U γ H σ s (evSs glob F x s) Dn
abbrev DS (st : Stmt) (x : Sx) : Prop := PS X st (rdS X glob F Wx fr x)
abbrev DSs (st : List Stmt) (x : List Sx) : Prop := PSs X st (rdSs X glob F Wx fr x)
end
section
variable {X : Cx} {glob : Str → Option D} {F : Fs} {Wx : WX} {fr : Bool} {pos : Pos} {U : Addr → Prop} {M : Addr → Prop} {γ γ1 : List Addr} {H H1 : Hp} {σ σ1 : L2.St} {s s1 : S} {Dn Dn' : Ends} {r : R Fl}
theorem _root_.L2.PS.imp {X : Cx} {e : Stmt} {t t' : TS} (h : PS X e t) (f : ∀ Dn σ H, t' Dn σ H → t Dn σ H) : PS X e t' := ⟨fun pins s σ H Q I q => h.run pins s σ H Q I (f Q σ H q)⟩
theorem _root_.L2.PSs.imp {X : Cx} {e : List Stmt} {t t' : TS} (h : PSs X e t) (f : ∀ Dn σ H, t' Dn σ H → t Dn σ H) : PSs X e t' := ⟨fun pins s σ H Q I q => h.run pins s σ H Q I (f Q σ H q)⟩
theorem RS.shift (e : Xt U (Cv γ σ s.r) γ H (Cv γ1 σ1 s1.r) γ1 H1) (h : RS X Wx fr U γ H σ s r Dn) : RS X Wx fr U γ1 H1 σ1 s1 r Dn := by
  cases r with
  | bad => exact h
  | exc x s' => exact fun γ' H' σ' c dx ok x' q => h γ' H' σ' c dx ok (e.trans x') q
  | ok o s' =>
    cases o with
    | nx => exact fun γ' H' σ' ok x' => h γ' H' σ' ok (e.trans x')
    | ret d =>
      intro γ' H' σ' ok x'
      have h := h γ' H' σ' ok (e.trans x')
      unfold kS at h ⊢
      cases q : (if fr = true then ownS d else none) with
      | none => rw [q] at h; exact h
      | some c =>
        rw [q] at h
        intro a na ca sl okA
        refine h a na ?_ sl okA
        rcases ca with ca | ca
        · exact e.new a ca
        · exact .inr (e.none_ ca)
/-- an expression, then the rest -/
theorem RS.bindE {α : Type} {r : R α} {f : α → S → R Fl} (h : RS X Wx fr U γ H σ s (r.bind f) Dn) : RR X Wx U γ H σ s r fun a s1 γ1 H1 => RS X Wx fr U γ1 H1 σ s1 (f a s1) Dn := by
  cases r with
  | ok a s' => exact fun γ' H' ok x => RS.shift x h
  | exc e s' => exact fun γ' H' c dx ok x q => h γ' H' σ c dx ok x q
  | bad => exact h
/-- a statement, then the rest -/
theorem RS.bindS {f : Fl → S → R Fl} (h : RS X Wx fr U γ H σ s (r.bind f) Dn) (hn : ∀ s1, r = .ok .nx s1 → ∀ γ1 H1 σ1, XOk X U γ1 H1 σ1 s1 → Xt U (Cv γ σ s.r) γ H (Cv γ1 σ1 s1.r) γ1 H1 → RS X Wx fr U γ1 H1 σ1 s1 (f .nx s1) Dn → Dn'.nx σ1 H1)
    (hr : ∀ d s1, f (.ret d) s1 = .ok (.ret d) s1) (hd : Dn'.rt = Dn.rt) : RS X Wx fr U γ H σ s r Dn' := by
  cases r with
  | bad => exact h
  | exc x s' => exact h
  | ok o s' =>
    cases o with
    | nx => exact fun γ' H' σ' ok x' => hn s' rfl γ' H' σ' ok x' (RS.shift x' h)
    | ret d =>
      have h : RS X Wx fr U γ H σ s (f (.ret d) s') Dn := h
      rw [hr] at h
      intro γ' H' σ' ok x'
      rw [hd]
      exact h γ' H' σ' ok x'
/-- the statement ends here -/
theorem RS.now (ok : XOk X U γ H σ s) (h : RS X Wx fr U γ H σ s (.ok .nx s) Dn) : Dn.nx σ H := h γ H σ ok Xt.refl
theorem RR.ofS {α : Type} {o : Option α} {f : α → S → R Fl} (h : RS X Wx fr U γ H σ s ((R.of o s).bind f) Dn) : ∃ a, o = some a ∧ RS X Wx fr U γ H σ s (f a s) Dn := by
  cases o with
  | none => exact h.elim
  | some a => exact ⟨a, rfl, h⟩
theorem RS.ite_t {c : Prop} [Decidable c] (h : RS X Wx fr U γ H σ s (if c then r else .bad) Dn) : c ∧ RS X Wx fr U γ H σ s r Dn := by
  split at h
  · exact ⟨by assumption, h⟩
  · exact h.elim
/-! ### blocks of statements -/
theorem ss_nil : DSs X glob F Wx fr [] [] := pss_nil.imp fun Dn σ H ⟨U, γ, s, ok, h⟩ => RS.now ok (by simpa only [evSs] using h)
theorem ss_cons {st : Stmt} {sts : List Stmt} {x : Sx} {xs : List Sx} (h1 : DS X glob F Wx fr st x) (h2 : DSs X glob F Wx fr sts xs) : DSs X glob F Wx fr (st :: sts) (x :: xs) :=
  (pss_cons h1 h2).imp fun Dn σ H ⟨U, γ, s, ok, h⟩ => by
    simp only [evSs] at h
    exact ⟨U, γ, s, ok, RS.bindS (Dn' := { Dn with nx := rdSs X glob F Wx fr xs Dn }) h (fun s1 _ γ1 H1 σ1 ok1 x1 h1 => ⟨U, γ1, s1, ok1, h1⟩) (fun _ _ => rfl) rfl⟩
theorem ss_nope {sts : List Stmt} {xs : List Sx} : DSs X glob F Wx fr sts (.nope :: xs) := pss_never.imp fun Dn σ H ⟨U, γ, s, ok, h⟩ => by
  simp only [evSs, evS] at h
  exact h.elim
theorem st_nope {st : Stmt} : DS X glob F Wx fr st .nope := ps_never.imp fun Dn σ H ⟨U, γ, s, ok, h⟩ => by
  simp only [evS] at h
  exact h.elim
theorem st_pass : DS X glob F Wx fr (.Pass pos) .pass := ps_pass.imp fun Dn σ H ⟨U, γ, s, ok, h⟩ => RS.now ok (by simpa only [evS] using h)
theorem st_ex {e : Expr} {x : Ex} (he : DE X glob F Wx e x) (hs : isCompX e = false) : DS X glob F Wx fr (.Expr e pos) (.ex x) := (ps_expr he (swap_plain hs)).imp fun Dn σ H ⟨U, γ, s, ok, h⟩ => by
  simp only [evS] at h
  exact ⟨U, γ, s, ok, (RS.bindE h).imp fun d s1 γ1 H1 ok1 x1 h1 v rv => RS.now ok1 h1⟩
/-! ### values into slots -/
theorem asg_read {g : Tg} {x : Ex} {t : TE} (ht : ∀ σ H Q, rdE X glob F Wx x σ H Q → t σ H Q) {Dn : Ends} {σ : L2.St} {H : Hp} (h : rdS X glob F Wx fr (.set g x) Dn σ H) : tAsg t (rdG X g) Dn σ H := by
  obtain ⟨U, γ, s, ok, h⟩ := h
  simp only [evS] at h
  refine ht σ H _ ⟨U, γ, s, ok, (RS.bindE h).imp fun d s1 γ1 H1 ok1 x1 h1 v rv => ?_⟩
  obtain ⟨r', e, h2⟩ := RR.ofS h1
  exact ⟨U, γ1, s1, d, r', ok1, rv, e, fun σ' ok' _ _ x' => h2 γ1 H1 σ' ok' x'⟩
theorem gName_of {i : Nat} {v : V} {σ : L2.St} {H : Hp} {Q : L2.St → Hp → Prop} (h : rdG X (.v i) v σ H Q) : gName i v σ H Q := by
  obtain ⟨U, γ, s, d, r', ok, rv, e, q⟩ := h
  simp only [setT] at e
  split at e
  · rename_i hl
    cases e
    obtain ⟨ok1, x1⟩ := ok.val hl rv
    exact q _ ok1 (List.length_set ..) (fun j hj => List.getElem?_set_ne (fun z => hj (by simp [tgSl, z]))) x1
  · cases e
theorem tAsg_mono {t t' : TE} {g g' : TG} {Dn : Ends} {σ : L2.St} {H : Hp} (hm : ∀ {Q Q' : VK}, (∀ v H, Q v H → Q' v H) → t σ H Q → t σ H Q') (hg : ∀ v σ H Q, g v σ H Q → g' v σ H Q) (h : tAsg t g Dn σ H) : tAsg t g' Dn σ H := hm (fun v H => hg v σ H _) h
theorem kF_mono {γ' : List Addr} {H' : Hp} {s' : S} {d : D} {Q Q' : VK} (h : ∀ v H, Q v H → Q' v H) (k : kF X U γ H σ s Q d s' γ' H') : kF X U γ H σ s Q' d s' γ' H' := by
  unfold kF kFp at k ⊢
  cases e : ownS d with
  | none => rw [e] at k; exact fun v rv => h _ _ (k v rv)
  | some c => rw [e] at k; exact fun a na ca sl ok => h _ _ (k a na ca sl ok)
theorem rdE_mono {x : Ex} {Q Q' : VK} (h : ∀ v H, Q v H → Q' v H) (q : rdE X glob F Wx x σ H Q) : rdE X glob F Wx x σ H Q' := by
  obtain ⟨U, γ, s, ok, q⟩ := q
  exact ⟨U, γ, s, ok, q.imp fun d s' γ' H' _ _ k v rv => h _ _ (k v rv)⟩
theorem rdF_mono {x : Ex} {Q Q' : VK} (h : ∀ v H, Q v H → Q' v H) (q : rdF X glob F Wx x σ H Q) : rdF X glob F Wx x σ H Q' := by
  obtain ⟨U, γ, s, ok, q⟩ := q
  exact ⟨U, γ, s, ok, q.imp fun d s' γ' H' _ _ k => kF_mono h k⟩
theorem st_set {i : Nat} {y : Str} {e : Expr} {x : Ex} {p : Pos} (hN : X.N.Nodup) (hi : X.N[i]? = some y) (hx : Loc X.env.scope y) (hf : X.fn y = true ∨ X.env.scope.names.lookup y = some .local) (he : DE X glob F Wx e x) (hs : isCompX e = false) :
    DS X glob F Wx fr (.Assign [.Name y p] e pos) (.set (.v i) x) := (ps_set hN hi hx he (swap_plain hs) hf).imp fun Dn σ H h => by
  have h := asg_read (t := rdE X glob F Wx x) (fun _ _ _ q => q) h
  exact rdE_mono (fun v H q => gName_of q) h
theorem sw_tuple {es : List Expr} {k : Nat} {p : Pos} {e : Expr} {l : Nat} {env : Env} : swapsWithSole [.Tuple es k p] e l env = pure false := by
  unfold swapsWithSole swapsWith
  cases e <;> rfl
/-- a tuple of targets, the value no tuple display -/
def isTupX : Expr → Bool
  | .Tuple .. => true
  | _ => false
theorem ss_tuple {es : List Expr} {k : Nat} {p : Pos} {e : Expr} {env : Env} (h : isTupX e = false) : swappedStores [.Tuple es k p] e env = pure none := by
  unfold swappedStores
  cases e <;> first | rfl | cases h
theorem st_setT {es : List Expr} {gs : List Tg} {e : Expr} {x : Ex} {k : Nat} {p : Pos} (hc : X.calm = true) (hg : PGs X es (rdGs X gs)) (hp : plainXs es = true) (hl : es.length = gs.length) (he : DE X glob F Wx e x) (ht : isTupX e = false) :
    DS X glob F Wx fr (.Assign [.Tuple es k p] e pos) (.set (.t gs) x) := (ps_asg he (g_t hc hg hp hl) sw_tuple (ss_tuple ht) rfl).imp fun Dn σ H h => asg_read (fun _ _ _ q => q) h
theorem RS.bindB {α : Type} {r : R α} {f : α → S → R Fl} (h : RS X Wx fr U γ H σ s (r.bind f) Dn) : RR X Wx U γ H σ s r fun a s1 γ1 H1 => RS X Wx fr U γ H σ s (f a s1) Dn := by
  cases r with
  | ok a s' => exact fun γ' H' ok x => h
  | exc e s' => exact fun γ' H' c dx ok x q => h γ' H' σ c dx ok x q
  | bad => exact h
theorem own_is {d : D} {c : Sl} (e : ownS d = some c) : isOwn c = true := by cases d <;> first | (cases e; done) | (cases e; rfl)
theorem Xt.more {C C1 C2 : Addr → Prop} (x : Xt U C γ H C1 γ1 H1) (h : ∀ b, C2 b → C1 b ∨ C b ∨ H b = none) : Xt U C γ H C2 γ1 H1 :=
  ⟨⟨x.e.keep, fun b m => m.elim (fun m => .inl (.inl m)) fun m => (h b m).elim (fun m => (x.new b m).imp .inr id) fun m => m.imp .inr id, x.e.tup, x.e.frz, x.e.dom, x.e.pre⟩, x.keep, fun b m => (h b m).elim (x.new b) id⟩
/-- a fresh list, a fresh dict into a slot -/
theorem own_read {i : Nat} {x : Ex} {t : TE} (ht : ∀ σ H Q, rdF X glob F Wx x σ H Q → t σ H Q) {Dn : Ends} {σ : L2.St} {H : Hp} (h : rdS X glob F Wx fr (.own i x) Dn σ H) : tAsg t (gName i) Dn σ H := by
  obtain ⟨U, γ, s, ok, h⟩ := h
  simp only [evS] at h
  refine ht σ H _ ⟨U, γ, s, ok, (RS.bindB h).imp fun d s1 γ1 H1 ok1 x1 h1 => ?_⟩
  unfold kF kFp
  cases e : ownS d with
  | none => rw [e] at h1; exact h1.elim
  | some c =>
    rw [e] at h1
    intro a na ca sl okA
    obtain ⟨hi, h2⟩ := RS.ite_t h1
    obtain ⟨ok2, hC⟩ := Ok.own ok1 okA hi na (own_is e) sl
    exact h2 γ1 H1 _ ok2 (x1.more fun b m => (hC b m).imp id fun m => by rw [m]; exact ca)
theorem st_own {i : Nat} {y : Str} {e : Expr} {x : Ex} {p : Pos} (hN : X.N.Nodup) (hi : X.N[i]? = some y) (hx : Loc X.env.scope y) (hf : X.fn y = true ∨ X.env.scope.names.lookup y = some .local) (he : DF X glob F Wx e x) (hs : isCompX e = false) :
    DS X glob F Wx fr (.Assign [.Name y p] e pos) (.own i x) := (ps_set hN hi hx he (swap_plain hs) hf).imp fun Dn σ H h => own_read (fun _ _ _ q => q) h
section
variable {i : Nat} {y : Str} {py : Pos} {elt tg iter : Expr} {ifs : List Expr} {scope : Scope} {own : List (Str × Nat)} {x : Ex} {g : Tg} {w : Wk} {c : Option Ex} {ws : List Nat} {cpos : Pos}
theorem st_lcT {x' : Sx} {t : TE} (hc : X.calm = true) (hN : X.N.Nodup) (hy : X.N[i]? = some y) (hyl : X.env.scope.names.lookup y = some .local)
    (hsw : swapsWith (.ListComp elt [⟨tg, iter, ifs, 0⟩] scope cpos) (some (.Name y py)) pos.line X.env = pure true) (hi : DW X glob F Wx tg iter w) (okb : BlkOk X.N X.env.scope scope own) (hw : own.map (·.2) = ws)
    (hg : ∀ (s : Shared) (H : Hp) (C : Addr) (cl : List (Str × Addr)) (fp : List Addr), PG (X.blk s H scope (compEnvC scope cl C X.env) fp) tg (rdG X g)) (ht : ∀ (s : Shared) (H : Hp) (C : Addr) (cl : List (Str × Addr)) (fp : List Addr), PTs (X.blk s H scope (compEnvC scope cl C X.env) fp) ifs (rdC X glob F W0 c))
    (he : ∀ (s : Shared) (H : Hp) (C : Addr) (cl : List (Str × Addr)) (fp : List Addr), PE (X.blk s H scope (compEnvC scope cl C X.env) fp) elt (rdE X glob F W0 x)) (hp : plainX iter = true)
    (hr : ∀ Dn σ H, rdS X glob F Wx fr x' Dn σ H → tAsg (tLc (rdW X glob F Wx w) (rdG X g) (rdC X glob F W0 c) (rdE X glob F W0 x) ws) (gName i) Dn σ H) :
    DS X glob F Wx fr (.Assign [.Name y py] (.ListComp elt [⟨tg, iter, ifs, 0⟩] scope cpos) pos) x' := by
  subst hw
  exact (ps_setLc hc hN hy hyl hsw hi okb hg ht he (fold_plain hp)).imp hr
theorem lc_readE {Q : VK} {σ : L2.St} {H : Hp} (hgs : ∀ j ∈ tgSl g, j ∈ ws) (h : rdE X glob F Wx (.lc x g w c ws) σ H Q) : tLc (rdW X glob F Wx w) (rdG X g) (rdC X glob F W0 c) (rdE X glob F W0 x) ws σ H Q := by
  obtain ⟨U, γ, s, ok, h⟩ := h
  refine lc_read hgs ok (h.imp fun d s' γ' H' ok' x' k => ?_)
  unfold kF kFp
  cases ho : ownS d with
  | none => exact k
  | some c => exact fun a na _ sl _ => k _ (SlOk.rp ho na sl)
theorem lc_readF {Q : VK} {σ : L2.St} {H : Hp} (hgs : ∀ j ∈ tgSl g, j ∈ ws) (h : rdF X glob F Wx (.lc x g w c ws) σ H Q) : tLc (rdW X glob F Wx w) (rdG X g) (rdC X glob F W0 c) (rdE X glob F W0 x) ws σ H Q := by
  obtain ⟨U, γ, s, ok, h⟩ := h
  exact lc_read hgs ok h
theorem lc_asgE (hgs : ∀ j ∈ tgSl g, j ∈ ws) {Dn : Ends} {σ : L2.St} {H : Hp} (h : rdS X glob F Wx fr (.set (.v i) (.lc x g w c ws)) Dn σ H) : tAsg (tLc (rdW X glob F Wx w) (rdG X g) (rdC X glob F W0 c) (rdE X glob F W0 x) ws) (gName i) Dn σ H := by
  have h := asg_read (t := rdE X glob F Wx (.lc x g w c ws)) (fun _ _ _ q => q) h
  exact lc_readE hgs (rdE_mono (fun v H q => gName_of q) h)
theorem lc_asgF (hgs : ∀ j ∈ tgSl g, j ∈ ws) {Dn : Ends} {σ : L2.St} {H : Hp} (h : rdS X glob F Wx fr (.own i (.lc x g w c ws)) Dn σ H) : tAsg (tLc (rdW X glob F Wx w) (rdG X g) (rdC X glob F W0 c) (rdE X glob F W0 x) ws) (gName i) Dn σ H :=
  own_read (fun _ _ _ q => lc_readF hgs q) h
end
/-! ### return -/
theorem st_ret {e : Expr} {x : Ex} (he : DE X glob F Wx e x) : DS X glob F Wx false (.Return (some e) pos) (.ret x) := (ps_ret he).imp fun Dn σ H ⟨U, γ, s, ok, h⟩ => by
  simp only [evS] at h
  refine ⟨U, γ, s, ok, (RS.bindB h).imp fun d s1 γ1 H1 ok1 x1 h1 v rv => ?_⟩
  exact h1 γ1 H1 σ ok1 x1 v rv
theorem st_retF {e : Expr} {x : Ex} (he : DF X glob F Wx e x) : DS X glob F Wx true (.Return (some e) pos) (.ret x) := (ps_ret he).imp fun Dn σ H ⟨U, γ, s, ok, h⟩ => by
  simp only [evS] at h
  refine ⟨U, γ, s, ok, (RS.bindB h).imp fun d s1 γ1 H1 ok1 x1 h1 => ?_⟩
  have h2 := h1 γ1 H1 σ ok1 x1
  unfold kS at h2
  rw [if_pos rfl] at h2
  exact h2
theorem st_retN : DS X glob F Wx fr (.Return none pos) .retN := ps_retN.imp fun Dn σ H ⟨U, γ, s, ok, h⟩ => by
  simp only [evS] at h
  have h2 := h γ H σ ok Xt.refl
  unfold kS at h2
  cases fr <;> exact h2 _ .non
/-! ### if -/
theorem st_if {c : Expr} {x : Ex} {a b : List Stmt} {p q : List Sx} (hc : DT X glob F Wx c x) (ha : DSs X glob F Wx fr a p) (hb : DSs X glob F Wx fr b q) : DS X glob F Wx fr (.If c a b pos) (.ite x p q) := (ps_if hc ha hb).imp fun Dn σ H ⟨U, γ, s, ok, h⟩ => by
  simp only [evS] at h
  have h := RS.bindE h
  refine ⟨U, γ, s, ok, (show RR X Wx U γ H σ s (evC glob F (some x) s) _ by simpa only [evC] using h).imp fun k s1 γ1 H1 ok1 x1 h1 => ?_⟩
  cases k with
  | true => rw [if_pos rfl] at h1 ⊢; exact ⟨U, γ1, s1, ok1, h1⟩
  | false => rw [if_neg Bool.false_ne_true] at h1 ⊢; exact ⟨U, γ1, s1, ok1, h1⟩
/-! ### for -/
theorem st_for {tg iter : Expr} {g : Tg} {w : Wk} {body : List Stmt} {b : List Sx} (hp : PassesOwn (model X.prog X.w) X.A X.env X.xe) (hc : X.calm = true) (hi : DW X glob F Wx tg iter w) (hg : PG X tg (rdG X g)) (hb : DSs X glob F Wx fr body b) (hpl : plainX iter = true) :
    DS X glob F Wx fr (.For tg iter body [] pos) (.for_ g w b) := (ps_for hp hc hi hg hb (fold_plain hpl)).imp fun Dn σ H ⟨U, γ, s, ok, h⟩ => by
  simp only [evS] at h
  refine ⟨U, γ, s, ok, (RS.bindE h).imp fun xs s1 γ1 H1 ok1 x1 h1 J goes => ?_⟩
  refine ⟨fun i m σ' H' => m = xs.length - i ∧ i ≤ xs.length ∧ ∃ γ' s', XOk X U γ' H' σ' s' ∧ Xt U (Cv γ1 σ s1.r) γ1 H1 (Cv γ' σ' s'.r) γ' H' ∧ RS X Wx fr U γ' H' σ' s' (forGo (fun d s2 => (R.of (setT g d s2.r) s2).bind fun r s3 => evSs glob F b { s3 with r := r }) (xs.drop i) s') Dn,
    ⟨xs.length, rfl, Nat.zero_le _, γ1, s1, ok1, Xt.refl, h1⟩, ?_⟩
  rintro i m σ' H' ⟨rfl, hi, γ', s', ok', x', h'⟩
  obtain ⟨go, stop⟩ := goes _ _ _ x'.e
  by_cases hlt : i < xs.length
  · obtain ⟨g1, g2⟩ := go i xs[i] (List.getElem?_eq_getElem hlt)
    refine .inr ⟨g1, fun σ2 H2 => (fun i m σ' H' => m = xs.length - i ∧ i ≤ xs.length ∧ ∃ γ' s', XOk X U γ' H' σ' s' ∧ Xt U (Cv γ1 σ s1.r) γ1 H1 (Cv γ' σ' s'.r) γ' H' ∧ RS X Wx fr U γ' H' σ' s' (forGo (fun d s2 => (R.of (setT g d s2.r) s2).bind fun r s3 => evSs glob F b { s3 with r := r }) (xs.drop i) s') Dn) (i + 1) (xs.length - (i + 1)) σ2 H2,
      fun σ2 H2 p2 => ⟨xs.length - (i + 1), by omega, p2⟩, fun v H2 hy => ?_⟩
    obtain ⟨sm, rv⟩ := g2 v H2 hy
    rw [List.drop_eq_getElem_cons hlt] at h'
    unfold forGo at h'
    rw [bind_assoc] at h'
    have h' := RS.shift (Xt.same (U := U) (C := Cv γ' σ' s'.r) (γ := γ') sm) h'
    obtain ⟨r', e, h2⟩ := RR.ofS h'
    refine ⟨U, γ', s', xs[i], r', ok'.same sm, rv, e, fun σ2 ok2 hl2 hj2 x2 => ⟨U, γ', { s' with r := r' }, ok2, ?_⟩⟩
    refine RS.bindS (RS.shift x2 h2) (fun s3 e3 γ3 H3 σ3 ok3 x3 h3 => ?_) (fun _ _ => rfl) rfl
    exact ⟨rfl, hlt, γ3, s3, ok3, ((x'.trans (Xt.same sm)).trans x2).trans x3, h3⟩
  · have e : i = xs.length := by omega
    subst e
    rw [List.drop_length] at h'
    exact .inl ⟨stop, RS.now ok' h'⟩
/-! ### while -/
theorem st_while {c : Expr} {x : Ex} {body : List Stmt} {b : List Sx} (hp : PassesOwn (model X.prog X.w) X.A X.env X.xe) (hc : DT X glob F Wx c x) (hb : DSs X glob F Wx fr body b) : DS X glob F Wx fr (.While c body [] pos) (.while_ x b) := (ps_while hp hc hb).imp fun Dn σ H ⟨U, γ, s, ok, h⟩ => by
  simp only [evS] at h
  refine ⟨fun m σ' H' => ∃ γ' s', XOk X U γ' H' σ' s' ∧ RS X Wx fr U γ' H' σ' s' (whGo (fun s1 => evC glob F (some x) s1) (fun s1 => evSs glob F b s1) m s') Dn, ⟨WF, γ, s, ok, h⟩, ?_⟩
  rintro m σ' H' ⟨γ', s', ok', h'⟩
  cases m with
  | zero => exact h'.elim
  | succ m =>
    unfold whGo at h'
    refine ⟨U, γ', s', ok', (RS.bindE h').imp fun k s1 γ1 H1 ok1 x1 h1 => ?_⟩
    cases k with
    | false => rw [if_neg Bool.false_ne_true] at h1 ⊢; exact RS.now ok1 h1
    | true =>
      rw [if_pos rfl] at h1 ⊢
      refine ⟨fun σ2 H2 => ∃ γ' s', XOk X U γ' H2 σ2 s' ∧ RS X Wx fr U γ' H2 σ2 s' (whGo (fun s1 => evC glob F (some x) s1) (fun s1 => evSs glob F b s1) m s') Dn, fun σ2 H2 p => ⟨m, Nat.lt_succ_self m, p⟩, U, γ1, s1, ok1, ?_⟩
      exact RS.bindS h1 (fun s3 e3 γ3 H3 σ3 ok3 x3 h3 => ⟨γ3, s3, ok3, h3⟩) (fun _ _ => rfl) rfl
/-! ### changes -/
theorem st_app {m : Str} {i : Nat} {b : Expr} {y : Ex} {p2 apos cpos : Pos} (ha : PE X (.Name m p2) (tVar i)) (hb : DE X glob F Wx b y) (hl : (apos.endLine == cpos.line) = true) (hp : plainX b = true) :
    DS X glob F Wx fr (.Expr (.Call (.Attribute (.Name m p2) "append" apos) [b] [] cpos) pos) (.app i y) :=
  (ps_expr (pe_bm PySem.F.plainAttrs_list PySem.F.slot_list_append PySem.F.type_list_append mt_append ha (pa_cons hb pa_nil (star_plain hp)) base_name (few_plain (by simp [plainXs, hp]) (by simp)) hl (star_plain hp) rfl) rfl).imp fun Dn σ H ⟨U, γ, s, ok, h⟩ => by
    simp only [evS] at h
    obtain ⟨hc, h⟩ := RS.ite_t h
    obtain ⟨a, vs, ea, e2⟩ := ok.hasL hc
    refine ⟨_, ea, .inl ⟨rfl, vs, .of e2⟩, U, γ, s, ok, (RS.bindE h).imp fun k s2 γ2 H2 ok2 x2 h2 u ru => ?_⟩
    cases e : s2.r[i]? with
    | none => rw [e] at h2; exact h2.elim
    | some c =>
      rw [e] at h2
      cases c with
      | oL l =>
        obtain ⟨a', vs, e1, e2, rs⟩ := ok2.oL (.inl e)
        cases some_ref ea e1
        obtain ⟨hz, h3⟩ := RS.ite_t (show RS X Wx fr U γ2 H2 σ s2 (if l.length < sizeLine then _ else .bad) Dn from h2)
        obtain ⟨ok3, x3⟩ := ok2.lst e e1 e2 (Rps.append rs (.cons ru .nil))
        exact ⟨a, vs, u, rfl, rfl, e2, by rw [rs.length]; exact hz, h3 γ2 _ σ ok3 x3⟩
      | _ => exact h2.elim
end
end TD

-- TS
set_option maxHeartbeats 1000000
/-! shared lists; several at once -/
namespace TD
open PySem PySem.Spec PyProof.Rows L2
section
variable {X : Cx} {glob : Str → Option D} {F : Fs} {Wx : WX} {fr : Bool} {pos : Pos} {U : Addr → Prop} {M : Addr → Prop} {γ γ1 : List Addr} {H H1 : Hp} {σ σ1 : L2.St} {s s1 : S} {Dn Dn' : Ends} {r : R Fl}
/-- a shared list is changed -/
theorem Ok.shared_set {n : Nat} {a : Addr} {l' : List D} {vs vs' : List V} (ok : XOk X U γ H σ s) (hn : γ[n]? = some a) (h : H a = some (.lst vs)) (r : XRs X (Mv U γ σ s.r) γ H vs' l') :
    XOk X U γ (upd H a (.lst vs')) σ { s with g := s.g.set n l' } ∧ Xt U (Cv γ σ s.r) γ H (Cv γ σ s.r) γ (upd H a (.lst vs')) := by
  have hm : a ∈ γ := List.mem_of_getElem? hn
  have x : Xt U (Cv γ σ s.r) γ H (Cv γ σ s.r) γ (upd H a (.lst vs')) := Xt.write h (.inl ⟨vs, rfl⟩) (.inl hm)
  refine ⟨⟨ok.len, fun i c e => ?_, ⟨?_, ok.st.nd, fun m l b e1 e2 => ?_⟩, fun b m => x.e.dom b (ok.dom b m), ok.inj, ok.ng, ok.nu, ok.pu⟩, x⟩
  · refine (ok.sl i c e).ext x.e fun b hb hw => upd_ne fun z => ?_
    subst z
    have hw := join_some hw
    rcases hb with ⟨l, rfl⟩ | ⟨l, rfl⟩ | ⟨l, rfl⟩ | ⟨l, rfl⟩
    · exact ok.ng b ⟨i, .inl ⟨l, e⟩, hw⟩ hm
    · exact (ok.pu i b (.inl ⟨l, e⟩) hw).2 hm
    · exact ok.ng b ⟨i, .inr ⟨l, e⟩, hw⟩ hm
    · exact (ok.pu i b (.inr ⟨l, e⟩) hw).2 hm
  · show _ = (s.g.set n l').length
    rw [List.length_set]; exact ok.st.len
  · have e1 : (s.g.set n l')[m]? = some l := e1
    have hl : n < s.g.length := by rw [← ok.st.len]; exact (List.getElem?_eq_some_iff.mp hn).1
    by_cases z : n = m
    · subst z
      rw [List.getElem?_set_self hl] at e1
      cases e1
      rw [hn] at e2
      cases e2
      exact ⟨vs', upd_same, r.ext x.e⟩
    · rw [List.getElem?_set_ne z] at e1
      obtain ⟨ws, h1, q⟩ := ok.st.at_ m l b e1 e2
      refine ⟨ws, ?_, q.ext x.e⟩
      rw [upd_ne (fun w => ?_)]
      · exact h1
      · subst w
        exact z ((List.getElem?_inj (List.getElem?_eq_some_iff.mp hn).1 ok.st.nd).mp (hn.trans e2.symm))
theorem sw_sub {o i e : Expr} {p : Pos} {l : Nat} {env : Env} : swapsWithSole [.Subscript o i p] e l env = pure false := by
  unfold swapsWithSole swapsWith
  cases e <;> rfl
theorem ixN_of {k : Int} {n : Nat} (h0 : 0 ≤ k) (h1 : k < n) : ixN n k = some k.toNat := by
  unfold ixN
  rw [if_pos h0]
  first
    | rfl
    | (rw [if_pos (by omega)])
    | simp [h0, h1]
theorem st_shPut {m : Str} {i : Nat} {k : Int} {j : Nat} {e : Expr} {x : Ex} {p1 p2 p3 : Pos} (ha : PE X (.Name m p1) (tVar i)) (he : DE X glob F Wx e x) : DS X glob F Wx fr (.Assign [.Subscript (.Name m p1) (.Constant (.int k) j p2) p3] e pos) (.shPut i k x) :=
  (ps_asg he (pg_sub ha pe_int set_list) sw_sub rfl rfl).imp fun Dn σ H ⟨U, γ, s, ok, h⟩ => by
    simp only [evS] at h
    refine ⟨U, γ, s, ok, (RS.bindE h).imp fun d s1 γ1 H1 ok1 x1 h1 v rv => ?_⟩
    cases e : s1.r[i]? with
    | none => rw [e] at h1; exact h1.elim
    | some c =>
      rw [e] at h1
      cases c with
      | val dv =>
        cases dv with
        | ref n =>
          dsimp only at h1
          obtain ⟨x, ex, rx⟩ := ok1.sl i _ e
          have ex := join_some ex
          cases rx with
          | ref hn =>
            obtain ⟨l, vs, e1, e2, rs⟩ := ok1.shared hn
            rw [e1] at h1
            obtain ⟨⟨k0, k1⟩, h2⟩ := RS.ite_t (show RS X Wx fr U γ1 H1 σ s1 (if 0 ≤ k ∧ k < l.length then _ else .bad) Dn from h1)
            obtain ⟨ok2, x2⟩ := ok1.shared_set hn e2 (Rps.set k.toNat rs rv)
            exact ⟨_, ex, _, vs, k, k.toNat, rfl, rfl, e2, by rw [rs.length]; exact ixN_of k0 k1, h2 γ1 _ σ ok2 x2⟩
        | _ => exact h1.elim
      | _ => exact h1.elim
/-! ### several at once -/
def UL (U : Addr → Prop) (as : List Addr) : Addr → Prop := fun b => U b ∨ b ∈ as
theorem UL.cons {a : Addr} {as : List Addr} : UL U (a :: as) = Us (UL U as) a := funext fun b => propext ⟨fun m => m.elim (fun m => .inl (.inl m)) fun m => (List.mem_cons.mp m).elim .inr fun m => .inl (.inr m), fun m => m.elim (fun m => m.elim .inl fun m => .inr (List.mem_cons_of_mem _ m)) fun m => .inr (by rw [m]; exact List.mem_cons_self)⟩
theorem mv_ul {ρ : List Sl} {b : Addr} {as : List Addr} : Mv (UL U as) γ σ ρ b ↔ Mv U γ σ ρ b ∨ b ∈ as := by
  unfold Mv UL
  constructor
  · rintro ((m | m) | m)
    · exact .inl (.inl m)
    · exact .inr m
    · exact .inl (.inr m)
  · rintro ((m | m) | m)
    · exact .inl (.inl m)
    · exact .inr m
    · exact .inl (.inr m)
theorem Ok.unUL {as : List Addr} (ok : XOk X (UL U as) γ H σ s) (np : s.r.any isPk = false) : XOk X U γ H σ s := by
  have x : Ext (Mv (UL U as) γ σ s.r) γ H (Mv U γ σ s.r) γ H := Ext.less fun a m => mv_ul.mpr (.inl m)
  refine ⟨ok.len, fun i c e => (ok.sl i c e).ext x fun _ _ _ => rfl, ⟨ok.st.len, ok.st.nd, fun n l a e1 e2 => ?_⟩, fun a m => ok.dom a (mv_ul.mpr (.inl m)), ok.inj, ok.ng, fun a q m => ok.nu a q (.inl m), fun i a q1 q2 => ?_⟩
  · obtain ⟨vs, h1, r⟩ := ok.st.at_ n l a e1 e2
    exact ⟨vs, h1, r.ext x⟩
  · refine absurd np ?_
    rw [Bool.not_eq_false, List.any_eq_true]
    rcases q1 with ⟨l, q1⟩ | ⟨l, q1⟩
    · exact ⟨_, List.mem_of_getElem? q1, rfl⟩
    · exact ⟨_, List.mem_of_getElem? q1, rfl⟩
/-- one that is to be stored: its slot, its value, what the slot is to hold -/
abbrev Pe := Nat × V × Sl
/-- as: the fresh objects among them -/
inductive Pend (X : Cx) (M : Addr → Prop) (γ : List Addr) (H : Hp) : List Addr → List Pe → Prop
  | nil : Pend X M γ H [] []
  | val {as : List Addr} {l : List Pe} {i : Nat} {v : V} {d : D} : XR X M γ H v d → Pend X M γ H as l → Pend X M γ H as ((i, v, .val d) :: l)
  | own {as : List Addr} {l : List Pe} {i : Nat} {a : Addr} {c : Sl} : isOwn c = true → SlOk X.prog X.w X.K M γ H (some (.ref a)) c → Pend X M γ H as l → Pend X M γ H (a :: as) ((i, .ref a, c) :: l)
theorem Pend.ext {M M' : Addr → Prop} {γ γ' : List Addr} {H H' : Hp} (x : Ext M γ H M' γ' H') : ∀ {as : List Addr} {l : List Pe}, Pend X M γ H as l → (∀ a ∈ as, H' a = H a) → Pend X M' γ' H' as l
  | _, _, .nil, _ => .nil
  | _, _, .val r t, k => .val (r.ext x) (Pend.ext x t k)
  | _, _, .own h sl t, k => .own h (sl.ext x fun b _ hw => by cases hw; exact k _ List.mem_cons_self) (Pend.ext x t fun a m => k a (List.mem_cons_of_mem _ m))
def setsV : List Pe → L2.St → L2.St
  | [], σ => σ
  | (i, v, _) :: l, σ => setsV l (σ.set i (some v))
def setsS : List Pe → List Sl → List Sl
  | [], r => r
  | (i, _, c) :: l, r => setsS l (r.set i c)
theorem any_set {r : List Sl} {i : Nat} {c : Sl} (h : r.any isPk = false) (k : isPk c = false) : (r.set i c).any isPk = false := by
  rw [Bool.eq_false_iff] at h ⊢
  intro q
  obtain ⟨d, m, e⟩ := List.any_eq_true.mp q
  rcases List.mem_or_eq_of_mem_set m with m | m
  · exact h (List.any_eq_true.mpr ⟨d, m, e⟩)
  · rw [m, k] at e; cases e
theorem pend_done : ∀ {l : List Pe} {as : List Addr} {σ : L2.St} {s : S}, XOk X (UL U as) γ H σ s → s.r.any isPk = false → as.Nodup → (∀ a ∈ as, ¬ Mv U γ σ s.r a) → Pend X (Mv (UL U as) γ σ s.r) γ H as l → (∀ p ∈ l, p.1 < s.r.length) →
    XOk X U γ H (setsV l σ) { s with r := setsS l s.r } ∧ ∀ b, Cv γ (setsV l σ) (setsS l s.r) b → Cv γ σ s.r b ∨ b ∈ as
  | [], _, σ, s, ok, np, nd, na, .nil, _ => ⟨ok.unUL np, fun b m => .inl m⟩
  | _, _, σ, s, ok, np, nd, na, .val (i := i) (v := v) (d := d) (l := l) r t, hl => by
    have hi : i < s.r.length := hl _ List.mem_cons_self
    obtain ⟨ok1, x1⟩ := ok.val hi r
    have hO : ∀ b, Owned (s.r.set i (.val d)) (σ.set i (some v)) b → Owned s.r σ b := fun b ⟨j, q⟩ => ⟨j, (owns_less At.set rfl q).1⟩
    have hC : ∀ b, Cv γ (σ.set i (some v)) (s.r.set i (.val d)) b → Cv γ σ s.r b := fun b m => m.elim .inl fun m => .inr (hO b m)
    have less : ∀ (U : Addr → Prop) b, Mv U γ (σ.set i (some v)) (s.r.set i (.val d)) b → Mv U γ σ s.r b := fun U b m => m.elim .inl fun m => .inr (hC b m)
    obtain ⟨ok2, h2⟩ := pend_done (l := l) (s := { s with r := s.r.set i (.val d) }) ok1 (any_set np rfl) nd (fun a m z => na a m (less _ a z)) (t.ext (Ext.less (less _)) fun _ _ => rfl) (fun p m => by show _ < (s.r.set i _).length; rw [List.length_set]; exact hl p (List.mem_cons_of_mem _ m))
    exact ⟨ok2, fun b m => (h2 b m).imp (hC b) id⟩
  | _, a :: as, σ, s, ok, np, nd, na, .own (i := i) (c := c) (l := l) k sl t, hl => by
    have hi : i < s.r.length := hl _ List.mem_cons_self
    obtain ⟨na1, nd1⟩ := List.nodup_cons.mp nd
    rw [UL.cons] at ok sl t
    have ok0 : XOk X (UL U as) γ H σ s := Ok.unUL (as := [a]) (by rw [show UL (UL U as) [a] = Us (UL U as) a by rw [UL.cons]; congr 1; funext b; exact propext ⟨fun m => m.elim id fun m => absurd m (by simp), .inl⟩]; exact ok) np
    have nM : ¬ Mv (UL U as) γ σ s.r a := fun m => (mv_ul.mp m).elim (na a List.mem_cons_self) na1
    obtain ⟨ok1, hC⟩ := Ok.own ok0 ok hi nM k sl
    have less : ∀ b, Mv (UL U as) γ (σ.set i (some (.ref a))) (s.r.set i c) b → Mv (Us (UL U as) a) γ σ s.r b := fun b m => mv_us.mpr (m.elim (fun m => .inl (.inl m)) fun m => (hC b m).imp .inr id)
    have kp : isPk c = false := by cases c <;> first | rfl | cases k
    obtain ⟨ok2, h2⟩ := pend_done (l := l) (as := as) (s := { s with r := s.r.set i c }) ok1 (any_set np kp) nd1 (fun b m z => by
        rcases z with z | z
        · exact na b (List.mem_cons_of_mem _ m) (.inl z)
        · rcases hC b z with z | z
          · exact na b (List.mem_cons_of_mem _ m) (.inr z)
          · subst z; exact na1 m) (t.ext (Ext.less less) fun _ _ => rfl) (fun p m => by show _ < (s.r.set i _).length; rw [List.length_set]; exact hl p (List.mem_cons_of_mem _ m))
    exact ⟨ok2, fun b m => (h2 b m).elim (fun m => (hC b m).imp id fun m => by rw [m]; exact List.mem_cons_self) fun m => .inr (List.mem_cons_of_mem _ m)⟩
/-! a, b, .. = x, y, .. -/
theorem UL.snoc {a : Addr} {as : List Addr} : UL U (as ++ [a]) = Us (UL U as) a := funext fun b => propext ⟨fun m => m.elim (fun m => .inl (.inl m)) fun m => (List.mem_append.mp m).elim (fun m => .inl (.inr m)) fun m => .inr (List.mem_singleton.mp m), fun m => m.elim (fun m => m.elim .inl fun m => .inr (List.mem_append_left _ m)) fun m => .inr (List.mem_append_right _ (List.mem_singleton.mpr m))⟩
theorem UL.nil : UL U [] = U := funext fun b => propext ⟨fun m => m.elim id fun m => absurd m (by simp), .inl⟩
theorem Pend.app : ∀ {as as2 : List Addr} {l l2 : List Pe}, Pend X M γ H as l → Pend X M γ H as2 l2 → Pend X M γ H (as ++ as2) (l ++ l2)
  | _, _, _, _, .nil, q => q
  | _, _, _, _, .val r t, q => .val r (Pend.app t q)
  | _, _, _, _, .own h sl t, q => .own h sl (Pend.app t q)
theorem Xt.anyU {U U2 C C' : Addr → Prop} (x : Xt U C γ H C' γ1 H1) : Xt U2 C γ H C' γ1 H1 :=
  ⟨⟨fun a o e n => x.keep a o e fun m => n (.inr m), fun a m => m.elim (fun m => .inl (.inl m)) fun m => (x.new a m).imp .inr id, x.e.tup, x.e.frz, x.e.dom, x.e.pre⟩, x.keep, x.new⟩
/-- the data and what they become -/
inductive Held : List (Nat × Hold) → List D → List Pe → Prop
  | nil : Held [] [] []
  | cons {i : Nat} {h : Hold} {is : List (Nat × Hold)} {d : D} {ds : List D} {v : V} {c : Sl} {l : List Pe} : holdS h d = some c → Held is ds l → Held ((i, h) :: is) (d :: ds) ((i, v, c) :: l)
theorem Held.app : ∀ {is is2 : List (Nat × Hold)} {ds ds2 : List D} {l l2 : List Pe}, Held is ds l → Held is2 ds2 l2 → Held (is ++ is2) (ds ++ ds2) (l ++ l2)
  | _, _, _, _, _, _, .nil, q => q
  | _, _, _, _, _, _, .cons h t, q => .cons h (Held.app t q)
theorem Held.set : ∀ {is : List (Nat × Hold)} {ds : List D} {l : List Pe} {r r' : List Sl}, Held is ds l → setPar is ds r = some r' → r' = setsS l r ∧ ∀ p ∈ l, p.1 < r.length
  | _, _, _, r, r', .nil, e => by simp only [setPar] at e; cases e; exact ⟨rfl, fun p m => absurd m (by simp)⟩
  | _, _, _, r, r', .cons (i := i) (c := c) h t, e => by
    simp only [setPar] at e
    split at e
    · rename_i hi
      rw [h] at e
      obtain ⟨e1, e2⟩ := Held.set (r := r.set i c) t e
      refine ⟨e1, fun p m => ?_⟩
      rcases List.mem_cons.mp m with rfl | m
      · exact hi
      · have := e2 p m; rwa [List.length_set] at this
    · cases e
def tP (X : Cx) (glob : Str → Option D) (F : Fs) (Wx : WX) : List (Nat × Hold) → List Ex → TA
  | (_, .val) :: is, x :: xs => tCons (rdE X glob F Wx x) (tP X glob F Wx is xs)
  | (_, .own) :: is, x :: xs => tCons (rdF X glob F Wx x) (tP X glob F Wx is xs)
  | _, _ => tNil
def parFin (is : List (Nat × Hold)) (ds : List D) (s1 : S) : R Fl := if s1.r.any isPk then .bad else (R.of (setPar is ds s1.r) s1).bind fun r s2 => .ok .nx { s2 with r := r }
def setsI : List Nat → List V → L2.St → L2.St
  | i :: is, v :: vs, σ => setsI is vs (σ.set i (some v))
  | _, _, σ => σ
theorem setsV_eq : ∀ {l : List Pe} {σ : L2.St}, setsV l σ = setsI (l.map (·.1)) (l.map (·.2.1)) σ
  | [], _ => rfl
  | (i, v, c) :: l, σ => setsV_eq (l := l)
theorem Held.ids : ∀ {is : List (Nat × Hold)} {ds : List D} {l : List Pe}, Held is ds l → l.map (·.1) = is.map (·.1)
  | _, _, _, .nil => rfl
  | _, _, _, .cons _ t => by simp [Held.ids t]
theorem noX_bind {α β : Type} {r : R α} {f : α → S → R β} {g : R β → Prop} (hg : ¬ g .bad) (h : g (r.noX.bind f)) : ∃ a s1, r = .ok a s1 ∧ g (f a s1) := by
  cases r with
  | ok a s1 => exact ⟨a, s1, rfl, h⟩
  | exc e s1 => exact absurd h hg
  | bad => exact absurd h hg
theorem RS.ofB {α : Type} {o : Option α} {f : α → S → R Fl} {s2 : S} (h : RS X Wx fr U γ H σ s ((R.of o s2).bind f) Dn) : ∃ a, o = some a ∧ RS X Wx fr U γ H σ s (f a s2) Dn := by
  cases o with
  | none => exact h.elim
  | some a => exact ⟨a, rfl, h⟩
theorem par_go {γ0 : List Addr} {H0 : Hp} {s0 : S} : ∀ (is2 : List (Nat × Hold)) (xs : List Ex) (is1 : List (Nat × Hold)) (ds1 : List D) (pe1 : List Pe) (as : List Addr) (γ : List Addr) (H : Hp) (s : S), is2.length = xs.length → Held is1 ds1 pe1 →
    XOk X (UL U as) γ H σ s → Xt U (Cv γ0 σ s0.r) γ0 H0 (Cv γ σ s.r) γ H → (∀ a ∈ as, ¬ Mv U γ σ s.r a ∧ (Cv γ0 σ s0.r a ∨ H0 a = none)) → as.Nodup → Pend X (Mv (UL U as) γ σ s.r) γ H as pe1 →
    RS X Wx fr U γ0 H0 σ s0 ((evEs glob F xs s).noX.bind fun ds s1 => parFin (is1 ++ is2) (ds1 ++ ds) s1) Dn →
    tP X glob F Wx is2 xs σ H fun vs H' => Dn.nx (setsI ((is1 ++ is2).map (·.1)) (pe1.map (·.2.1) ++ vs) σ) H'
  | [], [], is1, ds1, pe1, as, γ, H, s, _, hh, ok, x, fa, nd, pd, h => by
    simp only [evEs, R.noX, R.bind, List.append_nil] at h
    show Dn.nx _ H
    rw [List.append_nil, List.append_nil, ← hh.ids, ← setsV_eq]
    unfold parFin at h
    cases np : s.r.any isPk with
    | true => rw [np] at h; exact h.elim
    | false =>
      rw [np] at h
      obtain ⟨r', e, h2⟩ := RS.ofB (show RS X Wx fr U γ0 H0 σ s0 ((R.of (setPar is1 ds1 s.r) s).bind _) Dn from h)
      obtain ⟨e1, e2⟩ := hh.set e
      subst e1
      obtain ⟨ok1, hC⟩ := pend_done ok np nd (fun a m => (fa a m).1) pd e2
      exact h2 γ H _ ok1 (x.more fun b m => (hC b m).imp id fun m => (fa b m).2)
  | (i, hd) :: is2, y :: xs, is1, ds1, pe1, as, γ, H, s, hl, hh, ok, x, fa, nd, pd, h => by
    have hl2 : is2.length = xs.length := by simpa using hl
    have hE : ∃ d s1, evE glob F y s = .ok d s1 ∧ RS X Wx fr U γ0 H0 σ s0 ((evEs glob F xs s1).noX.bind fun ds s2 => parFin (is1 ++ (i, hd) :: is2) (ds1 ++ d :: ds) s2) Dn := by
      simp only [evEs] at h
      cases e : evE glob F y s with
      | bad => rw [e] at h; exact h.elim
      | exc e1 s1 => rw [e] at h; exact h.elim
      | ok d s1 =>
        rw [e] at h
        refine ⟨d, s1, rfl, ?_⟩
        have h : RS X Wx fr U γ0 H0 σ s0 (((evEs glob F xs s1).bind fun ds s2 => .ok (d :: ds) s2).noX.bind fun ds s1 => parFin (is1 ++ (i, hd) :: is2) (ds1 ++ ds) s1) Dn := h
        cases e2 : evEs glob F xs s1 with
        | bad => rw [e2] at h; exact h.elim
        | exc e3 s3 => rw [e2] at h; exact h.elim
        | ok ds s2 => rw [e2] at h; exact h
    obtain ⟨d, s1, e1, h1⟩ := hE
    have asc : is1 ++ (i, hd) :: is2 = (is1 ++ [(i, hd)]) ++ is2 := by simp
    have dsc : ∀ ds, ds1 ++ d :: ds = (ds1 ++ [d]) ++ ds := fun ds => by simp
    rw [asc] at h1
    have h1 : RS X Wx fr U γ0 H0 σ s0 ((evEs glob F xs s1).noX.bind fun ds s2 => parFin ((is1 ++ [(i, hd)]) ++ is2) ((ds1 ++ [d]) ++ ds) s2) Dn := by
      rw [show (fun ds s2 => parFin ((is1 ++ [(i, hd)]) ++ is2) ((ds1 ++ [d]) ++ ds) s2) = fun ds s2 => parFin ((is1 ++ [(i, hd)]) ++ is2) (ds1 ++ d :: ds) s2 from funext fun ds => by rw [dsc ds]]
      exact h1
    have old : ∀ {γ1 : List Addr} {H1 : Hp}, XOk X (UL U as) γ1 H1 σ s1 → Xt (UL U as) (Cv γ σ s.r) γ H (Cv γ1 σ s1.r) γ1 H1 → (∀ a ∈ as, ¬ Mv U γ1 σ s1.r a ∧ (Cv γ0 σ s0.r a ∨ H0 a = none)) ∧ Pend X (Mv (UL U as) γ1 σ s1.r) γ1 H1 as pe1 := fun {γ1 H1} ok1 x1 => by
      have there : ∀ a ∈ as, H a ≠ none := fun a m => ok.dom a (.inl (.inr m))
      refine ⟨fun a m => ⟨fun z => ?_, (fa a m).2⟩, pd.ext x1.e fun a m => ?_⟩
      · rcases z with z | z
        · exact (fa a m).1 (.inl z)
        · exact (x1.new a z).elim (fun z => (fa a m).1 (.inr z)) fun z => there a m z
      · cases q : H a with
        | none => exact absurd q (there a m)
        | some o => exact x1.keep a o q fun z => (fa a m).1 (.inr z)
    cases hd with
    | val =>
      refine ⟨UL U as, γ, s, ok, RR.of_ok e1 fun γ1 H1 ok1 x1 v rv => ?_⟩
      obtain ⟨fa1, pd1⟩ := old ok1 x1
      have := par_go is2 xs (is1 ++ [(i, .val)]) (ds1 ++ [d]) (pe1 ++ [(i, v, .val d)]) as γ1 H1 s1 hl2 (hh.app (.cons (v := v) rfl .nil)) ok1 (x.trans x1.anyU) fa1 nd (by have := pd1.app (.val (i := i) rv .nil); rwa [List.append_nil] at this) h1
      rw [← asc] at this
      simpa using this
    | own =>
      refine ⟨UL U as, γ, s, ok, RR.of_ok e1 fun γ1 H1 ok1 x1 => ?_⟩
      obtain ⟨fa1, pd1⟩ := old ok1 x1
      unfold kF kFp
      cases ho : ownS d with
      | none =>
        -- the store fails
        exfalso
        have : ∀ (is : List (Nat × Hold)) (dd : List D) (r : List Sl), is.length = dd.length → setPar (is ++ (i, .own) :: is2) (dd ++ d :: []) r = none ∨ True := fun _ _ _ _ => .inr trivial
        obtain ⟨ds, s2, e2, h2⟩ := noX_bind (g := fun r => RS X Wx fr U γ0 H0 σ s0 r Dn) (fun z => z) h1
        unfold parFin at h2
        split at h2
        · exact h2
        · obtain ⟨r', e3, _⟩ := RS.ofB h2
          have key : ∀ (is : List (Nat × Hold)) (dd : List D) (l : List Pe) (r : List Sl), Held is dd l → setPar ((is ++ [(i, .own)]) ++ is2) ((dd ++ [d]) ++ ds) r = none := fun is dd l r q => by
            induction q generalizing r with
            | nil =>
              show setPar ((i, .own) :: is2) (d :: ds) r = none
              simp only [setPar, holdS, ho]
              split <;> rfl
            | cons hq t ih =>
              simp only [List.cons_append, setPar, hq]
              split
              · exact ih _
              · rfl
          rw [key is1 ds1 pe1 _ hh] at e3
          cases e3
      | some c =>
        intro a na ca sl okA
        have na1 : ¬ Mv U γ1 σ s1.r a := fun m => na (mv_ul.mpr (.inl m))
        have nas : a ∉ as := fun m => na (mv_ul.mpr (.inr m))
        have x2 := x.trans (x1.anyU (U2 := U))
        have e2 : UL U (as ++ [a]) = Us (UL U as) a := UL.snoc
        have ha : Cv γ0 σ s0.r a ∨ H0 a = none := by
          rcases ca with ca | ca
          · exact x.new a ca
          · exact .inr (x.none_ ca)
        have := par_go is2 xs (is1 ++ [(i, .own)]) (ds1 ++ [d]) (pe1 ++ [(i, .ref a, c)]) (as ++ [a]) γ1 H1 s1 hl2 (hh.app (.cons (v := .ref a) (show holdS .own d = some c from ho) .nil)) (by rw [e2]; exact okA) x2 (fun b m => by
            rcases List.mem_append.mp m with m | m
            · exact fa1 b m
            · rw [List.mem_singleton.mp m]; exact ⟨na1, ha⟩) (List.nodup_append.mpr ⟨nd, by simp, fun b m b' m' e => nas (by rw [← List.mem_singleton.mp m', ← e]; exact m)⟩) (by
            rw [e2]
            refine (pd.ext (Ext.mk x1.e.keep (fun b m => ?_) x1.e.tup x1.e.frz x1.e.dom x1.e.pre) fun b m => ?_).app (.own (i := i) (own_is ho) sl .nil)
            · rcases mv_us.mp m with m | m
              · exact x1.e.new b m
              · rw [m]; exact ca.imp .inr id
            · cases q : H b with
              | none => exact absurd q (ok.dom b (.inl (.inr m)))
              | some o => exact x1.keep b o q fun z => (fa b m).1 (.inr z)) h1
        rw [← asc] at this
        simpa using this
  | [], _ :: _, _, _, _, _, _, _, _, hl, _, _, _, _, _, _, _ => by simp at hl
  | _ :: _, [], _, _, _, _, _, _, _, hl, _, _, _, _, _, _, _ => by simp at hl
end
end TD

-- TS2
set_option maxHeartbeats 1000000
/-! a, b = x, y -/
namespace TD
open PySem PySem.Spec PyProof.Rows L2
section
variable {X : Cx} {glob : Str → Option D} {F : Fs} {Wx : WX} {fr : Bool} {pos : Pos}
def starX : Expr → Bool
  | .Starred .. => true
  | _ => false
theorem plain_star {e : Expr} : plainX e = true → (match e with | .Starred .. => true | _ => false) = false := by intro h; cases e <;> first | rfl | cases h
theorem any_star : ∀ {es : List Expr}, plainXs es = true → (es.any fun | .Starred .. => true | _ => false) = false
  | [], _ => rfl
  | e :: es, h => by
    have h : (plainX e && plainXs es) = true := h
    rw [Bool.and_eq_true] at h
    rw [List.any_cons, any_star h.2, Bool.or_false]
    exact plain_star h.1
theorem sw_par2 {x y : Str} {px py pt p2 : Pos} {kt k2 : Nat} {a b : Expr} (hk : X.env.scope.kind = .function) (hx : X.env.scope.names.lookup x = some .local) (hy : X.env.scope.names.lookup y = some .local) (hl : (py.line == px.line) = true) (hxy : x ≠ y)
    (hp : plainXs [a, b] = true) (hf : ([a, b].all (foldedForSure 8)) = false) (hc : ([a, b].all (constantsAlone 8)) = false) : swappedStores [.Tuple [.Name x px, .Name y py] kt pt] (.Tuple [a, b] k2 p2) X.env = pure (some [x, y]) := by
  have kx : X.env.kindOf x = some .local := hx
  have ky : X.env.kindOf y = some .local := hy
  have hb : X.env.blockKind = .function := by unfold Env.blockKind; rw [hk]; rfl
  have hs := any_star hp
  unfold swappedStores
  simp only [List.length_cons, List.length_nil, hb, hs, hf, hc, List.head?_cons, Option.map_some, Option.getD_some, List.filterMap_cons, List.filterMap_nil, kx, ky, Expr.pos, hl]
  have e : ([x, y] : List Str).eraseDups = [x, y] := by
    simp [List.eraseDups_cons, hxy, Ne.symm hxy]
  have hp1 : plainX a = true ∧ plainX b = true := by
    have h : (plainX a && (plainX b && true)) = true := hp
    rw [Bool.and_true, Bool.and_eq_true] at h
    exact h
  simp [e]
  rintro (h | h)
  · exact absurd (h.symm.trans (plain_star hp1.1)) (fun z => nomatch z)
  · exact absurd (h.symm.trans (plain_star hp1.2)) (fun z => nomatch z)
theorem st_par2 {i j : Nat} {hi hj : Hold} {x y : Str} {a b : Expr} {xa xb : Ex} {ta : TA} {px py pt : Pos} {kt k2 : Nat} {p2 : Pos} (hc : X.calm = true) (hN : X.N.Nodup) (h1 : X.N[i]? = some x) (h2 : X.N[j]? = some y) (hij : i ≠ j)
    (hx : X.env.scope.names.lookup x = some .local) (hy : X.env.scope.names.lookup y = some .local) (ha : PA X [a, b] (tP X glob F Wx [(i, hi), (j, hj)] [xa, xb]))
    (hw : swappedStores [.Tuple [.Name x px, .Name y py] kt pt] (.Tuple [a, b] k2 p2) X.env = pure (some [x, y])) :
    DS X glob F Wx fr (.Assign [.Tuple [.Name x px, .Name y py] kt pt] (.Tuple [a, b] k2 p2) pos) (.par [(i, hi), (j, hj)] [xa, xb]) :=
  (ps_par hc hN h1 h2 hij hx hy ha hw sw_tuple).imp fun Dn σ H ⟨U, γ, s, ok, h⟩ => by
    simp only [evS] at h
    have q := par_go (γ0 := γ) (H0 := H) (s0 := s) (U := U) [(i, hi), (j, hj)] [xa, xb] [] [] [] [] γ H s rfl .nil (by rw [UL.nil]; exact ok) Xt.refl (fun a m => absurd m (by simp)) List.nodup_nil .nil h
    have e : tP X glob F Wx [(i, hi), (j, hj)] [xa, xb] σ H (fun vs H' => Dn.nx (setsI [i, j] vs σ) H') → tP X glob F Wx [(i, hi), (j, hj)] [xa, xb] σ H fun vs H1 => ∃ v w, vs = [v, w] ∧ Dn.nx ((σ.set i (some v)).set j (some w)) H1 := fun h => by
      cases hi <;> cases hj
      · exact rdE_mono (fun v H1 h => rdE_mono (fun w H2 h => ⟨v, w, rfl, h⟩) h) h
      · exact rdE_mono (fun v H1 h => rdF_mono (fun w H2 h => ⟨v, w, rfl, h⟩) h) h
      · exact rdF_mono (fun v H1 h => rdE_mono (fun w H2 h => ⟨v, w, rfl, h⟩) h) h
      · exact rdF_mono (fun v H1 h => rdF_mono (fun w H2 h => ⟨v, w, rfl, h⟩) h) h
    exact e q
theorem sw_par3 {x y z : Str} {px py pz pt p2 : Pos} {kt k2 : Nat} {a b c : Expr} (hk : X.env.scope.kind = .function) (hx : X.env.scope.names.lookup x = some .local) (hy : X.env.scope.names.lookup y = some .local) (hz : X.env.scope.names.lookup z = some .local)
    (hl : (py.line == px.line) = true) (hl2 : (pz.line == px.line) = true) (hxy : x ≠ y) (hxz : x ≠ z) (hyz : y ≠ z)
    (hp : plainXs [a, b, c] = true) (hf : ([a, b, c].all (foldedForSure 8)) = false) (hc : ([a, b, c].all (constantsAlone 8)) = false) : swappedStores [.Tuple [.Name x px, .Name y py, .Name z pz] kt pt] (.Tuple [a, b, c] k2 p2) X.env = pure (some [x, y, z]) := by
  have kx : X.env.kindOf x = some .local := hx
  have ky : X.env.kindOf y = some .local := hy
  have kz : X.env.kindOf z = some .local := hz
  have hb : X.env.blockKind = .function := by unfold Env.blockKind; rw [hk]; rfl
  have hs := any_star hp
  unfold swappedStores
  simp only [List.length_cons, List.length_nil, hb, hs, hf, hc, List.head?_cons, Option.map_some, Option.getD_some, List.filterMap_cons, List.filterMap_nil, kx, ky, kz, Expr.pos, hl, hl2]
  have e : ([x, y, z] : List Str).eraseDups = [x, y, z] := by
    simp [List.eraseDups_cons, hxy, Ne.symm hxy, hxz, Ne.symm hxz, hyz, Ne.symm hyz]
  have hp1 : plainX a = true ∧ plainX b = true ∧ plainX c = true := by
    have h : (plainX a && (plainX b && (plainX c && true))) = true := hp
    rw [Bool.and_true, Bool.and_eq_true, Bool.and_eq_true] at h
    exact h
  simp [e]
  rintro (h | h | h)
  · exact absurd (h.symm.trans (plain_star hp1.1)) (fun z => nomatch z)
  · exact absurd (h.symm.trans (plain_star hp1.2.1)) (fun z => nomatch z)
  · exact absurd (h.symm.trans (plain_star hp1.2.2)) (fun z => nomatch z)
def rdX (X : Cx) (glob : Str → Option D) (F : Fs) (Wx : WX) (h : Hold) (x : Ex) : TE := match h with | .val => rdE X glob F Wx x | .own => rdF X glob F Wx x
theorem rdX_mono {h : Hold} {x : Ex} {σ : L2.St} {H : Hp} {Q Q' : VK} (hq : ∀ v H, Q v H → Q' v H) (q : rdX X glob F Wx h x σ H Q) : rdX X glob F Wx h x σ H Q' := by
  cases h
  · exact rdE_mono hq q
  · exact rdF_mono hq q
theorem tP_cons {i : Nat} {h : Hold} {is : List (Nat × Hold)} {y : Ex} {xs : List Ex} : tP X glob F Wx ((i, h) :: is) (y :: xs) = tCons (rdX X glob F Wx h y) (tP X glob F Wx is xs) := by cases h <;> rfl
theorem st_par3 {i j l : Nat} {hi hj hl : Hold} {x y z : Str} {a b c : Expr} {xa xb xc : Ex} {px py pz pt : Pos} {kt k2 : Nat} {p2 : Pos} (hc : X.calm = true) (hN : X.N.Nodup) (h1 : X.N[i]? = some x) (h2 : X.N[j]? = some y) (h3 : X.N[l]? = some z) (hij : i ≠ j) (hil : i ≠ l) (hjl : j ≠ l)
    (hx : X.env.scope.names.lookup x = some .local) (hy : X.env.scope.names.lookup y = some .local) (hz : X.env.scope.names.lookup z = some .local) (ha : PA X [a, b, c] (tP X glob F Wx [(i, hi), (j, hj), (l, hl)] [xa, xb, xc]))
    (hw : swappedStores [.Tuple [.Name x px, .Name y py, .Name z pz] kt pt] (.Tuple [a, b, c] k2 p2) X.env = pure (some [x, y, z])) :
    DS X glob F Wx fr (.Assign [.Tuple [.Name x px, .Name y py, .Name z pz] kt pt] (.Tuple [a, b, c] k2 p2) pos) (.par [(i, hi), (j, hj), (l, hl)] [xa, xb, xc]) :=
  (ps_par3 hc hN h1 h2 h3 hij hil hjl hx hy hz ha hw sw_tuple).imp fun Dn σ H ⟨U, γ, s, ok, h⟩ => by
    simp only [evS] at h
    have q := par_go (γ0 := γ) (H0 := H) (s0 := s) (U := U) [(i, hi), (j, hj), (l, hl)] [xa, xb, xc] [] [] [] [] γ H s rfl .nil (by rw [UL.nil]; exact ok) Xt.refl (fun a m => absurd m (by simp)) List.nodup_nil .nil h
    rw [tP_cons, tP_cons, tP_cons] at q ⊢
    exact rdX_mono (fun u H1 q => rdX_mono (fun v H2 q => rdX_mono (fun w H3 q => ⟨u, v, w, rfl, q⟩) q) q) q
theorem p_val {i : Nat} {e : Expr} {es : List Expr} {x : Ex} {xs : List Ex} {is : List (Nat × Hold)} (he : DE X glob F Wx e x) (h : PA X es (tP X glob F Wx is xs)) (hp : plainX e = true) : PA X (e :: es) (tP X glob F Wx ((i, .val) :: is) (x :: xs)) := pa_cons he h (star_plain hp)
theorem p_own {i : Nat} {e : Expr} {es : List Expr} {x : Ex} {xs : List Ex} {is : List (Nat × Hold)} (he : DF X glob F Wx e x) (h : PA X es (tP X glob F Wx is xs)) (hp : plainX e = true) : PA X (e :: es) (tP X glob F Wx ((i, .own) :: is) (x :: xs)) := pa_cons he h (star_plain hp)
theorem p_nil : PA X [] (tP X glob F Wx [] []) := pa_nil
end
end TD

-- TT
set_option maxHeartbeats 1000000
/-! more expressions -/
namespace TD
open PySem PySem.Spec PyProof.Rows L2
section
variable {X : Cx} {glob : Str → Option D} {F : Fs} {Wx : WX} {fr : Bool} {pos : Pos} {U : Addr → Prop} {γ : List Addr} {H : Hp} {σ : L2.St} {s : S}
/-- a reading that never holds -/
theorem pe_no {e : Expr} {t : TE} (h : ∀ σ H Q, ¬ t σ H Q) : PE X e t := ⟨fun pins s σ H Q I q => absurd q (h σ H Q)⟩
theorem s_nope {e : Expr} : DE X glob F Wx e .nope := pe_no fun σ H Q ⟨U, γ, s, ok, h⟩ => by
  simp only [evE] at h
  exact h
/-- a new list is shared -/
theorem Ok.share {p : Addr} {ds : List D} {vs : List V} (ok : XOk X U γ H σ s) (hp : H p = none) (rs : XRs X (Mv U γ σ s.r) γ H vs ds) :
    XOk X U (γ ++ [p]) (upd H p (.lst vs)) σ { s with g := s.g ++ [ds] } ∧ Xt U (Cv γ σ s.r) γ H (Cv (γ ++ [p]) σ s.r) (γ ++ [p]) (upd H p (.lst vs)) := by
  have sm : Same H (upd H p (.lst vs)) := same_upd hp
  have cv : ∀ a, Cv (γ ++ [p]) σ s.r a → Cv γ σ s.r a ∨ a = p := fun a m => m.elim (fun m => (List.mem_append.mp m).elim (fun m => .inl (.inl m)) fun m => .inr (List.mem_singleton.mp m)) fun m => .inl (.inr m)
  have nw : ∀ a, Cv (γ ++ [p]) σ s.r a → Cv γ σ s.r a ∨ H a = none := fun a m => (cv a m).imp id fun m => by rw [m]; exact hp
  have dm : ∀ a, H a ≠ none → upd H p (.lst vs) a ≠ none := fun a n => by
    by_cases z : a = p
    · rw [z] at n; exact absurd hp n
    · rw [upd_ne z]; exact n
  have x : Xt U (Cv γ σ s.r) γ H (Cv (γ ++ [p]) σ s.r) (γ ++ [p]) (upd H p (.lst vs)) :=
    ⟨⟨fun a o e _ => sm a o e, fun a m => m.elim (fun m => .inl (.inl m)) fun m => (nw a m).imp .inr id, fun a xs e => sm _ _ e, fun a o u e => sm _ _ e, dm, ⟨[p], rfl⟩⟩, fun a o e _ => sm a o e, nw⟩
  have k : ∀ {a : Addr}, H a ≠ none → upd H p (.lst vs) a = H a := fun {a} n => upd_ne fun z => n (by rw [z]; exact hp)
  refine ⟨⟨ok.len, fun i c e => (ok.sl i c e).ext x.e fun a hb hw => k ((ok.sl i c e).there hb hw), ⟨by simp [ok.st.len], ?_, fun n l a e1 e2 => ?_⟩, fun a m => ?_, ok.inj, fun a q m => ?_, ok.nu, fun i a q1 q2 => ?_⟩, x⟩
  · exact List.nodup_append.mpr ⟨ok.st.nd, by simp, fun a m b m' e => by rw [List.mem_singleton.mp m'] at e; exact ok.dom a (.inr (.inl m)) (by rw [e]; exact hp)⟩
  · have e1 : (s.g ++ [ds])[n]? = some l := e1
    by_cases hn : n < s.g.length
    · rw [List.getElem?_append_left hn] at e1
      rw [List.getElem?_append_left (by rw [ok.st.len]; exact hn)] at e2
      obtain ⟨ws, h1, r⟩ := ok.st.at_ n l a e1 e2
      exact ⟨ws, sm _ _ h1, r.ext x.e⟩
    · have hn : n = s.g.length := by
        have := (List.getElem?_eq_some_iff.mp e1).1
        simp at this
        omega
      subst hn
      rw [List.getElem?_append_right (Nat.le_refl _)] at e1
      rw [List.getElem?_append_right (by rw [ok.st.len]; exact Nat.le_refl _)] at e2
      simp at e1
      simp [ok.st.len] at e2
      subst e1 e2
      exact ⟨vs, upd_same, rs.ext x.e⟩
  · rcases m with m | m
    · exact dm a (ok.dom a (.inl m))
    · rcases cv a m with m | m
      · exact dm a (ok.dom a (.inr m))
      · rw [m, upd_same]; exact fun z => nomatch z
  · rcases List.mem_append.mp m with m | m
    · exact ok.ng a q m
    · rw [List.mem_singleton.mp m] at q; exact ok.dom p (.inr (.inr q)) hp
  · obtain ⟨m, n⟩ := ok.pu i a q1 q2
    refine ⟨m, fun z => (List.mem_append.mp z).elim n fun z => ?_⟩
    rw [List.mem_singleton.mp z] at m
    exact ok.dom p (.inl m) hp
theorem s_shr {es : List Expr} {xs : List Ex} (h : DA X glob F Wx es xs) (hl : xs.length ≤ sizeLine) : DE X glob F Wx (.List es pos) (.shr xs) := (pe_lst h).imp fun σ H Q ⟨U, γ, s, ok, h⟩ => by
  simp only [evE] at h
  refine ⟨U, γ, s, ok, (RR.bind h).impE fun ds s1 γ1 H1 e ok1 x1 h1 vs rs => ⟨?_, fun p hp => ?_⟩⟩
  · rw [rs.length, evEs_len e]; exact hl
  · obtain ⟨ok2, x2⟩ := ok1.share hp rs
    refine h1 _ _ ok2 x2 _ (.ref ?_)
    rw [← ok1.st.len, List.getElem?_append_right (Nat.le_refl _)]
    simp
end
end TD

-- TV
set_option maxHeartbeats 1000000
/-! that my syntax is the program's: views, checks -/
namespace TD
open PySem PySem.Spec PyProof.Rows L2
/-! ### views -/
def vName : Expr → Option (Str × Pos)
  | .Name n p => some (n, p)
  | _ => none
def vConst : Expr → Option (Const × Nat × Pos)
  | .Constant c j p => some (c, j, p)
  | _ => none
def vTup : Expr → Option (List Expr × Nat × Pos)
  | .Tuple es k p => some (es, k, p)
  | _ => none
def vLst : Expr → Option (List Expr × Pos)
  | .List es p => some (es, p)
  | _ => none
def vBin : Expr → Option (Expr × Operator × Expr × Pos)
  | .BinOp a o b p => some (a, o, b, p)
  | _ => none
def vCmp : Expr → Option (Expr × CmpOp × Expr × Pos)
  | .Compare a [o] [b] p => some (a, o, b, p)
  | _ => none
def vCmp2 : Expr → Option (Expr × CmpOp × CmpOp × Expr × Expr × Pos)
  | .Compare a [o, o'] [b, c] p => some (a, o, o', b, c, p)
  | _ => none
def vAnd : Expr → Option (List Expr × Pos)
  | .BoolOp .And es p => some (es, p)
  | _ => none
def vOr : Expr → Option (List Expr × Pos)
  | .BoolOp .Or es p => some (es, p)
  | _ => none
def vNot : Expr → Option (Expr × Pos)
  | .UnaryOp .Not e p => some (e, p)
  | _ => none
def vNeg : Expr → Option (Expr × Pos)
  | .UnaryOp .USub e p => some (e, p)
  | _ => none
def vIf : Expr → Option (Expr × Expr × Expr × Pos)
  | .IfExp c a b p => some (c, a, b, p)
  | _ => none
def vCall : Expr → Option (Str × Pos × List Expr × Pos)
  | .Call (.Name n p) es [] p2 => some (n, p, es, p2)
  | _ => none
def vMeth : Expr → Option (Expr × Str × Pos × List Expr × Pos)
  | .Call (.Attribute o n p) es [] p2 => some (o, n, p, es, p2)
  | _ => none
def vSlice : Expr → Option (Expr × Option Expr × Option Expr × Pos × Pos)
  | .Subscript a (.Slice lo hi none p2) p => some (a, lo, hi, p2, p)
  | _ => none
def vRev : Expr → Option (Expr × Nat × Pos × Pos × Pos × Pos)
  | .Subscript a (.Slice none none (some (.UnaryOp .USub (.Constant (.int 1) k p1) p2)) p3) p => some (a, k, p1, p2, p3, p)
  | _ => none
def vSub : Expr → Option (Expr × Expr × Pos)
  | .Subscript a i p => some (a, i, p)
  | _ => none
def vLc : Expr → Option (Expr × Expr × Expr × List Expr × Scope × Pos)
  | .ListComp e [⟨t, i, ifs, 0⟩] sc p => some (e, t, i, ifs, sc, p)
  | _ => none
theorem vName_eq {e : Expr} {n : Str} {p : Pos} (h : vName e = some (n, p)) : e = .Name n p := by unfold vName at h; split at h <;> first | (cases h; rfl) | cases h
theorem vConst_eq {e : Expr} {c : Const} {j : Nat} {p : Pos} (h : vConst e = some (c, j, p)) : e = .Constant c j p := by unfold vConst at h; split at h <;> first | (cases h; rfl) | cases h
theorem vTup_eq {e : Expr} {es : List Expr} {k : Nat} {p : Pos} (h : vTup e = some (es, k, p)) : e = .Tuple es k p := by unfold vTup at h; split at h <;> first | (cases h; rfl) | cases h
theorem vLst_eq {e : Expr} {es : List Expr} {p : Pos} (h : vLst e = some (es, p)) : e = .List es p := by unfold vLst at h; split at h <;> first | (cases h; rfl) | cases h
theorem vBin_eq {e a b : Expr} {o : Operator} {p : Pos} (h : vBin e = some (a, o, b, p)) : e = .BinOp a o b p := by unfold vBin at h; split at h <;> first | (cases h; rfl) | cases h
theorem vCmp_eq {e a b : Expr} {o : CmpOp} {p : Pos} (h : vCmp e = some (a, o, b, p)) : e = .Compare a [o] [b] p := by unfold vCmp at h; split at h <;> first | (cases h; rfl) | cases h
theorem vCmp2_eq {e a b c : Expr} {o o' : CmpOp} {p : Pos} (h : vCmp2 e = some (a, o, o', b, c, p)) : e = .Compare a [o, o'] [b, c] p := by unfold vCmp2 at h; split at h <;> first | (cases h; rfl) | cases h
theorem vAnd_eq {e : Expr} {es : List Expr} {p : Pos} (h : vAnd e = some (es, p)) : e = .BoolOp .And es p := by unfold vAnd at h; split at h <;> first | (cases h; rfl) | cases h
theorem vOr_eq {e : Expr} {es : List Expr} {p : Pos} (h : vOr e = some (es, p)) : e = .BoolOp .Or es p := by unfold vOr at h; split at h <;> first | (cases h; rfl) | cases h
theorem vNot_eq {e a : Expr} {p : Pos} (h : vNot e = some (a, p)) : e = .UnaryOp .Not a p := by unfold vNot at h; split at h <;> first | (cases h; rfl) | cases h
theorem vNeg_eq {e a : Expr} {p : Pos} (h : vNeg e = some (a, p)) : e = .UnaryOp .USub a p := by unfold vNeg at h; split at h <;> first | (cases h; rfl) | cases h
theorem vIf_eq {e a b c : Expr} {p : Pos} (h : vIf e = some (c, a, b, p)) : e = .IfExp c a b p := by unfold vIf at h; split at h <;> first | (cases h; rfl) | cases h
theorem vCall_eq {e : Expr} {n : Str} {p p2 : Pos} {es : List Expr} (h : vCall e = some (n, p, es, p2)) : e = .Call (.Name n p) es [] p2 := by unfold vCall at h; split at h <;> first | (cases h; rfl) | cases h
theorem vMeth_eq {e o : Expr} {n : Str} {p p2 : Pos} {es : List Expr} (h : vMeth e = some (o, n, p, es, p2)) : e = .Call (.Attribute o n p) es [] p2 := by unfold vMeth at h; split at h <;> first | (cases h; rfl) | cases h
theorem vSlice_eq {e a : Expr} {lo hi : Option Expr} {p p2 : Pos} (h : vSlice e = some (a, lo, hi, p2, p)) : e = .Subscript a (.Slice lo hi none p2) p := by unfold vSlice at h; split at h <;> first | (cases h; rfl) | cases h
theorem vRev_eq {e a : Expr} {k : Nat} {p p1 p2 p3 : Pos} (h : vRev e = some (a, k, p1, p2, p3, p)) : e = .Subscript a (.Slice none none (some (.UnaryOp .USub (.Constant (.int 1) k p1) p2)) p3) p := by unfold vRev at h; split at h <;> first | (cases h; rfl) | cases h
theorem vSub_eq {e a i : Expr} {p : Pos} (h : vSub e = some (a, i, p)) : e = .Subscript a i p := by unfold vSub at h; split at h <;> first | (cases h; rfl) | cases h
theorem vLc_eq {e a t i : Expr} {ifs : List Expr} {sc : Scope} {p : Pos} (h : vLc e = some (a, t, i, ifs, sc, p)) : e = .ListComp a [⟨t, i, ifs, 0⟩] sc p := by unfold vLc at h; split at h <;> first | (cases h; rfl) | cases h

/-- a def of the program: its name, whether its lists are fresh, its body -/
structure Df where
  id : Nat
  nm : Str
  ps : List Str
  fr : Bool
  fn : Fn
/-- the def with a number -/
def atT (T : List Df) (f : Nat) : Option Df := T.find? fun d => d.id == f
def visB (sc : Scope) (x : Str) : Bool := match sc.names.lookup x with
  | some .local => true
  | some .cell => true
  | some .free => true
  | _ => false
def glB (sc : Scope) (x : Str) : Bool := decide (sc.names.lookup x = some .globalImplicit)
def okNm (x : Str) : Bool := decide (x ≠ ("__debug__" : Str)) && decide (x ≠ ("__classdict__" : Str)) && decide (x ≠ ("__name__" : Str))
def bopOf : O2 → Option Operator
  | .add => some .Add | .sub => some .Sub | .mul => some .Mult | .fdiv => some .FloorDiv | .mod => some .Mod | .pow => some .Pow
  | _ => none
def cmpOf : O2 → Option CmpOp
  | .eq => some .Eq | .ne => some .NotEq | .lt => some .Lt | .le => some .LtE | .gt => some .Gt | .ge => some .GtE | .isin => some .In | .notin => some .NotIn
  | _ => none
/-- the built-in's name, for those with one argument -/
def f1N : F1 → Option Str
  | .len => some "len" | .all => some "all" | .any => some "any" | .tuple => some "tuple" | .list => some "list" | .int => some "int" | .abs => some "abs" | .sum => some "sum" | .max => some "max" | .sorted => some "sorted"
  | _ => none
def isTS : Expr → Bool
  | .UnaryOp .Not _ _ => false
  | .BoolOp .. => false
  | .IfExp .. => false
  | .Compare .. => false
  | _ => true
/-- own names of a block with their slots -/
def ownOf (N : List Str) (sc : Scope) (ws : List Nat) : List (Str × Nat) := ws.filterMap fun i => (N[i]?).map fun n => (n, i)
section
variable (T : List Df) (N : List Str)
def varB (sc : Scope) (i : Nat) (e : Expr) : Bool := match vName e with
  | some (n, _) => decide (N[i]? = some n) && visB sc n && okNm n
  | none => false
def btB (sc : Scope) (n f : Str) : Bool := decide (n = f) && glB sc n
mutual
def chkG (sc : Scope) (fn : Str → Bool) : Tg → Expr → Bool
  | .v i, e => match vName e with
    | some (n, _) => decide (N[i]? = some n) && (match sc.names.lookup n with
      | some .local => true
      | some .cell => fn n
      | _ => false)
    | none => false
  | .t gs, e => match vTup e with
    | some (es, _, _) => chkGs sc fn gs es && plainXs es && decide (es.length = gs.length)
    | none => false
def chkGs (sc : Scope) (fn : Str → Bool) : List Tg → List Expr → Bool
  | [], [] => true
  | g :: gs, e :: es => chkG sc fn g e && chkGs sc fn gs es
  | _, _ => false
end
mutual
def chkE (sc : Scope) : Ex → Expr → Bool
  | .nope, _ => true
  | .var i, e => varB N sc i e
  | .take i, e => varB N sc i e
  | .move i, e => varB N sc i e
  | .int i, e => match vConst e with | some (.int j, _, _) => decide (i = j) | _ => false
  | .bl b, e => match vConst e with | some (.bool j, _, _) => decide (b = j) | _ => false
  | .non, e => match vConst e with | some (.none, _, _) => true | _ => false
  | .str x, e => match vConst e with | some (.str y, _, _) => decide (x = y) && PyData.strOk x | _ => false
  | .glob x, e => match vName e with | some (n, _) => decide (x = n) && glB sc n && okNm n | _ => false
  | .tup l, e => match vTup e with | some (es, _, _) => chkEs sc l es && decide (l.length ≤ 1000) | _ => false
  | .lst l, e => match vLst e with | some (es, _) => chkEs sc l es && decide (l.length ≤ 1000) | _ => false
  | .shr l, e => match vLst e with | some (es, _) => chkEs sc l es && decide (l.length ≤ 1000) | _ => false
  | .op o a b, e => match vBin e with
    | some (l, o', r, _) => decide (bopOf o = some o') && chkE sc a l && chkE sc b r
    | none => match vCmp e with
      | some (l, o', r, _) => decide (cmpOf o = some o') && chkE sc a l && chkE sc b r && plainX r
      | none => false
  | .chain o o2 a b c, e => match vCmp2 e with
    | some (l, p, p2, r, r2, _) => decide (cmpOf o = some p) && decide (cmpOf o2 = some p2) && chkE sc a l && chkE sc b r && chkE sc c r2 && plainX r && plainX r2
    | none => false
  | .isN a, e => match vCmp e with
    | some (l, .Is, r, _) => (match vConst r with | some (.none, _, _) => chkE sc a l | _ => false)
    | _ => false
  | .notN a, e => match vCmp e with
    | some (l, .IsNot, r, _) => (match vConst r with | some (.none, _, _) => chkE sc a l | _ => false)
    | _ => false
  | .and l, e => match vAnd e with | some (es, _) => chkEs sc l es && decide (l ≠ []) | none => false
  | .or l, e => match vOr e with | some (es, _) => chkEs sc l es && decide (l ≠ []) | none => false
  | .not a, e => match vNot e with | some (b, _) => chkE sc a b | none => false
  | .ite c a b, e => match vIf e with | some (x, y, z, _) => chkE sc c x && chkE sc a y && chkE sc b z | none => false
  | .f1 f a, e => match vCall e with
    | some (n, _, [b], _) => (match f1N f with
      | some m => btB sc n m && chkE sc a b && plainX b
      | none => match f, vCall b with
        | .sset, some (n2, _, [c], _) => btB sc n "sorted" && btB sc n2 "set" && chkE sc a c && plainX c
        | _, _ => false)
    | _ => false
  | .min2 a b, e => match vCall e with
    | some (n, _, [l, r], _) => btB sc n "min" && chkE sc a l && chkE sc b r && plainX l && plainX r
    | _ => false
  | .isi t a, e => match vCall e with
    | some (n, _, [l, r], _) => (match vName r with | some (m, _) => btB sc n "isinstance" && btB sc m (Str.ofString (tyN t)) && chkE sc a l && plainX l | none => false)
    | _ => false
  | .ix a i, e => match vSub e with | some (l, r, _) => chkE sc a l && chkE sc i r && plainX r | none => false
  | .sl a lo hi, e => match vSlice e with | some (l, x, y, _, _) => chkE sc a l && chkO sc lo x && chkO sc hi y | none => false
  | .rev a, e => match vRev e with | some (l, _) => chkE sc a l | none => false
  | .call f l, e => match vCall e with
    | some (n, _, es, _) => (match atT T f with | some d => decide (d.nm = n) && glB sc n && okNm n && decide (l.length = d.fn.np) && chkEs sc l es && plainXs es | none => false)
    | none => false
  | .lc x g w c ws, e => match vLc e with
    | some (el, t, it, ifs, scope, _) => chkW sc w t it && chkG N (relS scope sc) (fun y => decide (scope.names.lookup y = some .cell)) g t && chkC (relS scope sc) c ifs && chkE (relS scope sc) x el && plainX it &&
        (tgSl g).all (fun j => decide (j ∈ ws)) && blkC N sc scope (ownOf N sc ws) && decide ((ownOf N sc ws).map (·.2) = ws)
    | none => false
  | .oLen i, e => match vCall e with
    | some (n, _, [b], _) => btB sc n "len" && varB N sc i b
    | _ => false
  | .oNE i, e => match vCmp e with
    | some (l, .NotEq, r, _) => varB N sc i l && (match vLst r with | some ([], _) => true | _ => false)
    | _ => false
  | .oEQ i, e => match vCmp e with
    | some (l, .Eq, r, _) => varB N sc i l && (match vLst r with | some ([], _) => true | _ => false)
    | _ => false
  | .oIx i a, e => match vSub e with | some (l, r, _) => varB N sc i l && chkE sc a r && plainX r | none => false
  | .oIn a i, e => match vCmp e with
    | some (l, .In, r, _) => chkE sc a l && varB N sc i r
    | _ => false
  | .oNin a i, e => match vCmp e with
    | some (l, .NotIn, r, _) => chkE sc a l && varB N sc i r
    | _ => false
  | .oPop i, e => match vMeth e with
    | some (o, n, p, [], p2) => decide (n = "pop") && varB N sc i o && (p.endLine == p2.line)
    | _ => false
  | .oPopAt i a, e => match vMeth e with
    | some (o, n, p, [b], p2) => decide (n = "pop") && varB N sc i o && (p.endLine == p2.line) && chkE sc a b && plainX b
    | _ => false
  | .oTup i, e => match vCall e with
    | some (n, _, [b], _) => btB sc n "tuple" && varB N sc i b
    | _ => false
  | .oLst i, e => match vCall e with
    | some (n, _, [b], _) => btB sc n "list" && varB N sc i b
    | _ => false
  | .oOp o i a, e => match vCmp e with
    | some (l, o', r, _) => decide (cmpOf o = some o') && varB N sc i l && chkE sc a r && plainX r
    | none => false
  | .oSl i lo hi, e => match vSlice e with | some (l, x, y, _, _) => varB N sc i l && chkO sc lo x && chkO sc hi y | none => false
  | .oIsi t i, e => match vCall e with
    | some (n, _, [l, r], _) => (match vName r with | some (m, _) => btB sc n "isinstance" && btB sc m (Str.ofString (tyN t)) && varB N sc i l | none => false)
    | _ => false
  | .neg a, e => match vNeg e with | some (b, _) => chkE sc a b | none => false
  | _, _ => false
def chkEs (sc : Scope) : List Ex → List Expr → Bool
  | [], [] => true
  | x :: xs, e :: es => chkE sc x e && plainX e && chkEs sc xs es
  | _, _ => false
def chkO (sc : Scope) : Option Ex → Option Expr → Bool
  | none, none => true
  | some x, some e => chkE sc x e
  | _, _ => false
def chkC (sc : Scope) : Option Ex → List Expr → Bool
  | none, [] => true
  | some x, [e] => chkE sc x e
  | _, _ => false
def chkW (sc : Scope) : Wk → Expr → Expr → Bool
  | .ex x, _, e => chkE sc x e
  | .rng x, _, e => match vCall e with
    | some (n, _, [b], _) => btB sc n "range" && chkE sc x b && plainX b
    | _ => false
  | .zip x y, t, e => match vTup t, vCall e with
    | some _, some (n, _, [b, c], _) => btB sc n "zip" && chkE sc x b && chkE sc y c && plainX b && plainX c
    | _, _ => false
  | .enum x, t, e => match vTup t, vCall e with
    | some _, some (n, _, [b], _) => btB sc n "enumerate" && chkE sc x b && plainX b
    | _, _ => false
  | _, _, _ => false
end
end
end TD

-- SA
set_option maxHeartbeats 4000000
/-! sorting: lists of tuples, some empty -/
namespace TD
open PySem PySem.W PySem.Calls PyProof.Rows PySem.SeqAt
section
variable {prog : Program} {w : World} {A : Around} {E : Value → Shared → Prop} {s : Shared}
/-- tuples with their first items, if any -/
inductive Firsts (h : Heap) : List Value → List (Option Value) → Prop
  | nil : Firsts h [] []
  | cons {a : Addr} {o : Obj} {xs : Array Value} {n : Nat} {vs : List Value} {fs : List (Option Value)} : h.get? a = some o → o.cls = .type "tuple" → o.data = .seq xs n → Firsts h vs fs → Firsts h (.ref a :: vs) (xs[0]? :: fs)
theorem Firsts.go {M : Model} : ∀ {vs : List Value} {fs : List (Option Value)} {Q : List (Option Value) → Shared → Prop}, Firsts s.heap vs fs → Q fs s → wpAny M A (vs.mapM firstOfTuple') Q E s
  | _, _, _, .nil, h => by rw [List.mapM_nil]; exact wpAny_pure h
  | _, _, Q, .cons (xs := xs) (vs := vs) (fs := fs) ho hc hd t, h => by
    rw [List.mapM_cons]
    refine wpAny_bind ?_
    rw [kas_first_eq]
    refine wpAny_bind (Looks.here (show Looks M s.heap (typeOf (.ref _)) _ from (Looks.ld ho).andThen .now) ?_)
    rw [hc, if_neg (by first | decide | simp)]
    refine wpAny_bind (listItems_at ho hd (wpAny_pure ?_))
    exact wpAny_bind (Firsts.go (Q := fun bs s' => wpAny M A (pure (xs[0]? :: bs)) Q E s') t (wpAny_pure h))
theorem Firsts.types {M : Model} : ∀ {vs : List Value} {fs : List (Option Value)}, Firsts s.heap vs fs → ∀ v ∈ vs, Looks M s.heap (typeOf v) (.type "tuple")
  | _, _, .cons ho hc hd t, v, hv => by
    rcases List.mem_cons.mp hv with rfl | hv
    · exact hc ▸ (show Looks M s.heap (typeOf (.ref _)) _ from (Looks.ld ho).andThen .now)
    · exact Firsts.types t v hv
/-- the kind, where one tuple at least is empty -/
def mixedKind (fs : List (Option Value)) : SortKind := if (fs.toArray[0]?.bind id).isSome then general' else oneType'
theorem mixed_kind {M : Model} {vs : List Value} {fs : List (Option Value)} {Q : SortKind → Shared → Prop} (t : Firsts s.heap vs fs) (hn : (fs.toArray.all fun x => x.isSome) = false) (h : Q (mixedKind fs) s) : wpAny M A (keyKind' vs.toArray) Q E s := by
  rw [keyKind'_eq, List.mapM_toArray, map_eq_pure_bind]
  refine wpAny_bind (wpAny_bind (Firsts.go t (wpAny_pure ?_)))
  rw [hn, if_neg Bool.false_ne_true]
  unfold mixedKind at h
  by_cases hf : (fs.toArray[0]?.bind id).isSome = true
  · rw [if_pos hf] at h ⊢
    exact wpAny_pure h
  · rw [if_neg hf] at h ⊢
    rw [oneTypeOnly'_eq, List.mapM_toArray, map_eq_pure_bind]
    refine wpAny_bind (wpAny_bind (wpAny_bind (kas_mapM (r := Value.type "tuple") _ (fun v hv Q' hq => (Firsts.types t v hv).here hq) (wpAny_pure ?_))))
    have hall : ((vs.map fun _ => Value.type "tuple").toArray.all fun x => x == Value.type "tuple") = true := by
      simp only [List.all_toArray, List.all_map, List.all_eq_true]
      intro _ _
      exact beq_self_eq_true _
    cases t with
    | nil => simp at hn
    | cons h1 h2 h3 t =>
      have h0 : ∀ (v : Value) (us : List Value), ((v :: us).map fun _ => Value.type "tuple").toArray[0]? = some (Value.type "tuple") := fun _ _ => by simp
      rw [h0]
      simp only [hall, if_true]
      exact wpAny_pure (wpAny_pure h)
theorem call_tup_lt {Q : Value → Shared → Prop} {l b : Addr} {items items2 : Array Value} {e r : Nat → Bool} (hl : s.heap.IsTuple l items) (hb : s.heap.IsTuple b items2)
    (he : ∀ j (h1 : j < items.size) (h2 : j < items2.size), EqAt A.in1 s items[j] items2[j] (e j)) (hr : ∀ j (h1 : j < items.size) (h2 : j < items2.size), e j = false → SeqAt.RcLt A.in1 s items[j] items2[j] (r j))
    (h : Q (.bool (SeqAt.firstLt e r (decide (items.size < items2.size)) (List.range (min items.size items2.size)))) s) : wpAny (model prog w) A (call (.builtin "tuple.__lt__") [.ref l, .ref b]) Q E s := by
  obtain ⟨⟨cls, dd, data, sl⟩, ho, hc, n, hd⟩ := id hl
  obtain ⟨⟨cls2, dd2, data2, sl2⟩, ho2, hc2, n2, hd2⟩ := id hb
  simp only at hc hd hc2 hd2
  subst hc hd hc2 hd2
  exact call_meets F.slot_tuple_lt ⟨_, ho, rfl⟩ F.entry_tuple_lt (F.args_tuple_lt_2 _ _) (SeqAt.tuple_ltAt l b items items2 n n2 dd dd2 sl sl2 e r) ⟨ho, ho2, he, hr, h⟩
/-- tuples against one another, by their own __lt__ -/
theorem tup_lt1 {xs ys : List PyData} {a b : Value} {as bs : List Addr} {Q : Bool → Shared → Prop} (ra : Reads s.heap a (.tuple xs) as) (rb : Reads s.heap b (.tuple ys) bs) (h : alike (.tuple xs) (.tuple ys) = true)
    (hu : A.units + min (PyData.depth (.tuple xs)) (PyData.depth (.tuple ys)) < cLine) (hq : Q (dataLt (.tuple xs) (.tuple ys)) s) : wpAny (model prog w) A (oneLt' true a b) Q E s := by
  have hal : alikeAll xs ys = true := by simpa [alike] using h
  cases ra with
  | @tuple l o vs n _ as₁ h1 h2 h3 h4 =>
    cases rb with
    | @tuple l' o' vs' n' _ bs₁ k1 k2 k3 k4 =>
      have n1 : vs.size = xs.length := by simpa using SeqAt.ReadsAll.length _ _ _ h4
      have n2 : vs'.size = ys.length := by simpa using SeqAt.ReadsAll.length _ _ _ k4
      rw [dataLt_tuple, ← firstLt_toks xs ys hal, ← n1, ← n2] at hq
      rw [oneLt'_eq]
      simp only [if_true]
      refine wpAny_bind (wpAny_cRoomFor (SeqAt.room_here hu) ?_)
      refine wpAny_bind (wpAny_callSpecialIfBound?_slot (T := "tuple") ⟨_, h1, h2⟩ F.slot_tuple_lt (call_tup_lt (e := pairEq xs ys) (r := fun j => dataLt (xs.getD j .none) (ys.getD j .none)) ⟨_, h1, h2, _, h3⟩ ⟨_, k1, k2, _, k3⟩ (fun j j1 j2 => ?_) (fun j j1 j2 hj => ?_) ?_))
      · have := eqAt_alikeAll xs ys A.in1 s vs.toList vs'.toList _ _ h4 k4 hal (SeqAt.room_in hu) j (by simpa using j1) (by simpa using j2)
        simpa using this
      · have := rcLt_alikeAll xs ys A.in1 s vs.toList vs'.toList _ _ h4 k4 hal (SeqAt.room_in hu) j (by simpa using j1) (by simpa using j2) hj
        simpa using this
      · exact wpAny_truthy_bool hq
theorem firsts_of : ∀ {vs : List Value} {ds : List PyData}, EachIs (fun v d => ∃ as, Reads s.heap v d as) vs ds → (∀ d, d ∈ ds → ∃ xs, d = .tuple xs) → ∃ fs, Firsts s.heap vs fs ∧ ∀ i : Nat, ds[i]? = some (.tuple []) → fs[i]? = some none
  | _, _, .nil, _ => ⟨[], .nil, fun i h => by simp at h⟩
  | _, _, .cons (b := d) ⟨as, r⟩ t, ht => by
    obtain ⟨fs, h1, h2⟩ := firsts_of t fun d hd => ht d (List.mem_cons_of_mem _ hd)
    obtain ⟨xs, rfl⟩ := ht d (List.mem_cons_self ..)
    cases r with
    | @tuple a o ys n _ _ ho hc hd hr =>
      refine ⟨ys[0]? :: fs, .cons ho hc hd h1, fun i h => ?_⟩
      cases i with
      | zero =>
        have h : some (PyData.tuple xs) = some (.tuple []) := h
        cases h
        cases q : ys.toList with
        | nil =>
          have : ys = #[] := by simpa using q
          subst this
          rfl
        | cons z zs => rw [q] at hr; cases hr
      | succ i => exact h2 i h
/-- values that read as alike tuples, one of them empty at least, can be sorted -/
theorem sortsAt_tups {vs : List Value} {ds : List PyData} (e : EachIs (fun v d => ∃ as, Reads s.heap v d as) vs ds) (hal : AllAlike ds) (ht : ∀ d, d ∈ ds → ∃ xs, d = .tuple xs) (hm : .tuple [] ∈ ds) (hu : ∀ d, d ∈ ds → A.units + d.depth < cLine) : SortsAt prog w A s (dataKind s.heap ds) vs := by
  have room : ∀ {d d' : PyData}, d ∈ ds → A.units + min d.depth d'.depth < cLine := fun {d d'} hd => Nat.lt_of_le_of_lt (Nat.add_le_add_left (Nat.min_le_left _ _) _) (hu d hd)
  obtain ⟨fs, f1, f2⟩ := firsts_of e ht
  refine ⟨fun v hv => ?_, mixedKind fs, ?_, fun _ E Q hq => mixed_kind f1 ?_ hq⟩
  · obtain ⟨d, hd, as, r⟩ := e.left v hv
    exact ⟨_, dataKind_some hal hd r⟩
  · intro E x y a b Q ha hb hq
    obtain ⟨d, as, hd, ra, rfl⟩ := dataKind_inv ha
    obtain ⟨d', as', hd', rb, rfl⟩ := dataKind_inv hb
    obtain ⟨xs, rfl⟩ := ht d hd
    obtain ⟨ys, rfl⟩ := ht d' hd'
    unfold mixedKind
    split
    · show wpAny (model prog w) A (oneLt' false x y) Q E s
      exact oneLt_alike (fun z => nomatch z) ra rb (hal _ hd _ hd') (fun z => nomatch z) (room hd) hq
    · rw [keyLt'_oneType]
      exact tup_lt1 ra rb (hal _ hd _ hd') (room hd) hq
  · obtain ⟨i, hi⟩ := List.mem_iff_getElem?.mp hm
    have := f2 i hi
    rw [Bool.eq_false_iff]
    intro z
    have z := List.all_eq_true.mp (by simpa using z) none (List.mem_of_getElem? this)
    cases z
/-- any alike data but None -/
theorem sortsAt_any {vs : List Value} {ds : List PyData} (e : EachIs (fun v d => ∃ as, Reads s.heap v d as) vs ds) (hal : AllAlike ds) (hn : ∀ d, d ∈ ds → d ≠ .none) (hu : ∀ d, d ∈ ds → A.units + d.depth < cLine) : SortsAt prog w A s (dataKind s.heap ds) vs := by
  by_cases h1 : ∃ d, d ∈ ds ∧ ∃ xs, d = PyData.tuple xs
  · have ht : ∀ d, d ∈ ds → ∃ xs, d = .tuple xs := fun d hd => by
      obtain ⟨d0, h0, xs, rfl⟩ := h1
      have q := hal _ h0 d hd
      cases d with
      | tuple ys => exact ⟨ys, rfl⟩
      | _ => simp [alike] at q
    by_cases h2 : .tuple [] ∈ ds
    · exact sortsAt_tups e hal ht h2 hu
    · refine SortsAt.data e hal (.inl fun d hd => ?_) hu
      obtain ⟨xs, rfl⟩ := ht d hd
      cases xs with
      | nil => exact absurd hd h2
      | cons x r => exact ⟨x, r, rfl⟩
  · exact SortsAt.data e hal (.inr fun d hd => ⟨hn d hd, fun xs z => h1 ⟨d, hd, xs, z⟩⟩) hu
end
end TD
namespace TD
open PySem PySem.Spec PyProof.Rows L2
open PySem.W (EachIs copyHeap)
section
variable {X : Cx} {M : Addr → Prop} {γ : List Addr} {H : Hp} {σ : L2.St} {pins : List (Addr × Obj)} {s : Shared}
/-- values, what they stand for: as the library has them -/
theorem each_of (I : Inv X pins σ H s) : ∀ {vs : List V} {ds : List D} {us : List Value}, XRs X M γ H vs ds → Vals vs us → fls 40 ds = true → EachIs (fun u p => RelV p.1 u) us (vs.zip ds) ∧ EachIs (fun u p => ∃ as, Reads s.heap u (pdD p.2) as) us (vs.zip ds)
  | _, _, _, .nil, .nil, _ => ⟨.nil, .nil⟩
  | _, _, _, .cons h1 t, .cons r rt, hf => by
    rw [fls_cons, Bool.and_eq_true] at hf
    obtain ⟨q1, q2⟩ := each_of I t rt hf.2
    exact ⟨.cons r q1, .cons (h1.rd_ I hf.1 r) q2⟩
theorem vals_each : ∀ {us : List Value} {ps : List (V × D)}, EachIs (fun u p => RelV p.1 u) us ps → Vals (ps.map (·.1)) us
  | _, _, .nil => .nil
  | _, _, .cons h t => .cons h (vals_each t)
theorem rps_of : ∀ {ps : List (V × D)}, (∀ p ∈ ps, XR X M γ H p.1 p.2) → XRs X M γ H (ps.map (·.1)) (ps.map (·.2))
  | [], _ => .nil
  | p :: ps, h => .cons (h p List.mem_cons_self) (rps_of fun q m => h q (List.mem_cons_of_mem _ m))
theorem rps_zip : ∀ {vs : List V} {ds : List D}, XRs X M γ H vs ds → (∀ p ∈ vs.zip ds, XR X M γ H p.1 p.2) ∧ (vs.zip ds).map (·.2) = ds ∧ (vs.zip ds).map (·.1) = vs
  | _, _, .nil => ⟨fun p m => absurd m (by simp), rfl, rfl⟩
  | _, _, .cons h t => by
    obtain ⟨a, b, c⟩ := rps_zip t
    refine ⟨fun p m => ?_, by simp [b], by simp [c]⟩
    rcases List.mem_cons.mp m with rfl | m
    · exact h
    · exact a p m
theorem sortable_of {l : List D} (h : sortable l = true) : fls 40 l = true ∧ (∀ a ∈ l, isNonD a = false) ∧ ∀ a ∈ l, ∀ b ∈ l, alk a b = true := by
  unfold sortable at h
  rw [List.all_eq_true] at h
  have q : ∀ a ∈ l, fl 40 a = true ∧ isNonD a = false ∧ ∀ b ∈ l, alk a b = true := fun a m => by
    have := h a m
    rw [Bool.and_eq_true, Bool.and_eq_true, Bool.not_eq_true', List.all_eq_true] at this
    exact this
  refine ⟨?_, fun a m => (q a m).2.1, fun a m => (q a m).2.2⟩
  have : ∀ k : List D, (∀ a ∈ k, fl 40 a = true) → fls 40 k = true := fun k => by
    induction k with
    | nil => intro _; rfl
    | cons a k ih =>
      intro hk
      rw [fls_cons, hk a List.mem_cons_self, ih fun b m => hk b (List.mem_cons_of_mem _ m)]
      rfl
  exact this l fun a m => (q a m).1
theorem not_none {a : D} (h1 : isNonD a = false) (h2 : fl 40 a = true) : pdD a ≠ .none := fun e => by
  cases a with
  | non => cases h1
  | tup l => obtain ⟨m, _, z⟩ := fl_tup h2; rw [pdD_tup z] at e; cases e
  | lst l => obtain ⟨m, _, z⟩ := fl_lst h2; rw [pdD_lst z] at e; cases e
  | dic l => simp [fl] at h2
  | sdc l => simp [fl] at h2
  | ref l => simp [fl] at h2
  | kl l => simp [fl] at h2
  | bl l => cases e
  | int l => cases e
  | str l => cases e
/-- sorted(xs) of a list of alike data -/
theorem sorted_ok {c : Addr} {vs : List V} {l : List D} {Q : VK} (hu : X.A.units + 65 < cLine) (I : Inv X pins σ H s) (hS : SqL X.K H c vs) (r : XRs X M γ H vs l) (hs : sortable l = true) (q : ∀ p ws, H p = none → XRs X M γ H ws (sortD l) → Q (.ref p) (upd H p (.lst ws))) :
    wpAny (model X.prog X.w) X.A (call (.builtin "sorted") [.ref c]) (EP X pins σ Q) X.xe s := by
  obtain ⟨h1, h2, h3⟩ := sortable_of hs
  obtain ⟨its, rv, pl, hz⟩ := I.list hS
  obtain ⟨z1, z2, z3⟩ := rps_zip r
  obtain ⟨e1, e2⟩ := each_of I r rv h1
  have hal : PySem.W.AllAlike ((vs.zip l).map fun p => pdD p.2) := fun d hd d' hd' => by
    obtain ⟨p, hp, rfl⟩ := List.mem_map.mp hd
    obtain ⟨p', hp', rfl⟩ := List.mem_map.mp hd'
    exact h3 _ (List.of_mem_zip hp).2 _ (List.of_mem_zip hp').2
  have hn : ∀ d, d ∈ ((vs.zip l).map fun p => pdD p.2) → d ≠ .none := fun d hd => by
    obtain ⟨p, hp, rfl⟩ := List.mem_map.mp hd
    have hm := (List.of_mem_zip hp).2
    exact not_none (h2 _ hm) (fls_mem h1 _ hm)
  have hdep : ∀ d, d ∈ ((vs.zip l).map fun p => pdD p.2) → X.A.in1.in1.units + d.depth < cLine := fun d hd => by
    obtain ⟨p, hp, rfl⟩ := List.mem_map.mp hd
    have := (Rp.dp (fls_mem h1 _ (List.of_mem_zip hp).2) (z1 p hp)).2.2
    show X.A.units + 1 + 1 + _ < _
    omega
  have e2' : EachIs (fun u p => ∃ as, Reads (PySem.W.sortingHeap (copyHeap s.heap its) (s.heap.objs.size + 1) its) u (pdD p.2) as) its (vs.zip l) := e2.mono fun _ _ ⟨as, r⟩ => ⟨as, PyProof.Rows.Reads.keeps (fun _ _ => PySem.W.sorting_copy_old) r⟩
  have hlen := rv.length
  refine PySem.W.sorted_vals pl.isList (sortsAt_any (s := { s with heap := PySem.W.sortingHeap (copyHeap s.heap its) (s.heap.objs.size + 1) its }) (PySem.W.each_map (R := fun u d => ∃ as, Reads (PySem.W.sortingHeap (copyHeap s.heap its) (s.heap.objs.size + 1) its) u d as) (fun p : V × D => pdD p.2) e2') hal hn hdep) (by omega) ?_
  have out := PySem.W.sortVals_data (enc := fun p : V × D => pdD p.2) false e1 e2' hal
  obtain ⟨ep, he'⟩ := PyProof.Rows.sortedAll_at s.heap its (PySem.W.sortVals (PySem.W.dataKind (PySem.W.sortingHeap (copyHeap s.heap its) (s.heap.objs.size + 1) its) ((vs.zip l).map fun p => pdD p.2)) false its its).toArray
  have perm := List.mergeSort_perm (vs.zip l) (PySem.W.dataLe false fun p : V × D => pdD p.2)
  have hsnd : ((vs.zip l).mergeSort (PySem.W.dataLe false fun p : V × D => pdD p.2)).map (·.2) = sortD l := by
    unfold sortD
    have e := List.map_mergeSort (r := PySem.W.dataLe false fun p : V × D => pdD p.2) (s := PySem.W.dataLe false pdD) (f := fun p : V × D => p.2) (l := vs.zip l) (fun a _ b _ => rfl)
    rw [e, z2]
  have hf := I.hok.fresh (Nat.le_succ s.heap.objs.size)
  refine ⟨.ref (s.heap.objs.size + 1), upd H (s.heap.objs.size + 1) (.lst (((vs.zip l).mergeSort (PySem.W.dataLe false fun p : V × D => pdD p.2)).map (·.1))), I.laid (t' := s.toks) (fun _ _ => PyProof.Rows.sortedAll_old) (Nat.le_succ _) ⟨?_, _, ep, vals_each out, he'⟩, rfl, q _ _ hf ?_⟩
  · rw [List.length_map, perm.length_eq, List.length_zip, ← r.length]
    omega
  · rw [← hsnd]
    exact rps_of fun p m => z1 p (perm.mem_iff.mp m)
end
end TD

-- SC
set_option maxHeartbeats 4000000
/-! sets whose members are nested tuples (after the library's set of tuples of whole numbers) -/
namespace TD
open PySem PySem.Spec PyProof.Rows _root_.L2
section
variable {prog : Program} {w : World} {A : Around} {E : Value → Shared → Prop} {s : Shared}
theorem nested_each {H : Heap} : ∀ {ks : List NestedKey} {vs : List Value}, NestedAll H ks vs → ∀ v ∈ vs, ∃ k, NestedIs H k v ∧ k.depth ≤ NestedKey.depthAll ks
  | _, _, .nil, v, h => by cases h
  | _, _, .cons (k := k) (ks := ks) a b, v, h => by
    simp only [NestedKey.depthAll]
    rcases List.mem_cons.mp h with rfl | h
    · exact ⟨k, a, Nat.le_max_left _ _⟩
    · obtain ⟨k2, x, y⟩ := nested_each b v h
      exact ⟨k2, x, Nat.le_trans y (Nat.le_max_right _ _)⟩
/-- none of its class statements -/
theorem stmt_no : ∀ (n : Nat) (k : NestedKey) (v : Value) (s : Shared) (Q : Bool → Shared → Prop), NestedIs s.heap k v → k.depth ≤ n → Q false s → wpAny (model prog w) A (ofAClassStatement n v) Q E s := by
  intro n
  induction n with
  | zero =>
    intro k v s Q hk hn h
    cases hk with
    | tup => simp [NestedKey.depth] at hn
    | _ => exact wpAny_pure h
  | succ n ih =>
    intro k v s Q hk hn h
    cases hk with
    | tup ho hc hd hall =>
      rename_i b o vs m ks
      have hT : s.TypeIs (.ref b) "tuple" := ⟨o, ho, hc⟩
      have hn' : NestedKey.depthAll ks ≤ n := by simp only [NestedKey.depth] at hn; omega
      unfold ofAClassStatement
      refine wpAny_bind (wpAny_typeOf hT ?_)
      dsimp only
      simp only [show (("tuple" : String) == "tuple") = true by decide, if_true, Bool.not_true, Bool.false_eq_true, if_false]
      try refine wpAny_bind (wpAny_pure ?_)
      try simp only [Bool.not_true, Bool.false_eq_true, if_false]
      refine wpAny_bind (wpAny_seqItems ho hd ?_)
      dsimp only
      refine wpAny_bind ?_
      rw [← Array.forIn_toList]
      have each := nested_each hall
      refine wpAny_forIn_list _ (fun rest r s' => r.1 = none ∧ s' = s ∧ ∀ y ∈ rest, ∃ k, NestedIs s.heap k y ∧ k.depth ≤ n) _ (fun y rest r s' ⟨e1, e2, e3⟩ => ?_) (fun r s' ⟨e1, e2, _⟩ => ?_) _ _ ⟨rfl, rfl, fun y hy => (each y hy).imp fun k x => ⟨x.1, Nat.le_trans x.2 hn'⟩⟩
      · subst e2
        obtain ⟨k2, x1, x2⟩ := e3 y List.mem_cons_self
        refine wpAny_bind (ih k2 y s' _ x1 x2 ?_)
        simp only [Bool.false_eq_true, if_false]
        exact wpAny_pure ⟨rfl, rfl, fun z hz => e3 z (List.mem_cons_of_mem _ hz)⟩
      · obtain ⟨r1, r2⟩ := r
        subst e2; cases e1
        exact wpAny_pure h
    | _ => exact wpAny_pure h
/-- whether its hash goes by value: it answers -/
theorem byval_any : ∀ (n : Nat) (k : NestedKey) (v : Value) (s : Shared) (Q : Bool → Shared → Prop), NestedIs s.heap k v → (∀ b, Q b s) → wpAny (model prog w) A (hashByValue n v) Q E s := by
  intro n
  induction n with
  | zero =>
    intro k v s Q hk h
    cases hk <;> exact wpAny_pure (h _)
  | succ n ih =>
    intro k v s Q hk h
    cases hk with
    | tup ho hc hd hall =>
      rename_i b o vs m ks
      have hT : s.TypeIs (.ref b) "tuple" := ⟨o, ho, hc⟩
      unfold hashByValue
      refine wpAny_bind (wpAny_specialOf hT F.slot_tuple_hash.lookup ?_)
      refine wpAny_bind (wpAny_seqItems ho hd ?_)
      refine wpAny_bind ?_
      show wpAny _ _ (forIn vs _ _) _ _ s
      rw [← Array.forIn_toList]
      have each := nested_each hall
      refine wpAny_forIn_list _ (fun rest r s' => r.1 = none ∧ s' = s ∧ ∀ y ∈ rest, ∃ k, NestedIs s.heap k y) _ (fun y rest r s' ⟨e1, e2, e3⟩ => ?_) (fun r s' ⟨e1, e2, _⟩ => ?_) _ _ ⟨rfl, rfl, fun y hy => (each y hy).imp fun k x => x.1⟩
      · subst e2
        obtain ⟨k2, x1⟩ := e3 y List.mem_cons_self
        refine wpAny_bind (ih k2 y s' _ x1 fun b => ?_)
        cases b
        · exact wpAny_pure (wpAny_pure (h _))
        · exact wpAny_pure ⟨rfl, rfl, fun z hz => e3 z (List.mem_cons_of_mem _ hz)⟩
      · obtain ⟨r1, r2⟩ := r
        subst e2; cases e1
        exact wpAny_pure (h _)
    | _ => exact wpAny_pure (h _)
/-- a key of a set: the tuple at a -/
abbrev Nk (prog : Program) (w : World) (H : Heap) (k : NestedKey) (a : Addr) : Prop := (nestedKind prog w).is H k a
abbrev hsh (w : World) (k : NestedKey) : Int := k.hash w
theorem unseen {k : NestedKey} {b : Addr} {Q : Bool → Shared → Prop} (hk : Nk prog w s.heap k b) {ys : List Value} (hy : ∀ y ∈ ys, ∃ k' c, y = Value.ref c ∧ Nk prog w s.heap k' c) (h : Q false s) : wpAny (model prog w) A (searchCouldBeSeen (.ref b) ys) Q E s := by
  unfold searchCouldBeSeen
  refine wpAny_bind (wpAny_forIn_list _ (fun rest r s' => r.1 = none ∧ s' = s ∧ ∀ y ∈ rest, ∃ k' c, y = Value.ref c ∧ Nk prog w s.heap k' c) _ (fun y rest r s' ⟨e1, e2, e3⟩ => ?_) (fun r s' ⟨e1, e2, _⟩ => ?_) _ _ ⟨rfl, rfl, hy⟩)
  · subst e2
    obtain ⟨k2, c, rfl, hc⟩ := e3 y List.mem_cons_self
    have go : wpAny (model prog w) A (pure (ForInStep.yield (⟨none, ⟨⟩⟩ : MProd (Option Bool) PUnit))) (fun r s'' => match r with
            | ForInStep.yield b' => b'.1 = none ∧ s'' = s' ∧ ∀ y ∈ rest, ∃ k' c, y = Value.ref c ∧ Nk prog w s'.heap k' c
            | ForInStep.done b' => wpAny (model prog w) A (match b'.1 with | none => pure false | some a => pure a) Q E s'') E s' := wpAny_pure ⟨rfl, rfl, fun z hz => e3 z (List.mem_cons_of_mem _ hz)⟩
    dsimp only
    by_cases hv : (b == c || (carriedByValue (.ref b) && carriedByValue (.ref c))) = true
    · exact wp_if_pos hv go
    · refine wp_if_neg hv ?_
      refine wpAny_bind (quiet_key k _ 8 s' hk.1 hk.2 A E _ ?_)
      simp only [Bool.not_true, Bool.false_eq_true, if_false]
      refine wpAny_bind (quiet_key k2 _ 8 s' hc.1 hc.2 A E _ ?_)
      simp only [Bool.not_true, Bool.false_eq_true, if_false]
      refine wpAny_bind (stmt_no 8 k _ s' _ hk.1 hk.2 ?_)
      simp only [Bool.false_eq_true, if_false]
      refine wpAny_bind (stmt_no 8 k2 _ s' _ hc.1 hc.2 ?_)
      simp only [Bool.false_eq_true, if_false]
      exact go
  · obtain ⟨r1, r2⟩ := r
    subst e2; cases e1
    exact wpAny_pure h
/-! ### the table -/
def ents (w : World) (L : List (Addr × NestedKey)) : List (Int × Value) := L.map fun m => (hsh w m.2, Value.ref m.1)
/-- at a stands a set with the members L -/
structure Nset (prog : Program) (w : World) (H : Heap) (a : Addr) (L : List (Addr × NestedKey)) (es : Array (Int × Value)) (ep : Nat) (t : SetTable) : Prop where
  obj : ∃ o, H.get? a = some o ∧ o.ExactSet ∧ o.data = .set es ep t
  ents : es.toList = ents w L
  tab : TabOk t (L.map fun m => hsh w m.2)
  dist : (L.map (·.2)).Nodup
  keys : ∀ m ∈ L, Nk prog w H m.2 m.1
  led : w.params.followText "set-order" = true ∨ t.led = true
  room : L.length * 5 < t.mask * 3
  few : L.length < 64
theorem ents_len {L : List (Addr × NestedKey)} {es : Array (Int × Value)} (h : es.toList = ents w L) : es.size = L.length := by
  rw [← Array.length_toList, h, ents, List.length_map]
theorem ents_at {L : List (Addr × NestedKey)} {es : Array (Int × Value)} (h : es.toList = ents w L) {i : Nat} {m : Addr × NestedKey} (hi : L[i]? = some m) : es[i]? = some (hsh w m.2, Value.ref m.1) := by
  have q : es.toList[i]? = some (hsh w m.2, Value.ref m.1) := by
    rw [h, ents, List.getElem?_map, hi]
    rfl
  rwa [Array.getElem?_toList] at q
theorem fits_of {n : Nat} {t : SetTable} (h1 : t.dummies = #[]) (h2 : t.place.size = n) (h3 : n ≤ t.mask) : t.fits n = true := by
  unfold SetTable.fits SetTable.fill
  simp only [h1, h2, Bool.and_eq_true, beq_iff_eq, decide_eq_true_eq]
  refine ⟨?_, ?_⟩
  · first | trivial | rfl
  · simpa using h3
variable {a : Addr} {L : List (Addr × NestedKey)} {es : Array (Int × Value)} {ep : Nat} {t : SetTable}
theorem Nset.sz (Z : Nset prog w s.heap a L es ep t) : t.place.size = L.length := by
  have q := Z.tab.sz
  rwa [List.length_map] at q
theorem Nset.fit (Z : Nset prog w s.heap a L es ep t) : t.fits es.size = true :=
  fits_of Z.tab.dm (Z.sz.trans (ents_len Z.ents).symm) (by have := Z.room; rw [ents_len Z.ents]; omega)
/-- the c-th probe for a hash -/
abbrev path (t : SetTable) (x : Int) (c : Nat) : SetTable.Probe := nth t.mask (runAt t.mask (SetTable.bits x % (t.mask + 1)) (SetTable.bits x)) c
theorem path_add (t : SetTable) (x : Int) (c q : Nat) : nth t.mask (path t x c) q = path t x (c + q) := (nth_add t.mask c _ q).symm
theorem path_j (t : SetTable) (x : Int) (c : Nat) : (path t x c).j = way t.mask x c := rfl
theorem no_dummy (t : SetTable) (x : Int) : ∀ c, (path t x c).dummy = none := by
  have step : ∀ (n : Nat) (p : SetTable.Probe), p.dummy = none → (nth t.mask p n).dummy = none := fun n => by
    induction n with
    | zero => exact fun _ h => h
    | succ n ih => exact fun p h => ih _ (by unfold adv; split <;> exact h)
  exact fun c => step c _ rfl
theorem Nset.search (Z : Nset prog w s.heap a L es ep t) {x : Addr} {k : NestedKey} (hx : Nk prog w s.heap k x) (hu : A.units + 8 < cLine) {K : Nat} (hKf : K < 10 * SetTable.turns t.mask)
    (hK : way t.mask (hsh w k) K ∉ t.place.toList) (hb : ∀ c, c < K → way t.mask (hsh w k) c ∈ t.place.toList) {Q : SetFound → Shared → Prop}
    (old : k ∈ L.map (·.2) → Q (.there none) s) (new : k ∉ L.map (·.2) → Q (.free (way t.mask (hsh w k) K) false) s) :
    ∀ (f c : Nat) (st : Option SetTable.Probe), st.getD (t.probeStart (hsh w k)) = path t (hsh w k) c → c ≤ K → K - c < f →
      (∀ (i : Nat) m, L[i]? = some m → m.2 = k → ∃ c', c ≤ c' ∧ c' < K ∧ t.place.toList[i]? = some (way t.mask (hsh w k) c')) →
      wpAny (model prog w) A (setSearchFrom a (.ref x) (hsh w k) true f st) Q E s := by
  intro f
  induction f with
  | zero => exact fun c st _ _ h _ => absurd h (Nat.not_lt_zero _)
  | succ f ih =>
    intro c st hst hc hf ahead
    obtain ⟨o, go, gx, gd⟩ := Z.obj
    have hAt : ∀ (i : Nat) m, L[i]? = some m → (fun i => (es[i]?.map (·.1)).getD 0) i = hsh w m.2 := fun i m hm => by
      simp only [ents_at Z.ents hm, Option.map_some, Option.getD_some]
    rw [setSearchFrom_succ]
    refine wpAny_bind (wpAny_setState_of go gd Z.fit ?_)
    dsimp only
    refine wp_if_neg (by unfold SetTable.gaveWay; rw [mask_odd Z.tab.mok]; decide) ?_
    have found := go_spec t Z.tab.ris Z.tab.dm (fun i => (es[i]?.map (·.1)).getD 0) (hsh w k) (10 * SetTable.turns t.mask) (K - c) (path t (hsh w k) c) (no_dummy t _ c) (by omega)
      (fun q hq => by rw [path_add, path_j]; exact hb _ (by omega)) (by rw [path_add, path_j, Nat.add_sub_cancel' hc]; exact hK)
    have hgo : t.probe (fun i => (es[i]?.map (·.1)).getD 0) (hsh w k) (st.getD (t.probeStart (hsh w k))) = SetTable.probe.go t (fun i => (es[i]?.map (·.1)).getD 0) (hsh w k) (10 * SetTable.turns t.mask) (path t (hsh w k) c) := by rw [hst]; rfl
    rw [hgo]
    rcases found with ⟨q, i, hq, hi, hh, none', e⟩ | ⟨none', e⟩
    · rw [e]
      rw [path_add, path_j] at hi ⊢
      rw [path_add]
      dsimp only
      have hil : i < L.length := by
        have := (List.getElem?_eq_some_iff.mp hi).1
        rw [Array.length_toList, Z.sz] at this
        exact this
      obtain ⟨m, hm⟩ : ∃ m, L[i]? = some m := ⟨_, List.getElem?_eq_getElem hil⟩
      have mm : m ∈ L := List.mem_of_getElem? hm
      have sl : t.slot (way t.mask (hsh w k) (c + q)) = .live i := slot_live Z.tab.ris hi
      have rest : wpAny (model prog w) A (searchRest a (.ref x) (hsh w k) true f es t (way t.mask (hsh w k) (c + q)) i (path t (hsh w k) (c + (q + 1)))) Q E s := by
        unfold searchRest
        rw [ents_at Z.ents hm]
        dsimp only
        refine wpAny_bind (wpAny_holding ((nestedKind prog w).eqBool hu (Z.keys m mm) hx ?_))
        refine wpAny_bind (wpAny_setState_of go gd Z.fit ?_)
        dsimp only
        by_cases same : m.2 = k
        · exact wp_if_pos (by simp [same]) (wpAny_pure (old (List.mem_map.mpr ⟨m, mm, same⟩)))
        · refine wp_if_neg (by simp [same]) ?_
          rw [sameMem]
          dsimp only
          simp only [if_true, sl, ents_at Z.ents hm]
          refine wpAny_bind (wpAny_isSame_ref_self (wpAny_bind (wpAny_pure ?_)))
          simp only [if_true]
          refine wp_if_neg (by simp [same]) (ih (c + (q + 1)) (some (path t (hsh w k) (c + (q + 1)))) rfl (by omega) (by omega) fun i0 m0 h0 e0 => ?_)
          obtain ⟨c', a1, a2, a3⟩ := ahead i0 m0 h0 e0
          refine ⟨c', Nat.succ_le_of_lt ?_, a2, a3⟩
          rcases Nat.lt_trichotomy c' (c + q) with z | z | z
          · exact absurd ((hAt i0 m0 h0).trans (congrArg (hsh w) e0)) (none' (c' - c) i0 (by omega) (by rw [path_add, path_j, Nat.add_sub_cancel' a1]; exact a3))
          · rw [z] at a3
            have s0 := (slot_live Z.tab.ris a3).symm.trans sl
            injection s0 with s0
            rw [s0, hm] at h0
            cases h0
            exact absurd e0 same
          · exact z
      by_cases hl : t.led = true
      · exact wp_if_neg (by simp [hl]) rest
      · refine wp_if_pos (by simp [hl]) (wpAny_bind (unseen hx (fun y hy => ?_) (wp_if_neg (by decide) rest)))
        obtain ⟨e, he, rfl⟩ := List.mem_map.mp hy
        have he2 : e ∈ es.toList := by simpa using (show e ∈ es ∧ e.1 = hsh w k by simpa using he).1
        rw [Z.ents] at he2
        obtain ⟨m2, hm2, rfl⟩ := List.mem_map.mp he2
        exact ⟨m2.2, m2.1, rfl, Z.keys m2 hm2⟩
    · rw [e, path_add, path_j, Nat.add_sub_cancel' hc]
      dsimp only
      refine wpAny_pure (new fun hin => ?_)
      obtain ⟨m0, h0, e0⟩ := List.mem_map.mp hin
      obtain ⟨i0, hi0, rfl⟩ := List.getElem_of_mem h0
      have h00 : L[i0]? = some L[i0] := List.getElem?_eq_getElem hi0
      obtain ⟨c', a1, a2, a3⟩ := ahead i0 _ h00 e0
      exact none' (c' - c) i0 (by omega) (by rw [path_add, path_j, Nat.add_sub_cancel' a1]; exact a3) ((hAt i0 _ h00).trans (congrArg (hsh w) e0))
theorem Nset.searchAdd (Z : Nset prog w s.heap a L es ep t) {x : Addr} {k : NestedKey} (hx : Nk prog w s.heap k x) (hu : A.units + 8 < cLine) {Q : SetFound → Shared → Prop} (old : k ∈ L.map (·.2) → Q (.there none) s)
    (new : ∀ K, k ∉ L.map (·.2) → way t.mask (hsh w k) K ∉ t.place.toList → (∀ c, c < K → way t.mask (hsh w k) c ∈ t.place.toList) → Q (.free (way t.mask (hsh w k) K) false) s) : wpAny (model prog w) A (setSearch a (.ref x) (hsh w k) true) Q E s := by
  have hr := Z.room
  obtain ⟨K, hKf, hK, hb⟩ := Z.tab.first (by rw [List.length_map]; omega) (hsh w k)
  have big : 10 * SetTable.turns t.mask ≤ 1420 := by
    unfold SetTable.turns
    rcases Z.tab.mok with e | e | e <;> omega
  refine Z.search hx hu hKf hK hb old (fun hn => new K hn hK hb) 100000 0 none rfl (Nat.zero_le _) (by omega) fun i m hm hk => ?_
  have hi : (L.map fun m => hsh w m.2)[i]? = some (hsh w k) := by rw [List.getElem?_map, hm, ← hk]; rfl
  have hj : t.place.toList[i]? = some (t.place.toList[i]'(by rw [Array.length_toList, Z.sz]; exact (List.getElem?_eq_some_iff.mp hm).1)) := List.getElem?_eq_getElem _
  obtain ⟨c, c1, c2⟩ := Z.tab.before hK hi hj
  exact ⟨c, Nat.zero_le _, c1, hj.trans (congrArg some c2.symm)⟩
/-! ### adding -/
theorem Nk.same {H H' : Heap} {k : NestedKey} {a b : Addr} {o : Obj} {es : Array (Int × Value)} {ep : Nat} {t : SetTable} (x : Nk prog w H k b) (go : H.get? a = some o) (gd : o.data = .set es ep t) (sb : Heap.SameBut a H H') : Nk prog w H' k b :=
  ⟨NestedIs.at (fun c oc vs n e d => (sb.2 c fun z => by subst z; rw [go] at e; cases e; rw [gd] at d; cases d).trans e) k _ x.1, x.2⟩
theorem Nk.keep {H H' : Heap} {k : NestedKey} {b : Addr} (x : Nk prog w H k b) (hk : ∀ c o, H.get? c = some o → H'.get? c = some o) : Nk prog w H' k b :=
  ⟨NestedIs.at (fun c oc vs n e _ => hk c oc e) k _ x.1, x.2⟩
/-- the members in the order given by places -/
theorem ents_order {L : List (Addr × NestedKey)} {es : Array (Int × Value)} (he : es.toList = ents w L) (order : Array Nat) (hp : order.toList.Perm (List.range L.length)) :
    ∃ L2, (order.filterMap (es[·]?)).toList = ents w L2 ∧ L2.Perm L ∧ (L2.map fun m => hsh w m.2) = order.toList.map fun i => (es.map (·.1)).getD i 0 := by
  have pick : ∀ l : List Nat, (∀ i ∈ l, i < L.length) → l.filterMap (fun i => es[i]?) = ents w (l.filterMap fun i => L[i]?) ∧ ((l.filterMap fun i => L[i]?).map fun m => hsh w m.2) = l.map fun i => (es.map (·.1)).getD i 0 := by
    intro l
    induction l with
    | nil => exact fun _ => ⟨rfl, rfl⟩
    | cons i l ih =>
      intro hl
      obtain ⟨e1, e2⟩ := ih fun j hj => hl j (List.mem_cons_of_mem _ hj)
      have hi : L[i]? = some (L[i]'(hl i List.mem_cons_self)) := List.getElem?_eq_getElem _
      have ei := ents_at he hi
      have eh : (es.map (·.1)).getD i 0 = hsh w (L[i]'(hl i List.mem_cons_self)).2 := by
        have : (es.map (·.1))[i]? = some (hsh w (L[i]'(hl i List.mem_cons_self)).2) := by rw [Array.getElem?_map, ei]; rfl
        simp only [Array.getD_eq_getD_getElem?, this, Option.getD_some]
      rw [List.filterMap_cons_some ei, List.filterMap_cons_some hi, List.map_cons, List.map_cons, e1, e2, eh]
      exact ⟨rfl, rfl⟩
  have all : ∀ (l : List (Addr × NestedKey)), (List.range l.length).filterMap (fun i => l[i]?) = l := fun l => by
    induction l with
    | nil => rfl
    | cons x l ih =>
      rw [List.length_cons, List.range_succ_eq_map, List.filterMap_cons_some (f := fun i => (x :: l)[i]?) (show (x :: l)[0]? = some x from rfl), List.filterMap_map]
      exact congrArg (x :: ·) ih
  obtain ⟨e1, e2⟩ := pick order.toList fun i hi => List.mem_range.mp (hp.mem_iff.mp hi)
  refine ⟨_, by rw [Array.toList_filterMap]; exact e1, ?_, e2⟩
  have q := hp.filterMap fun i => L[i]?
  rwa [all] at q
theorem relaid {o : Obj} (go : s.heap.get? a = some o) (gx : o.ExactSet) (gd : o.data = .set es ep t) (he : es.toList = ents w L) (hsz : t.place.size = L.length) (hdm : t.dummies = #[]) (hfl : L.length ≤ t.mask)
    (dist : (L.map (·.2)).Nodup) (keys : ∀ m ∈ L, Nk prog w s.heap m.2 m.1) (led : w.params.followText "set-order" = true ∨ t.led = true) (few : L.length < 64) {wanted M : Nat}
    (hw : SetTable.sizeAbove wanted - 1 = M) (hM : MaskOk M) (hw2 : SetTable.sizeAbove wanted ≤ 128) (hn : L.length * 5 < M * 3) {Q : Unit → Shared → Prop}
    (h : ∀ H' L' es' ep' t', Heap.SameBut a s.heap H' → Nset prog w H' a L' es' ep' t' → L'.Perm L → Q () { s with heap := H' }) : wpAny (model prog w) A (setRelay a wanted) Q E s := by
  have hes := ents_len he
  obtain ⟨t', order, e, hp, T, em, el, _, ed⟩ := relaid_ok t (hs := es.map (·.1)) (wanted := wanted) hw hM (by rw [Array.size_map, hes]; omega)
  rw [Array.size_map, hes] at hp
  obtain ⟨L2, r1, r2, r3⟩ := ents_order he order hp
  rw [← r3] at T
  have hs2 : (order.filterMap (es[·]?)).size = es.size := (ents_len r1).trans (r2.length_eq.trans hes.symm)
  have sb : Heap.SameBut a s.heap (s.heap.update a (Obj.putSet (order.filterMap (es[·]?)) t')) := Heap.SameBut.update ..
  rw [setRelay_eq]
  refine wpAny_bind (wpAny_setState_of go gd (fits_of hdm (hsz.trans hes.symm) (by rw [hes]; exact hfl)) ?_)
  dsimp only
  refine wp_if_neg (by rw [sizeLine_eq]; omega) ?_
  rw [e]
  dsimp only
  refine wpAny_bind (wp_if_neg (by rw [hs2]; simp) (wpAny_pure ?_))
  dsimp only
  refine wpAny_storeSet_of go gd (h _ L2 (order.filterMap (es[·]?)) (ep + 1) t' sb ?_ r2) (by rw [hs2, hes, sizeLine_eq]; omega)
  exact ⟨⟨_, store_at go gd, ⟨gx.1, gx.2.1, gx.2.2⟩, rfl⟩, r1, T, (r2.map (·.2)).nodup_iff.mpr dist, fun m hm => (keys m (r2.mem_iff.mp hm)).same go gd sb, by rw [el]; exact led, by rw [r2.length_eq, em]; exact hn, by rw [r2.length_eq]; exact few⟩
theorem Nset.add (Z : Nset prog w s.heap a L es ep t) {x : Addr} {k : NestedKey} (hx : Nk prog w s.heap k x) (hu : A.units + 8 < cLine) (hfew : L.length + 1 < 64) {Q : Bool → Shared → Prop}
    (h : ∀ b H' L' es' ep' t', Heap.SameBut a s.heap H' → Nset prog w H' a L' es' ep' t' → (k ∈ L.map (·.2) → L' = L) → (k ∉ L.map (·.2) → L'.Perm ((x, k) :: L)) → Q b { s with heap := H' }) :
    wpAny (model prog w) A (setAddHashed a (.ref x) (hsh w k)) Q E s := by
  obtain ⟨o, go, gx, gd⟩ := Z.obj
  have hes := ents_len Z.ents
  have hroom := Z.room
  unfold setAddHashed
  refine wpAny_holding ?_
  rw [show (100000 : Nat) = 99999 + 1 from rfl, setAddHashedIn_succ]
  refine wpAny_bind (wpAny_setState_of go gd Z.fit ?_)
  dsimp only
  refine wp_if_neg (by simp [byScan, Value.scannable]) ?_
  refine wpAny_bind (Z.searchAdd hx hu (fun hm => ?_) fun K hm hK hb => ?_)
  · exact wpAny_pure (h false s.heap L es ep t (Heap.SameBut.refl a s.heap) Z (fun _ => rfl) fun z => absurd hm z)
  · dsimp only
    refine wpAny_bind (wpAny_setState_of go gd Z.fit ?_)
    dsimp only
    obtain ⟨q1, q2, q3, q4, q5, _, _, _, q9⟩ := Z.tab.put hK hb
    generalize t.put (way t.mask (hsh w k) K) = pt at q1 q3 q4 q5 q9 ⊢
    obtain ⟨t1, p⟩ := pt
    dsimp only at q1 q3 q4 q5 q9 ⊢
    subst q1
    generalize SetTable.below t.place (way t.mask (hsh w k) K) = p at q2 q3 ⊢
    have pm := put_perm L p (x, k)
    have he1 : (SetTable.insertAt es p (hsh w k, Value.ref x)).toList = TD.ents w (L.take p ++ (x, k) :: L.drop p) := by
      rw [SetTable.toList_insertAt, Z.ents]
      simp only [TD.ents, List.map_append, List.map_cons, List.map_take, List.map_drop]
    have hhs : (L.take p ++ (x, k) :: L.drop p).map (fun m => hsh w m.2) = (L.map fun m => hsh w m.2).take p ++ hsh w k :: (L.map fun m => hsh w m.2).drop p := by simp only [List.map_append, List.map_cons, List.map_take, List.map_drop]
    rw [← hhs] at q3
    have dist1 : ((L.take p ++ (x, k) :: L.drop p).map (·.2)).Nodup := (pm.map (·.2)).nodup_iff.mpr (by rw [List.map_cons]; exact List.nodup_cons.mpr ⟨hm, Z.dist⟩)
    have len1 := pm.length_eq
    rw [List.length_cons] at len1
    generalize SetTable.insertAt es p (hsh w k, Value.ref x) = es1 at he1 ⊢
    generalize L.take p ++ (x, k) :: L.drop p = L1 at pm len1 q3 dist1 he1
    have sz1 := ents_len he1
    -- whatever the table's mark of value
    have body : ∀ t2 : SetTable, t2.place = t1.place → t2.dummies = t1.dummies → t2.mask = t1.mask → t2.led = t1.led → wpAny (model prog w) A (do
        storeSet a es1 t2
        if !false && t2.tooFull then setRelay a (SetTable.grown (es.size + 1))
        return true) Q E s := by
      intro t2 p1 p2 p3 p4
      have T2 : TabOk t2 (L1.map fun m => hsh w m.2) := ⟨p1 ▸ q3.ris, p2 ▸ q3.dm, p1 ▸ q3.sz, p3 ▸ q3.mok, by rw [p1, p3]; exact q3.bd, by rw [p1, p3]; exact q3.reach⟩
      have fill2 : t2.fill = L.length + 1 := by
        rw [List.length_map] at q9
        rw [← q9]
        unfold SetTable.fill
        rw [p1, p2]
      have z2 : t2.place.size = L1.length := by
        have q := T2.sz
        rwa [List.length_map] at q
      refine wpAny_bind (wpAny_storeSet_of go gd ?_ (by rw [sz1, sizeLine_eq]; omega))
      have sb : Heap.SameBut a s.heap (s.heap.update a (Obj.putSet es1 t2)) := Heap.SameBut.update ..
      have go1 := store_at (es' := es1) (t' := t2) go gd
      generalize s.heap.update a (Obj.putSet es1 t2) = h1 at sb go1 ⊢
      have keys1 : ∀ m ∈ L1, Nk prog w h1 m.2 m.1 := fun m hm => by
        rcases List.mem_cons.mp (pm.mem_iff.mp hm) with rfl | hm
        · exact hx.same go gd sb
        · exact (Z.keys m hm).same go gd sb
      have led1 : w.params.followText "set-order" = true ∨ t2.led = true := by rw [p4, q5]; exact Z.led
      have few1 : L1.length < 64 := by omega
      have hmk : t2.mask = t.mask := p3.trans q4
      by_cases hf : t2.tooFull = true
      · have full : (L.length + 1) * 5 ≥ t.mask * 3 := by
          have q := hf
          unfold SetTable.tooFull at q
          rwa [decide_eq_true_eq, fill2, hmk] at q
        have two : (t.mask = 7 ∧ L.length = 4) ∨ (t.mask = 31 ∧ L.length = 18) := by rcases Z.tab.mok with e | e | e <;> rw [e] at full hroom <;> omega
        have fin : ∀ M, SetTable.sizeAbove (SetTable.grown (es.size + 1)) - 1 = M → MaskOk M → SetTable.sizeAbove (SetTable.grown (es.size + 1)) ≤ 128 → (L.length + 1) * 5 < M * 3 →
            wpAny (model prog w) A (setRelay a (SetTable.grown (es.size + 1))) (fun _ s' => wpAny (model prog w) A (pure true) Q E s') E { s with heap := h1 } := fun M m1 m2 m3 m4 =>
          relaid (s := { s with heap := h1 }) go1 ⟨gx.1, gx.2.1, gx.2.2⟩ rfl he1 z2 T2.dm (by rw [hmk]; omega) dist1 keys1 led1 few1 m1 m2 m3 (by omega)
            fun H2 L2 es2 ep2 t3 sb2 Z2 pm2 => wpAny_pure (h true H2 L2 es2 ep2 t3 (sb.trans sb2) Z2 (fun z => absurd z hm) fun _ => pm2.trans pm)
        have go2 : wpAny (model prog w) A (setRelay a (SetTable.grown (es.size + 1))) (fun _ s' => wpAny (model prog w) A (pure true) Q E s') E { s with heap := h1 } := by
          rcases two with ⟨_, e⟩ | ⟨_, e⟩
          · exact fin 31 (by rw [hes, e, size_20]) (.inr (.inl rfl)) (by rw [hes, e, size_20]; decide) (by omega)
          · exact fin 127 (by rw [hes, e, size_76]) (.inr (.inr rfl)) (by rw [hes, e, size_76]; decide) (by omega)
        first
          | exact wp_if_pos (by simp [hf]) (wpAny_bind go2)
          | exact wpAny_bind (wp_if_pos (by simp [hf]) go2)
      · have notFull : (L.length + 1) * 5 < t.mask * 3 := by
          have q := hf
          unfold SetTable.tooFull at q
          rw [decide_eq_true_eq, fill2, hmk] at q
          omega
        have fin : wpAny (model prog w) A (pure true) Q E { s with heap := h1 } := wpAny_pure (h true h1 L1 es1 (ep + 1) t2 sb ⟨⟨_, go1, ⟨gx.1, gx.2.1, gx.2.2⟩, rfl⟩, he1, T2, dist1, keys1, led1, by rw [len1, hmk]; exact notFull, few1⟩ (fun z => absurd z hm) fun _ => pm)
        first
          | exact wp_if_neg (by simp [hf]) fin
          | exact wpAny_bind (wp_if_neg (by simp [hf]) (wpAny_pure fin))
    have both : ∀ b : Bool, wpAny (model prog w) A (do
        storeSet a es1 (if b then t1 else { t1 with plain := false })
        if !false && (if b then t1 else { t1 with plain := false }).tooFull then setRelay a (SetTable.grown (es.size + 1))
        return true) Q E s := fun b => by
      cases b
      · exact body { t1 with plain := false } rfl rfl rfl rfl
      · exact body t1 rfl rfl rfl rfl
    by_cases hp : t1.plain = true
    · first
        | exact wp_if_pos hp (wpAny_bind (byval_any 8 k _ s _ hx.1 fun b => both b))
        | exact wpAny_bind (wp_if_pos hp (byval_any 8 k _ s _ hx.1 fun b => both b))
    · first
        | exact wp_if_neg hp (both true)
        | exact wpAny_bind (wp_if_neg hp (wpAny_pure (both true)))
        | exact wp_if_neg hp (wpAny_bind (wpAny_pure (both true)))
/-! ### set(xs) -/
/-- the members got from ks: every key of ks, no other item -/
structure Taken (ks L : List (Addr × NestedKey)) : Prop where
  sub : ∀ m ∈ L, m ∈ ks
  all : ∀ m ∈ ks, m.2 ∈ L.map (·.2)
  len : L.length ≤ ks.length
theorem Taken.grow {ks L L' : List (Addr × NestedKey)} {m : Addr × NestedKey} (g : Taken ks L) (c1 : m.2 ∈ L.map (·.2) → L' = L) (c2 : m.2 ∉ L.map (·.2) → L'.Perm (m :: L)) : Taken (ks ++ [m]) L' := by
  by_cases c : m.2 ∈ L.map (·.2)
  · rw [c1 c]
    refine ⟨fun q hq => List.mem_append_left _ (g.sub q hq), fun q hq => ?_, by rw [List.length_append]; exact Nat.le_add_right_of_le g.len⟩
    rcases List.mem_append.mp hq with z | z
    · exact g.all q z
    · rwa [List.mem_singleton.mp z]
  · have pm := c2 c
    refine ⟨fun q hq => ?_, fun q hq => (pm.map (·.2)).mem_iff.mpr ?_, ?_⟩
    · rcases List.mem_cons.mp (pm.mem_iff.mp hq) with rfl | z
      · exact List.mem_append_right _ List.mem_cons_self
      · exact List.mem_append_left _ (g.sub q z)
    · rw [List.map_cons]
      rcases List.mem_append.mp hq with z | z
      · exact List.mem_cons_of_mem _ (g.all q z)
      · rw [List.mem_singleton.mp z]
        exact List.mem_cons_self
    · rw [pm.length_eq, List.length_append]
      exact Nat.succ_le_succ g.len
theorem Nset.keep {H H' : Heap} (Z : Nset prog w H a L es ep t) (ha : ∀ o, H.get? a = some o → H'.get? a = some o) (hk : ∀ m ∈ L, Nk prog w H' m.2 m.1) : Nset prog w H' a L es ep t :=
  ⟨Z.obj.imp fun o x => ⟨ha o x.1, x.2⟩, Z.ents, Z.tab, Z.dist, hk, Z.led, Z.room, Z.few⟩
def newSet (w : World) : Obj := { cls := .type "set", dict := none, data := .set #[] 0 (.fresh 0 0 (!w.params.followText "set-order")) }
theorem nset_new {H : Heap} (ho : H.get? a = some (newSet w)) : Nset prog w H a [] #[] 0 (.fresh 0 0 (!w.params.followText "set-order")) where
  obj := ⟨_, ho, ⟨rfl, rfl, rfl⟩, rfl⟩
  ents := rfl
  tab := ⟨List.Pairwise.nil, rfl, rfl, .inl rfl, fun _ h => (nomatch h), fun i h j hi => (by simp at hi)⟩
  dist := List.nodup_nil
  keys := fun _ h => (nomatch h)
  led := by
    show _ ∨ (!w.params.followText "set-order") = true
    cases w.params.followText "set-order" <;> simp
  room := (by decide : 0 * 5 < 7 * 3)
  few := (by decide : 0 < 64)
theorem fill_loop {I : Addr} {fp wr : List Addr} {G : Array GenState → Array GenState → Prop} {n : Nat} {Pv : Nat → Value → Prop} {St : Nat → Shared → Prop} {R : Result → Shared → Prop} (W : WalksS prog w A.in1 I fp wr G n Pv St) (S : Addr) (hSf : S ∉ fp)
    (ks : List (Addr × NestedKey)) (hn : n = ks.length) (hfew : ks.length < 64) (hval : ∀ i v, Pv i v → ∃ m, ks[i]? = some m ∧ v = .ref m.1) (h0 : Heap) (hk : ∀ m ∈ ks, Nk prog w h0 m.2 m.1) (hS0 : h0.get? S = none)
    (hw0 : ∀ b ∈ wr, h0.get? b = none) (hu : A.in1.units + 8 < cLine) :
    ∀ (j i : Nat) (s : Shared), i + j = n → St i s → (∀ b o, h0.get? b = some o → s.heap.get? b = some o) → (∃ L es ep t, Nset prog w s.heap S L es ep t ∧ Taken (ks.take i) L) →
      (∀ s' L es ep t, Moved (S :: wr) G s s' → Nset prog w s'.heap S L es ep t → Taken ks L → (∀ b o, h0.get? b = some o → s'.heap.get? b = some o) → R (.ok (.ret .none)) s') →
      codeAny (model prog w) A (.builtin "set.update.loop" ⟨[.ref S, .ref I], []⟩) R s := by
  have hSw : S ∉ wr := fun z => hSf (W.sub _ z)
  have more : ∀ b ∈ wr, b ∈ S :: wr := fun b => List.mem_cons_of_mem _
  have keepM : ∀ {u v : Shared}, Moved wr G u v → (∀ b o, h0.get? b = some o → u.heap.get? b = some o) → ∀ b o, h0.get? b = some o → v.heap.get? b = some o := fun mv kp b o e => mv.heap b o (fun hb => by rw [hw0 b hb] at e; cases e) (kp b o e)
  have subK : ∀ {i : Nat} {L : List (Addr × NestedKey)}, Taken (ks.take i) L → ∀ m ∈ L, m ∈ ks := fun g m hm => List.mem_of_mem_take (g.sub m hm)
  intro j
  induction j with
  | zero =>
    intro i s hj hst kp ⟨L, es, ep, t, Z, g⟩ hR
    have ei : i = n := by omega
    subst ei
    refine codeAny_builtin F.entry_set_update_loop ?_
    rw [Around.under_plainId F.plain_set_update_loop _]
    show wpAny _ A.in1 (pyNext (.ref I) >>= _) _ _ s
    refine wpAny_bind (W.done s _ _ hst fun s' mv => ?_)
    have kp' := keepM mv kp
    rw [hn, List.take_length] at g
    exact wpAny_pure (hR s' L es ep t (mv.mono more) (Z.keep (fun o e => mv.heap S o hSw e) fun m hm => (hk m (g.sub m hm)).keep kp') g kp')
  | succ j ih =>
    intro i s hj hst kp ⟨L, es, ep, t, Z, g⟩ hR
    refine codeAny_builtin F.entry_set_update_loop ?_
    rw [Around.under_plainId F.plain_set_update_loop _]
    show wpAny _ A.in1 (pyNext (.ref I) >>= _) _ _ s
    refine wpAny_bind (W.item i s _ _ (by omega) hst fun v s' hP hst' mv => ?_)
    obtain ⟨m, hm, rfl⟩ := hval i v hP
    have kp' := keepM mv kp
    have Z' : Nset prog w s'.heap S L es ep t := Z.keep (fun o e => mv.heap S o hSw e) fun q hq => (hk q (subK g q hq)).keep kp'
    have hx : Nk prog w s'.heap m.2 m.1 := (hk m (List.mem_of_getElem? hm)).keep kp'
    have glen := g.len
    rw [List.length_take] at glen
    have tk := take_next hm
    show wpAny _ A.in1 (holding [Value.ref m.1] (setAdd S (.ref m.1)) >>= _) _ _ s'
    refine wpAny_bind (wpAny_holding ?_)
    unfold setAdd
    refine wpAny_holding (wpAny_bind ((nestedKind prog w).pyHash hu hx ?_))
    refine Nset.add (s := { s' with toks := s'.toks + m.2.draws }) Z' hx hu (by omega) fun b H' L' es' ep' t' sb Z2 c1 c2 => ?_
    have g2 : Taken (ks.take (i + 1)) L' := tk ▸ g.grow c1 c2
    have kp2 : ∀ b o, h0.get? b = some o → H'.get? b = some o := fun b o e => (sb.2 b fun z => by rw [z, hS0] at e; cases e).trans (kp' b o e)
    refine wpAny_pure ⟨plainId_quiet F.plain_set_update_loop _, ih (i + 1) _ (by omega) (W.frame _ s' _ _ hst' (Nat.le_add_right _ _) fun b hb o e => (sb.2 b fun z => hSf (z ▸ hb)).trans e) kp2 ⟨L', es', ep', t', Z2, g2⟩ fun s2 L2 es2 ep2 t2 mv2 Z3 g3 kp3 => ?_⟩
    exact hR s2 L2 es2 ep2 t2 (Moved.trans W.gtrans ((mv.mono more).then_heap (Nat.le_add_right _ _) fun b o hb e => (sb.2 b fun z => hb (z ▸ List.mem_cons_self)).trans e) mv2) Z3 g3 kp3
theorem call_set_nested {l : Addr} {items : Array Value} (ks : List (Addr × NestedKey)) {Q : Value → Shared → Prop} (hh : A.handled = none) (hl : s.heap.IsList l items) (hit : items.toList = ks.map fun m => Value.ref m.1)
    (hk : ∀ m ∈ ks, Nk prog w s.heap m.2 m.1) (hfew : ks.length < 64) (hu : A.units + 16 < cLine)
    (h : ∀ (H' : Heap) (tk : Nat) L es ep t, Nset prog w H' s.heap.objs.size L es ep t → Taken ks L → (∀ b o, s.heap.get? b = some o → H'.get? b = some o) → Q (.ref s.heap.objs.size) { s with heap := H', toks := tk }) :
    wpAny (model prog w) A (call (.type "set") [.ref l]) Q E s := by
  have hsz : items.size = ks.length := by rw [← Array.length_toList, hit, List.length_map]
  obtain ⟨c, tl, hmro⟩ := F.called_set.mro
  have g1 := F.called_set.made
  have g2 := F.called_set.sub
  have g3 := F.called_set.notType
  have g4 := F.called_set.canCreate
  have g5 := F.typeCall_set_1 (.ref l)
  refine wpAny_call (codeAny_of_tree ?_)
  show wpAny _ _ (callAny (.type "set") _) _ _ _
  refine wpAny_pure ⟨Code.quiet_builtin _ (by decide +kernel), codeAny_builtin F.entry_type_call ?_⟩
  rw [Around.under_plain (weight_type_call_type "set" [.ref l] []) rfl]
  repeat (any_goals (first | assumption | wp_step))
  refine codeAny_mono (code_set_led1 (.ref l) (E := E) (Q₁ := fun obj s₁ => obj = .ref s.heap.objs.size ∧ s₁ = { s with heap := s.heap.push (newSet w) }) ⟨rfl, rfl⟩) fun r s₁ hr => ?_
  rcases r with e | fl
  · exact hr
  cases fl with
  | ret obj =>
    obtain ⟨rfl, rfl⟩ := hr
    have oS : (s.heap.push (newSet w)).get? s.heap.objs.size = some (newSet w) := Heap.get?_push_size _ rfl
    have hT : Shared.TypeIs { s with heap := s.heap.push (newSet w) } (.ref s.heap.objs.size) "set" := ⟨_, oS, rfl⟩
    have i1 := F.called_set.init.lookup
    have i2 := F.called_set.init.bind (.ref s.heap.objs.size)
    repeat (any_goals (first | assumption | wp_step))
    refine codeAny_mono (codeAny_call_builtin (R := wants (fun r s₂ => r = .none ∧ ∃ H' tk L es ep t, s₂ = { s with heap := H', toks := tk } ∧ Nset prog w H' s.heap.objs.size L es ep t ∧ Taken ks L ∧ (∀ b o, s.heap.get? b = some o → H'.get? b = some o)) E)
      F.called_set.init.plain F.entry_set_init (check_set_init_1 hT ?_)) fun r₂ s₂ hr₂ => ?_
    · obtain ⟨⟨ocls, od, odata, osl⟩, ol, oc, nl, odt⟩ := id hl
      simp only at oc odt
      subst oc; subst odt
      have ol2 : (s.heap.push (newSet w)).get? l = some { cls := .type "list", dict := od, data := .seq items nl, slots := osl } := Heap.get?_push_of_some _ ol
      have u1 := F.sub_list_set
      have u2 := F.sub_list_frozenset
      have u3 : (Value.type "list" == Value.type "dict") = false := by decide
      have il : (s.heap.push (newSet w)).IsList l items := ⟨_, ol2, rfl, nl, rfl⟩
      unfold Builtin.«set.__init__» noKeywords Builtin.Frozenset.updateFrom
      generalize hPI : pyIter = PI
      wp_walk
      subst hPI
      refine wpAny_pyIter_list il (wpAny_bind (wpAny_runValue ?_))
      have lS : l < s.heap.objs.size := Heap.lt_size ol
      have z1 : (s.heap.push (newSet w)).objs.size = s.heap.objs.size + 1 := Heap.size_push ..
      have none_of : ∀ b, s.heap.objs.size ≤ b → s.heap.get? b = none := fun b hb => by
        cases q : s.heap.get? b with
        | none => rfl
        | some o => exact absurd (Heap.lt_size q) (Nat.not_lt.mpr hb)
      refine fill_loop ((Walks.list (A := A.in1.in1.in1) (by simp [hh]) (s.heap.push (newSet w)).objs.size l (by rw [z1]; exact Nat.ne_of_lt (Nat.lt_succ_of_lt lS)) items).toS) s.heap.objs.size ?_ ks hsz hfew (fun i v hv => ?_) s.heap hk (none_of _ (Nat.le_refl _))
        (fun b hb => none_of b ?_) ?_ items.size 0 _ (Nat.zero_add _) ⟨⟨_, Heap.get?_push_size _ rfl, rfl, rfl⟩, il.push _⟩ (fun b o e => Heap.get?_push_of_some _ (Heap.get?_push_of_some _ e)) ?_ fun s' L es ep t mv Z g kp => ?_
      · rw [z1]
        simp only [List.mem_cons, List.not_mem_nil, or_false, not_or]
        exact ⟨Nat.ne_of_lt (Nat.lt_succ_self _), Nat.ne_of_gt lS⟩
      · have q : items.toList[i]? = some v := by rw [Array.getElem?_toList]; exact hv
        rw [hit, List.getElem?_map] at q
        cases hq : ks[i]? with
        | none => rw [hq] at q; cases q
        | some m =>
          rw [hq] at q
          exact ⟨m, rfl, (Option.some.inj q).symm⟩
      · rw [List.mem_singleton.mp hb, z1]
        exact Nat.le_succ _
      · simp only [Around.in1_units]
        omega
      · exact ⟨[], #[], 0, _, nset_new (Heap.get?_push_of_some _ oS), ⟨fun _ h => (nomatch h), fun _ h => (by simp at h), Nat.zero_le _⟩⟩
      · obtain ⟨H', gs, dr, tk, os'⟩ := s'
        have e1 : gs = s.gens := mv.gens
        have e2 : dr = s.drawn := mv.drawn
        have e3 : os' = s.os := mv.os
        subst e1; subst e2; subst e3
        exact wpAny_pure (wpAny_pure ⟨rfl, H', tk, L, es, ep, t, rfl, Z, g, kp⟩)
    · rcases r₂ with e | fl₂
      · exact hr₂
      cases fl₂ with
      | ret r =>
        obtain ⟨rfl, H', tk, L, es, ep, t, rfl, Z, g, kp⟩ := hr₂
        repeat (any_goals (first | assumption | wp_step))
        exact h _ _ _ _ _ _ Z g kp
      | _ => exact hr₂.elim
  | _ => exact hr.elim
end
end TD

-- SD
set_option maxHeartbeats 4000000
/-! set(xs), sorted(set(xs)), for the interpreter -/
namespace TD
open PySem PySem.Spec PyProof.Rows _root_.L2
section
variable {X : Cx} {M : Addr → Prop} {γ : List Addr} {H : Hp} {σ : L2.St} {pins : List (Addr × Obj)} {s : Shared}
/-- members: their places and keys, what they stand for -/
abbrev Mem := (Addr × NestedKey) × D
def MemOk (X : Cx) (M : Addr → Prop) (γ : List Addr) (H : Hp) (p : Mem) : Prop := XR X M γ H (.ref p.1.1) p.2 ∧ keyOf p.2 = some p.1.2
theorem keyed (I : Inv X pins σ H s) : ∀ {vs : List V} {ds : List D} {us : List Value}, XRs X M γ H vs ds → Vals vs us → (∀ d ∈ ds, (keyOf d).isSome = true) →
    ∃ ps : List Mem, us = ps.map (fun p => Value.ref p.1.1) ∧ ps.map (·.2) = ds ∧ ∀ p ∈ ps, MemOk X M γ H p
  | _, _, _, .nil, .nil, _ => ⟨[], rfl, rfl, fun _ h => (nomatch h)⟩
  | _, _, _, .cons (d := d) h1 t, .cons r rt, hk => by
    obtain ⟨ps, e1, e2, e3⟩ := keyed I t rt fun d m => hk d (List.mem_cons_of_mem _ m)
    obtain ⟨k, e⟩ := Option.isSome_iff_exists.mp (hk d List.mem_cons_self)
    obtain ⟨a, rfl, rfl, _⟩ := h1.key I r e
    refine ⟨((a, k), d) :: ps, by rw [List.map_cons, e1], by rw [List.map_cons, e2], fun p hp => ?_⟩
    rcases List.mem_cons.mp hp with rfl | hp
    · exact ⟨h1, e⟩
    · exact e3 p hp
theorem MemOk.nk (I : Inv X pins σ H s) {p : Mem} (h : MemOk X M γ H p) : Nk X.prog X.w s.heap p.1.2 p.1.1 := by
  obtain ⟨a, e1, _, n⟩ := h.1.key I (u := .ref p.1.1) rfl h.2
  cases e1
  exact n
/-- the object o is a set with the data l as its members -/
def SetIn (X : Cx) (M : Addr → Prop) (γ : List Addr) (H : Hp) (o : Obj) (l : List D) : Prop :=
  o.ExactSet ∧ ∃ (es : Array (Int × Value)) (ep : Nat) (t : SetTable) (L : List (Addr × NestedKey)) (ps : List Mem), o.data = .set es ep t ∧ es.toList = TD.ents X.w L ∧ TabOk t (L.map fun m => hsh X.w m.2) ∧ (L.map (·.2)).Nodup ∧
    (X.w.params.followText "set-order" = true ∨ t.led = true) ∧ L.length * 5 < t.mask * 3 ∧ L.length < 64 ∧ ps.map (·.2) = l ∧ (∀ p ∈ ps, MemOk X M γ H p) ∧ Taken (ps.map (·.1)) L
def rSet (X : Cx) : List V → Hp → VK → Prop := fun xs H Q => ∃ (M : Addr → Prop) (γ : List Addr) (c : Addr) (vs : List V) (l : List D), xs = [.ref c] ∧ SqL X.K H c vs ∧ XRs X M γ H vs l ∧ (∀ d ∈ l, (keyOf d).isSome = true) ∧ l.length < 64 ∧
  ∀ S o, H S = none → SetIn X M γ H o l → Q (.ref S) (upd H S (Pin S o))
theorem cr_set (hc : X.calm = true) (hu : X.A.units + 65 < cLine) : CallR X (.type "set") (rSet X) := by
  intro pins s σ H xs us Q I r h
  obtain ⟨M, γ, c, vs, l, rfl, hS, rs, hk, hl, q⟩ := h
  cases r with
  | cons r1 r2 =>
    cases r1; cases r2
    obtain ⟨its, rv, pl, hz⟩ := I.list hS
    obtain ⟨ps, e1, e2, e3⟩ := keyed I rs rv hk
    refine call_set_nested (ps.map (·.1)) (I.ok.hd hc) pl.isList ?_ (fun m hm => ?_) ?_ (by omega) fun H' tk L es ep t Z g kp => ?_
    · rw [e1, List.map_map]
      rfl
    · obtain ⟨p, hp, rfl⟩ := List.mem_map.mp hm
      exact (e3 p hp).nk I
    · rw [List.length_map, ← List.length_map (f := fun p : Mem => p.2), e2]
      exact hl
    · obtain ⟨o, go, gx, gd⟩ := Z.obj
      refine ⟨.ref s.heap.objs.size, upd H s.heap.objs.size (Pin s.heap.objs.size o), I.laid (t' := tk) kp (Nat.le_refl _) ⟨go, ⟨o, go⟩, fun h1 h2 a b => b _ a⟩, rfl, q _ o (I.hok.fresh (Nat.le_refl _)) ⟨gx, es, ep, t, L, ps, gd, Z.ents, Z.tab, Z.dist, Z.led, Z.room, Z.few, e2, e3, g⟩⟩
end
end TD

-- SE
set_option maxHeartbeats 4000000
/-! the plain law of sorted(set(xs)) -/
namespace TD
open PySem PySem.Spec PyProof.Rows _root_.L2
theorem alk_tup {l m : List D} {i j : Nat} (h1 : fls i l = true) (h2 : fls j m = true) : alk (.tup l) (.tup m) = PySem.W.alikeAll (pdDs l) (pdDs m) := by
  unfold alk
  rw [pdD_tup h1, pdD_tup h2, PySem.W.alike]
theorem alk_lst {l m : List D} {i j : Nat} (h1 : fls i l = true) (h2 : fls j m = true) : alk (.lst l) (.lst m) = PySem.W.alikeAll (pdDs l) (pdDs m) := by
  unfold alk
  rw [pdD_lst h1, pdD_lst h2, PySem.W.alike]
mutual
/-- equal and alike: the same -/
theorem eq_alk : ∀ (a b : D) (n m : Nat), fl n a = true → fl m b = true → eqv a b = true → alk a b = true → a = b
  | .tup l, b, n, m, h1, h2, h3, h4 => by
    cases b with
    | tup l2 =>
      obtain ⟨i, _, f1⟩ := fl_tup h1
      obtain ⟨j, _, f2⟩ := fl_tup h2
      rw [alk_tup f1 f2] at h4
      rw [eqs_alk l l2 i j f1 f2 (by simpa only [eqv] using h3) h4]
    | _ => simp [eqv] at h3
  | .lst l, b, n, m, h1, h2, h3, h4 => by
    cases b with
    | lst l2 =>
      obtain ⟨i, _, f1⟩ := fl_lst h1
      obtain ⟨j, _, f2⟩ := fl_lst h2
      rw [alk_lst f1 f2] at h4
      rw [eqs_alk l l2 i j f1 f2 (by simpa only [eqv] using h3) h4]
    | _ => simp [eqv] at h3
  | .bl x, b, n, m, h1, h2, h3, h4 => by
    cases b with
    | bl y => rw [beq_iff_eq.mp (show (x == y) = true by simpa only [eqv] using h3)]
    | int y => simp [alk, pdD, pd, PySem.W.alike] at h4
    | _ => simp [eqv] at h3
  | .int x, b, n, m, h1, h2, h3, h4 => by
    cases b with
    | int y => rw [beq_iff_eq.mp (show (x == y) = true by simpa only [eqv] using h3)]
    | bl y => simp [alk, pdD, pd, PySem.W.alike] at h4
    | _ => simp [eqv] at h3
  | .str x, b, n, m, h1, h2, h3, h4 => by
    cases b with
    | str y => rw [beq_iff_eq.mp (show (x == y) = true by simpa only [eqv] using h3)]
    | _ => simp [eqv] at h3
  | .non, b, n, m, h1, h2, h3, h4 => by
    cases b with
    | non => rfl
    | _ => simp [eqv] at h3
  | .dic l, b, n, m, h1, h2, h3, h4 => by cases b <;> exact nomatch (show false = true from h3)
  | .sdc l, b, n, m, h1, h2, h3, h4 => by cases b <;> exact nomatch (show false = true from h3)
  | .ref l, b, n, m, h1, h2, h3, h4 => by cases b <;> exact nomatch (show false = true from h3)
  | .kl l, b, n, m, h1, h2, h3, h4 => by cases b <;> exact nomatch (show false = true from h3)
theorem eqs_alk : ∀ (a b : List D) (n m : Nat), fls n a = true → fls m b = true → eqvs a b = true → PySem.W.alikeAll (pdDs a) (pdDs b) = true → a = b
  | [], b, n, m, h1, h2, h3, h4 => by
    cases b with
    | nil => rfl
    | cons => simp [eqvs] at h3
  | x :: xs, b, n, m, h1, h2, h3, h4 => by
    cases b with
    | nil => simp [eqvs] at h3
    | cons y ys =>
      rw [fls_cons, Bool.and_eq_true] at h1 h2
      simp only [eqvs, Bool.and_eq_true] at h3
      obtain ⟨q1, q2⟩ := PySem.W.alike_all_cons (x := pdD x) (y := pdD y) (xs := pdDs xs) (ys := pdDs ys) h4
      rw [eq_alk x y n m h1.1 h2.1 h3.1 q1, eqs_alk xs ys n m h1.2 h2.2 h3.2 q2]
end
/-- neither is less: the same -/
theorem lt_no {a b : D} {n m : Nat} (h1 : fl n a = true) (h2 : fl m b = true) (h3 : alk a b = true) (h4 : ltD a b = false) (h5 : ltD b a = false) : a = b := by
  have e := PyProof.Rows.lex_total _ _ h4 h5
  refine eq_alk a b n m h1 h2 ?_ h3
  rw [eqv_pd h1 h2]
  cases q : PyData.eqv (pdD a) (pdD b) with
  | true => rfl
  | false =>
    have p := (PySem.W.toks_eqv (pdD a) (pdD b) h3).2 q [] [.inl 0]
    rw [e, PySem.W.lex_pre] at p
    rw [PyProof.Rows.lex_irrefl] at p
    exact nomatch p
theorem le_tr (a b c : D) (h1 : PySem.W.dataLe false pdD a b = true) (h2 : PySem.W.dataLe false pdD b c = true) : PySem.W.dataLe false pdD a c = true := by
  simp only [PySem.W.dataLe_eq, cond_false, Bool.not_eq_true'] at h1 h2 ⊢
  cases q : PySem.W.dataLt (pdD c) (pdD a) with
  | false => rfl
  | true =>
    rcases PyProof.Rows.lex_negTrans _ (PySem.W.keyToks (pdD b)) _ q with z | z
    · exact absurd (z.symm.trans h2) (by decide)
    · exact absurd (z.symm.trans h1) (by decide)
theorem le_tot (a b : D) : (PySem.W.dataLe false pdD a b || PySem.W.dataLe false pdD b a) = true := by
  simp only [PySem.W.dataLe_eq, cond_false, Bool.or_eq_true, Bool.not_eq_true']
  cases q : PySem.W.dataLt (pdD b) (pdD a) with
  | false => exact .inl rfl
  | true =>
    right
    cases z : PySem.W.dataLt (pdD a) (pdD b) with
    | false => rfl
    | true => exact absurd (PyProof.Rows.lex_trans _ _ _ q z) (by rw [PyProof.Rows.lex_irrefl]; decide)
/-- the order of the items doesn't matter -/
theorem sortD_perm {l m : List D} (h : sortable l = true) (p : l.Perm m) : sortD l = sortD m := by
  obtain ⟨h1, h2, h3⟩ := sortable_of h
  have p1 : (sortD l).Perm l := List.mergeSort_perm _ _
  have p2 : (sortD m).Perm m := List.mergeSort_perm _ _
  refine List.Perm.eq_of_pairwise (le := fun a b => PySem.W.dataLe false pdD a b = true) (fun a b ha hb x y => ?_) (List.pairwise_mergeSort le_tr le_tot _) (List.pairwise_mergeSort le_tr le_tot _) (p1.trans (p.trans p2.symm))
  have ma := p1.mem_iff.mp ha
  have mb := p.mem_iff.mpr (p2.mem_iff.mp hb)
  simp only [PySem.W.dataLe_eq, cond_false, Bool.not_eq_true'] at x y
  exact lt_no (fls_mem h1 a ma) (fls_mem h1 b mb) (h3 a ma b mb) y x
theorem inD_iff {l : List D} (h : sortable l = true) {k : List D} (hk : ∀ d ∈ k, d ∈ l) {d : D} (hd : d ∈ l) : inD d k = true ↔ d ∈ k := by
  obtain ⟨h1, _, h3⟩ := sortable_of h
  unfold inD
  rw [List.any_eq_true]
  constructor
  · rintro ⟨y, hy, e⟩
    rwa [← eq_alk y d 40 40 (fls_mem h1 y (hk y hy)) (fls_mem h1 d hd) e (h3 y (hk y hy) d hd)]
  · intro hy
    refine ⟨d, hy, ?_⟩
    rw [eqv_pd (fls_mem h1 d hd) (fls_mem h1 d hd)]
    cases q : PyData.eqv (pdD d) (pdD d) with
    | true => rfl
    | false =>
      have p := (PySem.W.toks_eqv (pdD d) (pdD d) (h3 d hd d hd)).2 q [] [.inl 0]
      rw [PySem.W.lex_pre, PyProof.Rows.lex_irrefl] at p
      exact nomatch p
theorem dedup_is {l : List D} (h : sortable l = true) : ∀ k : List D, (∀ d ∈ k, d ∈ l) → (dedup k).Nodup ∧ ∀ d, d ∈ dedup k ↔ d ∈ k := by
  intro k
  induction k with
  | nil => exact fun _ => ⟨List.nodup_nil, fun _ => Iff.rfl⟩
  | cons d k ih =>
    intro hk
    obtain ⟨q1, q2⟩ := ih fun x m => hk x (List.mem_cons_of_mem _ m)
    have hd := hk d List.mem_cons_self
    have iff := inD_iff h (k := dedup k) (fun x m => hk x (List.mem_cons_of_mem _ ((q2 x).mp m))) hd
    unfold dedup
    by_cases c : inD d (dedup k) = true
    · rw [if_pos c]
      refine ⟨q1, fun x => ?_⟩
      rw [q2, List.mem_cons]
      refine ⟨.inr, fun z => ?_⟩
      rcases z with rfl | z
      · exact (q2 _).mp (iff.mp c)
      · exact z
    · rw [if_neg c]
      refine ⟨List.nodup_cons.mpr ⟨fun m => c (iff.mpr m), q1⟩, fun x => ?_⟩
      rw [List.mem_cons, List.mem_cons, q2]
end TD

-- SF
set_option maxHeartbeats 4000000
/-! sorted(a set of nested tuples) -/
namespace TD
open PySem PySem.Spec PyProof.Rows _root_.L2 PySem.W
theorem perm_map {α β : Type} {f : α → β} : ∀ {l : List α} {o : List β}, o.Perm (l.map f) → ∃ q : List α, q.Perm l ∧ o = q.map f
  | [], o, h => ⟨[], List.Perm.nil, List.Perm.eq_nil h⟩
  | x :: l, o, h => by
    obtain ⟨a, b, rfl⟩ := List.append_of_mem (h.mem_iff.mpr (List.mem_cons_self (a := f x)))
    have h2 : (f x :: (a ++ b)).Perm (f x :: l.map f) := List.perm_middle.symm.trans h
    obtain ⟨q, p, e⟩ := perm_map (List.Perm.cons_inv h2)
    obtain ⟨q1, q2, rfl, rfl, rfl⟩ := List.map_eq_append_iff.mp e.symm
    exact ⟨q1 ++ x :: q2, List.perm_middle.trans (p.cons x), by rw [List.map_append, List.map_cons]⟩
theorem sub_map {α β : Type} {f : α → β} {ps : List α} : ∀ {L : List β}, (∀ m ∈ L, m ∈ ps.map f) → ∃ q : List α, L = q.map f ∧ ∀ p ∈ q, p ∈ ps
  | [], _ => ⟨[], rfl, fun _ h => (nomatch h)⟩
  | m :: L, h => by
    obtain ⟨p, hp, rfl⟩ := List.mem_map.mp (h m List.mem_cons_self)
    obtain ⟨q, rfl, e⟩ := sub_map fun m hm => h m (List.mem_cons_of_mem _ hm)
    refine ⟨p :: q, rfl, fun r hr => ?_⟩
    rcases List.mem_cons.mp hr with rfl | hr
    · exact hp
    · exact e r hr
theorem sortable_sub {l m : List D} (h : sortable l = true) (hs : ∀ d ∈ m, d ∈ l) : sortable m = true := by
  unfold sortable at h ⊢
  rw [List.all_eq_true] at h ⊢
  intro a ha
  have q := h a (hs a ha)
  rw [Bool.and_eq_true, Bool.and_eq_true, List.all_eq_true] at q ⊢
  exact ⟨q.1, q.2.1, fun b hb => q.2.2 b (hs b hb)⟩
section
variable {X : Cx} {M : Addr → Prop} {γ : List Addr} {H : Hp} {σ : L2.St} {pins : List (Addr × Obj)} {s : Shared}
theorem Inv.other {s s' : Shared} (I : L2.Inv X pins σ H s) (e1 : s'.heap = s.heap) (e2 : s'.gens = s.gens) (e3 : s'.os = s.os) : L2.Inv X pins σ H s' := by
  obtain ⟨h, g, d, t, os⟩ := s
  obtain ⟨h', g', d', t', os'⟩ := s'
  cases e1; cases e2; cases e3
  exact ⟨I.ok, I.os, I.bare, I.base, I.loc, I.cell, I.free, I.freeC, I.pin, I.hok, I.len⟩
/-- the members of the set, as the plain law has them -/
theorem members {L : List (Addr × NestedKey)} {ps qs : List Mem} {l : List D} (hs : sortable l = true) (hl : ps.map (·.2) = l) (hp : ∀ p ∈ ps, MemOk X M γ H p) (nd : (L.map (·.2)).Nodup) (tk : Taken (ps.map (·.1)) L) (e : L = qs.map (·.1)) (hq : ∀ p ∈ qs, p ∈ ps) : (qs.map (·.2)).Perm (dedup l) := by
  obtain ⟨d1, d2⟩ := dedup_is hs l fun _ m => m
  obtain ⟨h1, _, h3⟩ := sortable_of hs
  have hm : ∀ p ∈ ps, p.2 ∈ l := fun p m => hl ▸ List.mem_map.mpr ⟨p, m, rfl⟩
  have nq : (qs.map (·.2)).Nodup := by
    refine nodup_of_map (f := keyOf) ?_
    have e2 : (qs.map (·.2)).map keyOf = (L.map (·.2)).map some := by
      rw [e, List.map_map, List.map_map, List.map_map]
      exact List.map_congr_left fun p m => (hp p (hq p m)).2
    rw [e2]
    exact List.pairwise_map.mpr (nd.imp fun z w => z (Option.some.inj w))
  refine (List.perm_ext_iff_of_nodup nq d1).mpr fun d => ?_
  rw [d2]
  constructor
  · intro m
    obtain ⟨p, mp, rfl⟩ := List.mem_map.mp m
    exact hm p (hq p mp)
  · intro m
    rw [← hl] at m
    obtain ⟨p, mp, rfl⟩ := List.mem_map.mp m
    obtain ⟨z, mz, ez⟩ := List.mem_map.mp (tk.all p.1 (List.mem_map.mpr ⟨p, mp, rfl⟩))
    rw [e] at mz
    obtain ⟨r, mr, rfl⟩ := List.mem_map.mp mz
    have k1 := (hp p mp).2
    have k2 := (hp r (hq r mr)).2
    have ee := eqv_nk (keyOf_tup k2).1 (keyOf_tup k1).1
    rw [ez, decide_eq_true rfl] at ee
    have a1 := hm p mp
    have a2 := hm r (hq r mr)
    rw [← eq_alk r.2 p.2 40 40 (fls_mem h1 _ a2) (fls_mem h1 _ a1) ee (h3 _ a2 _ a1)]
    exact List.mem_map.mpr ⟨r, mr, rfl⟩
theorem mems_rps : ∀ {qs : List Mem}, (∀ p ∈ qs, MemOk X M γ H p) → XRs X M γ H (qs.map fun q => V.ref q.1.1) (qs.map (·.2))
  | [], _ => .nil
  | p :: qs, h => .cons (h p List.mem_cons_self).1 (mems_rps fun q m => h q (List.mem_cons_of_mem _ m))
theorem mems_vals : ∀ (qs : List Mem), Vals (qs.map fun q => V.ref q.1.1) (qs.map fun q => Value.ref q.1.1)
  | [] => .nil
  | p :: qs => .cons rfl (mems_vals qs)
def rSortS (X : Cx) : List V → Hp → VK → Prop := fun xs H Q => ∃ (M : Addr → Prop) (γ : List Addr) (S : Addr) (o : Obj) (l : List D), xs = [.ref S] ∧ H S = some (Pin S o) ∧ SetIn X M γ H o l ∧ sortable l = true ∧
  ∀ p ws, H p = none → XRs X M γ H ws (sortD (dedup l)) → Q (.ref p) (upd H p (.lst ws))
theorem cr_sortS (hc : X.calm = true) (hu : X.A.units + 65 < cLine) : CallR X (.builtin "sorted") (rSortS X) := by
  intro pins s σ H xs us Q I r h
  obtain ⟨M, γ, S, o, l, rfl, hS, ⟨gx, es, ep, t, L, ps, gd, he, T, nd, led, room, few, hl, hp, tk⟩, hs, q⟩ := h
  cases r with
  | cons r1 r2 =>
    cases r1; cases r2
    have go : s.heap.get? S = some o := (I.hok S _ hS).1
    have hes := ents_len he
    have hts : t.place.size = L.length := by
      have z := T.sz
      rwa [List.length_map] at z
    refine Calls.call_function_entry kind_sorted plain_sorted entry_sorted (args_sorted1 _) ?_
    unfold Builtin.«sorted»
    refine wpAny_bind (m := checkCount "sorted" 1 1 _) (wpAny_pure ?_)
    refine wpAny_bind (collect_set (A := X.A.in1) (I.ok.hd hc) ⟨o, go, gx.1, gd⟩ (fits_of T.dm (hts.trans hes.symm) (by rw [hes]; omega)) (by unfold scanBound; omega) T.ris led fun s1 out k1 hz g1 o1 pm => ?_)
    have hsub : ∀ m ∈ L, m ∈ ps.map (·.1) := tk.sub
    obtain ⟨q0, eq0, hq0⟩ := sub_map hsub
    have pm2 : out.Perm (q0.map fun q => Value.ref q.1.1) := by
      rw [he, ents, eq0, List.map_map, List.map_map] at pm
      exact pm
    obtain ⟨qs, pq, rfl⟩ := perm_map pm2
    have hqs : ∀ p ∈ qs, p ∈ ps := fun p m => hq0 p (pq.mem_iff.mp m)
    have mem0 := members hs hl hp nd tk eq0 hq0
    have dq : (qs.map (·.2)).Perm (dedup l) := (pq.map _).trans mem0
    have hin : ∀ d ∈ qs.map (·.2), d ∈ l := fun d m => ((dedup_is hs l fun _ m => m).2 d).mp (dq.mem_iff.mp m)
    have hs' := sortable_sub hs hin
    have eS := sortD_perm hs' dq
    obtain ⟨h1, h2, h3⟩ := sortable_of hs'
    have r := mems_rps fun p m => hp p (hqs p m)
    have rv := mems_vals qs
    obtain ⟨z1, z2, z3⟩ := rps_zip r
    obtain ⟨e1, e2⟩ := each_of I r rv h1
    have hlen : qs.length < 64 := by
      have z := congrArg List.length eq0
      rw [List.length_map] at z
      rw [pq.length_eq, ← z]
      exact few
    have hz2 : (qs.map fun q => Value.ref q.1.1).length ≤ sizeLine := by rw [List.length_map, sizeLine_eq]; omega
    have perm := List.mergeSort_perm ((qs.map fun q => V.ref q.1.1).zip (qs.map (·.2))) (dataLe false fun p : V × D => pdD p.2)
    have hsnd : (((qs.map fun q => V.ref q.1.1).zip (qs.map (·.2))).mergeSort (dataLe false fun p : V × D => pdD p.2)).map (·.2) = sortD (dedup l) := by
      rw [← eS]
      unfold sortD
      rw [List.map_mergeSort (r := dataLe false fun p : V × D => pdD p.2) (s := dataLe false pdD) (f := fun p : V × D => p.2) (fun a _ b _ => rfl), z2]
    have key : ∀ (h' : Heap) (out : List Value), (∀ b u, s.heap.get? b = some u → h'.get? b = some u) → (∃ e, h'.get? s1.heap.objs.size = some (seqObj "list" out.toArray e)) → Vals ((((qs.map fun q => V.ref q.1.1).zip (qs.map (·.2))).mergeSort (dataLe false fun p : V × D => pdD p.2)).map (·.1)) out →
        EP X pins σ Q (.ref s1.heap.objs.size) { s1 with heap := h' } := fun h' out kq ⟨ep2, he2⟩ vv =>
      ⟨.ref s1.heap.objs.size, upd H s1.heap.objs.size (.lst ((((qs.map fun q => V.ref q.1.1).zip (qs.map (·.2))).mergeSort (dataLe false fun p : V × D => pdD p.2)).map (·.1))),
        Inv.other (I.laid (t' := s1.toks) (a := s1.heap.objs.size) (h' := h') kq hz ⟨by
          rw [List.length_map, perm.length_eq, List.length_zip, List.length_map, List.length_map, Nat.min_self, sizeLine_eq]
          omega, _, ep2, vv, he2⟩) rfl g1 o1, rfl, q _ _ (I.hok.fresh hz) (by
        rw [← hsnd]
        exact rps_of fun p m => z1 p (perm.mem_iff.mp m))⟩
    refine wpAny_bind (wpAny_newList ?_ hz2)
    generalize hvs : (qs.map fun q => Value.ref q.1.1) = vs at *
    have oL : (s1.heap.push (seqObj "list" vs.toArray 0)).get? s1.heap.objs.size = some (seqObj "list" vs.toArray 0) := Heap.get?_push_size _ rfl
    have kp : ∀ b u, s.heap.get? b = some u → (s1.heap.push (seqObj "list" vs.toArray 0)).get? b = some u := fun b u e => Heap.get?_push_of_some _ (k1 b u e)
    have hal : AllAlike (((qs.map fun q => V.ref q.1.1).zip (qs.map (·.2))).map fun p => pdD p.2) := fun d hd d' hd' => by
      obtain ⟨p, mp, rfl⟩ := List.mem_map.mp hd
      obtain ⟨p', mp', rfl⟩ := List.mem_map.mp hd'
      exact h3 _ (List.of_mem_zip mp).2 _ (List.of_mem_zip mp').2
    have hn : ∀ d, d ∈ (((qs.map fun q => V.ref q.1.1).zip (qs.map (·.2))).map fun p => pdD p.2) → d ≠ .none := fun d hd => by
      obtain ⟨p, mp, rfl⟩ := List.mem_map.mp hd
      have m2 := (List.of_mem_zip mp).2
      exact not_none (h2 _ m2) (fls_mem h1 _ m2)
    have hdep : ∀ d, d ∈ (((qs.map fun q => V.ref q.1.1).zip (qs.map (·.2))).map fun p => pdD p.2) → X.A.in1.in1.units + d.depth < cLine := fun d hd => by
      obtain ⟨p, mp, rfl⟩ := List.mem_map.mp hd
      have := (Rp.dp (fls_mem h1 _ (List.of_mem_zip mp).2) (z1 p mp)).2.2
      simp only [Around.in1_units]
      omega
    have ne1 : ∀ b u, s.heap.get? b = some u → b ≠ s1.heap.objs.size ∧ b < (s1.heap.push (seqObj "list" vs.toArray 0)).objs.size := fun b u e => by
      have z := Heap.lt_size (k1 b u e)
      rw [size_push']
      exact ⟨Nat.ne_of_lt z, Nat.lt_succ_of_lt z⟩
    have e2' : EachIs (fun u p => ∃ as, Reads (sortingHeap (s1.heap.push (seqObj "list" vs.toArray 0)) s1.heap.objs.size vs) u (pdD p.2) as) vs ((qs.map fun q => V.ref q.1.1).zip (qs.map (·.2))) :=
      e2.mono fun _ _ ⟨as, r⟩ => ⟨as, PyProof.Rows.Reads.keeps (fun b u e => sortingHeap_old (ne1 b u e).1 (kp b u e)) r⟩
    refine wpAny_bind (wpAny_holding (wpAny_call_entry_kw slot_list_sort ⟨_, oL, rfl⟩ entry_list_sort ?body (args_list_sort _)))
    case body =>
      refine list_sort_vals (s := { s1 with heap := s1.heap.push (seqObj "list" vs.toArray 0) }) oL (sortsAt_any (s := { s1 with heap := sortingHeap (s1.heap.push (seqObj "list" vs.toArray 0)) s1.heap.objs.size vs }) (each_map (fun p : V × D => pdD p.2) e2') hal hn hdep) hz2 ⟨_, rfl, wpAny_pure ⟨_, rfl, ?_⟩⟩
      have fin := sortVals_data (enc := fun p : V × D => pdD p.2) false e1 e2' hal
      exact key _ _ (fun b u e => (sortedHeap_old (ne1 b u e).1 (ne1 b u e).2).trans (kp b u e)) (sortedHeap_at (vs := vs) oL) (vals_each fin)
end
end TD

-- SG
set_option maxHeartbeats 1000000
/-! sorted(set(xs)): the rule -/
namespace TD
open PySem PySem.Spec PyProof.Rows _root_.L2
section
variable {X : Cx} {glob : Str → Option D} {F : Fs} {Wx : WX} {pos pos2 : Pos} {M : Addr → Prop} {γ : List Addr} {H : Hp}
theorem SetIn.same {H' : Hp} {o : Obj} {l : List D} (q : Same H H') (h : SetIn X M γ H o l) : SetIn X M γ H' o l := by
  obtain ⟨g, es, ep, t, L, ps, h1, h2, h3, h4, h5, h6, h7, h8, h9, h10⟩ := h
  exact ⟨g, es, ep, t, L, ps, h1, h2, h3, h4, h5, h6, h7, h8, fun p m => ⟨(h9 p m).1.same q, (h9 p m).2⟩, h10⟩
theorem s_sset {a : Expr} {x : Ex} {p p2 : Pos} {n n2 : Str} (hc : X.calm = true) (hu : X.A.units + 65 < cLine) (hg : Gl X n) (hm : X.mg n = none) (hv : bootBuiltins n = some (.builtin "sorted")) (hn : n ≠ "__name__") (hd : (n == ("__debug__" : Str)) = false)
    (hg2 : Gl X n2) (hm2 : X.mg n2 = none) (hv2 : bootBuiltins n2 = some (.type "set")) (hn2 : n2 ≠ "__name__") (hd2 : (n2 == ("__debug__" : Str)) = false) (ha : DE X glob F Wx a x)
    (hs : starEach [a] X.env = (false, eval a X.env) :: starEach [] X.env) (keys : ∀ l d, evF .sset (.lst l) = some d → (∀ e ∈ l, (keyOf e).isSome = true) ∧ sortable l = true ∧ l.length < 64 ∧ d = .lst (sortD (dedup l))) (notup : ∀ l, evF .sset (.tup l) = none) :
    DE X glob F Wx (.Call (.Name n p) [.Call (.Name n2 p2) [a] [] pos2] [] pos) (.f1 .sset x) :=
  (pe_callB (cr_sortS hc hu) hg hm hv (pa_cons (pe_callTy (cr_set hc hu) hg2 hm2 hv2 (pa_cons ha pa_nil hs) hn2 hd2 hs) pa_nil rfl) hn hd rfl).imp fun σ H Q ⟨U, γ, s, ok, h⟩ => by
    simp only [evE] at h
    refine ⟨U, γ, s, ok, h.bind.imp fun d0 s1 γ1 H1 ok1 x1 h1 v rv => ?_⟩
    obtain ⟨d, e, h2⟩ := h1.of
    cases d0 with
    | lst l =>
      obtain ⟨k1, k2, k3, rfl⟩ := keys l d e
      cases rv with
      | lst hh nn t =>
        refine ⟨_, γ1, _, _, l, rfl, sqL_of hh, t, k1, k3, fun S o hS si => ?_⟩
        have sm := same_upd (o := Pin S o) hS
        refine ⟨_, γ1, S, o, l, rfl, upd_same, si.same sm, k2, fun p ws hp r => ?_⟩
        have sm2 := same_upd (o := .lst ws) hp
        exact RR.grow ok1 h2 (Same.trans sm sm2) _ (new_lst hp (fun mm => ok1.dom _ mm (sm.free hp)) r)
    | tup l => rw [notup] at e; cases e
    | _ => cases e
theorem sset_keys (l : List D) (d : D) (e : evF .sset (.lst l) = some d) : (∀ e ∈ l, (keyOf e).isSome = true) ∧ sortable l = true ∧ l.length < 64 ∧ d = .lst (sortD (dedup l)) := by
  have e : (if (sortable l && (l.all fun d => (keyOf d).isSome) && decide (l.length < 64)) = true then some (D.lst (sortD (dedup l))) else none) = some d := e
  split at e
  · rename_i g
    simp only [Bool.and_eq_true, decide_eq_true_eq, List.all_eq_true] at g
    cases e
    exact ⟨g.1.2, g.1.1, g.2, rfl⟩
  · cases e
end
end TD

-- SA2
set_option maxHeartbeats 4000000
/-! sorted(t) of a tuple -/
namespace TD
open PySem PySem.W PySem.Calls PyProof.Rows PySem.SeqAt
section
variable {prog : Program} {w : World} {A : Around} {E : Value → Shared → Prop} {s : Shared}
theorem collect_tup {l : Addr} {vs : List Value} {Q : List Value → Shared → Prop} (hl : s.heap.IsTuple l vs.toArray)
    (h : Q vs { s with heap := (s.heap.push (seqObj "list" #[] 0)).update s.heap.objs.size (Obj.mapSeq (· ++ vs.toArray)) }) (hsz : vs.length ≤ sizeLine) :
    wpAny (model prog w) A (collect (.ref l)) Q E s := by
  obtain ⟨o, ho, hc, n, hd⟩ := id hl
  unfold collect
  refine wpAny_bind (wpAny_runValue (codeAny_builtin entry_proto_collect' ?_))
  show wpAny _ _ (do again (.builtin "list.__iadd__" ⟨[← newList [], .ref l], []⟩)) _ _ s
  refine wpAny_bind (wpAny_newList (wpAny_pure ⟨Code.quiet_builtin _ (by decide +kernel), codeAny_builtin entry_list_iadd' ?_⟩))
  show wpAny _ _ (Builtin.List.listExtendWith (.ref s.heap.objs.size) (.ref l) (.ref s.heap.objs.size)) _ _ { s with heap := s.heap.push (seqObj "list" #[] 0) }
  unfold Builtin.List.listExtendWith
  have ho' : (s.heap.push (seqObj "list" #[] 0)).get? l = some o := Heap.get?_push_of_some _ ho
  refine wpAny_bind (wpAny_typeOf (T := "tuple") ⟨o, ho', hc⟩ ?_)
  have ht : (Value.type "tuple" == Value.type "tuple") = true := by rfl
  rw [if_pos (by rw [ht]; simp)]
  refine wpAny_bind (listItems_at ho' hd ?_)
  refine wpAny_bind (listItems_at (xs := #[]) (n := 0) (Heap.get?_push_size _ rfl) rfl ?_)
  rw [if_neg (by simp)]
  refine wpAny_bind (listUpdate_at (xs := #[]) (n := 0) (Heap.get?_push_size _ rfl) rfl ?_ (Nat.zero_le _) (by show (#[] ++ vs.toArray).size ≤ sizeLine + 1; simp only [Array.size_append, List.size_toArray, List.length_nil]; omega))
  refine wpAny_pure ?_
  show wpAny (model prog w) A (do
      let o ← load s.heap.objs.size
      match o.data with
      | .seq xs _ => pure xs.toList
      | _ => unsupported "internal:collect") Q E { s with heap := (s.heap.push (seqObj "list" #[] 0)).update s.heap.objs.size (Obj.mapSeq (· ++ vs.toArray)) }
  refine wpAny_bind (wpAny_load (get?_update_seq (Heap.get?_push_size _ rfl) _) ?_)
  show wpAny _ _ (pure ((#[] : Array Value) ++ vs.toArray).toList) Q E _
  rw [show ((#[] : Array Value) ++ vs.toArray).toList = vs by simp]
  exact wpAny_pure h
theorem sorted_valsT {κ : PyProof.Rows.KeyKind} {l : Addr} {vs : List Value} {Q : Value → Shared → Prop} (hl : s.heap.IsTuple l vs.toArray) (S : SortsAt prog w A.in1.in1 { s with heap := sortingHeap (copyHeap s.heap vs) (s.heap.objs.size + 1) vs } κ vs) (hL : vs.length ≤ sizeLine)
    (h : Q (.ref (s.heap.objs.size + 1)) { s with heap := sortedAll s.heap vs (sortVals κ false vs vs).toArray }) : wpAny (model prog w) A (call (.builtin "sorted") [.ref l]) Q E s := by
  refine call_function_entry_kw kind_sorted plain_sorted entry_sorted (args_sorted1 _) ?_
  unfold Builtin.«sorted»
  refine wpAny_bind (m := checkCount "sorted" 1 1 _) (wpAny_pure ?_)
  refine wpAny_bind (collect_tup hl ?_ hL)
  refine wpAny_bind (wpAny_newList ?_ hL)
  have hsz : ((s.heap.push (seqObj "list" #[] 0)).update s.heap.objs.size (Obj.mapSeq (· ++ vs.toArray))).objs.size = s.heap.objs.size + 1 := by
    rw [Heap.size_update, size_push']
  show wpAny _ _ _ _ _ { s with heap := copyHeap s.heap vs }
  rw [hsz]
  refine wpAny_bind (wpAny_holding (wpAny_call_entry_kw slot_list_sort ⟨_, copyHeap_at s.heap vs, rfl⟩ entry_list_sort ?body (args_list_sort _)))
  case body =>
    show wpAny (model prog w) A.in1.in1 (Builtin.«list.sort» ⟨[.ref (s.heap.objs.size + 1)], []⟩) _ _ _
    refine wpAny_mono (list_sort_vals (s := { s with heap := copyHeap s.heap vs }) (copyHeap_at s.heap vs) S hL (P := fun f s' => f = .done (.ret .none) ∧ Q (.ref (s.heap.objs.size + 1)) s') ⟨rfl, h⟩) (fun f s' hf => ?_) fun _ _ e => e
    obtain ⟨rfl, hq⟩ := hf
    exact ⟨_, rfl, wpAny_pure ⟨_, rfl, hq⟩⟩
end
end TD
namespace TD
open PySem PySem.Spec PyProof.Rows L2
open PySem.W (EachIs copyHeap)
section
variable {X : Cx} {M : Addr → Prop} {γ : List Addr} {H : Hp} {σ : L2.St} {pins : List (Addr × Obj)} {s : Shared}
/-- sorted(t) of a tuple of alike data -/
theorem sorted_okT {c : Addr} {vs : List V} {l : List D} {Q : VK} (hu : X.A.units + 65 < cLine) (I : Inv X pins σ H s) (hS : SqT X.K H c vs) (r : XRs X M γ H vs l) (hs : sortable l = true) (q : ∀ p ws, H p = none → XRs X M γ H ws (sortD l) → Q (.ref p) (upd H p (.lst ws))) :
    wpAny (model X.prog X.w) X.A (call (.builtin "sorted") [.ref c]) (EP X pins σ Q) X.xe s := by
  obtain ⟨h1, h2, h3⟩ := sortable_of hs
  obtain ⟨its, rv, pl, hz⟩ := I.tuple hS
  obtain ⟨z1, z2, z3⟩ := rps_zip r
  obtain ⟨e1, e2⟩ := each_of I r rv h1
  have hal : PySem.W.AllAlike ((vs.zip l).map fun p => pdD p.2) := fun d hd d' hd' => by
    obtain ⟨p, hp, rfl⟩ := List.mem_map.mp hd
    obtain ⟨p', hp', rfl⟩ := List.mem_map.mp hd'
    exact h3 _ (List.of_mem_zip hp).2 _ (List.of_mem_zip hp').2
  have hn : ∀ d, d ∈ ((vs.zip l).map fun p => pdD p.2) → d ≠ .none := fun d hd => by
    obtain ⟨p, hp, rfl⟩ := List.mem_map.mp hd
    have hm := (List.of_mem_zip hp).2
    exact not_none (h2 _ hm) (fls_mem h1 _ hm)
  have hdep : ∀ d, d ∈ ((vs.zip l).map fun p => pdD p.2) → X.A.in1.in1.units + d.depth < cLine := fun d hd => by
    obtain ⟨p, hp, rfl⟩ := List.mem_map.mp hd
    have := (Rp.dp (fls_mem h1 _ (List.of_mem_zip hp).2) (z1 p hp)).2.2
    show X.A.units + 1 + 1 + _ < _
    omega
  have e2' : EachIs (fun u p => ∃ as, Reads (PySem.W.sortingHeap (copyHeap s.heap its) (s.heap.objs.size + 1) its) u (pdD p.2) as) its (vs.zip l) := e2.mono fun _ _ ⟨as, r⟩ => ⟨as, PyProof.Rows.Reads.keeps (fun _ _ => PySem.W.sorting_copy_old) r⟩
  have hlen := rv.length
  refine sorted_valsT (show s.heap.IsTuple c its.toArray from pl) (sortsAt_any (s := { s with heap := PySem.W.sortingHeap (copyHeap s.heap its) (s.heap.objs.size + 1) its }) (PySem.W.each_map (R := fun u d => ∃ as, Reads (PySem.W.sortingHeap (copyHeap s.heap its) (s.heap.objs.size + 1) its) u d as) (fun p : V × D => pdD p.2) e2') hal hn hdep) (by omega) ?_
  have out := PySem.W.sortVals_data (enc := fun p : V × D => pdD p.2) false e1 e2' hal
  obtain ⟨ep, he'⟩ := PyProof.Rows.sortedAll_at s.heap its (PySem.W.sortVals (PySem.W.dataKind (PySem.W.sortingHeap (copyHeap s.heap its) (s.heap.objs.size + 1) its) ((vs.zip l).map fun p => pdD p.2)) false its its).toArray
  have perm := List.mergeSort_perm (vs.zip l) (PySem.W.dataLe false fun p : V × D => pdD p.2)
  have hsnd : ((vs.zip l).mergeSort (PySem.W.dataLe false fun p : V × D => pdD p.2)).map (·.2) = sortD l := by
    unfold sortD
    have e := List.map_mergeSort (r := PySem.W.dataLe false fun p : V × D => pdD p.2) (s := PySem.W.dataLe false pdD) (f := fun p : V × D => p.2) (l := vs.zip l) (fun a _ b _ => rfl)
    rw [e, z2]
  have hf := I.hok.fresh (Nat.le_succ s.heap.objs.size)
  refine ⟨.ref (s.heap.objs.size + 1), upd H (s.heap.objs.size + 1) (.lst (((vs.zip l).mergeSort (PySem.W.dataLe false fun p : V × D => pdD p.2)).map (·.1))), I.laid (t' := s.toks) (fun _ _ => PyProof.Rows.sortedAll_old) (Nat.le_succ _) ⟨?_, _, ep, vals_each out, he'⟩, rfl, q _ _ hf ?_⟩
  · rw [List.length_map, perm.length_eq, List.length_zip, ← r.length]
    omega
  · rw [← hsnd]
    exact rps_of fun p m => z1 p (perm.mem_iff.mp m)
theorem cd_sorted (hu : X.A.units + 65 < cLine) : CallD X (.builtin "sorted") (evF .sorted) := by
  intro pins s σ H M γ x v a d Q I rx ra dom h q
  cases a with
  | lst l =>
    have h : (if sortable l = true then some (D.lst (sortD l)) else none) = some d := h
    split at h
    · cases h
      cases ra with
      | lst h1 n t =>
        cases rx
        exact sorted_ok hu I (sqL_of h1) t (by assumption) fun p ws hp r => q _ _ (same_upd hp) (new_lst hp (fun m => dom _ m hp) r)
    · cases h
  | tup l =>
    have h : (if sortable l = true then some (D.lst (sortD l)) else none) = some d := h
    split at h
    · cases h
      cases ra with
      | tup h1 t =>
        cases rx
        exact sorted_okT hu I h1 t (by assumption) fun p ws hp r => q _ _ (same_upd hp) (new_lst hp (fun m => dom _ m hp) r)
    · cases h
  | _ => exact (nomatch (show none = some d from h))
end
end TD

-- TW
set_option maxHeartbeats 4000000
/-! the checks are sound -/
namespace TD
open PySem PySem.Spec PyProof.Rows L2
def btNs : List Str := ["len", "all", "any", "tuple", "list", "int", "abs", "sum", "max", "sorted", "set", "min", "isinstance", "range", "zip", "enumerate", "str", "bool"]
structure Kit (X : Cx) (T : List Df) (glob : Str → Option D) (F : Fs) (Wx : WX) : Prop where
  calm : X.calm = true
  nd : X.N.Nodup
  un : X.A.units + 65 < cLine
  tk : Takes X Wx
  bt : ∀ n ∈ btNs, X.mg n = none
  gl : ∀ n d, glob n = some d → ∃ u v, X.mg n = some u ∧ RelV v u ∧ ∀ M γ H, XR X M γ H v d
  call : ∀ i d, atT T i = some d → ∃ k f fd ps, FnOk X.prog X.w X.K X.mg X.base (L2.CX X.prog X.w) k f fd ps (spF X.prog X.w X.K X.mg F d.fn.np d.fr i) ∧ Room k X.A ∧ X.mg d.nm = some (.ref f) ∧ PySem.W.keepIn X.K (.ref f) = true ∧ Binds X.K fd ps []
section
variable {X : Cx} {T : List Df} {glob : Str → Option D} {F : Fs} {Wx : WX} {fr : Bool} {pos : Pos} {U : Addr → Prop} {γ : List Addr} {H : Hp} {σ : L2.St} {s : S} {sc : Scope} {N : List Str}
theorem Kit.blk (k : Kit X T glob F Wx) (s : Shared) (H : Hp) (scope : Scope) (cenv : Env) (fp : List Addr) : Kit (X.blk s H scope cenv fp) T glob F W0 :=
  ⟨k.calm, k.nd, k.un, fun u s' ⟨a, B, sI, pins, σ, H, cls, d, e, I, nb, up, sky, na, os, ag, w⟩ => w.elim, k.bt, k.gl, k.call⟩
theorem pt_no {e : Expr} {t : TT} (h : ∀ σ H Q, ¬ t σ H Q) : PT X e t := ⟨fun pins s σ H Q I q => absurd q (h σ H Q)⟩
theorem vis_of {x : Str} (h : visB sc x = true) : Vis sc x := by
  unfold visB at h
  split at h <;> first | (rename_i q; exact .inl q) | (rename_i q; exact .inr (.inl q)) | (rename_i q; exact .inr (.inr q)) | cases h
theorem nm_ne {x y : Str} (h : x ≠ y) : (x == y) = false := by
  cases q : (x == y) with
  | false => rfl
  | true => exact absurd (eq_of_beq q) h
theorem okNm_of {x : Str} (h : okNm x = true) : (x == ("__debug__" : Str)) = false ∧ (x == ("__classdict__" : Str)) = false ∧ x ≠ ("__name__" : Str) := by
  unfold okNm at h
  simp only [Bool.and_eq_true, decide_eq_true_eq] at h
  exact ⟨nm_ne h.1.1, nm_ne h.1.2, h.2⟩
/-- a variable's name -/
theorem var_of {i : Nat} {e : Expr} (hN : X.N = N) (hs : X.env.scope = sc) (h : varB N sc i e = true) : ∃ n p, e = .Name n p ∧ X.N[i]? = some n ∧ Vis X.env.scope n ∧ okNm n = true ∧ PE X (.Name n p) (tVar i) := by
  unfold varB at h
  split at h
  · rename_i n p hv
    simp only [Bool.and_eq_true, decide_eq_true_eq] at h
    obtain ⟨⟨h1, h2⟩, h3⟩ := h
    have hv' := vis_of h2
    rw [← hs] at hv'
    rw [← hN] at h1
    obtain ⟨o1, o2, o3⟩ := okNm_of h3
    exact ⟨n, p, vName_eq hv, h1, hv', h3, pe_var h1 hv' o1 o2⟩
  · cases h
theorem bt_of {n f : Str} (hs : X.env.scope = sc) (h : btB sc n f = true) : n = f ∧ Gl X n := by
  unfold btB glB at h
  simp only [Bool.and_eq_true, decide_eq_true_eq] at h
  exact ⟨h.1, by unfold Gl Env.kindOf; rw [hs]; exact h.2⟩
theorem bop_of {o : O2} {o' : Operator} (h : bopOf o = some o') : OpD X (binaryOp o') (evO o) := by
  cases o <;> first | (cases h; done) | (cases h; exact od_add) | (cases h; exact od_sub) | (cases h; exact od_mul) | (cases h; exact od_fdiv) | (cases h; exact od_mod) | (cases h; exact od_pow)
theorem cmp_of {o : O2} {o' : CmpOp} (hu : X.A.units + 65 < cLine) (h : cmpOf o = some o') : OpD X (compareOp o') (evO o) := by
  have hu' : X.A.units + 64 < cLine := by omega
  cases o <;> first | (cases h; done) | (cases h; exact od_eq hu') | (cases h; exact od_ne hu') | (cases h; exact od_lt hu') | (cases h; exact od_le) | (cases h; exact od_gt) | (cases h; exact od_ge) | (cases h; exact od_in hu) | (cases h; exact od_notin hu)
/-- test of an expression that is no compound -/
theorem isTrue_ts {e : Expr} {env : Env} (h : isTS e = true) (whole : Sem Value) : PySem.isTrue e env whole = (do let v ← whole; standAt e.pos; holding [v] (truthy v)) := by
  cases e <;> first | rfl | (cases h; done) | (rename_i op _ _; cases op <;> first | rfl | cases h)
theorem t_ite {c a b : Expr} {z x y : Ex} (hc : DT X glob F Wx c z) (ha : DT X glob F Wx a x) (hb : DT X glob F Wx b y) : DT X glob F Wx (.IfExp c a b pos) (.ite z x y) := by
  refine ⟨fun pins s σ H Q I h => ?_⟩
  obtain ⟨U, γ, st, ok, h⟩ := h
  simp only [evC, evE] at h
  rw [bind_assoc] at h
  have h2 : rdT X glob F Wx z σ H fun k H1 => if k = true then rdT X glob F Wx x σ H1 Q else rdT X glob F Wx y σ H1 Q := ⟨U, γ, st, ok, (b_bind h).imp fun k s1 γ1 H1 ok1 x1 h1 => by
    cases k with
    | true => rw [if_pos rfl] at h1; show rdT X glob F Wx x σ H1 Q; exact ⟨U, γ1, s1, ok1, by simpa only [evC] using h1⟩
    | false => rw [if_neg Bool.false_ne_true] at h1; show rdT X glob F Wx y σ H1 Q; exact ⟨U, γ1, s1, ok1, by simpa only [evC] using h1⟩⟩
  show wpAny _ _ (PySem.isTrue _ _ _) _ _ _
  unfold PySem.isTrue
  refine wpAny_bind (thn (hc.run pins s σ H _ I h2) fun k s1 ⟨H1, I1, q1⟩ => ?_)
  cases k with
  | true => exact ha.run pins s1 σ H1 Q I1 q1
  | false => exact hb.run pins s1 σ H1 Q I1 q1
/-- elements -/
inductive Both (X : Cx) (glob : Str → Option D) (F : Fs) (Wx : WX) : List Ex → List Expr → Prop
  | nil : Both X glob F Wx [] []
  | cons {x : Ex} {xs : List Ex} {e : Expr} {es : List Expr} : DE X glob F Wx e x → DT X glob F Wx e x → plainX e = true → Both X glob F Wx xs es → Both X glob F Wx (x :: xs) (e :: es)
theorem Both.args : ∀ {xs : List Ex} {es : List Expr}, Both X glob F Wx xs es → DA X glob F Wx es xs
  | _, _, .nil => a_nil
  | _, _, .cons h _ p t => a_cons h t.args (star_plain p)
theorem Both.plain : ∀ {xs : List Ex} {es : List Expr}, Both X glob F Wx xs es → plainXs es = true ∧ es.length = xs.length
  | _, _, .nil => ⟨rfl, rfl⟩
  | _, _, .cons _ _ p t => ⟨by show (_ && _) = true; rw [p, t.plain.1]; rfl, by simp [t.plain.2]⟩
theorem Both.and : ∀ {xs : List Ex} {es : List Expr}, Both X glob F Wx xs es → xs ≠ [] → DE X glob F Wx (.BoolOp .And es pos) (.and xs) ∧ PW X (.BoolOp .And es pos) (rdT X glob F Wx (.and xs))
  | _, _, .nil, h => absurd rfl h
  | _, _, .cons h1 h2 _ .nil, _ => ⟨s_and1 h1, t_and1 h2⟩
  | _, _, .cons h1 h2 _ (.cons h3 h4 p t), _ => by
    obtain ⟨q1, q2⟩ := Both.and (.cons h3 h4 p t) (by simp)
    exact ⟨s_and h1 q1, t_and h2 q2⟩
theorem Both.or : ∀ {xs : List Ex} {es : List Expr}, Both X glob F Wx xs es → xs ≠ [] → DE X glob F Wx (.BoolOp .Or es pos) (.or xs) ∧ PW X (.BoolOp .Or es pos) (rdT X glob F Wx (.or xs))
  | _, _, .nil, h => absurd rfl h
  | _, _, .cons h1 h2 _ .nil, _ => ⟨s_or1 h1, t_or1 h2⟩
  | _, _, .cons h1 h2 _ (.cons h3 h4 p t), _ => by
    obtain ⟨q1, q2⟩ := Both.or (.cons h3 h4 p t) (by simp)
    exact ⟨s_or h1 q1, t_or h2 q2⟩
/-- a fresh list, a fresh dict -/
def frX (T : List Df) : Ex → Bool
  | .lst _ => true
  | .lc .. => true
  | .f1 .list _ => true
  | .oLst _ => true
  | .move _ => true
  | .call f _ => match atT T f with | some d => d.fr | none => false
  | _ => false
/-- what a check gives -/
structure Got (X : Cx) (T : List Df) (glob : Str → Option D) (F : Fs) (Wx : WX) (e : Expr) (x : Ex) : Prop where
  pe : DE X glob F Wx e x
  pt : DT X glob F Wx e x
  pf : frX T x = true → DF X glob F Wx e x
theorem Got.ts {e : Expr} {x : Ex} (h : DE X glob F Wx e x) (ht : isTS e = true) (hf : frX T x = false) : Got X T glob F Wx e x := ⟨h, s_test h (isTrue_ts ht), fun z => by rw [hf] at z; cases z⟩
theorem Got.fresh {e : Expr} {x : Ex} (h : DF X glob F Wx e x) (ht : isTS e = true) : Got X T glob F Wx e x := ⟨h.e, s_test h.e (isTrue_ts ht), fun _ => h⟩
mutual
theorem chkG_ok {fn : Str → Bool} : ∀ {g : Tg} {e : Expr}, X.N = N → X.N.Nodup → X.calm = true → X.env.scope = sc → (∀ n, fn n = true → X.fn n = true) → chkG N sc fn g e = true → PG X e (rdG X g)
  | .v i, e, hN, nd, hc, hs, hf, h => by
    unfold chkG at h
    split at h
    · rename_i n p hv
      rw [vName_eq hv]
      simp only [Bool.and_eq_true, decide_eq_true_eq] at h
      obtain ⟨h1, h2⟩ := h
      rw [← hN] at h1
      rw [← hs] at h2
      split at h2
      · rename_i q; exact g_v nd h1 (.inl q) (.inr q)
      · rename_i q; exact g_v nd h1 (.inr q) (.inl (hf n h2))
      · cases h2
    · cases h
  | .t gs, e, hN, nd, hc, hs, hf, h => by
    unfold chkG at h
    split at h
    · rename_i es k p hv
      rw [vTup_eq hv]
      simp only [Bool.and_eq_true, decide_eq_true_eq] at h
      exact g_t hc (chkGs_ok hN nd hc hs hf h.1.1 h.1.2) h.1.2 h.2
    · cases h
theorem chkGs_ok {fn : Str → Bool} : ∀ {gs : List Tg} {es : List Expr}, X.N = N → X.N.Nodup → X.calm = true → X.env.scope = sc → (∀ n, fn n = true → X.fn n = true) → chkGs N sc fn gs es = true → plainXs es = true → PGs X es (rdGs X gs)
  | [], [], hN, nd, hc, hs, hf, h, hp => gs_nil
  | g :: gs, e :: es, hN, nd, hc, hs, hf, h, hp => by
    simp only [chkGs, Bool.and_eq_true] at h
    have hp : (plainX e && plainXs es) = true := hp
    rw [Bool.and_eq_true] at hp
    exact gs_cons (chkG_ok hN nd hc hs hf h.1) (chkGs_ok hN nd hc hs hf h.2 hp.2) hp.1
  | [], _ :: _, _, _, _, _, _, h, _ => by simp [chkGs] at h
  | _ :: _, [], _, _, _, _, _, h, _ => by simp [chkGs] at h
end
theorem f1_ok {f : F1} {m n : Str} {a : Expr} {x : Ex} {p : Pos} (k : Kit X T glob F Wx) (hm : f1N f = some m) (hn : n = m) (hg : Gl X n) (ha : DE X glob F Wx a x) (hp : plainX a = true) : Got X T glob F Wx (.Call (.Name n p) [a] [] pos) (.f1 f x) := by
  subst hn
  have st : starEach [a] X.env = (false, eval a X.env) :: starEach [] X.env := star_plain hp
  cases f with
  | len => cases hm; exact .ts (s_f1B cd_len hg (k.bt _ (by decide +kernel)) (by decide +kernel) (by decide +kernel) (by decide +kernel) ha st) rfl rfl
  | all => cases hm; exact .ts (s_f1B (cd_all k.calm) hg (k.bt _ (by decide +kernel)) (by decide +kernel) (by decide +kernel) (by decide +kernel) ha st) rfl rfl
  | any => cases hm; exact .ts (s_f1B (cd_any k.calm) hg (k.bt _ (by decide +kernel)) (by decide +kernel) (by decide +kernel) (by decide +kernel) ha st) rfl rfl
  | tuple => cases hm; exact .ts (s_f1T cd_tuple hg (k.bt _ (by decide +kernel)) (by decide +kernel) (by decide +kernel) (by decide +kernel) ha st) rfl rfl
  | list => cases hm; exact .fresh (f_list k.calm hg (k.bt _ (by decide +kernel)) (by decide +kernel) (by decide +kernel) (by decide +kernel) ha st) rfl
  | int => cases hm; exact .ts (s_f1T cd_int hg (k.bt _ (by decide +kernel)) (by decide +kernel) (by decide +kernel) (by decide +kernel) ha st) rfl rfl
  | abs => cases hm; exact .ts (s_f1B cd_abs hg (k.bt _ (by decide +kernel)) (by decide +kernel) (by decide +kernel) (by decide +kernel) ha st) rfl rfl
  | sum => cases hm; exact .ts (s_f1B (cd_sum k.calm) hg (k.bt _ (by decide +kernel)) (by decide +kernel) (by decide +kernel) (by decide +kernel) ha st) rfl rfl
  | max => cases hm; exact .ts (s_f1B (cd_max k.calm) hg (k.bt _ (by decide +kernel)) (by decide +kernel) (by decide +kernel) (by decide +kernel) ha st) rfl rfl
  | sorted => cases hm; exact .ts (s_f1B (cd_sorted k.un) hg (k.bt _ (by decide +kernel)) (by decide +kernel) (by decide +kernel) (by decide +kernel) ha st) rfl rfl
  | _ => cases hm
end
end TD

-- TX
set_option maxHeartbeats 4000000
/-! the checks are sound: expressions -/
namespace TD
open PySem PySem.Spec PyProof.Rows L2
section
variable {T : List Df} {glob : Str → Option D} {F : Fs} {N : List Str}
theorem fr_no {x : Ex} (h : frX T x = false) {P : Prop} (z : frX T x = true) : P := by rw [h] at z; cases z
theorem Got.cmp {X : Cx} {Wx : WX} {e : Expr} {x : Ex} (h : DE X glob F Wx e x) (ht : DT X glob F Wx e x) (hf : frX T x = false) : Got X T glob F Wx e x := ⟨h, ht, fun z => fr_no hf z⟩
theorem lastM {o o' : CmpOp} {b c : Expr} (h : plainX c = true) : lastMarks [o, o'] [b, c] = false := by
  show behindInMarks o' c = false
  exact in_plain h
theorem len1000 {α : Type} {l : List α} (h : l.length ≤ 1000) : l.length ≤ sizeLine := Nat.le_trans h (by decide)
mutual
theorem chkE_ok : ∀ (x : Ex) (e : Expr) (X : Cx) (Wx : WX) (sc : Scope), X.N = N → X.env.scope = sc → Kit X T glob F Wx → chkE T N sc x e = true → Got X T glob F Wx e x
  | .nope, e, X, Wx, sc, hN, hs, k, h => ⟨s_nope, pt_no fun σ H Q ⟨U, γ, s, ok, h⟩ => by simp only [evC, evE] at h; exact h, fun z => nomatch z⟩
  | .var i, e, X, Wx, sc, hN, hs, k, h => by
    unfold chkE at h
    obtain ⟨n, p, rfl, h1, h2, h3, h4⟩ := var_of hN hs h
    obtain ⟨o1, o2, o3⟩ := okNm_of h3
    exact .ts (s_var h1 h2 o1 o2) rfl rfl
  | .take i, e, X, Wx, sc, hN, hs, k, h => by
    unfold chkE at h
    obtain ⟨n, p, rfl, h1, h2, h3, h4⟩ := var_of hN hs h
    exact .ts (s_take h4) rfl rfl
  | .move i, e, X, Wx, sc, hN, hs, k, h => by
    unfold chkE at h
    obtain ⟨n, p, rfl, h1, h2, h3, h4⟩ := var_of hN hs h
    exact .fresh (f_move h4) rfl
  | .int i, e, X, Wx, sc, hN, hs, k, h => by
    unfold chkE at h
    split at h
    · rename_i hv
      rw [vConst_eq hv]
      cases of_decide_eq_true h
      exact .ts s_int rfl rfl
    · cases h
  | .bl b, e, X, Wx, sc, hN, hs, k, h => by
    unfold chkE at h
    split at h
    · rename_i hv
      rw [vConst_eq hv]
      cases of_decide_eq_true h
      exact .ts s_bl rfl rfl
    · cases h
  | .non, e, X, Wx, sc, hN, hs, k, h => by
    unfold chkE at h
    split at h
    · rename_i hv
      rw [vConst_eq hv]
      exact .ts s_non rfl rfl
    · cases h
  | .str x, e, X, Wx, sc, hN, hs, k, h => by
    unfold chkE at h
    split at h
    · rename_i hv
      rw [vConst_eq hv]
      simp only [Bool.and_eq_true, decide_eq_true_eq] at h
      obtain ⟨rfl, h2⟩ := h
      exact .ts (s_str h2) rfl rfl
    · cases h
  | .glob x, e, X, Wx, sc, hN, hs, k, h => by
    unfold chkE at h
    split at h
    · rename_i n p hv
      rw [vName_eq hv]
      simp only [Bool.and_eq_true, decide_eq_true_eq, glB] at h
      obtain ⟨⟨rfl, h2⟩, h3⟩ := h
      obtain ⟨o1, o2, o3⟩ := okNm_of h3
      have hg : Gl X x := by unfold Gl Env.kindOf; rw [hs]; exact h2
      cases e : glob x with
      | none => exact .ts (pe_no fun σ H Q ⟨U, γ, s, ok, h⟩ => by simp only [evE, e] at h; exact h) rfl rfl
      | some d =>
        obtain ⟨u, v, q1, q2, q3⟩ := k.gl x d e
        exact .ts (s_glob hg q1 q2 o1 e q3) rfl rfl
    · cases h
  | .tup l, e, X, Wx, sc, hN, hs, k, h => by
    unfold chkE at h
    split at h
    · rename_i es kk p hv
      rw [vTup_eq hv]
      simp only [Bool.and_eq_true, decide_eq_true_eq] at h
      exact .ts (s_tup (chkEs_ok l es X Wx sc hN hs k h.1).args (len1000 h.2)) rfl rfl
    · cases h
  | .lst l, e, X, Wx, sc, hN, hs, k, h => by
    unfold chkE at h
    split at h
    · rename_i es p hv
      rw [vLst_eq hv]
      simp only [Bool.and_eq_true, decide_eq_true_eq] at h
      exact .fresh (f_lst (chkEs_ok l es X Wx sc hN hs k h.1).args (len1000 h.2)) rfl
    · cases h
  | .shr l, e, X, Wx, sc, hN, hs, k, h => by
    unfold chkE at h
    split at h
    · rename_i es p hv
      rw [vLst_eq hv]
      simp only [Bool.and_eq_true, decide_eq_true_eq] at h
      exact .ts (s_shr (chkEs_ok l es X Wx sc hN hs k h.1).args (len1000 h.2)) rfl rfl
    · cases h
  | .op o a b, e, X, Wx, sc, hN, hs, k, h => by
    unfold chkE at h
    split at h
    · rename_i l o' r p hv
      rw [vBin_eq hv]
      simp only [Bool.and_eq_true, decide_eq_true_eq] at h
      obtain ⟨⟨h1, h2⟩, h3⟩ := h
      exact .ts (s_op (bop_of h1) (chkE_ok a l X Wx sc hN hs k h2).pe (chkE_ok b r X Wx sc hN hs k h3).pe) rfl rfl
    · split at h
      · rename_i l o' r p hv
        rw [vCmp_eq hv]
        simp only [Bool.and_eq_true, decide_eq_true_eq] at h
        obtain ⟨⟨⟨h1, h2⟩, h3⟩, h4⟩ := h
        have ga := (chkE_ok a l X Wx sc hN hs k h2).pe
        have gb := (chkE_ok b r X Wx sc hN hs k h3).pe
        exact .cmp (s_cmp (cmp_of k.un h1) ga gb (in_plain h4)) (s_cmpT (cmp_of k.un h1) ga gb (in_plain h4)) rfl
      · cases h
  | .chain o o2 a b c, e, X, Wx, sc, hN, hs, k, h => by
    unfold chkE at h
    split at h
    · rename_i l p p2 r r2 ps hv
      rw [vCmp2_eq hv]
      simp only [Bool.and_eq_true, decide_eq_true_eq] at h
      obtain ⟨⟨⟨⟨⟨⟨h1, h2⟩, h3⟩, h4⟩, h5⟩, h6⟩, h7⟩ := h
      have ga := (chkE_ok a l X Wx sc hN hs k h3).pe
      have gb := (chkE_ok b r X Wx sc hN hs k h4).pe
      have gc := (chkE_ok c r2 X Wx sc hN hs k h5).pe
      exact .cmp (s_chain (cmp_of k.un h1) (cmp_of k.un h2) ga gb gc (lastM h7)) (s_chainT (cmp_of k.un h1) (cmp_of k.un h2) ga gb gc (lastM h7)) rfl
    · cases h
  | .isN a, e, X, Wx, sc, hN, hs, k, h => by
    unfold chkE at h
    split at h
    · rename_i l r p hv
      rw [vCmp_eq hv]
      split at h
      · rename_i hv2
        rw [vConst_eq hv2]
        have ga := (chkE_ok a l X Wx sc hN hs k h).pe
        exact .cmp (s_isN ga) (s_isNT ga) rfl
      · cases h
    · cases h
  | .notN a, e, X, Wx, sc, hN, hs, k, h => by
    unfold chkE at h
    split at h
    · rename_i l r p hv
      rw [vCmp_eq hv]
      split at h
      · rename_i hv2
        rw [vConst_eq hv2]
        have ga := (chkE_ok a l X Wx sc hN hs k h).pe
        exact .cmp (s_notN ga) (s_notNT ga) rfl
      · cases h
    · cases h
  | .and l, e, X, Wx, sc, hN, hs, k, h => by
    unfold chkE at h
    split at h
    · rename_i es p hv
      rw [vAnd_eq hv]
      simp only [Bool.and_eq_true, decide_eq_true_eq] at h
      obtain ⟨g1, g2⟩ := (chkEs_ok l es X Wx sc hN hs k h.1).and (pos := p) (by cases l <;> simp_all)
      exact .cmp g1 g2.pt rfl
    · cases h
  | .or l, e, X, Wx, sc, hN, hs, k, h => by
    unfold chkE at h
    split at h
    · rename_i es p hv
      rw [vOr_eq hv]
      simp only [Bool.and_eq_true, decide_eq_true_eq] at h
      obtain ⟨g1, g2⟩ := (chkEs_ok l es X Wx sc hN hs k h.1).or (pos := p) (by cases l <;> simp_all)
      exact .cmp g1 g2.pt rfl
    · cases h
  | .not a, e, X, Wx, sc, hN, hs, k, h => by
    unfold chkE at h
    split at h
    · rename_i b p hv
      rw [vNot_eq hv]
      have g := chkE_ok a b X Wx sc hN hs k h
      exact .cmp (s_not g.pe) (t_not g.pt) rfl
    · cases h
  | .ite c a b, e, X, Wx, sc, hN, hs, k, h => by
    unfold chkE at h
    split at h
    · rename_i x y z p hv
      rw [vIf_eq hv]
      simp only [Bool.and_eq_true] at h
      have g1 := chkE_ok c x X Wx sc hN hs k h.1.1
      have g2 := chkE_ok a y X Wx sc hN hs k h.1.2
      have g3 := chkE_ok b z X Wx sc hN hs k h.2
      exact .cmp (s_ite g1.pt g2.pe g3.pe) (t_ite g1.pt g2.pt g3.pt) rfl
    · cases h
  | .f1 f a, e, X, Wx, sc, hN, hs, k, h => by
    unfold chkE at h
    split at h
    · rename_i n p b p2 hv
      rw [vCall_eq hv]
      split at h
      · rename_i m hm
        simp only [Bool.and_eq_true] at h
        obtain ⟨⟨h1, h2⟩, h3⟩ := h
        obtain ⟨hn, hg⟩ := bt_of hs h1
        exact f1_ok k hm hn hg (chkE_ok a b X Wx sc hN hs k h2).pe h3
      · split at h
        · rename_i n2 p3 c p4 hv2 hno
          simp only [Bool.and_eq_true] at h
          obtain ⟨⟨⟨h1, h2⟩, h3⟩, h4⟩ := h
          obtain ⟨rfl, hg⟩ := bt_of hs h1
          obtain ⟨rfl, hg2⟩ := bt_of hs h2
          rw [vCall_eq hv2]
          exact .ts (s_sset k.calm k.un hg (k.bt _ (by decide +kernel)) (by decide +kernel) (by decide +kernel) (by decide +kernel) hg2 (k.bt _ (by decide +kernel)) (by decide +kernel) (by decide +kernel) (by decide +kernel) (chkE_ok a c X Wx sc hN hs k h3).pe (star_plain h4) sset_keys (fun _ => rfl)) rfl rfl
        · cases h
    · cases h
  | .min2 a b, e, X, Wx, sc, hN, hs, k, h => by
    unfold chkE at h
    split at h
    · rename_i n p l r p2 hv
      rw [vCall_eq hv]
      simp only [Bool.and_eq_true] at h
      obtain ⟨⟨⟨⟨h1, h2⟩, h3⟩, h4⟩, h5⟩ := h
      obtain ⟨rfl, hg⟩ := bt_of hs h1
      have ga := (chkE_ok a l X Wx sc hN hs k h2).pe
      have gb := (chkE_ok b r X Wx sc hN hs k h3).pe
      exact .ts (s_min2 k.calm hg (k.bt _ (by decide +kernel)) (by decide +kernel) (by decide +kernel) (by decide +kernel) ga gb (star_plain h4) (star_plain h5) (backs_plain (by simp [plainXs, h5])).1) rfl rfl
    · cases h
  | .isi t a, e, X, Wx, sc, hN, hs, k, h => by
    unfold chkE at h
    split at h
    · rename_i n p l r p2 hv
      rw [vCall_eq hv]
      split at h
      · rename_i m pm hm
        rw [vName_eq hm]
        simp only [Bool.and_eq_true] at h
        obtain ⟨⟨⟨h1, h2⟩, h3⟩, h4⟩ := h
        obtain ⟨rfl, hg⟩ := bt_of hs h1
        obtain ⟨rfl, hg2⟩ := bt_of hs h2
        have ga := (chkE_ok a l X Wx sc hN hs k h3).pe
        refine .ts (s_isi (t := t) hg (k.bt _ (by decide +kernel)) (by decide +kernel) (by decide +kernel) (by decide +kernel) hg2 (k.bt _ ?_) ?_ ?_ ?_ ga (star_plain h4)) rfl rfl
        all_goals (cases t <;> decide +kernel)
      · cases h
    · cases h
  | .ix a i, e, X, Wx, sc, hN, hs, k, h => by
    unfold chkE at h
    split at h
    · rename_i l r p hv
      rw [vSub_eq hv]
      simp only [Bool.and_eq_true] at h
      have hu : X.A.units + 64 < cLine := by have := k.un; omega
      exact .ts (s_ix hu (chkE_ok a l X Wx sc hN hs k h.1.1).pe (chkE_ok i r X Wx sc hN hs k h.1.2).pe (ix_plain h.2)) rfl rfl
    · cases h
  | .sl a lo hi, e, X, Wx, sc, hN, hs, k, h => by
    unfold chkE at h
    split at h
    · rename_i l x y p2 p hv
      rw [vSlice_eq hv]
      simp only [Bool.and_eq_true] at h
      exact .ts (s_sl (chkE_ok a l X Wx sc hN hs k h.1.1).pe (chkO_ok lo x X Wx sc hN hs k h.1.2) (chkO_ok hi y X Wx sc hN hs k h.2)) rfl rfl
    · cases h
  | .rev a, e, X, Wx, sc, hN, hs, k, h => by
    unfold chkE at h
    split at h
    · rename_i l _ hv
      obtain ⟨kk, p1, p2, p3, p⟩ := ‹Nat × Pos × Pos × Pos × Pos›
      rw [vRev_eq hv]
      exact .ts (s_rev (chkE_ok a l X Wx sc hN hs k h).pe) rfl rfl
    · cases h
  | .call f l, e, X, Wx, sc, hN, hs, k, h => by
    unfold chkE at h
    split at h
    · rename_i n p es p2 hv
      rw [vCall_eq hv]
      split at h
      · rename_i d hd
        simp only [Bool.and_eq_true, decide_eq_true_eq, glB] at h
        obtain ⟨⟨⟨⟨⟨rfl, h2⟩, h3⟩, h4⟩, h5⟩, h6⟩ := h
        obtain ⟨o1, o2, o3⟩ := okNm_of h3
        have hg : Gl X d.nm := by unfold Gl Env.kindOf; rw [hs]; exact h2
        obtain ⟨kk, fa, fd, ps, q1, q2, q3, q4, q5⟩ := k.call f d hd
        have bo := chkEs_ok l es X Wx sc hN hs k h5
        have mk : ∀ {e : Expr}, isTS e = true → PE X e (fun σ H Q => ∃ U γ s, XOk X U γ H σ s ∧ RR X Wx U γ H σ s (evE glob F (.call f l) s) (kV X.prog X.w X.K d.fr U γ H σ s Q)) → Got X T glob F Wx e (.call f l) := fun {e} ht h => by
          refine ⟨s_call h, s_test (s_call h) (isTrue_ts ht), fun z => ?_⟩
          have z : (match atT T f with | some d => d.fr | none => false) = true := z
          rw [hd] at z
          have z : d.fr = true := z
          rw [z] at h
          exact f_call h
        cases es with
        | nil =>
          cases bo
          have e0 : d.fn.np = 0 := by rw [← h4]; rfl
          rw [e0] at q1
          exact mk rfl (c_call0 q1 q2 hg q3 q4 q5 k.tk o1)
        | cons e1 es1 => exact mk rfl (c_call q1 q2 hg q3 q4 q5 k.tk bo.args o1 h6 h4)
      · cases h
    · cases h
  | .lc x g w c ws, e, X, Wx, sc, hN, hs, k, h => by
    unfold chkE at h
    split at h
    · rename_i el t it ifs scope p hv
      rw [vLc_eq hv]
      simp only [Bool.and_eq_true, decide_eq_true_eq] at h
      obtain ⟨⟨⟨⟨⟨⟨⟨h1, h2⟩, h3⟩, h4⟩, h5⟩, h6⟩, h7⟩, h8⟩ := h
      have hi := chkW_ok w t it X Wx sc hN hs k h1
      have okb : BlkOk X.N X.env.scope scope (ownOf N sc ws) := by rw [hN, hs]; exact blkOk_by h7
      have hgs : ∀ j ∈ tgSl g, j ∈ ws := fun j m => of_decide_eq_true (List.all_eq_true.mp h6 j m)
      subst hs
      exact .fresh (f_lc k.calm k.nd hi okb h8 hgs
        (fun s H C cl fp => chkG_ok (X := X.blk s H scope (compEnvC scope cl C X.env) fp) hN k.nd k.calm rfl (fun n hn => by show (scope.names.lookup n == some .cell) = true; rw [of_decide_eq_true hn]; rfl) h2)
        (fun s H C cl fp => chkC_ok c ifs (X.blk s H scope (compEnvC scope cl C X.env) fp) W0 _ hN rfl (k.blk s H scope _ fp) h3)
        (fun s H C cl fp => (chkE_ok x el (X.blk s H scope (compEnvC scope cl C X.env) fp) W0 _ hN rfl (k.blk s H scope _ fp) h4).pe) h5) rfl
    · cases h
  | .oLen i, e, X, Wx, sc, hN, hs, k, h => by
    unfold chkE at h
    split at h
    · rename_i n p b p2 hv
      rw [vCall_eq hv]
      simp only [Bool.and_eq_true] at h
      obtain ⟨rfl, hg⟩ := bt_of hs h.1
      obtain ⟨m, pm, rfl, h1, h2, h3, h4⟩ := var_of hN hs h.2
      exact .ts (s_oLen hg (k.bt _ (by decide +kernel)) (by decide +kernel) (by decide +kernel) (by decide +kernel) h4 rfl) rfl rfl
    · cases h
  | .oNE i, e, X, Wx, sc, hN, hs, k, h => by
    unfold chkE at h
    split at h
    · rename_i l r p hv
      rw [vCmp_eq hv]
      simp only [Bool.and_eq_true] at h
      obtain ⟨m, pm, rfl, h1, h2, h3, h4⟩ := var_of hN hs h.1
      have h5 := h.2
      split at h5
      · rename_i pl hl
        rw [vLst_eq hl]
        have hu : X.A.units + 64 < cLine := by have := k.un; omega
        exact .cmp (s_oNE hu h4) (s_oNET hu h4) rfl
      · cases h5
    · cases h
  | .oEQ i, e, X, Wx, sc, hN, hs, k, h => by
    unfold chkE at h
    split at h
    · rename_i l r p hv
      rw [vCmp_eq hv]
      simp only [Bool.and_eq_true] at h
      obtain ⟨m, pm, rfl, h1, h2, h3, h4⟩ := var_of hN hs h.1
      have h5 := h.2
      split at h5
      · rename_i pl hl
        rw [vLst_eq hl]
        have hu : X.A.units + 64 < cLine := by have := k.un; omega
        exact .cmp (s_oEQ hu h4) (s_oEQT hu h4) rfl
      · cases h5
    · cases h
  | .oIx i a, e, X, Wx, sc, hN, hs, k, h => by
    unfold chkE at h
    split at h
    · rename_i l r p hv
      rw [vSub_eq hv]
      simp only [Bool.and_eq_true] at h
      obtain ⟨m, pm, rfl, h1, h2, h3, h4⟩ := var_of hN hs h.1.1
      have hu : X.A.units + 64 < cLine := by have := k.un; omega
      exact .ts (s_oIx hu h4 (chkE_ok a r X Wx sc hN hs k h.1.2).pe (ix_plain h.2)) rfl rfl
    · cases h
  | .oIn a i, e, X, Wx, sc, hN, hs, k, h => by
    unfold chkE at h
    split at h
    · rename_i l r p hv
      rw [vCmp_eq hv]
      simp only [Bool.and_eq_true] at h
      obtain ⟨m, pm, rfl, h1, h2, h3, h4⟩ := var_of hN hs h.2
      have g := (chkE_ok a l X Wx sc hN hs k h.1).pe
      exact .cmp (s_oIn k.un h4 g rfl) (s_oInT k.un h4 g rfl) rfl
    · cases h
  | .oNin a i, e, X, Wx, sc, hN, hs, k, h => by
    unfold chkE at h
    split at h
    · rename_i l r p hv
      rw [vCmp_eq hv]
      simp only [Bool.and_eq_true] at h
      obtain ⟨m, pm, rfl, h1, h2, h3, h4⟩ := var_of hN hs h.2
      have g := (chkE_ok a l X Wx sc hN hs k h.1).pe
      exact .cmp (s_oNin k.un h4 g rfl) (s_oNinT k.un h4 g rfl) rfl
    · cases h
  | .oPop i, e, X, Wx, sc, hN, hs, k, h => by
    unfold chkE at h
    split at h
    · rename_i o n p p2 hv
      rw [vMeth_eq hv]
      simp only [Bool.and_eq_true, decide_eq_true_eq] at h
      obtain ⟨⟨rfl, h2⟩, h3⟩ := h
      obtain ⟨m, pm, rfl, h1, h2, h4, h5⟩ := var_of hN hs h2
      exact .ts (s_oPop h5 h3) rfl rfl
    · cases h
  | .oPopAt i a, e, X, Wx, sc, hN, hs, k, h => by
    unfold chkE at h
    split at h
    · rename_i o n p b p2 hv
      rw [vMeth_eq hv]
      simp only [Bool.and_eq_true, decide_eq_true_eq] at h
      obtain ⟨⟨⟨⟨rfl, h2⟩, h3⟩, h4⟩, h5⟩ := h
      obtain ⟨m, pm, rfl, h1, h2, h6, h7⟩ := var_of hN hs h2
      exact .ts (s_oPopAt h7 (chkE_ok a b X Wx sc hN hs k h4).pe h3 h5) rfl rfl
    · cases h
  | .oTup i, e, X, Wx, sc, hN, hs, k, h => by
    unfold chkE at h
    split at h
    · rename_i n p b p2 hv
      rw [vCall_eq hv]
      simp only [Bool.and_eq_true] at h
      obtain ⟨rfl, hg⟩ := bt_of hs h.1
      obtain ⟨m, pm, rfl, h1, h2, h3, h4⟩ := var_of hN hs h.2
      exact .ts (s_oTup hg (k.bt _ (by decide +kernel)) (by decide +kernel) (by decide +kernel) (by decide +kernel) h4 rfl) rfl rfl
    · cases h
  | .oLst i, e, X, Wx, sc, hN, hs, k, h => by
    unfold chkE at h
    split at h
    · rename_i n p b p2 hv
      rw [vCall_eq hv]
      simp only [Bool.and_eq_true] at h
      obtain ⟨rfl, hg⟩ := bt_of hs h.1
      obtain ⟨m, pm, rfl, h1, h2, h3, h4⟩ := var_of hN hs h.2
      exact .fresh (f_oLst k.calm hg (k.bt _ (by decide +kernel)) (by decide +kernel) (by decide +kernel) (by decide +kernel) h4 rfl) rfl
    · cases h
  | .oOp o i a, e, X, Wx, sc, hN, hs, k, h => by
    unfold chkE at h
    split at h
    · rename_i l o' r p hv
      rw [vCmp_eq hv]
      simp only [Bool.and_eq_true, decide_eq_true_eq] at h
      obtain ⟨⟨⟨h1, h2⟩, h3⟩, h4⟩ := h
      obtain ⟨m, pm, rfl, h5, h6, h7, h8⟩ := var_of hN hs h2
      have g := (chkE_ok a r X Wx sc hN hs k h3).pe
      exact .cmp (s_oOp (cmp_of k.un h1) h8 g (in_plain h4)) (s_oOpT (cmp_of k.un h1) h8 g (in_plain h4)) rfl
    · cases h
  | .oSl i lo hi, e, X, Wx, sc, hN, hs, k, h => by
    unfold chkE at h
    split at h
    · rename_i l x y p2 p hv
      rw [vSlice_eq hv]
      simp only [Bool.and_eq_true] at h
      obtain ⟨m, pm, rfl, h5, h6, h7, h8⟩ := var_of hN hs h.1.1
      exact .ts (s_oSl h8 (chkO_ok lo x X Wx sc hN hs k h.1.2) (chkO_ok hi y X Wx sc hN hs k h.2)) rfl rfl
    · cases h
  | .oIsi t i, e, X, Wx, sc, hN, hs, k, h => by
    unfold chkE at h
    split at h
    · rename_i n p l r p2 hv
      rw [vCall_eq hv]
      split at h
      · rename_i m pm hm
        rw [vName_eq hm]
        simp only [Bool.and_eq_true] at h
        obtain ⟨⟨h1, h2⟩, h3⟩ := h
        obtain ⟨rfl, hg⟩ := bt_of hs h1
        obtain ⟨rfl, hg2⟩ := bt_of hs h2
        obtain ⟨q, pq, rfl, h5, h6, h7, h8⟩ := var_of hN hs h3
        refine .ts (s_oIsi (t := t) hg (k.bt _ (by decide +kernel)) (by decide +kernel) (by decide +kernel) (by decide +kernel) hg2 (k.bt _ ?_) ?_ ?_ ?_ h8 rfl) rfl rfl
        all_goals (cases t <;> decide +kernel)
      · cases h
    · cases h
  | .neg a, e, X, Wx, sc, hN, hs, k, h => by
    unfold chkE at h
    split at h
    · rename_i b p hv
      rw [vNeg_eq hv]
      exact .ts (s_neg (chkE_ok a b X Wx sc hN hs k h).pe) rfl rfl
    · cases h
  | .dic .., e, X, Wx, sc, hN, hs, k, h => by simp [chkE] at h
  | .sdic .., e, X, Wx, sc, hN, hs, k, h => by simp [chkE] at h
  | .lc2 .., e, X, Wx, sc, hN, hs, k, h => by simp [chkE] at h
  | .dc .., e, X, Wx, sc, hN, hs, k, h => by simp [chkE] at h
  | .oGet .., e, X, Wx, sc, hN, hs, k, h => by simp [chkE] at h
  | .get .., e, X, Wx, sc, hN, hs, k, h => by simp [chkE] at h
  | .split .., e, X, Wx, sc, hN, hs, k, h => by simp [chkE] at h
  | .join .., e, X, Wx, sc, hN, hs, k, h => by simp [chkE] at h
theorem chkEs_ok : ∀ (xs : List Ex) (es : List Expr) (X : Cx) (Wx : WX) (sc : Scope), X.N = N → X.env.scope = sc → Kit X T glob F Wx → chkEs T N sc xs es = true → Both X glob F Wx xs es
  | [], [], X, Wx, sc, hN, hs, k, h => .nil
  | x :: xs, e :: es, X, Wx, sc, hN, hs, k, h => by
    simp only [chkEs, Bool.and_eq_true] at h
    have g := chkE_ok x e X Wx sc hN hs k h.1.1
    exact .cons g.pe g.pt h.1.2 (chkEs_ok xs es X Wx sc hN hs k h.2)
  | [], _ :: _, X, Wx, sc, hN, hs, k, h => by simp [chkEs] at h
  | _ :: _, [], X, Wx, sc, hN, hs, k, h => by simp [chkEs] at h
theorem chkO_ok : ∀ (x : Option Ex) (e : Option Expr) (X : Cx) (Wx : WX) (sc : Scope), X.N = N → X.env.scope = sc → Kit X T glob F Wx → chkO T N sc x e = true → DO' X glob F Wx e x
  | none, none, X, Wx, sc, hN, hs, k, h => o_none
  | some x, some e, X, Wx, sc, hN, hs, k, h => by
    simp only [chkO] at h
    exact o_some (chkE_ok x e X Wx sc hN hs k h).pe
  | none, some _, X, Wx, sc, hN, hs, k, h => by simp [chkO] at h
  | some _, none, X, Wx, sc, hN, hs, k, h => by simp [chkO] at h
theorem chkC_ok : ∀ (x : Option Ex) (e : List Expr) (X : Cx) (Wx : WX) (sc : Scope), X.N = N → X.env.scope = sc → Kit X T glob F Wx → chkC T N sc x e = true → PTs X e (rdC X glob F Wx x)
  | none, [], X, Wx, sc, hN, hs, k, h => k_none
  | some x, [e], X, Wx, sc, hN, hs, k, h => by
    simp only [chkC] at h
    exact k_some (chkE_ok x e X Wx sc hN hs k h).pt
  | none, _ :: _, X, Wx, sc, hN, hs, k, h => by simp [chkC] at h
  | some _, [], X, Wx, sc, hN, hs, k, h => by simp [chkC] at h
  | some _, _ :: _ :: _, X, Wx, sc, hN, hs, k, h => by simp [chkC] at h
theorem chkW_ok : ∀ (w : Wk) (t e : Expr) (X : Cx) (Wx : WX) (sc : Scope), X.N = N → X.env.scope = sc → Kit X T glob F Wx → chkW T N sc w t e = true → DW X glob F Wx t e w
  | .ex x, t, e, X, Wx, sc, hN, hs, k, h => by
    simp only [chkW] at h
    exact w_ex (chkE_ok x e X Wx sc hN hs k h).pe
  | .rng x, t, e, X, Wx, sc, hN, hs, k, h => by
    unfold chkW at h
    split at h
    · rename_i n p b p2 hv
      rw [vCall_eq hv]
      simp only [Bool.and_eq_true] at h
      obtain ⟨rfl, hg⟩ := bt_of hs h.1.1
      exact w_rng hg (k.bt _ (by decide +kernel)) (chkE_ok x b X Wx sc hN hs k h.1.2).pe h.2
    · cases h
  | .zip x y, t, e, X, Wx, sc, hN, hs, k, h => by
    unfold chkW at h
    split at h
    · rename_i tt n p b c p2 ht hv
      obtain ⟨es, kk, pt⟩ := tt
      rw [vCall_eq hv, vTup_eq ht]
      simp only [Bool.and_eq_true] at h
      obtain ⟨⟨⟨⟨h1, h2⟩, h3⟩, h4⟩, h5⟩ := h
      obtain ⟨rfl, hg⟩ := bt_of hs h1
      exact w_zip hg (k.bt _ (by decide +kernel)) (chkE_ok x b X Wx sc hN hs k h2).pe (chkE_ok y c X Wx sc hN hs k h3).pe h4 h5
    · cases h
  | .enum x, t, e, X, Wx, sc, hN, hs, k, h => by
    unfold chkW at h
    split at h
    · rename_i tt n p b p2 ht hv
      obtain ⟨es, kk, pt⟩ := tt
      rw [vCall_eq hv, vTup_eq ht]
      simp only [Bool.and_eq_true] at h
      obtain ⟨⟨h1, h2⟩, h3⟩ := h
      obtain ⟨rfl, hg⟩ := bt_of hs h1
      exact w_enum hg (k.bt _ (by decide +kernel)) (chkE_ok x b X Wx sc hN hs k h2).pe h3
    · cases h
  | .items _, t, e, X, Wx, sc, hN, hs, k, h => by simp [chkW] at h
  | .vals _, t, e, X, Wx, sc, hN, hs, k, h => by simp [chkW] at h
end
end
end TD

-- TY
set_option maxHeartbeats 4000000
/-! the checks are sound: statements -/
namespace TD
open PySem PySem.Spec PyProof.Rows L2
def vAsg : Stmt → Option (Expr × Expr × Pos)
  | .Assign [t] e p => some (t, e, p)
  | _ => none
def vRet : Stmt → Option (Expr × Pos)
  | .Return (some e) p => some (e, p)
  | _ => none
def vRetN : Stmt → Option Pos
  | .Return none p => some p
  | _ => none
def vIfS : Stmt → Option (Expr × List Stmt × List Stmt × Pos)
  | .If c a b p => some (c, a, b, p)
  | _ => none
def vFor : Stmt → Option (Expr × Expr × List Stmt × Pos)
  | .For t i b [] p => some (t, i, b, p)
  | _ => none
def vWh : Stmt → Option (Expr × List Stmt × Pos)
  | .While c b [] p => some (c, b, p)
  | _ => none
def vEx : Stmt → Option (Expr × Pos)
  | .Expr e p => some (e, p)
  | _ => none
def vPass : Stmt → Option Pos
  | .Pass p => some p
  | _ => none
theorem vAsg_eq {st : Stmt} {t e : Expr} {p : Pos} (h : vAsg st = some (t, e, p)) : st = .Assign [t] e p := by unfold vAsg at h; split at h <;> first | (cases h; rfl) | cases h
theorem vRet_eq {st : Stmt} {e : Expr} {p : Pos} (h : vRet st = some (e, p)) : st = .Return (some e) p := by unfold vRet at h; split at h <;> first | (cases h; rfl) | cases h
theorem vRetN_eq {st : Stmt} {p : Pos} (h : vRetN st = some p) : st = .Return none p := by unfold vRetN at h; split at h <;> first | (cases h; rfl) | cases h
theorem vIfS_eq {st : Stmt} {c : Expr} {a b : List Stmt} {p : Pos} (h : vIfS st = some (c, a, b, p)) : st = .If c a b p := by unfold vIfS at h; split at h <;> first | (cases h; rfl) | cases h
theorem vFor_eq {st : Stmt} {t i : Expr} {b : List Stmt} {p : Pos} (h : vFor st = some (t, i, b, p)) : st = .For t i b [] p := by unfold vFor at h; split at h <;> first | (cases h; rfl) | cases h
theorem vWh_eq {st : Stmt} {c : Expr} {b : List Stmt} {p : Pos} (h : vWh st = some (c, b, p)) : st = .While c b [] p := by unfold vWh at h; split at h <;> first | (cases h; rfl) | cases h
theorem vEx_eq {st : Stmt} {e : Expr} {p : Pos} (h : vEx st = some (e, p)) : st = .Expr e p := by unfold vEx at h; split at h <;> first | (cases h; rfl) | cases h
theorem vPass_eq {st : Stmt} {p : Pos} (h : vPass st = some p) : st = .Pass p := by unfold vPass at h; split at h <;> first | (cases h; rfl) | cases h
/-- an index by a constant -/
def vSubC : Expr → Option (Expr × Int × Nat × Pos × Pos)
  | .Subscript o (.Constant (.int k) j p2) p => some (o, k, j, p2, p)
  | _ => none
theorem vSubC_eq {e o : Expr} {k : Int} {j : Nat} {p p2 : Pos} (h : vSubC e = some (o, k, j, p2, p)) : e = .Subscript o (.Constant (.int k) j p2) p := by unfold vSubC at h; split at h <;> first | (cases h; rfl) | cases h
def lclB (sc : Scope) (x : Str) : Bool := decide (sc.names.lookup x = some .local)
def cellB (sc : Scope) (x : Str) : Bool := decide (sc.names.lookup x = some .cell)
/-- the store into one name: not swapped (the value no comprehension, or the name a cell), or swapped -/
def nsB (sc : Scope) (y : Str) (e : Expr) : Bool := !isCompX e || cellB sc y
def swB (sc : Scope) (y : Str) (py : Pos) (e : Expr) : Bool := match vLc e with
  | some (_, _, _, _, scope, p) => lclB sc y && (py.line == p.line) && !(scope.names.any fun (n, k) => n == y && (k == .local || k == .cell))
  | none => false
/-- the names that would be stored swapped -/
def nmsL (sc : Scope) (line : Nat) (ts : List Expr) : List Str := ts.filterMap fun
  | .Name id pos => if sc.names.lookup id == some .local && pos.line == line then some id else none
  | _ => none
def nsT (sc : Scope) (ts : List Expr) (e : Expr) : Bool := match vTup e with
  | some (vs, _, _) => plainXs vs && ((nmsL sc ((ts.head?.map (·.pos.line)).getD 0) ts).length != ts.length || vs.all (foldedForSure 8))
  | none => true
def isLc : Ex → Bool
  | .lc .. => true
  | _ => false
section
variable (T : List Df) (N : List Str)
def parB (sc : Scope) : List (Nat × Hold) → List Ex → List Expr → Bool
  | [], [], [] => true
  | (_, h) :: is, x :: xs, e :: es => chkE T N sc x e && plainX e && (match h with | .val => true | .own => frX T x) && parB sc is xs es
  | _, _, _ => false
def nm2 : List Expr → Option (Str × Pos × Str × Pos)
  | [.Name y py, .Name z pz] => some (y, py, z, pz)
  | _ => none
def nm3 : List Expr → Option (Str × Pos × Str × Pos × Str × Pos)
  | [.Name y py, .Name z pz, .Name w pw] => some (y, py, z, pz, w, pw)
  | _ => none
def is2 : List (Nat × Hold) → Option (Nat × Hold × Nat × Hold)
  | [(i, a), (j, b)] => some (i, a, j, b)
  | _ => none
def is3 : List (Nat × Hold) → Option (Nat × Hold × Nat × Hold × Nat × Hold)
  | [(i, a), (j, b), (l, c)] => some (i, a, j, b, l, c)
  | _ => none
def par2B (sc : Scope) (i j : Nat) (y : Str) (py : Pos) (z : Str) (pz : Pos) (n : Nat) : Bool :=
  decide (N[i]? = some y) && decide (N[j]? = some z) && decide (i ≠ j) && lclB sc y && lclB sc z && (pz.line == py.line) && decide (y ≠ z) && decide (n = 2)
def par3B (sc : Scope) (i j l : Nat) (y : Str) (py : Pos) (z : Str) (pz : Pos) (w : Str) (pw : Pos) (n : Nat) : Bool :=
  decide (N[i]? = some y) && decide (N[j]? = some z) && decide (N[l]? = some w) && decide (i ≠ j) && decide (i ≠ l) && decide (j ≠ l) && lclB sc y && lclB sc z && lclB sc w &&
    (pz.line == py.line) && (pw.line == py.line) && decide (y ≠ z) && decide (y ≠ w) && decide (z ≠ w) && decide (n = 3)
def par23 (sc : Scope) (is : List (Nat × Hold)) (ts es : List Expr) : Bool := match is2 is, nm2 ts with
  | some (i, _, j, _), some (y, py, z, pz) => par2B N sc i j y py z pz es.length
  | _, _ => match is3 is, nm3 ts with
    | some (i, _, j, _, l, _), some (y, py, z, pz, w, pw) => par3B N sc i j l y py z pz w pw es.length
    | _, _ => false
mutual
def chkS (sc : Scope) (fr : Bool) : Sx → Stmt → Bool
  | .nope, _ => true
  | .pass, st => (vPass st).isSome
  | .set (.v i) x, st => match vAsg st with
    | some (t, e, _) => (match vName t with
      | some (y, py) => decide (N[i]? = some y) && chkE T N sc x e && ((nsB sc y e && (lclB sc y || cellB sc y)) || (isLc x && swB sc y py e))
      | none => false)
    | none => false
  | .set (.t gs) x, st => match vAsg st with
    | some (t, e, _) => (match vTup t with
      | some (es, _, _) => chkGs N sc (fun _ => true) gs es && plainXs es && decide (es.length = gs.length) && chkE T N sc x e && nsT sc es e
      | none => false)
    | none => false
  | .own i x, st => match vAsg st with
    | some (t, e, _) => (match vName t with
      | some (y, py) => decide (N[i]? = some y) && chkE T N sc x e && frX T x && ((nsB sc y e && (lclB sc y || cellB sc y)) || (isLc x && swB sc y py e))
      | none => false)
    | none => false
  | .par is xs, st => match vAsg st with
    | some (t, e, _) => (match vTup t, vTup e with
      | some (ts, _, _), some (es, _, _) => plainXs es && !(es.all (foldedForSure 8)) && !(es.all (constantsAlone 8)) && parB T N sc is xs es && par23 N sc is ts es
      | _, _ => false)
    | none => false
  | .ret x, st => match vRet st with
    | some (e, _) => chkE T N sc x e && (!fr || frX T x)
    | none => false
  | .retN, st => (vRetN st).isSome
  | .ite c a b, st => match vIfS st with
    | some (e, p, q, _) => chkE T N sc c e && chkSs sc fr a p && chkSs sc fr b q
    | none => false
  | .for_ g w b, st => match vFor st with
    | some (t, it, body, _) => chkW T N sc w t it && chkG N sc (fun _ => true) g t && chkSs sc fr b body && plainX it
    | none => false
  | .while_ c b, st => match vWh st with
    | some (e, body, _) => chkE T N sc c e && chkSs sc fr b body
    | none => false
  | .app i x, st => match vEx st with
    | some (e, _) => (match vMeth e with
      | some (o, n, p, [b], p2) => decide (n = "append") && varB N sc i o && (p.endLine == p2.line) && chkE T N sc x b && plainX b
      | _ => false)
    | none => false
  | .shPut i k x, st => match vAsg st with
    | some (t, e, _) => (match vSubC t with
      | some (o, k', _) => varB N sc i o && decide (k = k') && chkE T N sc x e
      | none => false)
    | none => false
  | .ex x, st => match vEx st with
    | some (e, _) => chkE T N sc x e && !isCompX e
    | none => false
  | _, _ => false
def chkSs (sc : Scope) (fr : Bool) : List Sx → List Stmt → Bool
  | [], [] => true
  | .nope :: _, _ => true
  | x :: xs, st :: sts => chkS sc fr x st && chkSs sc fr xs sts
  | _, _ => false
end
end
structure KitS (X : Cx) (T : List Df) (glob : Str → Option D) (F : Fs) (Wx : WX) : Prop extends Kit X T glob F Wx where
  hp : PassesOwn (model X.prog X.w) X.A X.env X.xe
  kind : X.env.scope.kind = .function
  fn : ∀ n, X.fn n = true
section
variable {T : List Df} {glob : Str → Option D} {F : Fs} {N : List Str} {X : Cx} {Wx : WX} {sc : Scope} {fr : Bool} {pos : Pos}
theorem sw_cell {y : Str} {p : Pos} {e : Expr} {l : Nat} {env : Env} (h : env.scope.names.lookup y = some .cell) : swapsWith e (some (.Name y p)) l env = pure false := by
  have ky : env.kindOf y = some .cell := h
  unfold swapsWith
  cases e <;> first | rfl | (simp only [ky]; rw [show (some NameKind.cell == some NameKind.local) = false from rfl, Bool.and_false, Bool.false_and, Bool.false_and])
theorem ns_of {y : Str} {p : Pos} {e : Expr} {l : Nat} (hs : X.env.scope = sc) (h : nsB sc y e = true) : swapsWith e (some (.Name y p)) l X.env = pure false := by
  unfold nsB at h
  rw [Bool.or_eq_true] at h
  rcases h with h | h
  · exact swap_plain (by cases q : isCompX e <;> simp_all)
  · exact sw_cell (by rw [hs]; exact of_decide_eq_true h)
theorem st_set' {i : Nat} {y : Str} {e : Expr} {x : Ex} {p : Pos} (hN : X.N.Nodup) (hi : X.N[i]? = some y) (hx : Loc X.env.scope y) (hf : X.fn y = true) (he : DE X glob F Wx e x) (hs : swapsWith e (some (.Name y p)) pos.line X.env = pure false) :
    DS X glob F Wx fr (.Assign [.Name y p] e pos) (.set (.v i) x) := (ps_set hN hi hx he hs (.inl hf)).imp fun Dn σ H h => by
  have h := asg_read (t := rdE X glob F Wx x) (fun _ _ _ q => q) h
  exact rdE_mono (fun v H q => gName_of q) h
theorem st_own' {i : Nat} {y : Str} {e : Expr} {x : Ex} {p : Pos} (hN : X.N.Nodup) (hi : X.N[i]? = some y) (hx : Loc X.env.scope y) (hf : X.fn y = true) (he : DF X glob F Wx e x) (hs : swapsWith e (some (.Name y p)) pos.line X.env = pure false) :
    DS X glob F Wx fr (.Assign [.Name y p] e pos) (.own i x) := (ps_set hN hi hx he hs (.inl hf)).imp fun Dn σ H h => own_read (fun _ _ _ q => q) h
theorem st_setT' {es : List Expr} {gs : List Tg} {e : Expr} {x : Ex} {k : Nat} {p : Pos} (hc : X.calm = true) (hg : PGs X es (rdGs X gs)) (hp : plainXs es = true) (hl : es.length = gs.length) (he : DE X glob F Wx e x) (hw : swappedStores [.Tuple es k p] e X.env = pure none) :
    DS X glob F Wx fr (.Assign [.Tuple es k p] e pos) (.set (.t gs) x) := (ps_asg he (g_t hc hg hp hl) sw_tuple hw rfl).imp fun Dn σ H h => asg_read (fun _ _ _ q => q) h
theorem nsT_of {es : List Expr} {e : Expr} {k : Nat} {p : Pos} (hs : X.env.scope = sc) (hk : sc.kind = .function) (h : nsT sc es e = true) : swappedStores [.Tuple es k p] e X.env = pure none := by
  unfold nsT at h
  split at h
  · rename_i vs kk pp hv
    rw [vTup_eq hv]
    rw [Bool.and_eq_true, Bool.or_eq_true] at h
    obtain ⟨h0, h⟩ := h
    unfold swappedStores
    show (if _ then pure none else _) = _
    split
    · rfl
    · show (if _ then pure none else _) = _
      split
      · rfl
      · show (if _ then pure none else _) = _
        generalize hnm : List.filterMap _ es = names
        have e0 : names = nmsL sc ((es.head?.map (·.pos.line)).getD 0) es := by
          rw [← hnm]
          subst hs
          unfold nmsL
          exact congrArg (fun f => es.filterMap f) (funext fun e => by cases e <;> rfl)
        split
        · rfl
        · rename_i hn
          rcases h with h | h
          · rw [e0, h] at hn; simp at hn
          · show (if _ then pure none else _) = _
            rw [if_pos h]
  · rename_i hv
    exact ss_tuple (by cases e <;> first | rfl | cases hv)
/-- what a comprehension's check gives -/
theorem lc_stmt {i : Nat} {y : Str} {py : Pos} {e : Expr} {x : Ex} {g : Tg} {w : Wk} {c : Option Ex} {ws : List Nat} (hN : X.N = N) (hs : X.env.scope = sc) (k : KitS X T glob F Wx) (hi : N[i]? = some y) (h : chkE T N sc (.lc x g w c ws) e = true) (hsw : swB sc y py e = true) :
    DS X glob F Wx fr (.Assign [.Name y py] e pos) (.set (.v i) (.lc x g w c ws)) ∧ DS X glob F Wx fr (.Assign [.Name y py] e pos) (.own i (.lc x g w c ws)) := by
  unfold chkE at h
  split at h
  · rename_i el t it ifs scope p hv
    unfold swB at hsw
    rw [hv] at hsw
    rw [vLc_eq hv]
    simp only [Bool.and_eq_true, decide_eq_true_eq] at h hsw
    obtain ⟨⟨⟨⟨⟨⟨⟨h1, h2⟩, h3⟩, h4⟩, h5⟩, h6⟩, h7⟩, h8⟩ := h
    obtain ⟨⟨s1, s2⟩, s3⟩ := hsw
    have hW := chkW_ok w t it X Wx sc hN hs k.toKit h1
    have okb : BlkOk X.N X.env.scope scope (ownOf N sc ws) := by rw [hN, hs]; exact blkOk_by h7
    have hgs : ∀ j ∈ tgSl g, j ∈ ws := fun j m => of_decide_eq_true (List.all_eq_true.mp h6 j m)
    subst hs
    have hy : X.N[i]? = some y := by rw [hN]; exact hi
    have hyl : X.env.scope.names.lookup y = some .local := of_decide_eq_true s1
    have sw : swapsWith (.ListComp el [⟨t, it, ifs, 0⟩] scope p) (some (.Name y py)) pos.line X.env = pure true := sw_true k.kind hyl s2 (by simpa using s3)
    have hg := fun (s : Shared) (H : Hp) (C : Addr) (cl : List (Str × Addr)) (fp : List Addr) => chkG_ok (X := X.blk s H scope (compEnvC scope cl C X.env) fp) hN k.nd k.calm rfl (fun n hn => by show (scope.names.lookup n == some .cell) = true; rw [of_decide_eq_true hn]; rfl) h2
    have ht := fun (s : Shared) (H : Hp) (C : Addr) (cl : List (Str × Addr)) (fp : List Addr) => chkC_ok c ifs (X.blk s H scope (compEnvC scope cl C X.env) fp) W0 _ hN rfl (k.toKit.blk s H scope _ fp) h3
    have he := fun (s : Shared) (H : Hp) (C : Addr) (cl : List (Str × Addr)) (fp : List Addr) => (chkE_ok x el (X.blk s H scope (compEnvC scope cl C X.env) fp) W0 _ hN rfl (k.toKit.blk s H scope _ fp) h4).pe
    exact ⟨st_lcT (t := fun _ _ _ => True) k.calm k.nd hy hyl sw hW okb h8 hg ht he h5 (fun Dn σ H q => lc_asgE hgs q), st_lcT (t := fun _ _ _ => True) k.calm k.nd hy hyl sw hW okb h8 hg ht he h5 (fun Dn σ H q => lc_asgF hgs q)⟩
  · cases h
theorem par_args (k : Kit X T glob F Wx) (hN : X.N = N) (hs : X.env.scope = sc) : ∀ {is : List (Nat × Hold)} {xs : List Ex} {es : List Expr}, parB T N sc is xs es = true → PA X es (tP X glob F Wx is xs)
  | [], [], [], h => p_nil
  | (i, hd) :: is, x :: xs, e :: es, h => by
    simp only [parB, Bool.and_eq_true] at h
    obtain ⟨⟨⟨h1, h2⟩, h3⟩, h4⟩ := h
    have g := chkE_ok x e X Wx sc hN hs k h1
    cases hd with
    | val => exact p_val g.pe (par_args k hN hs h4) h2
    | own => exact p_own (g.pf h3) (par_args k hN hs h4) h2
  | [], [], _ :: _, h => by simp [parB] at h
  | [], _ :: _, _, h => by simp [parB] at h
  | _ :: _, [], _, h => by simp [parB] at h
  | _ :: _, _ :: _, [], h => by simp [parB] at h
theorem parB_len : ∀ {is : List (Nat × Hold)} {xs : List Ex} {es : List Expr}, parB T N sc is xs es = true → is.length = xs.length ∧ es.length = xs.length
  | [], [], [], h => ⟨rfl, rfl⟩
  | (i, hd) :: is, x :: xs, e :: es, h => by
    simp only [parB, Bool.and_eq_true] at h
    have := parB_len h.2
    simp [this.1, this.2]
  | [], [], _ :: _, h => by simp [parB] at h
  | [], _ :: _, _, h => by simp [parB] at h
  | _ :: _, [], _, h => by simp [parB] at h
  | _ :: _, _ :: _, [], h => by simp [parB] at h
theorem nm2_eq {ts : List Expr} {y z : Str} {py pz : Pos} (h : nm2 ts = some (y, py, z, pz)) : ts = [.Name y py, .Name z pz] := by unfold nm2 at h; split at h <;> first | (cases h; rfl) | cases h
theorem nm3_eq {ts : List Expr} {y z w : Str} {py pz pw : Pos} (h : nm3 ts = some (y, py, z, pz, w, pw)) : ts = [.Name y py, .Name z pz, .Name w pw] := by unfold nm3 at h; split at h <;> first | (cases h; rfl) | cases h
theorem is2_eq {is : List (Nat × Hold)} {i j : Nat} {a b : Hold} (h : is2 is = some (i, a, j, b)) : is = [(i, a), (j, b)] := by unfold is2 at h; split at h <;> first | (cases h; rfl) | cases h
theorem is3_eq {is : List (Nat × Hold)} {i j l : Nat} {a b c : Hold} (h : is3 is = some (i, a, j, b, l, c)) : is = [(i, a), (j, b), (l, c)] := by unfold is3 at h; split at h <;> first | (cases h; rfl) | cases h
theorem len2 {α : Type} {l : List α} (h : l.length = 2) : ∃ a b, l = [a, b] := by
  match l, h with
  | [a, b], _ => exact ⟨a, b, rfl⟩
theorem len3 {α : Type} {l : List α} (h : l.length = 3) : ∃ a b c, l = [a, b, c] := by
  match l, h with
  | [a, b, c], _ => exact ⟨a, b, c, rfl⟩
theorem par2_ok {i j : Nat} {hi hj : Hold} {y z : Str} {py pz p1 p2 : Pos} {k1 k2 : Nat} {es : List Expr} {xs : List Ex} (k : KitS X T glob F Wx) (hN : X.N = N) (hs : X.env.scope = sc) (h1 : plainXs es = true) (h2 : es.all (foldedForSure 8) = false) (h3 : es.all (constantsAlone 8) = false)
    (h4 : parB T N sc [(i, hi), (j, hj)] xs es = true) (h5 : par2B N sc i j y py z pz es.length = true) : DS X glob F Wx fr (.Assign [.Tuple [.Name y py, .Name z pz] k1 p1] (.Tuple es k2 p2) pos) (.par [(i, hi), (j, hj)] xs) := by
  unfold par2B at h5
  simp only [Bool.and_eq_true, decide_eq_true_eq] at h5
  obtain ⟨⟨⟨⟨⟨⟨⟨q1, q2⟩, q3⟩, q4⟩, q5⟩, q6⟩, q7⟩, q8⟩ := h5
  obtain ⟨l1, l2⟩ := parB_len h4
  obtain ⟨a, b, rfl⟩ := len2 q8
  obtain ⟨xa, xb, rfl⟩ := len2 (l2.symm.trans q8)
  have hy : X.env.scope.names.lookup y = some .local := by rw [hs]; exact of_decide_eq_true q4
  have hz : X.env.scope.names.lookup z = some .local := by rw [hs]; exact of_decide_eq_true q5
  exact st_par2 (ta := tNil) k.calm k.nd (by rw [hN]; exact q1) (by rw [hN]; exact q2) q3 hy hz (par_args k.toKit hN hs h4) (sw_par2 k.kind hy hz q6 q7 h1 h2 h3)
theorem par3_ok {i j l : Nat} {hi hj hl : Hold} {y z w : Str} {py pz pw p1 p2 : Pos} {k1 k2 : Nat} {es : List Expr} {xs : List Ex} (k : KitS X T glob F Wx) (hN : X.N = N) (hs : X.env.scope = sc) (h1 : plainXs es = true) (h2 : es.all (foldedForSure 8) = false) (h3 : es.all (constantsAlone 8) = false)
    (h4 : parB T N sc [(i, hi), (j, hj), (l, hl)] xs es = true) (h5 : par3B N sc i j l y py z pz w pw es.length = true) : DS X glob F Wx fr (.Assign [.Tuple [.Name y py, .Name z pz, .Name w pw] k1 p1] (.Tuple es k2 p2) pos) (.par [(i, hi), (j, hj), (l, hl)] xs) := by
  unfold par3B at h5
  simp only [Bool.and_eq_true, decide_eq_true_eq] at h5
  obtain ⟨⟨⟨⟨⟨⟨⟨⟨⟨⟨⟨⟨⟨⟨q1, q2⟩, q3⟩, q4⟩, q5⟩, q6⟩, q7⟩, q8⟩, q9⟩, qa⟩, qb⟩, qc⟩, qd⟩, qe⟩, qf⟩ := h5
  obtain ⟨l1, l2⟩ := parB_len h4
  obtain ⟨a, b, c, rfl⟩ := len3 qf
  obtain ⟨xa, xb, xc, rfl⟩ := len3 (l2.symm.trans qf)
  have hy : X.env.scope.names.lookup y = some .local := by rw [hs]; exact of_decide_eq_true q7
  have hz : X.env.scope.names.lookup z = some .local := by rw [hs]; exact of_decide_eq_true q8
  have hw : X.env.scope.names.lookup w = some .local := by rw [hs]; exact of_decide_eq_true q9
  exact st_par3 k.calm k.nd (by rw [hN]; exact q1) (by rw [hN]; exact q2) (by rw [hN]; exact q3) q4 q5 q6 hy hz hw (par_args k.toKit hN hs h4) (sw_par3 k.kind hy hz hw qa qb qc qd qe h1 h2 h3)
theorem par23_ok {is : List (Nat × Hold)} {ts es : List Expr} {p1 p2 : Pos} {k1 k2 : Nat} {xs : List Ex} (k : KitS X T glob F Wx) (hN : X.N = N) (hs : X.env.scope = sc) (h1 : plainXs es = true) (h2 : es.all (foldedForSure 8) = false) (h3 : es.all (constantsAlone 8) = false)
    (h4 : parB T N sc is xs es = true) (h5 : par23 N sc is ts es = true) : DS X glob F Wx fr (.Assign [.Tuple ts k1 p1] (.Tuple es k2 p2) pos) (.par is xs) := by
  unfold par23 at h5
  split at h5
  · rename_i e1 e2
    rw [is2_eq e1] at h4 ⊢
    rw [nm2_eq e2]
    exact par2_ok k hN hs h1 h2 h3 h4 h5
  · split at h5
    · rename_i e1 e2
      rw [is3_eq e1] at h4 ⊢
      rw [nm3_eq e2]
      exact par3_ok k hN hs h1 h2 h3 h4 h5
    · cases h5
theorem loc_of {y : Str} (hs : X.env.scope = sc) (h : (lclB sc y || cellB sc y) = true) : Loc X.env.scope y := by
  rw [Bool.or_eq_true] at h
  rw [hs]
  exact h.imp of_decide_eq_true of_decide_eq_true
mutual
theorem chkS_ok (hN : X.N = N) (hs : X.env.scope = sc) (k : KitS X T glob F Wx) : ∀ (x : Sx) (st : Stmt), chkS T N sc fr x st = true → DS X glob F Wx fr st x
  | .nope, st, h => st_nope
  | .pass, st, h => by
    unfold chkS at h
    obtain ⟨p, hv⟩ := Option.isSome_iff_exists.mp h
    rw [vPass_eq hv]
    exact st_pass
  | .set (.v i) x, st, h => by
    unfold chkS at h
    split at h
    · rename_i t e p hv
      rw [vAsg_eq hv]
      split at h
      · rename_i y py hn
        rw [vName_eq hn]
        simp only [Bool.and_eq_true, decide_eq_true_eq] at h
        obtain ⟨⟨h1, h2⟩, h3⟩ := h
        rw [Bool.or_eq_true, Bool.and_eq_true, Bool.and_eq_true] at h3
        rcases h3 with ⟨h3, h4⟩ | ⟨h3, h4⟩
        · exact st_set' k.nd (by rw [hN]; exact h1) (loc_of hs h4) (k.fn y) (chkE_ok x e X Wx sc hN hs k.toKit h2).pe (ns_of hs h3)
        · cases x with
          | lc x g w c ws => exact (lc_stmt hN hs k h1 h2 h4).1
          | _ => cases h3
      · cases h
    · cases h
  | .set (.t gs) x, st, h => by
    unfold chkS at h
    split at h
    · rename_i t e p hv
      rw [vAsg_eq hv]
      split at h
      · rename_i es kk pp hn
        rw [vTup_eq hn]
        simp only [Bool.and_eq_true, decide_eq_true_eq] at h
        obtain ⟨⟨⟨⟨h1, h2⟩, h3⟩, h4⟩, h5⟩ := h
        exact st_setT' k.calm (chkGs_ok hN k.nd k.calm hs (fun n _ => k.fn n) h1 h2) h2 h3 (chkE_ok x e X Wx sc hN hs k.toKit h4).pe (nsT_of hs (by rw [← hs]; exact k.kind) h5)
      · cases h
    · cases h
  | .own i x, st, h => by
    unfold chkS at h
    split at h
    · rename_i t e p hv
      rw [vAsg_eq hv]
      split at h
      · rename_i y py hn
        rw [vName_eq hn]
        simp only [Bool.and_eq_true, decide_eq_true_eq] at h
        obtain ⟨⟨⟨h1, h2⟩, h0⟩, h3⟩ := h
        rw [Bool.or_eq_true, Bool.and_eq_true, Bool.and_eq_true] at h3
        rcases h3 with ⟨h3, h4⟩ | ⟨h3, h4⟩
        · exact st_own' k.nd (by rw [hN]; exact h1) (loc_of hs h4) (k.fn y) ((chkE_ok x e X Wx sc hN hs k.toKit h2).pf h0) (ns_of hs h3)
        · cases x with
          | lc x g w c ws => exact (lc_stmt hN hs k h1 h2 h4).2
          | _ => cases h3
      · cases h
    · cases h
  | .par is xs, st, h => by
    unfold chkS at h
    split at h
    · rename_i t e p hv
      rw [vAsg_eq hv]
      split at h
      · rename_i ts k1 p1 es k2 p2 hn he
        rw [vTup_eq hn, vTup_eq he]
        simp only [Bool.and_eq_true, Bool.not_eq_true'] at h
        obtain ⟨⟨⟨⟨h1, h2⟩, h3⟩, h4⟩, h5⟩ := h
        exact par23_ok k hN hs h1 h2 h3 h4 h5
      · cases h
    · cases h
  | .ret x, st, h => by
    unfold chkS at h
    split at h
    · rename_i e p hv
      rw [vRet_eq hv]
      simp only [Bool.and_eq_true] at h
      have g := chkE_ok x e X Wx sc hN hs k.toKit h.1
      cases fr with
      | false => exact st_ret g.pe
      | true => exact st_retF (g.pf (by simpa using h.2))
    · cases h
  | .retN, st, h => by
    unfold chkS at h
    obtain ⟨p, hv⟩ := Option.isSome_iff_exists.mp h
    rw [vRetN_eq hv]
    exact st_retN
  | .ite c a b, st, h => by
    unfold chkS at h
    split at h
    · rename_i e p q ps hv
      rw [vIfS_eq hv]
      simp only [Bool.and_eq_true] at h
      exact st_if (chkE_ok c e X Wx sc hN hs k.toKit h.1.1).pt (chkSs_ok hN hs k a p h.1.2) (chkSs_ok hN hs k b q h.2)
    · cases h
  | .for_ g w b, st, h => by
    unfold chkS at h
    split at h
    · rename_i t it body p hv
      rw [vFor_eq hv]
      simp only [Bool.and_eq_true] at h
      obtain ⟨⟨⟨h1, h2⟩, h3⟩, h4⟩ := h
      exact st_for k.hp k.calm (chkW_ok w t it X Wx sc hN hs k.toKit h1) (chkG_ok hN k.nd k.calm hs (fun n _ => k.fn n) h2) (chkSs_ok hN hs k b body h3) h4
    · cases h
  | .while_ c b, st, h => by
    unfold chkS at h
    split at h
    · rename_i e body p hv
      rw [vWh_eq hv]
      simp only [Bool.and_eq_true] at h
      exact st_while k.hp (chkE_ok c e X Wx sc hN hs k.toKit h.1).pt (chkSs_ok hN hs k b body h.2)
    · cases h
  | .app i x, st, h => by
    unfold chkS at h
    split at h
    · rename_i e p hv
      rw [vEx_eq hv]
      split at h
      · rename_i o n p1 b p2 hm
        rw [vMeth_eq hm]
        simp only [Bool.and_eq_true, decide_eq_true_eq] at h
        obtain ⟨⟨⟨⟨rfl, h2⟩, h3⟩, h4⟩, h5⟩ := h
        obtain ⟨m, pm, rfl, h6, h7, h8, h9⟩ := var_of hN hs h2
        exact st_app h9 (chkE_ok x b X Wx sc hN hs k.toKit h4).pe h3 h5
      · cases h
    · cases h
  | .shPut i kk x, st, h => by
    unfold chkS at h
    split at h
    · rename_i t e p hv
      rw [vAsg_eq hv]
      split at h
      · rename_i o k' rest hm
        obtain ⟨j, p2, p3⟩ := rest
        rw [vSubC_eq hm]
        simp only [Bool.and_eq_true, decide_eq_true_eq] at h
        obtain ⟨⟨h1, rfl⟩, h3⟩ := h
        obtain ⟨m, pm, rfl, h6, h7, h8, h9⟩ := var_of hN hs h1
        exact st_shPut h9 (chkE_ok x e X Wx sc hN hs k.toKit h3).pe
      · cases h
    · cases h
  | .ex x, st, h => by
    unfold chkS at h
    split at h
    · rename_i e p hv
      rw [vEx_eq hv]
      simp only [Bool.and_eq_true, Bool.not_eq_true'] at h
      exact st_ex (chkE_ok x e X Wx sc hN hs k.toKit h.1).pe h.2
    · cases h
  | .put .., st, h => by simp [chkS] at h
  | .raise _, st, h => by simp [chkS] at h
theorem chkSs_ok (hN : X.N = N) (hs : X.env.scope = sc) (k : KitS X T glob F Wx) : ∀ (xs : List Sx) (sts : List Stmt), chkSs T N sc fr xs sts = true → DSs X glob F Wx fr sts xs
  | [], [], h => ss_nil
  | x :: xs, st :: sts, h => by
    by_cases hx : x = .nope
    · subst hx; exact ss_nope
    · have h : (chkS T N sc fr x st && chkSs T N sc fr xs sts) = true := by
        cases x <;> first | exact absurd rfl hx | (simpa [chkSs] using h)
      rw [Bool.and_eq_true] at h
      exact ss_cons (chkS_ok hN hs k x st h.1) (chkSs_ok hN hs k xs sts h.2)
  | [], _ :: _, h => by simp [chkSs] at h
  | x :: xs, [], h => by
    by_cases hx : x = .nope
    · subst hx; exact ss_nope
    · cases x <;> first | exact absurd rfl hx | (simp [chkSs] at h)
end
end
end TD

-- TZ
set_option maxHeartbeats 4000000
/-! the program's defs keep their promises -/
namespace TD
open PySem PySem.Spec PyProof.Rows L2
def tblOf (T : List Df) (i : Nat) : Option Fn := (atT T i).map (·.fn)
/-- what must be known of the module -/
structure Pg (P : Program) (w : World) (K : PySem.W.Frag) (mg : Str → Option Value) (T : List Df) (glob : Str → Option D) (pf : Nat → List Str) : Prop where
  bt : ∀ n ∈ btNs, mg n = none
  gl : ∀ (n : Str) (d : D), glob n = some d → ∃ u v, mg n = some u ∧ RelV v u ∧ ∀ M γ H, Rp P w K M γ H v d
  fn : ∀ (i : Nat) (d : Df), atT T i = some d → ∃ (f : Addr) (fd : FuncData) (N : List Str) (qual : Str) (params : Arguments) (body : List Stmt) (scope : Scope) (kws : List (Str × V)), FunD K d.nm qual params body scope [] kws f fd ∧ FnScope N (pf i) scope ∧ d.fn.np = (pf i).length ∧ d.fn.ns = N.length ∧
    chkSs T N scope d.fr d.fn.body body = true ∧ mg d.nm = some (.ref f) ∧ PySem.W.keepIn K (.ref f) = true ∧ ∀ (s : Shared) (us : List Value), us.length = (pf i).length → BindsTo s fd ⟨us, []⟩ ((pf i).zip us)
section
variable {X : Cx} {U : Addr → Prop} {γ : List Addr} {H : Hp} {σ : L2.St} {s : S} {g : List (List D)}
theorem noOwn_start {ds : List D} {n : Nat} : noOwn (ds.map .val ++ List.replicate n .no) := fun i c e => by
  have m := List.mem_of_getElem? e
  rcases List.mem_append.mp m with m | m
  · obtain ⟨d, _, rfl⟩ := List.mem_map.mp m; rfl
  · rw [(List.mem_replicate.mp m).2]; rfl
theorem mv_same {ρ : List Sl} (h : noOwn ρ) : Mv U γ σ ρ = Mv U γ [] [] := funext fun a => propext ⟨fun m => m.elim .inl fun m => m.elim (fun m => .inr (.inl m)) fun m => absurd m h.not, fun m => m.elim .inl fun m => m.elim (fun m => .inr (.inl m)) fun m => absurd m not_owned⟩
theorem cv_same {ρ : List Sl} {a : Addr} (h : noOwn ρ) : Cv γ σ ρ a ↔ a ∈ γ := ⟨fun m => m.elim id fun m => absurd m h.not, .inl⟩
/-- a def's body begins -/
theorem Ok.enter {vs : List V} {ds : List D} {N : List Str} {ns : Nat} (ok : XOk X U γ H [] (S0 g)) (rs : XRs X (Mv U γ [] []) γ H vs ds) (hn : ns = N.length) (hl : ds.length ≤ ns) : XOk X U γ H (start N vs) ⟨ds.map .val ++ List.replicate (ns - ds.length) .no, g⟩ := by
  have no : noOwn (ds.map Sl.val ++ List.replicate (ns - ds.length) Sl.no) := noOwn_start
  have eM : Mv U γ (start N vs) (ds.map .val ++ List.replicate (ns - ds.length) .no) = Mv U γ [] [] := mv_same no
  have hv := rs.length
  refine ⟨?_, fun i c e => ?_, by show GOk _ _ _ (Mv _ _ _ _) _ _ _; rw [eM]; exact ok.st, fun a m => ok.dom a (by rw [← eM]; exact m), fun i j a q => absurd ⟨i, q⟩ no.not, fun a q => absurd q no.not, fun a q => absurd q no.not, fun i a q => ?_⟩
  · show (ds.map Sl.val ++ List.replicate (ns - ds.length) Sl.no).length = (start N vs).length
    unfold L2.start
    simp [hv, hn]
  · show SlOk _ _ _ (Mv _ _ _ _) _ _ _ _
    rw [eM]
    have e : (ds.map Sl.val ++ List.replicate (ns - ds.length) Sl.no)[i]? = some c := e
    by_cases hi : i < ds.length
    · rw [List.getElem?_append_left (by simpa using hi), List.getElem?_map, List.getElem?_eq_getElem hi] at e
      cases e
      obtain ⟨v, ev, rv⟩ := rs.get' (List.getElem?_eq_getElem hi)
      refine ⟨v, ?_, rv⟩
      unfold L2.start
      rw [List.getElem?_append_left (by simp; omega), List.getElem?_map, ev]
      rfl
    · have m := List.mem_of_getElem? e
      rw [List.getElem?_append_right (by simp; omega)] at e
      rw [(List.mem_replicate.mp (List.mem_of_getElem? e)).2]
      trivial
  · have : ∀ {c : Sl}, isPk c = true → (ds.map Sl.val ++ List.replicate (ns - ds.length) Sl.no)[i]? = some c → False := fun {c} k e => by
      rcases List.mem_append.mp (List.mem_of_getElem? e) with m | m
      · obtain ⟨d, _, rfl⟩ := List.mem_map.mp m; cases k
      · rw [(List.mem_replicate.mp m).2] at k; cases k
    rcases q with ⟨l, e⟩ | ⟨l, e⟩
    · exact (this rfl e).elim
    · exact (this rfl e).elim
/-- .. has ended -/
theorem Ok.leave (ok : XOk X U γ H σ s) : XOk X U γ H [] (S0 s.g) := by
  have less : ∀ a, Mv U γ [] [] a → Mv U γ σ s.r a := fun a m => m.elim .inl fun m => m.elim (fun m => .inr (.inl m)) fun m => absurd m not_owned
  exact ⟨rfl, fun i c e => by simp at e, ⟨ok.st.len, ok.st.nd, fun n l a e1 e2 => by obtain ⟨vs, h1, r⟩ := ok.st.at_ n l a e1 e2; exact ⟨vs, h1, r.ext (Ext.less less)⟩⟩, fun a m => ok.dom a (less a m), fun i j a q => absurd ⟨i, q⟩ not_owned, fun a q => absurd q not_owned, fun a q => absurd q not_owned,
    fun i a q => by rcases q with ⟨l, e⟩ | ⟨l, e⟩ <;> simp at e⟩
theorem Xt.leave {γ' : List Addr} {H' : Hp} {σ' : L2.St} {s' : S} (no : noOwn s.r) (x : Xt U (Cv γ σ s.r) γ H (Cv γ' σ' s'.r) γ' H') : Xt U (Cv γ [] []) γ H (Cv γ' [] []) γ' H' := by
  have e1 : Cv γ σ s.r = Cv γ [] [] := funext fun a => propext ((cv_same no).trans cv_nil.symm)
  rw [e1] at x
  exact x.trans (Xt.less fun a m => .inl (cv_nil.mp m))
end
theorem body_read {P : Program} {w : World} {K : PySem.W.Frag} {mg : Str → Option Value} {X : Cx} (hP : X.prog = P) (hw : X.w = w) (hK : X.K = K) (hm : X.mg = mg) {glob : Str → Option D} {F : Fs} {fn : Fn} {fr : Bool} {i : Nat} {G : Fs} {N : List Str} (hG : ∀ ds s, G i ds s = evFn glob F fn ds s) (hN : fn.ns = N.length)
    {vs : List V} {H : Hp} {Q : VK} {E : XK} (h : spF P w K mg G fn.np fr i vs H Q E) : rdSs X glob F (fun c d _ H' => E c d H') fr fn.body { nx := fun _ H' => Q .non H', rt := Q } (start N vs) H := by
  subst hP hw hK hm
  obtain ⟨hl, U, γ, ds, g, ok, rs, h⟩ := h
  rw [hG] at h
  have hds : ds.length = fn.np := by rw [← rs.length]; exact hl
  by_cases hc : ds.length = fn.np ∧ fn.np ≤ fn.ns
  · unfold evFn at h
    rw [if_pos hc] at h
    have no : noOwn (ds.map Sl.val ++ List.replicate (fn.ns - fn.np) Sl.no) := noOwn_start
    have okE : XOk X U γ H (start N vs) ⟨ds.map .val ++ List.replicate (fn.ns - fn.np) .no, g⟩ := by
      have := Ok.enter (N := N) ok rs hN (by omega)
      rw [hds] at this
      exact this
    refine ⟨U, γ, ⟨ds.map .val ++ List.replicate (fn.ns - fn.np) .no, g⟩, okE, ?_⟩
    have h : RRp X.prog X.w X.K X.mg (fun c dx _ H' => E c dx H') U γ H [] (S0 g) (((evSs glob F fn.body ⟨ds.map .val ++ List.replicate (fn.ns - fn.np) .no, g⟩).bind fun o s1 => match o with
      | .nx => .ok .non s1
      | .ret d => .ok d s1).called (S0 g)) (kV X.prog X.w X.K fr U γ H [] (S0 g) Q) := h
    cases e : evSs glob F fn.body ⟨ds.map .val ++ List.replicate (fn.ns - fn.np) .no, g⟩ with
    | bad => rw [e] at h; exact h.elim
    | exc x s' =>
      rw [e] at h
      intro γ' H' σ' c dx ok' x' xr
      refine h γ' H' c dx ok'.leave (x'.leave no) ?_
      have less : ∀ a, Mv U γ' [] [] a → Mv U γ' σ' s'.r a := fun a m => m.elim .inl fun m => m.elim (fun m => .inr (.inl m)) fun m => absurd m not_owned
      obtain ⟨x1, x2⟩ := xr
      refine ⟨x1, ?_⟩
      split at x2
      · exact x2
      · obtain ⟨y, v, y1, y2, y3⟩ := x2
        exact ⟨y, v, y1, y2, y3.ext (Ext.less less)⟩
    | ok o s' =>
      rw [e] at h
      cases o with
      | nx =>
        intro γ' H' σ' ok' x'
        have k := h γ' H' ok'.leave (x'.leave no)
        unfold kV at k
        cases fr with
        | false => exact k _ .non
        | true => exact k _ .non
      | ret d =>
        intro γ' H' σ' ok' x'
        have k := h γ' H' ok'.leave (x'.leave no)
        have less : ∀ a, Mv U γ' [] [] a → Mv U γ' σ' s'.r a := fun a m => m.elim .inl fun m => m.elim (fun m => .inr (.inl m)) fun m => absurd m not_owned
        unfold kV at k
        unfold kS
        cases fr with
        | false => exact fun v rv => k v (rv.ext (Ext.less less))
        | true =>
          rw [if_pos rfl]
          have k : kFp X.prog X.w X.K U γ H [] (S0 g) Q d (S0 s'.g) γ' H' := k
          unfold kFp at k
          cases ho : ownS d with
          | none => rw [ho] at k; exact fun v rv => k v (rv.ext (Ext.less less))
          | some c =>
            rw [ho] at k
            intro a na ca sl okA
            have lessA : ∀ b, Mv (Us U a) γ' [] [] b → Mv (Us U a) γ' σ' s'.r b := fun b m => m.elim .inl fun m => m.elim (fun m => .inr (.inl m)) fun m => absurd m not_owned
            exact k a (fun m => na (less a m)) (ca.imp (fun m => .inl ((cv_same no).mp m)) id) (sl.ext (Ext.less lessA) fun _ _ _ => rfl) okA.leave
  · unfold evFn at h
    rw [if_neg hc] at h
    exact h.elim
/-- every def keeps its promise -/
theorem all_ok {P : Program} {w : World} {K : PySem.W.Frag} {mg : Str → Option Value} {T : List Df} {glob : Str → Option D} {pf : Nat → List Str} (pg : Pg P w K mg T glob pf) : ∀ (n i : Nat) (d : Df), atT T i = some d →
    ∃ (f : Addr) (fd : FuncData), (∀ base : Heap, FnOk P w K mg base (L2.CX P w) n f fd (pf i) (spF P w K mg (run glob (tblOf T) n) d.fn.np d.fr i)) ∧ mg d.nm = some (.ref f) ∧ PySem.W.keepIn K (.ref f) = true ∧ ∀ (s : Shared) (us : List Value), us.length = (pf i).length → BindsTo s fd ⟨us, []⟩ ((pf i).zip us)
  | 0, i, d, hd => by
    obtain ⟨f, fd, N, qual, params, body, scope, kws, hF, hS, hnp, hns, hc, hm, hk, hb⟩ := pg.fn i d hd
    have no : ∀ {vs H Q E}, ¬ spF P w K mg (run glob (tblOf T) 0) d.fn.np d.fr i vs H Q E := fun {vs H Q E} h => by
      obtain ⟨_, U, γ, ds, g, _, _, h⟩ := h
      exact h
    exact ⟨f, fd, fun base => ⟨fun vs H Q E h => absurd h no, fun A outer s H args us vs Q E _ _ _ _ h => absurd h no⟩, hm, hk, hb⟩
  | n + 1, i, d, hd => by
    obtain ⟨f, fd, N, qual, params, body, scope, kws, hF, hS, hnp, hns, hc, hm, hk, hb⟩ := pg.fn i d hd
    refine ⟨f, fd, fun base => hF.ok hS (fun vs H Q E h => h.1.trans hnp) fun cdv A outer s H vs Q E hr hsp => ?_, hm, hk, hb⟩
    have kit : KitS (cxOf (L2.CX P w) P w K mg base N qual scope f cdv A outer s H E) T glob (run glob (tblOf T) n) (fun c d _ H' => E c d H') :=
      { calm := rfl, nd := hS.nd, un := by have := hr.un; show (A.deeper (envOfC qual scope s.heap.objs.size f cdv)).units + 65 < _; omega, tk := takes_of rfl rfl rfl rfl, bt := pg.bt, gl := pg.gl,
        call := fun j d' hd' => by
          obtain ⟨f', fd', q1, q2, q3, q4⟩ := all_ok pg n j d' hd'
          exact ⟨n, f', fd', pf j, q1 _, hr, q2, q3, fun s us _ hl => by rw [List.append_nil] at hl ⊢; exact q4 s us hl⟩
        hp := passes_of rfl, kind := hS.kind, fn := fun _ => rfl }
    refine ⟨_, chkSs_ok (N := N) (sc := scope) (fr := d.fr) rfl rfl kit d.fn.body body hc, body_read rfl rfl rfl rfl (G := run glob (tblOf T) (n + 1)) (fun ds s => ?_) hns hsp⟩
    show (match tblOf T i with | some fn => evFn glob (run glob (tblOf T) n) fn ds s | none => .bad) = _
    unfold tblOf
    rw [hd]
    rfl
end TD

-- UA
set_option maxHeartbeats 4000000
/-! heads: what binds, the Hook -/
namespace TD
open PySem PySem.Spec PyProof.Rows L2
theorem zip_lookup : ∀ {ns : List Str} {us : List Value}, ns.Nodup → us.length = ns.length → ∀ n ∈ ns, ((ns.zip us).lookup n).isSome = true
  | n :: ns, u :: us, nd, hl, m, hm => by
    rw [List.zip_cons_cons, List.lookup_cons]
    cases e : (m == n) with
    | true => rfl
    | false =>
      rcases List.mem_cons.mp hm with z | z
      · rw [z] at e; simp at e
      · exact zip_lookup (List.nodup_cons.mp nd).2 (by simpa using hl) m z
  | n :: ns, [], nd, hl, m, hm => by simp at hl
theorem zip_again : ∀ {ns : List Str} {us : List Value}, ns.Nodup → us.length = ns.length → ns.filterMap (fun n => ((ns.zip us).lookup n).map (n, ·)) = ns.zip us
  | [], _, _, _ => rfl
  | n :: ns, [], nd, hl => by simp at hl
  | n :: ns, u :: us, nd, hl => by
    obtain ⟨h1, h2⟩ := List.nodup_cons.mp nd
    rw [List.zip_cons_cons, List.filterMap_cons]
    have e : (((n, u) :: ns.zip us).lookup n) = some u := by rw [List.lookup_cons]; simp
    rw [e]
    show (n, u) :: _ = _
    refine congrArg _ ?_
    refine Eq.trans ?_ (zip_again (us := us) h2 (by simpa using hl))
    have key : ∀ (ms : List Str), (∀ m ∈ ms, m ≠ n) → ms.filterMap (fun m => (((n, u) :: ns.zip us).lookup m).map (m, ·)) = ms.filterMap fun m => ((ns.zip us).lookup m).map (m, ·) := fun ms => by
      induction ms with
      | nil => intro _; rfl
      | cons m ms ih =>
        intro h
        rw [List.filterMap_cons, List.filterMap_cons, ih fun k hk => h k (List.mem_cons_of_mem _ hk), List.lookup_cons]
        have : (m == n) = false := by
          cases e : (m == n) with
          | false => rfl
          | true => exact absurd (eq_of_beq e) (h m List.mem_cons_self)
        rw [this]
    exact key ns fun m hm z => h1 (by rw [← z]; exact hm)
theorem bind_plain {x qual : Str} {as : List Arg} {kd : List (Option Expr)} {df : List Expr} {body : List Stmt} {scope : Scope} {kV doc pm : Value} {an : Option Addr} {cdv ct : Value} {us : List Value} (nd : (as.map (·.arg)).Nodup) (hl : us.length = (as.map (·.arg)).length) :
    bindArgs (PySem.W.fnOf x qual ⟨[], as, none, [], kd, none, df⟩ body scope .none kV doc pm an cdv ct) ⟨us, []⟩ = pure ((as.map (·.arg)).zip us) := by
  have h1 := zip_lookup nd hl
  have h2 := zip_again nd hl
  have hm : ((as.map (·.arg)).filter fun n => (((as.map (·.arg)).zip us).lookup n).isNone) = [] := by
    rw [List.filter_eq_nil_iff]
    intro n hn
    have := h1 n hn
    rw [Option.isSome_iff_exists] at this
    obtain ⟨v, e⟩ := this
    rw [e]
    simp
  have hd : seqItems? Value.none = pure none := rfl
  unfold bindArgs
  simp only [PySem.W.fnOf, List.map_nil, List.nil_append, List.append_nil, hd, pure_bind, hl]
  generalize as.map (·.arg) = ns at *
  have e0 : ns.take (ns.length - (List.drop (0 - ns.length) ([] : List Value)).length) = ns := by simp
  have e1 : (List.drop ((#[] : Array Value).toList.length - ns.length) (#[] : Array Value).toList) = [] := by simp
  simp [hm, h2]
end TD

-- UB
set_option maxHeartbeats 4000000
/-! heads -/
namespace TD
open PySem PySem.Spec PyProof.Rows L2
def defsOf (b : List Stmt) : List He.DefD := b.filterMap fun
  | .FunctionDef n a b _ _ _ sc _ _ _ => some ⟨(n, none), n, n, a, b, sc, [], []⟩
  | _ => none
/-- the parameters' names, if they are plain -/
def plainPs : Arguments → Option (List Str)
  | ⟨[], as, none, [], _, none, _⟩ => some (as.map (·.arg))
  | _ => none
def fnScB (N ps : List Str) (sc : Scope) : Bool := (match sc.kind with | .function => true | _ => false) && !sc.isCoroutine && !sc.isGenerator && decide N.Nodup && decide (N.take ps.length = ps) &&
  ps.all (fun x => decide (sc.names.lookup x = some .local) || decide (sc.names.lookup x = some .cell)) && sc.names.all fun y => match y.2 with | .free => false | _ => true
def chk1 (T : List Df) (N : List Str) (d : Df) (e : He.DefD) : Bool := match plainPs e.params with
  | some ps => decide (d.nm = e.name) && decide (e.at_ = (e.name, none)) && e.dfl.isEmpty && e.kwd.isEmpty && decide ps.Nodup && fnScB N ps e.scope && decide (d.ps = ps) && decide (d.fn.np = ps.length) && decide (d.fn.ns = N.length) && chkSs T N e.scope d.fr d.fn.body e.body
  | none => false
def chkAll (T : List Df) : List (List Str) → List Df → List He.DefD → Bool
  | N :: Ns, d :: ds, e :: es => chk1 T N d e && chkAll T Ns ds es
  | [], [], [] => true
  | _, _, _ => false
def psOf (T : List Df) (i : Nat) : List Str := match atT T i with
  | some d => d.ps
  | none => []
def strsOf : List D → Option (List Str)
  | [] => some []
  | .str z :: l => (strsOf l).map (z :: ·)
  | _ => none
/-- a constant of the module -/
def cB (K : PySem.W.Frag) (x : Str) : D → Bool
  | .str z => (He.Fa.str x z).ok K && PyData.strOk z
  | .int i => (He.Fa.int x i).ok K
  | .tup l => match strsOf l with
    | some zs => He.tupB K x (zs.map He.Dv.str) && ((He.Fa.glo x).ok K && zs.all PyData.strOk)
    | none => false
  | _ => false
def csB (cs : List (Str × D)) (K : PySem.W.Frag) : Bool := cs.all fun p => cB K p.1 p.2
def globOf (cs : List (Str × D)) (x : Str) : Option D := cs.lookup x
/-- what the top is asked -/
def fasOf (fn : List He.DefD) : List He.Fa := fn.map (fun d => .glo d.name) ++ btNs.map .free
def hookU (n : Nat) (fa : List He.Fa) (fn : List He.DefD) (ex : PySem.W.Frag → Bool) : PySem.W.Hook where
  α := He.AlD × Bool
  obs := fun s => (He.obsDG n fa fn s.heap.get?, ex (He.frG s.heap.get? (He.asD s.heap.get? n)))
  val := fun _ => (He.valD fn, true)
  says := fun _ h => ∃ K : PySem.W.Frag, K.In h ∧ He.SaysD fa fn K ∧ ex K = true
  of := fun _ _ e => ⟨_, He.frG_in, congrArg Prod.fst e, congrArg Prod.snd e⟩
  keeps := fun _ _ _ ⟨K, hK, c⟩ k => ⟨K, PySem.W.Frag.In.keeps hK k, c⟩
def obU (n : Nat) (fa : List He.Fa) (fn : List He.DefD) (ex : PySem.W.Frag → Bool) (s : PySem.W.SharedT) : He.AlD × Bool := (He.obsDG n fa fn (HandSHeadRun.getT s), ex (He.frG (HandSHeadRun.getT s) (He.asD (HandSHeadRun.getT s) n)))
theorem obU_eq {n : Nat} {fa : List He.Fa} {fn : List He.DefD} {ex : PySem.W.Frag → Bool} (s : PySem.W.SharedT) : obU n fa fn ex s = (hookU n fa fn ex).obs s.abs := by
  have e : HandSHeadRun.getT s = s.abs.heap.get? := funext (HandSHeadRun.getT_eq s)
  unfold obU
  rw [e] <;> rfl
theorem fnScB_ok {N ps : List Str} {sc : Scope} (h : fnScB N ps sc = true) : FnScope N ps sc := by
  unfold fnScB at h
  simp only [Bool.and_eq_true, Bool.not_eq_true', decide_eq_true_eq, List.all_eq_true, Bool.or_eq_true] at h
  obtain ⟨⟨⟨⟨⟨⟨h1, h2⟩, h3⟩, h4⟩, h5⟩, h6⟩, h7⟩ := h
  refine ⟨?_, h2, h3, h4, h5, h6, fun y hy e => ?_⟩
  · split at h1
    · assumption
    · cases h1
  · have := h7 y hy
    rw [e] at this
    cases this
theorem chkAll_at {T : List Df} : ∀ {Ns : List (List Str)} {ds : List Df} {es : List He.DefD}, chkAll T Ns ds es = true → ∀ {i : Nat} {d : Df}, ds[i]? = some d → ∃ N e, es[i]? = some e ∧ chk1 T N d e = true
  | N :: Ns, d :: ds, e :: es, h, 0, d', hd => by
    simp only [chkAll, Bool.and_eq_true] at h
    simp at hd
    subst hd
    exact ⟨N, e, rfl, h.1⟩
  | N :: Ns, d :: ds, e :: es, h, i + 1, d', hd => by
    simp only [chkAll, Bool.and_eq_true] at h
    obtain ⟨N', e', q1, q2⟩ := chkAll_at h.2 (i := i) (d := d') (by simpa using hd)
    exact ⟨N', e', by simpa using q1, q2⟩
  | [], [], [], h, i, d, hd => by simp at hd
  | [], [], _ :: _, h, _, _, _ => by simp [chkAll] at h
  | [], _ :: _, _, h, _, _, _ => by simp [chkAll] at h
  | _ :: _, [], _, h, _, _, _ => by simp [chkAll] at h
  | _ :: _, _ :: _, [], h, _, _, _ => by simp [chkAll] at h
theorem strsOf_rps {P : Program} {w : World} {K : PySem.W.Frag} {M : Addr → Prop} {γ : List Addr} {H : Hp} : ∀ {l : List D} {zs : List Str}, strsOf l = some zs → zs.all PyData.strOk = true → Rps P w K M γ H ((zs.map He.Dv.str).map (He.Dv.v K)) l
  | [], zs, h, _ => by cases h; exact .nil
  | .str z :: l, zs, h, hs => by
    have h : (strsOf l).map (z :: ·) = some zs := h
    cases q : strsOf l with
    | none => rw [q] at h; cases h
    | some ys =>
      rw [q] at h
      cases h
      simp only [List.all_cons, Bool.and_eq_true] at hs
      exact .cons (.str z hs.1) (strsOf_rps q hs.2)
  | .non :: _, _, h, _ => nomatch (show none = some _ from h)
  | .bl _ :: _, _, h, _ => nomatch (show none = some _ from h)
  | .int _ :: _, _, h, _ => nomatch (show none = some _ from h)
  | .tup _ :: _, _, h, _ => nomatch (show none = some _ from h)
  | .lst _ :: _, _, h, _ => nomatch (show none = some _ from h)
  | .dic _ :: _, _, h, _ => nomatch (show none = some _ from h)
  | .sdc _ :: _, _, h, _ => nomatch (show none = some _ from h)
  | .ref _ :: _, _, h, _ => nomatch (show none = some _ from h)
  | .kl _ :: _, _, h, _ => nomatch (show none = some _ from h)
theorem lookup_mem {x : Str} {d : D} : ∀ {cs : List (Str × D)}, cs.lookup x = some d → (x, d) ∈ cs
  | (y, e) :: cs, h => by
    rw [List.lookup_cons] at h
    cases q : (x == y) with
    | true => rw [q] at h; cases h; rw [eq_of_beq q]; exact List.mem_cons_self
    | false => rw [q] at h; exact List.mem_cons_of_mem _ (lookup_mem h)
theorem pg_of {P : Program} {w : World} {K : PySem.W.Frag} {h : Heap} {mg : Str → Option Value} {T : List Df} {Ns : List (List Str)} {fn : List He.DefD} {cs : List (Str × D)} (X : K.In h) (G : h.Ns mainGlobals mg) (c : He.SaysD (fasOf fn) fn K) (hc : csB cs K = true)
    (hk : chkAll T Ns T fn = true) : Pg P w K mg T (globOf cs) (psOf T) where
  bt := fun n hn => He.free_ok X G (c.facts (f := .free n) (List.mem_append_right _ (List.mem_map.mpr ⟨n, hn, rfl⟩)))
  gl := fun x d e => by
    have hm := lookup_mem e
    have hb : cB K x d = true := List.all_eq_true.mp hc (x, d) hm
    cases d with
    | str z =>
      obtain ⟨h1, h2⟩ := He.ba (show ((He.Fa.str x z).ok K && PyData.strOk z) = true from hb)
      obtain ⟨t, q⟩ := He.str_ok X G h1
      exact ⟨_, .str z, q, ⟨t, rfl⟩, fun M γ H => .str z h2⟩
    | int i =>
      obtain ⟨t, q⟩ := He.int_ok X G (show (He.Fa.int x i).ok K = true from hb)
      exact ⟨_, .int i, q, ⟨t, rfl⟩, fun M γ H => .int i⟩
    | tup l =>
      have hb : (match strsOf l with
        | some zs => He.tupB K x (zs.map He.Dv.str) && ((He.Fa.glo x).ok K && zs.all PyData.strOk)
        | none => false) = true := hb
      cases q : strsOf l with
      | none => rw [q] at hb; cases hb
      | some zs =>
        rw [q] at hb
        obtain ⟨h1, h2⟩ := He.ba hb
        obtain ⟨h3, h4⟩ := He.ba h2
        exact ⟨_, .ref (He.ga K x), He.glo_ok X G h3, rfl, fun M γ H => .tup (He.tupB_ok h1 H) (strsOf_rps q h4)⟩
    | _ => cases hb
  fn := fun i d hd => by
    have hmem : d ∈ T := List.mem_of_find?_eq_some hd
    obtain ⟨j, hj⟩ := List.mem_iff_getElem?.mp hmem
    obtain ⟨N, e, he, h1⟩ := chkAll_at hk hj
    have hm : e ∈ fn := List.mem_of_getElem? he
    obtain ⟨fd, F⟩ := c.defs hm
    have hg := He.glo_ok X G (c.facts (f := .glo e.name) (List.mem_append_left _ (List.mem_map.mpr ⟨e, hm, rfl⟩)))
    unfold chk1 at h1
    split at h1
    · rename_i ps hps
      simp only [Bool.and_eq_true, decide_eq_true_eq, List.isEmpty_iff] at h1
      obtain ⟨⟨⟨⟨⟨⟨⟨⟨⟨q1, q2⟩, q3⟩, q4⟩, q5⟩, q6⟩, q0⟩, q7⟩, q8⟩, q9⟩ := h1
      have e1 : psOf T i = ps := by unfold psOf; rw [hd]; exact q0
      have e2 : He.fAd K e.at_ = He.ga K e.name := by rw [q2]; rfl
      have hd : e.dvs K = [] := by unfold He.DefD.dvs; rw [q3]; rfl
      have hkw : e.kws K = [] := by unfold He.DefD.kws; rw [q4]; rfl
      rw [e2, hd, hkw] at F
      rw [e1]
      refine ⟨_, fd, N, e.qual, e.params, e.body, e.scope, [], by rw [q1]; exact F, fnScB_ok q6, q7, q8, q9, by rw [q1]; exact hg, F.kp, ?_⟩
      have hp : ∃ as kd df, e.params = ⟨[], as, none, [], kd, none, df⟩ ∧ ps = as.map (·.arg) := by
        revert hps
        generalize e.params = p
        intro hps
        unfold plainPs at hps
        split at hps
        · cases hps; exact ⟨_, _, _, rfl, rfl⟩
        · cases hps
      obtain ⟨as, kd, df, p1, p2⟩ := hp
      rw [p1] at F
      subst p2
      exact fun s us hl => F.bindsA (fun kV doc pm an cdv ct us hl => bind_plain q5 hl) s us hl
    · cases h1
/-- what is asked of the law -/
def Good (T : List Df) (cs : List (Str × D)) (n i : Nat) : Prop := ∀ ns : List Int, ns.length ≤ 63 → ∃ s, run (globOf cs) (tblOf T) n i [.kl (ns.map .int)] (S0 []) = .ok (.bl true) s
theorem ints_rps {P : Program} {w : World} {K : PySem.W.Frag} {M : Addr → Prop} {γ : List Addr} {H : Hp} : ∀ ns : List Int, Rps P w K M γ H (ns.map V.int) (ns.map .int)
  | [] => .nil
  | i :: ns => .cons (.int i) (ints_rps ns)
/-- the law's own promise -/
theorem law_sp {P : Program} {w : World} {K : PySem.W.Frag} {mg : Str → Option Value} {T : List Df} {cs : List (Str × D)} {n i : Nat} {fr : Bool} (hfr : fr = false) (good : Good T cs n i) {H : Hp} {a : Addr} {ns : List Int} (hl : ns.length ≤ 63) (hS : SqL K H a (ns.map V.int)) :
    spF P w K mg (run (globOf cs) (tblOf T) n) 1 fr i [.ref a] H (fun v _ => v = .bl true) fun _ _ _ => False := by
  subst hfr
  obtain ⟨s, e⟩ := good ns hl
  refine ⟨rfl, fun _ => False, [], [.kl (ns.map .int)], [], ?_, .cons (.kl ?_ (ints_rps ns)) .nil, ?_⟩
  · exact ⟨rfl, fun i c e => by simp at e, ⟨rfl, List.nodup_nil, fun n l a e => by simp at e⟩, fun a m => m.elim False.elim fun m => m.elim (fun m => absurd m (by simp)) fun m => absurd m not_owned, fun i j a q => absurd ⟨i, q⟩ not_owned, fun a q => absurd q not_owned, fun a q => absurd q not_owned, fun i a q => by rcases q with ⟨l, e⟩ | ⟨l, e⟩ <;> simp at e⟩
  · exact hS.elim (fun h => .inl ⟨h, fun m => m.elim False.elim fun m => m.elim (fun m => absurd m (by simp)) fun m => absurd m not_owned⟩) .inr
  · rw [e]
    intro γ' H' ok x v rv
    cases rv
    rfl
/-- THE END: the law at the heap behind the top -/
theorem law_F {l : PySem.W.OpenLaw} {w : World} {mg : Str → Option Value} {fa : Addr} {h : Heap} {T : List Df} {Ns : List (List Str)} {fn : List He.DefD} {cs : List (Str × D)} {n i : Nat} {d : Df} {x nm : Str} (Y : ∃ K : PySem.W.Frag, K.In h ∧ He.SaysD (fasOf fn) fn K ∧ csB cs K = true)
    (G : h.Ns mainGlobals mg) (hmg : mg nm = some (.ref fa)) (hk : chkAll T Ns T fn = true) (hd : atT T i = some d) (hnm : d.nm = nm) (hnp : d.fn.np = 1) (hfr : d.fr = false) (hps : psOf T i = [x]) (good : Good T cs n i) :
    ∃ K : PySem.W.Frag, K.In h ∧ LamX.LawAtS l w K (L2.CX l.prog w) n 63 x mg fa h := by
  obtain ⟨K, KX, c, hc⟩ := Y
  have pg : Pg l.prog w K mg T (globOf cs) (psOf T) := pg_of KX G c hc hk
  obtain ⟨f, fd, F, hf, hkp, hb⟩ := all_ok pg n i d hd
  rw [hnm, hmg] at hf
  cases hf
  rw [hps] at hb
  refine ⟨K, KX, fd, [], _, fun p hp => absurd hp (by simp), fun p hp => absurd hp (by simp), fun p hp => absurd hp (by simp), fun s u => hb s [u] rfl, fun H a ns hl _ _ hS => law_sp (P := l.prog) (w := w) (K := K) (mg := mg) (fr := d.fr) hfr good hl hS, fun base _ _ _ => ?_⟩
  have q := F base
  rw [hps, hnp] at q
  exact q
theorem cx_no {P : Program} {w : World} {H : Hp} {s : Shared} {e : Value} {s' : Shared} (h : L2.CX P w [] H s (fun _ _ _ => False) e s') : False := by
  obtain ⟨a, B, H', cls, d, _, _, _, _, _, _, _, z⟩ := h
  exact z
end TD

-- MA
set_option maxHeartbeats 1000000
/-! calls seen from outside; typed data; loops -/
namespace TD.P
open PySem PySem.Spec PyProof.Rows L2
/-- a program in my syntax -/
structure Pgm where
  glob : Str → Option D
  tbl : Nat → Option Fn
def Ev (p : Pgm) (n : Nat) : Fs := run p.glob p.tbl n
/-- a call: the caller's slots stay -/
def call (F : Fs) (f : Nat) (ds : List D) (s : S) : R D := (F f ds { r := [], g := s.g }).called s
/-- the end of a body -/
def fin (s : S) : R Fl → R D
  | .ok .nx s1 => .ok .non { s with g := s1.g }
  | .ok (.ret d) s1 => .ok d { s with g := s1.g }
  | .exc e s1 => .exc e { s with g := s1.g }
  | .bad => .bad
theorem call_ev {p : Pgm} {n f : Nat} {ds : List D} {s : S} {fn : Fn} (h : p.tbl f = some fn) (h1 : ds.length = fn.np) (h2 : fn.np ≤ fn.ns) :
    call (Ev p (n + 1)) f ds s = fin s (evSs p.glob (Ev p n) fn.body ⟨ds.map .val ++ List.replicate (fn.ns - fn.np) .no, s.g⟩) := by
  unfold call Ev
  simp only [run, h]
  unfold evFn
  rw [if_pos ⟨h1, h2⟩]
  show _ = fin s (evSs p.glob (run p.glob p.tbl n) fn.body ⟨ds.map .val ++ List.replicate (fn.ns - fn.np) .no, s.g⟩)
  cases evSs p.glob (run p.glob p.tbl n) fn.body ⟨ds.map .val ++ List.replicate (fn.ns - fn.np) .no, s.g⟩ with
  | ok a s' => cases a <;> rfl
  | exc e s' => rfl
  | bad => rfl
/-- a choice -/
def ifB {α : Type} (b : Bool) (x y : R α) : R α := if b then x else y
@[simp ↓] theorem ifB_true {α : Type} (x y : R α) : ifB true x y = x := id rfl
@[simp ↓] theorem ifB_false {α : Type} (x y : R α) : ifB false x y = y := id rfl
@[simp] theorem ifB_okD (b : Bool) (a c : D) (s : S) : ifB b (.ok a s) (.ok c s) = .ok (cond b a c) s := by cases b <;> rfl
@[simp] theorem ifB_okO (b : Bool) (a c : Option D) (s : S) : ifB b (.ok a s) (.ok c s) = .ok (cond b a c) s := by cases b <;> rfl
@[simp] theorem ifB_okB (b : Bool) (a c : Bool) (s : S) : ifB b (.ok a s) (.ok c s) = .ok (cond b a c) s := by cases b <;> rfl
@[simp] theorem ifB_ret (b : Bool) (a c : D) (s : S) : ifB b (.ok (Fl.ret a) s) (.ok (Fl.ret c) s) = .ok (Fl.ret (cond b a c)) s := by cases b <;> rfl
@[simp] theorem ifB_same {α : Type} (b : Bool) (a : R α) : ifB b a a = a := by cases b <;> rfl
@[simp] theorem ifB_bind {α β : Type} (b : Bool) (x y : R α) (f : α → S → R β) : (ifB b x y).bind f = ifB b (x.bind f) (y.bind f) := by cases b <;> rfl
@[simp] theorem ifB_fin (b : Bool) (x y : R Fl) (s : S) : fin s (ifB b x y) = ifB b (fin s x) (fin s y) := by cases b <;> rfl
@[simp] theorem ifB_back {α : Type} (b : Bool) (x y : R α) (s : S) : (ifB b x y).back s = ifB b (x.back s) (y.back s) := by cases b <;> rfl
@[simp] theorem cond_bl (b x y : Bool) : cond b (D.bl x) (D.bl y) = .bl (cond b x y) := by cases b <;> rfl
@[simp] theorem S_eta (s : S) : (⟨s.r, s.g⟩ : S) = s := id rfl
@[simp] theorem fin_ret {s s1 : S} {d : D} : fin s (.ok (.ret d) s1) = .ok d ⟨s.r, s1.g⟩ := id rfl
@[simp] theorem fin_nx {s s1 : S} : fin s (.ok .nx s1) = .ok .non ⟨s.r, s1.g⟩ := id rfl
section
variable {α β : Type}
@[simp] theorem bind_ok (a : α) (s : S) (f : α → S → R β) : (R.ok a s).bind f = f a s := id rfl
@[simp] theorem bind_bad (f : α → S → R β) : (R.bad : R α).bind f = .bad := id rfl
theorem bind_congr {x y : R α} {f : α → S → R β} (h : x = y) : x.bind f = y.bind f := by rw [h]
@[simp] theorem of_some (a : α) (s : S) : R.of (some a) s = .ok a s := id rfl
@[simp] theorem noX_ok (a : α) (s : S) : (R.ok a s).noX = .ok a s := id rfl
@[simp] theorem back_ok (a : α) (s s1 : S) : (R.ok a s1).back s = .ok a ⟨s.r, s1.g⟩ := id rfl
@[simp] theorem toB_bl (b : Bool) (s : S) : toB (.bl b) s = .ok b s := id rfl
end
def kTup  (ds : List D) (s1 : S) : R D := .ok (.tup ds) s1
@[simp] theorem kTup_eq (ds : List D) (s1 : S) : kTup ds s1 = .ok (.tup ds) s1 := id rfl
def kLst  (ds : List D) (s1 : S) : R D := .ok (.lst ds) s1
@[simp] theorem kLst_eq (ds : List D) (s1 : S) : kLst ds s1 = .ok (.lst ds) s1 := id rfl
def kEs2 (d : D) (ds : List D) (s1 : S) : R (List D) := .ok (d :: ds) s1
@[simp] theorem kEs2_eq (d : D) (ds : List D) (s1 : S) : kEs2 d ds s1 = .ok (d :: ds) s1 := id rfl
def kEs1 (glob : Str → Option D) (F : Fs) (l : List Ex) (d : D) (s1 : S) : R (List D) := (evEs glob F l s1).bind (kEs2 d)
@[simp] theorem kEs1_eq (glob : Str → Option D) (F : Fs) (l : List Ex) (d : D) (s1 : S) : kEs1 glob F l d s1 = (evEs glob F l s1).bind (kEs2 d) := id rfl
def kOp2 (o : O2) (x : D) (y : D) (s1 : S) : R D := R.of (evO o x y) s1
@[simp] theorem kOp2_eq (o : O2) (x : D) (y : D) (s1 : S) : kOp2 o x y s1 = R.of (evO o x y) s1 := id rfl
def kOp1 (glob : Str → Option D) (F : Fs) (o : O2) (b : Ex) (x : D) (s1 : S) : R D := (evE glob F b s1).bind (kOp2 o x)
@[simp] theorem kOp1_eq (glob : Str → Option D) (F : Fs) (o : O2) (b : Ex) (x : D) (s1 : S) : kOp1 glob F o b x s1 = (evE glob F b s1).bind (kOp2 o x) := id rfl
def kIsN  (x : D) (s1 : S) : R D := .ok (.bl (isNonD x)) s1
@[simp] theorem kIsN_eq (x : D) (s1 : S) : kIsN x s1 = .ok (.bl (isNonD x)) s1 := id rfl
def kNotN  (x : D) (s1 : S) : R D := .ok (.bl (!isNonD x)) s1
@[simp] theorem kNotN_eq (x : D) (s1 : S) : kNotN x s1 = .ok (.bl (!isNonD x)) s1 := id rfl
def kNot  (b : Bool) (s1 : S) : R D := .ok (.bl (!b)) s1
@[simp] theorem kNot_eq (b : Bool) (s1 : S) : kNot b s1 = .ok (.bl (!b)) s1 := id rfl
def kIte (glob : Str → Option D) (F : Fs) (a : Ex) (b : Ex) (k : Bool) (s1 : S) : R D := ifB k (evE glob F a s1) (evE glob F b s1)
@[simp] theorem kIte_eq (glob : Str → Option D) (F : Fs) (a : Ex) (b : Ex) (k : Bool) (s1 : S) : kIte glob F a b k s1 = ifB k (evE glob F a s1) (evE glob F b s1) := id rfl
def kF1 (f : F1) (x : D) (s1 : S) : R D := R.of (evF f x) s1
@[simp] theorem kF1_eq (f : F1) (x : D) (s1 : S) : kF1 f x s1 = R.of (evF f x) s1 := id rfl
def kCall (F : Fs) (f : Nat) (ds : List D) (s1 : S) : R D := call F f ds s1
@[simp] theorem kCall_eq (F : Fs) (f : Nat) (ds : List D) (s1 : S) : kCall F f ds s1 = call F f ds s1 := id rfl
def kAnd (glob : Str → Option D) (F : Fs) (l : List Ex) (b : Bool) (s1 : S) : R D := ifB b (evAnd glob F l s1) (.ok (.bl false) s1)
@[simp] theorem kAnd_eq (glob : Str → Option D) (F : Fs) (l : List Ex) (b : Bool) (s1 : S) : kAnd glob F l b s1 = ifB b (evAnd glob F l s1) (.ok (.bl false) s1) := id rfl
def kOr (glob : Str → Option D) (F : Fs) (l : List Ex) (b : Bool) (s1 : S) : R D := ifB b (.ok (.bl true) s1) (evOr glob F l s1)
@[simp] theorem kOr_eq (glob : Str → Option D) (F : Fs) (l : List Ex) (b : Bool) (s1 : S) : kOr glob F l b s1 = ifB b (.ok (.bl true) s1) (evOr glob F l s1) := id rfl
def optG : D → S → R (Option Int)
  | .int i, s1 => .ok (some i) s1
  | _, _ => .bad
@[simp] theorem optG_int (i : Int) (s1 : S) : optG (.int i) s1 = .ok (some i) s1 := id rfl
def kCh3 (glob : Str → Option D) (F : Fs) (o2 : O2) (c : Ex) (y : D) (k : Bool) (s1 : S) : R D := ifB k ((evE glob F c s1).bind (kOp2 o2 y)) (.ok (.bl false) s1)
@[simp] theorem kCh3_eq (glob : Str → Option D) (F : Fs) (o2 : O2) (c : Ex) (y : D) (k : Bool) (s1 : S) : kCh3 glob F o2 c y k s1 = ifB k ((evE glob F c s1).bind (kOp2 o2 y)) (.ok (.bl false) s1) := id rfl
def kCh2 (glob : Str → Option D) (F : Fs) (o : O2) (o2 : O2) (c : Ex) (x : D) (y : D) (s1 : S) : R D := ((R.of (evO o x y) s1).bind toB).bind (kCh3 glob F o2 c y)
@[simp] theorem kCh2_eq (glob : Str → Option D) (F : Fs) (o : O2) (o2 : O2) (c : Ex) (x : D) (y : D) (s1 : S) : kCh2 glob F o o2 c x y s1 = ((R.of (evO o x y) s1).bind toB).bind (kCh3 glob F o2 c y) := id rfl
def kCh1 (glob : Str → Option D) (F : Fs) (o : O2) (o2 : O2) (b : Ex) (c : Ex) (x : D) (s1 : S) : R D := (evE glob F b s1).bind (kCh2 glob F o o2 c x)
@[simp] theorem kCh1_eq (glob : Str → Option D) (F : Fs) (o : O2) (o2 : O2) (b : Ex) (c : Ex) (x : D) (s1 : S) : kCh1 glob F o o2 b c x s1 = (evE glob F b s1).bind (kCh2 glob F o o2 c x) := id rfl
def kIsi (t : Ty1) (x : D) (s1 : S) : R D := ifB (isDicD x) .bad (.ok (.bl (isTy t x)) s1)
@[simp] theorem kIsi_eq (t : Ty1) (x : D) (s1 : S) : kIsi t x s1 = ifB (isDicD x) .bad (.ok (.bl (isTy t x)) s1) := id rfl
def kSl3 (x : D) (l : Option Int) (h : Option Int) (s1 : S) : R D := R.of (evSl x l h) s1
@[simp] theorem kSl3_eq (x : D) (l : Option Int) (h : Option Int) (s1 : S) : kSl3 x l h s1 = R.of (evSl x l h) s1 := id rfl
def kSl2 (glob : Str → Option D) (F : Fs) (hi : Option Ex) (x : D) (l : Option Int) (s1 : S) : R D := (evEo glob F hi s1).bind (kSl3 x l)
@[simp] theorem kSl2_eq (glob : Str → Option D) (F : Fs) (hi : Option Ex) (x : D) (l : Option Int) (s1 : S) : kSl2 glob F hi x l s1 = (evEo glob F hi s1).bind (kSl3 x l) := id rfl
def kSl1 (glob : Str → Option D) (F : Fs) (lo : Option Ex) (hi : Option Ex) (x : D) (s1 : S) : R D := (evEo glob F lo s1).bind (kSl2 glob F hi x)
@[simp] theorem kSl1_eq (glob : Str → Option D) (F : Fs) (lo : Option Ex) (hi : Option Ex) (x : D) (s1 : S) : kSl1 glob F lo hi x s1 = (evEo glob F lo s1).bind (kSl2 glob F hi x) := id rfl
def kRev  (x : D) (s1 : S) : R D := R.of (evRev x) s1
@[simp] theorem kRev_eq (x : D) (s1 : S) : kRev x s1 = R.of (evRev x) s1 := id rfl
/-- an item of what is not a shared list -/
def ixG (x y : D) (s2 : S) : R D := match x with
    | .ref n => match s2.g[n]?, y with
      | some l, .int j => R.of (atD l j) s2
      | _, _ => .bad
    | _ => R.of (evIx x y) s2
def kIx2 (x : D) (y : D) (s1 : S) : R D := ixG x y s1
@[simp] theorem kIx2_eq (x : D) (y : D) (s1 : S) : kIx2 x y s1 = ixG x y s1 := id rfl
def kIx1 (glob : Str → Option D) (F : Fs) (i : Ex) (x : D) (s1 : S) : R D := (evE glob F i s1).bind (kIx2 x)
@[simp] theorem kIx1_eq (glob : Str → Option D) (F : Fs) (i : Ex) (x : D) (s1 : S) : kIx1 glob F i x s1 = (evE glob F i s1).bind (kIx2 x) := id rfl
def minG : D → D → S → R D
  | .int i, .int j, s2 => .ok (.int (if j < i then j else i)) s2
  | _, _, _ => .bad
@[simp] theorem minG_int (i j : Int) (s : S) : minG (.int i) (.int j) s = .ok (.int (if j < i then j else i)) s := id rfl
def kMin2 (x : D) (y : D) (s1 : S) : R D := minG x y s1
@[simp] theorem kMin2_eq (x : D) (y : D) (s1 : S) : kMin2 x y s1 = minG x y s1 := id rfl
def kMin1 (glob : Str → Option D) (F : Fs) (b : Ex) (x : D) (s1 : S) : R D := (evE glob F b s1).bind (kMin2 x)
@[simp] theorem kMin1_eq (glob : Str → Option D) (F : Fs) (b : Ex) (x : D) (s1 : S) : kMin1 glob F b x s1 = (evE glob F b s1).bind (kMin2 x) := id rfl
def kShr  (ds : List D) (s1 : S) : R D := .ok (.ref s1.g.length) ⟨s1.r, s1.g ++ [ds]⟩
@[simp] theorem kShr_eq (ds : List D) (s1 : S) : kShr ds s1 = .ok (.ref s1.g.length) ⟨s1.r, s1.g ++ [ds]⟩ := id rfl
def varG : Option Sl → S → R D
  | some (.val d), s => .ok d s
  | _, _ => .bad
@[simp] theorem varG_val (d : D) (s : S) : varG (some (.val d)) s = .ok d s := id rfl
def takeG (i : Nat) : Option Sl → S → R D
  | some (.oL l), s => .ok (.lst l) ⟨s.r.set i (.val (.lst l)), s.g⟩
  | some (.oD l), s => .ok (.dic l) ⟨s.r.set i (.val (.dic l)), s.g⟩
  | _, _ => .bad
@[simp] theorem takeG_l (i : Nat) (l : List D) (s : S) : takeG i (some (.oL l)) s = .ok (.lst l) ⟨s.r.set i (.val (.lst l)), s.g⟩ := id rfl
@[simp] theorem takeG_d (i : Nat) (l : List (D × D)) (s : S) : takeG i (some (.oD l)) s = .ok (.dic l) ⟨s.r.set i (.val (.dic l)), s.g⟩ := id rfl
def moveG (i : Nat) : Option Sl → S → R D
  | some (.oL l), s => .ok (.lst l) ⟨s.r.set i .no, s.g⟩
  | some (.oD l), s => .ok (.dic l) ⟨s.r.set i .no, s.g⟩
  | _, _ => .bad
@[simp] theorem moveG_l (i : Nat) (l : List D) (s : S) : moveG i (some (.oL l)) s = .ok (.lst l) ⟨s.r.set i .no, s.g⟩ := id rfl
@[simp] theorem moveG_d (i : Nat) (l : List (D × D)) (s : S) : moveG i (some (.oD l)) s = .ok (.dic l) ⟨s.r.set i .no, s.g⟩ := id rfl
def lenG : Option Sl → S → R D
  | some (.oL l), s => .ok (.int l.length) s
  | some (.pL l), s => .ok (.int l.length) s
  | some (.oD l), s => .ok (.int l.length) s
  | some (.pD l), s => .ok (.int l.length) s
  | _, _ => .bad
@[simp] theorem lenG_oL (l : List D) (s : S) : lenG (some (.oL l)) s = .ok (.int l.length) s := id rfl
@[simp] theorem lenG_pL (l : List D) (s : S) : lenG (some (.pL l)) s = .ok (.int l.length) s := id rfl
@[simp] theorem lenG_oD (l : List (D × D)) (s : S) : lenG (some (.oD l)) s = .ok (.int l.length) s := id rfl
@[simp] theorem lenG_pD (l : List (D × D)) (s : S) : lenG (some (.pD l)) s = .ok (.int l.length) s := id rfl
def neG : Option Sl → S → R D
  | some (.oL l), s => ifB (fls 40 l) (.ok (.bl (!l.isEmpty)) s) .bad
  | _, _ => .bad
@[simp] theorem neG_eq (l : List D) (s : S) : neG (some (.oL l)) s = ifB (fls 40 l) (.ok (.bl (!l.isEmpty)) s) .bad := id rfl
def eqG : Option Sl → S → R D
  | some (.oL l), s => ifB (fls 40 l) (.ok (.bl l.isEmpty) s) .bad
  | _, _ => .bad
@[simp] theorem eqG_eq (l : List D) (s : S) : eqG (some (.oL l)) s = ifB (fls 40 l) (.ok (.bl l.isEmpty) s) .bad := id rfl
def oIxG (k : D) : Option Sl → S → R D
  | some (.oL l), s => R.of (evIx (.lst l) k) s
  | some (.pL l), s => R.of (evIx (.lst l) k) s
  | some (.oD l), s => R.of (evIx (.dic l) k) s
  | some (.pD l), s => R.of (evIx (.dic l) k) s
  | _, _ => .bad
@[simp] theorem oIxG_oL (k : D) (l : List D) (s : S) : oIxG k (some (.oL l)) s = R.of (evIx (.lst l) k) s := id rfl
@[simp] theorem oIxG_pL (k : D) (l : List D) (s : S) : oIxG k (some (.pL l)) s = R.of (evIx (.lst l) k) s := id rfl
@[simp] theorem oIxG_oD (k : D) (l : List (D × D)) (s : S) : oIxG k (some (.oD l)) s = R.of (evIx (.dic l) k) s := id rfl
@[simp] theorem oIxG_pD (k : D) (l : List (D × D)) (s : S) : oIxG k (some (.pD l)) s = R.of (evIx (.dic l) k) s := id rfl
def oOpG (o : O2) (y : D) : Option Sl → S → R D
  | some (.oL l), s => ((R.of (evO o (.lst l) y) s).bind toB).bind fun b s => .ok (.bl b) s
  | _, _ => .bad
def kBl (b : Bool) (s : S) : R D := .ok (.bl b) s
@[simp] theorem kBl_eq (b : Bool) (s : S) : kBl b s = .ok (.bl b) s := id rfl
@[simp] theorem oOpG_eq (o : O2) (y : D) (l : List D) (s : S) : oOpG o y (some (.oL l)) s = ((R.of (evO o (.lst l) y) s).bind toB).bind kBl := id rfl
def oSlG (l h : Option Int) : Option Sl → S → R D
  | some (.oL x), s => .ok (.lst (cutD x l h)) s
  | _, _ => .bad
@[simp] theorem oSlG_eq (l h : Option Int) (x : List D) (s : S) : oSlG l h (some (.oL x)) s = .ok (.lst (cutD x l h)) s := id rfl
def oIsiG (t : Ty1) : Option Sl → S → R D
  | some (.oL l), s => .ok (.bl (isTy t (.lst l))) s
  | _, _ => .bad
@[simp] theorem oIsiG_eq (t : Ty1) (l : List D) (s : S) : oIsiG t (some (.oL l)) s = .ok (.bl (isTy t (.lst l))) s := id rfl
def oInG (k : D) : Option Sl → S → R D
  | some (.oL l), s => ifB (fl 40 k && fls 40 l) (.ok (.bl (inD k l)) s) .bad
  | some (.pL l), s => ifB (fl 40 k && fls 40 l) (.ok (.bl (inD k l)) s) .bad
  | some (.oD l), s => ifB (keyOf k).isSome (.ok (.bl (dlook l k).isSome) s) .bad
  | some (.pD l), s => ifB (keyOf k).isSome (.ok (.bl (dlook l k).isSome) s) .bad
  | _, _ => .bad
@[simp] theorem oInG_oL (k : D) (l : List D) (s : S) : oInG k (some (.oL l)) s = ifB (fl 40 k && fls 40 l) (.ok (.bl (inD k l)) s) .bad := id rfl
@[simp] theorem oInG_pL (k : D) (l : List D) (s : S) : oInG k (some (.pL l)) s = ifB (fl 40 k && fls 40 l) (.ok (.bl (inD k l)) s) .bad := id rfl
@[simp] theorem oInG_oD (k : D) (l : List (D × D)) (s : S) : oInG k (some (.oD l)) s = ifB (keyOf k).isSome (.ok (.bl (dlook l k).isSome) s) .bad := id rfl
@[simp] theorem oInG_pD (k : D) (l : List (D × D)) (s : S) : oInG k (some (.pD l)) s = ifB (keyOf k).isSome (.ok (.bl (dlook l k).isSome) s) .bad := id rfl
def oNinG (k : D) : Option Sl → S → R D
  | some (.oL l), s => ifB (fl 40 k && fls 40 l) (.ok (.bl (!inD k l)) s) .bad
  | some (.pL l), s => ifB (fl 40 k && fls 40 l) (.ok (.bl (!inD k l)) s) .bad
  | some (.oD l), s => ifB (keyOf k).isSome (.ok (.bl (!(dlook l k).isSome)) s) .bad
  | some (.pD l), s => ifB (keyOf k).isSome (.ok (.bl (!(dlook l k).isSome)) s) .bad
  | _, _ => .bad
@[simp] theorem oNinG_oL (k : D) (l : List D) (s : S) : oNinG k (some (.oL l)) s = ifB (fl 40 k && fls 40 l) (.ok (.bl (!inD k l)) s) .bad := id rfl
@[simp] theorem oNinG_pL (k : D) (l : List D) (s : S) : oNinG k (some (.pL l)) s = ifB (fl 40 k && fls 40 l) (.ok (.bl (!inD k l)) s) .bad := id rfl
@[simp] theorem oNinG_oD (k : D) (l : List (D × D)) (s : S) : oNinG k (some (.oD l)) s = ifB (keyOf k).isSome (.ok (.bl (!(dlook l k).isSome)) s) .bad := id rfl
@[simp] theorem oNinG_pD (k : D) (l : List (D × D)) (s : S) : oNinG k (some (.pD l)) s = ifB (keyOf k).isSome (.ok (.bl (!(dlook l k).isSome)) s) .bad := id rfl
def oGetG (k x : D) : Option Sl → S → R D
  | some (.oD l), s => ifB (keyOf k).isSome (.ok ((dlook l k).getD x) s) .bad
  | some (.pD l), s => ifB (keyOf k).isSome (.ok ((dlook l k).getD x) s) .bad
  | _, _ => .bad
@[simp] theorem oGetG_oD (k x : D) (l : List (D × D)) (s : S) : oGetG k x (some (.oD l)) s = ifB (keyOf k).isSome (.ok ((dlook l k).getD x) s) .bad := id rfl
@[simp] theorem oGetG_pD (k x : D) (l : List (D × D)) (s : S) : oGetG k x (some (.pD l)) s = ifB (keyOf k).isSome (.ok ((dlook l k).getD x) s) .bad := id rfl
def getG (x y z : D) (s3 : S) : R D := match x, y with
    | .sdc l, .str t => .ok ((slook l t).getD z) s3
    | .dic l, y => ifB (keyOf y).isSome (.ok ((dlook l y).getD z) s3) .bad
    | _, _ => .bad
@[simp] theorem getG_s (l : List (Str × D)) (t : Str) (z : D) (s : S) : getG (.sdc l) (.str t) z s = .ok ((slook l t).getD z) s := id rfl
@[simp] theorem getG_d (l : List (D × D)) (y z : D) (s : S) : getG (.dic l) y z s = ifB (keyOf y).isSome (.ok ((dlook l y).getD z) s) .bad := by cases y <;> rfl
def tupG : Option Sl → S → R D
  | some (.oL l), s => .ok (.tup l) s
  | some (.pL l), s => .ok (.tup l) s
  | _, _ => .bad
@[simp] theorem tupG_oL (l : List D) (s : S) : tupG (some (.oL l)) s = .ok (.tup l) s := id rfl
@[simp] theorem tupG_pL (l : List D) (s : S) : tupG (some (.pL l)) s = .ok (.tup l) s := id rfl
def lstG : Option Sl → S → R D
  | some (.oL l), s => .ok (.lst l) s
  | some (.pL l), s => .ok (.lst l) s
  | some (.oD l), s => .ok (.lst (l.map (·.1))) s
  | some (.pD l), s => .ok (.lst (l.map (·.1))) s
  | _, _ => .bad
@[simp] theorem lstG_oL (l : List D) (s : S) : lstG (some (.oL l)) s = .ok (.lst l) s := id rfl
@[simp] theorem lstG_pL (l : List D) (s : S) : lstG (some (.pL l)) s = .ok (.lst l) s := id rfl
@[simp] theorem lstG_oD (l : List (D × D)) (s : S) : lstG (some (.oD l)) s = .ok (.lst (l.map (·.1))) s := id rfl
@[simp] theorem lstG_pD (l : List (D × D)) (s : S) : lstG (some (.pD l)) s = .ok (.lst (l.map (·.1))) s := id rfl
def popG (i : Nat) : Option Sl → S → R D
  | some (.oL l), s => match l.getLast? with
      | some x => .ok x ⟨s.r.set i (.oL l.dropLast), s.g⟩
      | none => .bad
  | _, _ => .bad
theorem popG_some {i : Nat} {l : List D} {x : D} (h : l.getLast? = some x) (s : S) : popG i (some (.oL l)) s = .ok x ⟨s.r.set i (.oL l.dropLast), s.g⟩ := by
  show (match l.getLast? with | some x => R.ok x ⟨s.r.set i (.oL l.dropLast), s.g⟩ | none => .bad) = _
  rw [h]
/-- pop at a place -/
def popAt (i : Nat) (k : D) (s1 : S) : R D := match s1.r[i]? with
    | some (.oL l) => match k with
      | .int j => if 0 ≤ j ∧ j < 2 ^ 62 then match l[j.toNat]? with
          | some x => .ok x { s1 with r := s1.r.set i (.oL (l.eraseIdx j.toNat)) }
          | none => .bad
        else .bad
      | _ => .bad
    | _ => .bad
def negG : D → S → R D
  | .int i, s => .ok (.int (-i)) s
  | _, _ => .bad
@[simp] theorem negG_eq (i : Int) (s : S) : negG (.int i) s = .ok (.int (-i)) s := id rfl
@[simp] theorem hasL_eq (l : List D) : hasL (some (.oL l)) = true := id rfl
@[simp] theorem hasD_oD (l : List (D × D)) : hasD (some (.oD l)) = true := id rfl
@[simp] theorem hasD_pD (l : List (D × D)) : hasD (some (.pD l)) = true := id rfl
@[simp] theorem hasO_oL (l : List D) : hasO (some (.oL l)) = true := id rfl
@[simp] theorem hasO_pL (l : List D) : hasO (some (.pL l)) = true := id rfl
@[simp] theorem hasO_oD (l : List (D × D)) : hasO (some (.oD l)) = true := id rfl
@[simp] theorem hasO_pD (l : List (D × D)) : hasO (some (.pD l)) = true := id rfl
def kOIx (i : Nat) (x : D) (s1 : S) : R D := oIxG x s1.r[i]? s1
@[simp] theorem kOIx_eq (i : Nat) (x : D) (s1 : S) : kOIx i x s1 = oIxG x s1.r[i]? s1 := id rfl
def kOOp (o : O2) (i : Nat) (y : D) (s1 : S) : R D := oOpG o y s1.r[i]? s1
@[simp] theorem kOOp_eq (o : O2) (i : Nat) (y : D) (s1 : S) : kOOp o i y s1 = oOpG o y s1.r[i]? s1 := id rfl
def kOSl2 (i : Nat) (l : Option Int) (h : Option Int) (s1 : S) : R D := oSlG l h s1.r[i]? s1
@[simp] theorem kOSl2_eq (i : Nat) (l : Option Int) (h : Option Int) (s1 : S) : kOSl2 i l h s1 = oSlG l h s1.r[i]? s1 := id rfl
def kOSl1 (glob : Str → Option D) (F : Fs) (i : Nat) (hi : Option Ex) (l : Option Int) (s1 : S) : R D := (evEo glob F hi s1).bind (kOSl2 i l)
@[simp] theorem kOSl1_eq (glob : Str → Option D) (F : Fs) (i : Nat) (hi : Option Ex) (l : Option Int) (s1 : S) : kOSl1 glob F i hi l s1 = (evEo glob F hi s1).bind (kOSl2 i l) := id rfl
def kOIn (i : Nat) (x : D) (s1 : S) : R D := oInG x s1.r[i]? s1
@[simp] theorem kOIn_eq (i : Nat) (x : D) (s1 : S) : kOIn i x s1 = oInG x s1.r[i]? s1 := id rfl
def kONin (i : Nat) (x : D) (s1 : S) : R D := oNinG x s1.r[i]? s1
@[simp] theorem kONin_eq (i : Nat) (x : D) (s1 : S) : kONin i x s1 = oNinG x s1.r[i]? s1 := id rfl
def kOGet2 (i : Nat) (x : D) (y : D) (s1 : S) : R D := oGetG x y s1.r[i]? s1
@[simp] theorem kOGet2_eq (i : Nat) (x : D) (y : D) (s1 : S) : kOGet2 i x y s1 = oGetG x y s1.r[i]? s1 := id rfl
def kOGet1 (glob : Str → Option D) (F : Fs) (i : Nat) (d : Ex) (x : D) (s1 : S) : R D := (evE glob F d s1).bind (kOGet2 i x)
@[simp] theorem kOGet1_eq (glob : Str → Option D) (F : Fs) (i : Nat) (d : Ex) (x : D) (s1 : S) : kOGet1 glob F i d x s1 = (evE glob F d s1).bind (kOGet2 i x) := id rfl
def kGet3 (x : D) (y : D) (z : D) (s1 : S) : R D := getG x y z s1
@[simp] theorem kGet3_eq (x : D) (y : D) (z : D) (s1 : S) : kGet3 x y z s1 = getG x y z s1 := id rfl
def kGet2 (glob : Str → Option D) (F : Fs) (e : Ex) (x : D) (y : D) (s1 : S) : R D := (evE glob F e s1).bind (kGet3 x y)
@[simp] theorem kGet2_eq (glob : Str → Option D) (F : Fs) (e : Ex) (x : D) (y : D) (s1 : S) : kGet2 glob F e x y s1 = (evE glob F e s1).bind (kGet3 x y) := id rfl
def kGet1 (glob : Str → Option D) (F : Fs) (k : Ex) (e : Ex) (x : D) (s1 : S) : R D := (evE glob F k s1).bind (kGet2 glob F e x)
@[simp] theorem kGet1_eq (glob : Str → Option D) (F : Fs) (k : Ex) (e : Ex) (x : D) (s1 : S) : kGet1 glob F k e x s1 = (evE glob F k s1).bind (kGet2 glob F e x) := id rfl
def kPopAt (i : Nat) (x : D) (s1 : S) : R D := popAt i x s1
@[simp] theorem kPopAt_eq (i : Nat) (x : D) (s1 : S) : kPopAt i x s1 = popAt i x s1 := id rfl
def dicG (kd vd : List D) (s2 : S) : R D := match kd, vd with
    | [], [] => .ok (.dic []) s2
    | [k], [v] => if (keyOf k).isSome then .ok (.dic [(k, v)]) s2 else .bad
    | _, _ => .bad
@[simp] theorem dicG_0 (s : S) : dicG [] [] s = .ok (.dic []) s := id rfl
@[simp] theorem dicG_1 (k v : D) (s : S) : dicG [k] [v] s = ifB (keyOf k).isSome (.ok (.dic [(k, v)]) s) .bad := id rfl
def sdicG (kd vd : List D) (s2 : S) : R D := match allStr kd with
    | some xs => if decide (xs.length = vd.length) && decide (xs.length ≤ 15) then .ok (.sdc ((xs.zip vd).foldl (fun l p => sput l p.1 p.2) [])) s2 else .bad
    | none => .bad
def kDic2 (kd : List D) (vd : List D) (s1 : S) : R D := dicG kd vd s1
@[simp] theorem kDic2_eq (kd : List D) (vd : List D) (s1 : S) : kDic2 kd vd s1 = dicG kd vd s1 := id rfl
def kDic1 (glob : Str → Option D) (F : Fs) (vs : List Ex) (kd : List D) (s1 : S) : R D := (evEs glob F vs s1).bind (kDic2 kd)
@[simp] theorem kDic1_eq (glob : Str → Option D) (F : Fs) (vs : List Ex) (kd : List D) (s1 : S) : kDic1 glob F vs kd s1 = (evEs glob F vs s1).bind (kDic2 kd) := id rfl
def kSDic2 (kd : List D) (vd : List D) (s1 : S) : R D := sdicG kd vd s1
@[simp] theorem kSDic2_eq (kd : List D) (vd : List D) (s1 : S) : kSDic2 kd vd s1 = sdicG kd vd s1 := id rfl
def kSDic1 (glob : Str → Option D) (F : Fs) (vs : List Ex) (kd : List D) (s1 : S) : R D := (evEs glob F vs s1).bind (kSDic2 kd)
@[simp] theorem kSDic1_eq (glob : Str → Option D) (F : Fs) (vs : List Ex) (kd : List D) (s1 : S) : kSDic1 glob F vs kd s1 = (evEs glob F vs s1).bind (kSDic2 kd) := id rfl
def kSet2  (r : List Sl) (s1 : S) : R Fl := .ok .nx ⟨r, s1.g⟩
@[simp] theorem kSet2_eq (r : List Sl) (s1 : S) : kSet2 r s1 = .ok .nx ⟨r, s1.g⟩ := id rfl
def kSet (g : Tg) (d : D) (s1 : S) : R Fl := (R.of (setT g d s1.r) s1).bind kSet2
@[simp] theorem kSet_eq (g : Tg) (d : D) (s1 : S) : kSet g d s1 = (R.of (setT g d s1.r) s1).bind kSet2 := id rfl
def ownG (i : Nat) : Option Sl → S → R Fl
  | some c, s1 => if i < s1.r.length then .ok .nx ⟨s1.r.set i c, s1.g⟩ else .bad
  | none, _ => .bad
@[simp] theorem ownG_eq (i : Nat) (c : Sl) (s1 : S) : ownG i (some c) s1 = if i < s1.r.length then .ok .nx ⟨s1.r.set i c, s1.g⟩ else .bad := id rfl
@[simp] theorem ownS_l (l : List D) : ownS (.lst l) = some (.oL l) := id rfl
@[simp] theorem ownS_d (l : List (D × D)) : ownS (.dic l) = some (.oD l) := id rfl
@[simp] theorem holdS_v (d : D) : holdS .val d = some (.val d) := id rfl
@[simp] theorem holdS_o (d : D) : holdS .own d = ownS d := id rfl
@[simp] theorem isPk_no : isPk .no = false := id rfl
@[simp] theorem isPk_val (d : D) : isPk (.val d) = false := id rfl
@[simp] theorem isPk_oL (l : List D) : isPk (.oL l) = false := id rfl
@[simp] theorem isPk_oD (l : List (D × D)) : isPk (.oD l) = false := id rfl
@[simp] theorem setPar_nil (r : List Sl) : setPar [] [] r = some r := id rfl
@[simp] theorem setPar_cons (i : Nat) (h : Hold) (is : List (Nat × Hold)) (d : D) (ds : List D) (r : List Sl) : setPar ((i, h) :: is) (d :: ds) r = if i < r.length then (holdS h d).bind fun c => setPar is ds (r.set i c) else none := id rfl
def kOwn (i : Nat) (d : D) (s1 : S) : R Fl := ownG i (ownS d) s1
@[simp] theorem kOwn_eq (i : Nat) (d : D) (s1 : S) : kOwn i d s1 = ownG i (ownS d) s1 := id rfl
def kPar (is : List (Nat × Hold)) (ds : List D) (s1 : S) : R Fl := ifB (s1.r.any isPk) .bad ((R.of (setPar is ds s1.r) s1).bind kSet2)
@[simp] theorem kPar_eq (is : List (Nat × Hold)) (ds : List D) (s1 : S) : kPar is ds s1 = ifB (s1.r.any isPk) .bad ((R.of (setPar is ds s1.r) s1).bind kSet2) := id rfl
def kRet  (d : D) (s1 : S) : R Fl := .ok (.ret d) s1
@[simp] theorem kRet_eq (d : D) (s1 : S) : kRet d s1 = .ok (.ret d) s1 := id rfl
def kIteS (glob : Str → Option D) (F : Fs) (a : List Sx) (b : List Sx) (k : Bool) (s1 : S) : R Fl := ifB k (evSs glob F a s1) (evSs glob F b s1)
@[simp] theorem kIteS_eq (glob : Str → Option D) (F : Fs) (a : List Sx) (b : List Sx) (k : Bool) (s1 : S) : kIteS glob F a b k s1 = ifB k (evSs glob F a s1) (evSs glob F b s1) := id rfl
def kForB (glob : Str → Option D) (F : Fs) (b : List Sx) (r : List Sl) (s1 : S) : R Fl := evSs glob F b ⟨r, s1.g⟩
@[simp] theorem kForB_eq (glob : Str → Option D) (F : Fs) (b : List Sx) (r : List Sl) (s1 : S) : kForB glob F b r s1 = evSs glob F b ⟨r, s1.g⟩ := id rfl
/-- a turn of a for -/
def forBody (glob : Str → Option D) (F : Fs) (g : Tg) (b : List Sx) (d : D) (s : S) : R Fl := (R.of (setT g d s.r) s).bind (kForB glob F b)
@[simp] theorem forBody_eq {glob F g b d s} : forBody glob F g b d s = (R.of (setT g d s.r) s).bind (kForB glob F b) := id rfl
def kFor (f : D → S → R Fl) (xs : List D) (s1 : S) : R Fl := forGo f xs s1
@[simp] theorem kFor_eq (f : D → S → R Fl) (xs : List D) (s1 : S) : kFor f xs s1 = forGo f xs s1 := id rfl
/-- a while's test, its turn -/
def whC (glob : Str → Option D) (F : Fs) (c : Ex) (s1 : S) : R Bool := (evE glob F c s1).bind toB
def whB (glob : Str → Option D) (F : Fs) (b : List Sx) (s1 : S) : R Fl := evSs glob F b s1
@[simp] theorem whC_eq {glob F c s} : whC glob F c s = (evE glob F c s).bind toB := id rfl
@[simp] theorem whB_eq {glob F b s} : whB glob F b s = evSs glob F b s := id rfl
def appG (i : Nat) (d : D) (s1 : S) : R Fl := match s1.r[i]? with
    | some (.oL l) => if l.length < sizeLine then .ok .nx { s1 with r := s1.r.set i (.oL (l ++ [d])) } else .bad
    | _ => .bad
def putG (i : Nat) (kd d : D) (s2 : S) : R Fl := match s2.r[i]? with
    | some (.oD l) => if (keyOf kd).isSome && decide (l.length < sizeLine) then .ok .nx { s2 with r := s2.r.set i (.oD (dput l kd d)) } else .bad
    | _ => .bad
def shPutG (i : Nat) (k : Int) (d : D) (s1 : S) : R Fl := match s1.r[i]? with
    | some (.val (.ref n)) => match s1.g[n]? with
      | some l => if 0 ≤ k ∧ k < l.length then .ok .nx { s1 with g := s1.g.set n (l.set k.toNat d) } else .bad
      | none => .bad
    | _ => .bad
def kApp (i : Nat) (d : D) (s1 : S) : R Fl := appG i d s1
@[simp] theorem kApp_eq (i : Nat) (d : D) (s1 : S) : kApp i d s1 = appG i d s1 := id rfl
def kPut2 (i : Nat) (d : D) (kd : D) (s1 : S) : R Fl := putG i kd d s1
@[simp] theorem kPut2_eq (i : Nat) (d : D) (kd : D) (s1 : S) : kPut2 i d kd s1 = putG i kd d s1 := id rfl
def kPut1 (glob : Str → Option D) (F : Fs) (i : Nat) (k : Ex) (d : D) (s1 : S) : R Fl := (evE glob F k s1).bind (kPut2 i d)
@[simp] theorem kPut1_eq (glob : Str → Option D) (F : Fs) (i : Nat) (k : Ex) (d : D) (s1 : S) : kPut1 glob F i k d s1 = (evE glob F k s1).bind (kPut2 i d) := id rfl
def kShPut (i : Nat) (k : Int) (d : D) (s1 : S) : R Fl := shPutG i k d s1
@[simp] theorem kShPut_eq (i : Nat) (k : Int) (d : D) (s1 : S) : kShPut i k d s1 = shPutG i k d s1 := id rfl
def kEx  (d : D) (s1 : S) : R Fl := .ok .nx s1
@[simp] theorem kEx_eq (d : D) (s1 : S) : kEx d s1 = .ok .nx s1 := id rfl
def kS (glob : Str → Option D) (F : Fs) (l : List Sx) : Fl → S → R Fl
  | .nx, s1 => evSs glob F l s1
  | .ret d, s1 => .ok (.ret d) s1
@[simp] theorem kS_nx {glob F l s} : kS glob F l .nx s = evSs glob F l s := id rfl
@[simp] theorem kS_ret {glob F l d s} : kS glob F l (.ret d) s = .ok (.ret d) s := id rfl
@[simp] theorem kS_cond {glob F l b x y s} : kS glob F l (cond b x y) s = ifB b (kS glob F l x s) (kS glob F l y s) := by cases b <;> rfl
def zipD : D → D → Option (List D)
  | .tup l, .tup m => some ((l.zip m).map fun p => .tup [p.1, p.2])
  | .tup l, .lst m => some ((l.zip m).map fun p => .tup [p.1, p.2])
  | .lst l, .tup m => some ((l.zip m).map fun p => .tup [p.1, p.2])
  | .lst l, .lst m => some ((l.zip m).map fun p => .tup [p.1, p.2])
  | _, _ => none
def enumD : D → Option (List D)
  | .tup l => some (l.zipIdx.map fun p => .tup [.int (p.2 : Nat), p.1])
  | .lst l => some (l.zipIdx.map fun p => .tup [.int (p.2 : Nat), p.1])
  | _ => none
def itemsD : D → Option (List D)
  | .dic l => some (l.map fun p => .tup [p.1, p.2])
  | _ => none
def valsD : D → Option (List D)
  | .dic l => some (l.map (·.2))
  | _ => none
def rngD : D → Option (List D)
  | .int j => if -(2 ^ 62) ≤ j ∧ j < 2 ^ 62 then some ((List.range j.toNat).map fun k => .int (k : Nat)) else none
  | _ => none
def kWalk  (d : D) (s1 : S) : R (List D) := R.of (walkD d) s1
@[simp] theorem kWalk_eq (d : D) (s1 : S) : kWalk d s1 = R.of (walkD d) s1 := id rfl
def kRng  (d : D) (s1 : S) : R (List D) := R.of (rngD d) s1
@[simp] theorem kRng_eq (d : D) (s1 : S) : kRng d s1 = R.of (rngD d) s1 := id rfl
def kZip2 (x : D) (y : D) (s1 : S) : R (List D) := R.of (zipD x y) s1
@[simp] theorem kZip2_eq (x : D) (y : D) (s1 : S) : kZip2 x y s1 = R.of (zipD x y) s1 := id rfl
def kZip1 (glob : Str → Option D) (F : Fs) (b : Ex) (x : D) (s1 : S) : R (List D) := (evE glob F b s1).bind (kZip2 x)
@[simp] theorem kZip1_eq (glob : Str → Option D) (F : Fs) (b : Ex) (x : D) (s1 : S) : kZip1 glob F b x s1 = (evE glob F b s1).bind (kZip2 x) := id rfl
def kEnum  (d : D) (s1 : S) : R (List D) := R.of (enumD d) s1
@[simp] theorem kEnum_eq (d : D) (s1 : S) : kEnum d s1 = R.of (enumD d) s1 := id rfl
def kItems  (d : D) (s1 : S) : R (List D) := R.of (itemsD d) s1
@[simp] theorem kItems_eq (d : D) (s1 : S) : kItems d s1 = R.of (itemsD d) s1 := id rfl
def kVals  (d : D) (s1 : S) : R (List D) := R.of (valsD d) s1
@[simp] theorem kVals_eq (d : D) (s1 : S) : kVals d s1 = R.of (valsD d) s1 := id rfl
def kJust  (x : D) (s1 : S) : R (Option D) := .ok (some x) s1
@[simp] theorem kJust_eq (x : D) (s1 : S) : kJust x s1 = .ok (some x) s1 := id rfl
def kLc2 (glob : Str → Option D) (F : Fs) (e : Ex) (b : Bool) (s1 : S) : R (Option D) := ifB b ((evE glob F e s1).bind kJust) (.ok none s1)
@[simp] theorem kLc2_eq (glob : Str → Option D) (F : Fs) (e : Ex) (b : Bool) (s1 : S) : kLc2 glob F e b s1 = ifB b ((evE glob F e s1).bind kJust) (.ok none s1) := id rfl
def kLc1 (glob : Str → Option D) (F : Fs) (e : Ex) (c : Option Ex) (s2 : S) (r : List Sl) (s1 : S) : R (Option D) := ((evC glob F c ⟨r, s1.g⟩).bind (kLc2 glob F e)).back s2
@[simp] theorem kLc1_eq (glob : Str → Option D) (F : Fs) (e : Ex) (c : Option Ex) (s2 : S) (r : List Sl) (s1 : S) : kLc1 glob F e c s2 r s1 = ((evC glob F c ⟨r, s1.g⟩).bind (kLc2 glob F e)).back s2 := id rfl
def lcBody (glob : Str → Option D) (F : Fs) (e : Ex) (g : Tg) (c : Option Ex) (d : D) (s2 : S) : R (Option D) := (R.of (setT g d s2.r) s2).bind (kLc1 glob F e c s2)
@[simp] theorem lcBody_eq {glob F e g c d s2} : lcBody glob F e g c d s2 = (R.of (setT g d s2.r) s2).bind (kLc1 glob F e c s2) := id rfl
def lcRun (f : D → S → R (Option D)) (xs : List D) (ws : List Nat) (s1 : S) : R D := if sizeLine < xs.length then .bad else (lcGo f xs [] (s1.lock ws)).bind fun l s2 => .ok (.lst l) { s1 with g := s2.g }
def kLc (f : D → S → R (Option D)) (ws : List Nat) (xs : List D) (s1 : S) : R D := lcRun f xs ws s1
@[simp] theorem kLc_eq (f : D → S → R (Option D)) (ws : List Nat) (xs : List D) (s1 : S) : kLc f ws xs s1 = lcRun f xs ws s1 := id rfl
def kDc4 (x : D) (y : D) (s1 : S) : R (Option (D × D)) := .ok (some (x, y)) s1
@[simp] theorem kDc4_eq (x : D) (y : D) (s1 : S) : kDc4 x y s1 = .ok (some (x, y)) s1 := id rfl
def kDc3 (glob : Str → Option D) (F : Fs) (v : Ex) (x : D) (s1 : S) : R (Option (D × D)) := (evE glob F v s1).bind (kDc4 x)
@[simp] theorem kDc3_eq (glob : Str → Option D) (F : Fs) (v : Ex) (x : D) (s1 : S) : kDc3 glob F v x s1 = (evE glob F v s1).bind (kDc4 x) := id rfl
def kDc2 (glob : Str → Option D) (F : Fs) (k : Ex) (v : Ex) (b : Bool) (s1 : S) : R (Option (D × D)) := ifB b ((evE glob F k s1).bind (kDc3 glob F v)) (.ok none s1)
@[simp] theorem kDc2_eq (glob : Str → Option D) (F : Fs) (k : Ex) (v : Ex) (b : Bool) (s1 : S) : kDc2 glob F k v b s1 = ifB b ((evE glob F k s1).bind (kDc3 glob F v)) (.ok none s1) := id rfl
def kDc1 (glob : Str → Option D) (F : Fs) (k : Ex) (v : Ex) (c : Option Ex) (s2 : S) (r : List Sl) (s1 : S) : R (Option (D × D)) := ((evC glob F c ⟨r, s1.g⟩).bind (kDc2 glob F k v)).back s2
@[simp] theorem kDc1_eq (glob : Str → Option D) (F : Fs) (k : Ex) (v : Ex) (c : Option Ex) (s2 : S) (r : List Sl) (s1 : S) : kDc1 glob F k v c s2 r s1 = ((evC glob F c ⟨r, s1.g⟩).bind (kDc2 glob F k v)).back s2 := id rfl
def dcBody (glob : Str → Option D) (F : Fs) (k v : Ex) (g : Tg) (c : Option Ex) (d : D) (s2 : S) : R (Option (D × D)) := (R.of (setT g d s2.r) s2).bind (kDc1 glob F k v c s2)
@[simp] theorem dcBody_eq {glob F k v g c d s2} : dcBody glob F k v g c d s2 = (R.of (setT g d s2.r) s2).bind (kDc1 glob F k v c s2) := id rfl
def dcRun (f : D → S → R (Option (D × D))) (xs : List D) (ws : List Nat) (s1 : S) : R D := (dcGo f xs [] (s1.lock ws)).bind fun l s2 => .ok (.dic l) { s1 with g := s2.g }
def kDc (f : D → S → R (Option (D × D))) (ws : List Nat) (xs : List D) (s1 : S) : R D := dcRun f xs ws s1
@[simp] theorem kDc_eq (f : D → S → R (Option (D × D))) (ws : List Nat) (xs : List D) (s1 : S) : kDc f ws xs s1 = dcRun f xs ws s1 := id rfl
section
variable {glob : Str → Option D} {F : Fs} {s : S}
@[simp] theorem eE_var {i} : evE glob F (.var i) s = varG s.r[i]? s := by
  conv => lhs; unfold evE
  cases s.r[i]? with
  | none => rfl
  | some c => cases c <;> rfl
@[simp] theorem eE_take {i} : evE glob F (.take i) s = takeG i s.r[i]? s := by
  conv => lhs; unfold evE
  cases s.r[i]? with
  | none => rfl
  | some c => cases c <;> rfl
@[simp] theorem eE_move {i} : evE glob F (.move i) s = moveG i s.r[i]? s := by
  conv => lhs; unfold evE
  cases s.r[i]? with
  | none => rfl
  | some c => cases c <;> rfl
@[simp] theorem eE_int {i} : evE glob F (.int i) s = .ok (.int i) s := by (conv => lhs; unfold evE) <;> rfl
@[simp] theorem eE_bl {i} : evE glob F (.bl i) s = .ok (.bl i) s := by (conv => lhs; unfold evE) <;> rfl
@[simp] theorem eE_non  : evE glob F .non s = .ok .non s := by (conv => lhs; unfold evE) <;> rfl
@[simp] theorem eE_str {i} : evE glob F (.str i) s = .ok (.str i) s := by (conv => lhs; unfold evE) <;> rfl
@[simp] theorem eE_glob {x} : evE glob F (.glob x) s = R.of (glob x) s := by (conv => lhs; unfold evE) <;> rfl
@[simp] theorem eE_tup {l} : evE glob F (.tup l) s = (evEs glob F l s).bind kTup := by (conv => lhs; unfold evE) <;> rfl
@[simp] theorem eE_lst {l} : evE glob F (.lst l) s = (evEs glob F l s).bind kLst := by (conv => lhs; unfold evE) <;> rfl
@[simp] theorem eE_op {o a b} : evE glob F (.op o a b) s = (evE glob F a s).bind (kOp1 glob F o b) := by (conv => lhs; unfold evE) <;> rfl
@[simp] theorem eE_isN {a} : evE glob F (.isN a) s = (evE glob F a s).bind kIsN := by (conv => lhs; unfold evE) <;> rfl
@[simp] theorem eE_notN {a} : evE glob F (.notN a) s = (evE glob F a s).bind kNotN := by (conv => lhs; unfold evE) <;> rfl
@[simp] theorem eE_and {l} : evE glob F (.and l) s = evAnd glob F l s := by (conv => lhs; unfold evE) <;> rfl
@[simp] theorem eE_or {l} : evE glob F (.or l) s = evOr glob F l s := by (conv => lhs; unfold evE) <;> rfl
@[simp] theorem eE_not {a} : evE glob F (.not a) s = ((evE glob F a s).bind toB).bind kNot := by (conv => lhs; unfold evE) <;> rfl
@[simp] theorem eE_ite {c a b} : evE glob F (.ite c a b) s = ((evE glob F c s).bind toB).bind (kIte glob F a b) := by (conv => lhs; unfold evE) <;> rfl
@[simp] theorem eE_f1 {f a} : evE glob F (.f1 f a) s = (evE glob F a s).bind (kF1 f) := by (conv => lhs; unfold evE) <;> rfl
@[simp] theorem eE_call {f l} : evE glob F (.call f l) s = (evEs glob F l s).bind (kCall F f) := by (conv => lhs; unfold evE) <;> rfl
@[simp] theorem eE_chain {o o2 a b c} : evE glob F (.chain o o2 a b c) s = (evE glob F a s).bind (kCh1 glob F o o2 b c) := by
  conv => lhs; unfold evE
  congr; funext x s1; rw [kCh1_eq]; congr; funext y s2; rw [kCh2_eq]
  cases evO o x y with
  | none => rfl
  | some d => cases d with
    | bl b => cases b <;> rfl
    | _ => rfl
@[simp] theorem eE_isi {t a} : evE glob F (.isi t a) s = (evE glob F a s).bind (kIsi t) := by (conv => lhs; unfold evE) <;> rfl
@[simp] theorem eE_sl {a lo hi} : evE glob F (.sl a lo hi) s = (evE glob F a s).bind (kSl1 glob F lo hi) := by (conv => lhs; unfold evE) <;> rfl
@[simp] theorem eE_rev {a} : evE glob F (.rev a) s = (evE glob F a s).bind kRev := by (conv => lhs; unfold evE) <;> rfl
@[simp] theorem eE_ix {a i} : evE glob F (.ix a i) s = (evE glob F a s).bind (kIx1 glob F i) := by (conv => lhs; unfold evE) <;> rfl
@[simp] theorem eE_min2 {a b} : evE glob F (.min2 a b) s = (evE glob F a s).bind (kMin1 glob F b) := by
  conv => lhs; unfold evE
  congr; funext x s1; rw [kMin1_eq]; congr; funext y s2; rw [kMin2_eq]
  cases x <;> cases y <;> rfl
@[simp] theorem eE_shr {l} : evE glob F (.shr l) s = (evEs glob F l s).bind kShr := by (conv => lhs; unfold evE) <;> rfl
@[simp] theorem eE_oLen {i} : evE glob F (.oLen i) s = lenG s.r[i]? s := by
  conv => lhs; unfold evE
  cases s.r[i]? with
  | none => rfl
  | some c => cases c <;> rfl
@[simp] theorem eE_oNE {i} : evE glob F (.oNE i) s = neG s.r[i]? s := by
  conv => lhs; unfold evE
  cases s.r[i]? with
  | none => rfl
  | some c => cases c <;> rfl
@[simp] theorem eE_oEQ {i} : evE glob F (.oEQ i) s = eqG s.r[i]? s := by
  conv => lhs; unfold evE
  cases s.r[i]? with
  | none => rfl
  | some c => cases c <;> rfl
@[simp] theorem eE_oIx {i e} : evE glob F (.oIx i e) s = ifB (hasO s.r[i]?) ((evE glob F e s).bind (kOIx i)) .bad := by
  conv => lhs; unfold evE
  cases hasO s.r[i]? with
  | false => rfl
  | true =>
    show (evE glob F e s).bind _ = (evE glob F e s).bind _
    congr; funext x s1; rw [kOIx_eq]
    cases s1.r[i]? with
    | none => rfl
    | some c => cases c <;> rfl
@[simp] theorem eE_oOp {o i e} : evE glob F (.oOp o i e) s = ifB (hasL s.r[i]?) ((evE glob F e s).bind (kOOp o i)) .bad := by
  conv => lhs; unfold evE
  cases hasL s.r[i]? with
  | false => rfl
  | true =>
    show (evE glob F e s).bind _ = (evE glob F e s).bind _
    congr; funext x s1; rw [kOOp_eq]
    cases s1.r[i]? with
    | none => rfl
    | some c => cases c with
      | oL l =>
        rw [oOpG_eq]
        show (match evO o (.lst l) x with
              | some (.bl b) => R.ok (D.bl b) s1
              | _ => .bad) = _
        cases evO o (.lst l) x with
        | none => rfl
        | some d => cases d <;> rfl
      | _ => rfl
@[simp] theorem eE_oSl {i lo hi} : evE glob F (.oSl i lo hi) s = ifB (hasL s.r[i]?) ((evEo glob F lo s).bind (kOSl1 glob F i hi)) .bad := by
  conv => lhs; unfold evE
  cases hasL s.r[i]? with
  | false => rfl
  | true =>
    show (evEo glob F lo s).bind _ = (evEo glob F lo s).bind _
    congr; funext x s1; rw [kOSl1_eq]; congr; funext y s2; rw [kOSl2_eq]
    cases s2.r[i]? with
    | none => rfl
    | some c => cases c <;> rfl
@[simp] theorem eE_oIsi {t i} : evE glob F (.oIsi t i) s = oIsiG t s.r[i]? s := by
  conv => lhs; unfold evE
  cases s.r[i]? with
  | none => rfl
  | some c => cases c <;> rfl
@[simp] theorem eE_oIn {e i} : evE glob F (.oIn e i) s = (evE glob F e s).bind (kOIn i) := by
  conv => lhs; unfold evE
  skip
  congr; funext x s1; rw [kOIn_eq]
  cases s1.r[i]? with
  | none => rfl
  | some c => cases c <;> rfl
@[simp] theorem eE_oNin {e i} : evE glob F (.oNin e i) s = (evE glob F e s).bind (kONin i) := by
  conv => lhs; unfold evE
  skip
  congr; funext x s1; rw [kONin_eq]
  cases s1.r[i]? with
  | none => rfl
  | some c => cases c <;> rfl
@[simp] theorem eE_oPop {i} : evE glob F (.oPop i) s = popG i s.r[i]? s := by
  conv => lhs; unfold evE
  cases s.r[i]? with
  | none => rfl
  | some c => cases c <;> rfl
@[simp] theorem eE_oPopAt {i e} : evE glob F (.oPopAt i e) s = ifB (hasL s.r[i]?) ((evE glob F e s).bind (kPopAt i)) .bad := by (conv => lhs; unfold evE) <;> rfl
@[simp] theorem eE_oTup {i} : evE glob F (.oTup i) s = tupG s.r[i]? s := by
  conv => lhs; unfold evE
  cases s.r[i]? with
  | none => rfl
  | some c => cases c <;> rfl
@[simp] theorem eE_oLst {i} : evE glob F (.oLst i) s = lstG s.r[i]? s := by
  conv => lhs; unfold evE
  cases s.r[i]? with
  | none => rfl
  | some c => cases c <;> rfl
@[simp] theorem eE_neg {a} : evE glob F (.neg a) s = (evE glob F a s).bind negG := by
  conv => lhs; unfold evE
  congr; funext x s1; cases x <;> rfl
@[simp] theorem eE_oGet {i e d} : evE glob F (.oGet i e d) s = ifB (hasD s.r[i]?) ((evE glob F e s).bind (kOGet1 glob F i d)) .bad := by
  conv => lhs; unfold evE
  cases hasD s.r[i]? with
  | false => rfl
  | true =>
    show (evE glob F e s).bind _ = (evE glob F e s).bind _
    congr; funext x s1; rw [kOGet1_eq]; congr; funext y s2; rw [kOGet2_eq]
    cases s2.r[i]? with
    | none => rfl
    | some c => cases c <;> rfl
@[simp] theorem eE_get {d k e} : evE glob F (.get d k e) s = (evE glob F d s).bind (kGet1 glob F k e) := by (conv => lhs; unfold evE) <;> rfl
@[simp] theorem eE_dic {ks vs} : evE glob F (.dic ks vs) s = (evEs glob F ks s).bind (kDic1 glob F vs) := by (conv => lhs; unfold evE) <;> rfl
@[simp] theorem eE_sdic {ks vs} : evE glob F (.sdic ks vs) s = (evEs glob F ks s).bind (kSDic1 glob F vs) := by (conv => lhs; unfold evE) <;> rfl
@[simp] theorem eE_lc {e g it c ws} : evE glob F (.lc e g it c ws) s = (evW glob F it s).bind (kLc (lcBody glob F e g c) ws) := by (conv => lhs; unfold evE) <;> rfl
@[simp] theorem eE_dc {k v g it c ws} : evE glob F (.dc k v g it c ws) s = (evW glob F it s).bind (kDc (dcBody glob F k v g c) ws) := by (conv => lhs; unfold evE) <;> rfl
@[simp] theorem eEs_nil : evEs glob F [] s = .ok [] s := by (conv => lhs; unfold evEs) <;> rfl
@[simp] theorem eEs_cons {e l} : evEs glob F (e :: l) s = (evE glob F e s).bind (kEs1 glob F l) := by (conv => lhs; unfold evEs) <;> rfl
@[simp] theorem eAnd_one {e} : evAnd glob F [e] s = evE glob F e s := by (conv => lhs; unfold evAnd) <;> rfl
@[simp] theorem eAnd_cons {e e2 l} : evAnd glob F (e :: e2 :: l) s = ((evE glob F e s).bind toB).bind (kAnd glob F (e2 :: l)) := by (conv => lhs; unfold evAnd) <;> rfl
@[simp] theorem eOr_one {e} : evOr glob F [e] s = evE glob F e s := by (conv => lhs; unfold evOr) <;> rfl
@[simp] theorem eOr_cons {e e2 l} : evOr glob F (e :: e2 :: l) s = ((evE glob F e s).bind toB).bind (kOr glob F (e2 :: l)) := by (conv => lhs; unfold evOr) <;> rfl
@[simp] theorem eEo_none : evEo glob F none s = .ok none s := by (conv => lhs; unfold evEo) <;> rfl
@[simp] theorem eEo_some {e} : evEo glob F (some e) s = (evE glob F e s).bind optG := by
  conv => lhs; unfold evEo
  congr; funext x s1; cases x <;> rfl
@[simp] theorem eC_none : evC glob F none s = .ok true s := by (conv => lhs; unfold evC) <;> rfl
@[simp] theorem eC_some {e} : evC glob F (some e) s = (evE glob F e s).bind toB := by (conv => lhs; unfold evC) <;> rfl
@[simp] theorem eS_set {g e} : evS glob F (.set g e) s = (evE glob F e s).bind (kSet g) := by (conv => lhs; unfold evS) <;> rfl
@[simp] theorem eS_own {i e} : evS glob F (.own i e) s = (evE glob F e s).bind (kOwn i) := by
  conv => lhs; unfold evS
  congr; funext x s1; rw [kOwn_eq]
  cases ownS x <;> rfl
@[simp] theorem eS_par {is es} : evS glob F (.par is es) s = (evEs glob F es s).noX.bind (kPar is) := by (conv => lhs; unfold evS) <;> rfl
@[simp] theorem eS_ret {e} : evS glob F (.ret e) s = (evE glob F e s).bind kRet := by (conv => lhs; unfold evS) <;> rfl
@[simp] theorem eS_retN  : evS glob F .retN s = .ok (.ret .non) s := by (conv => lhs; unfold evS) <;> rfl
@[simp] theorem eS_ite {c a b} : evS glob F (.ite c a b) s = ((evE glob F c s).bind toB).bind (kIteS glob F a b) := by (conv => lhs; unfold evS) <;> rfl
@[simp] theorem eS_for {g it b} : evS glob F (.for_ g it b) s = (evW glob F it s).bind (kFor (forBody glob F g b)) := by (conv => lhs; unfold evS) <;> rfl
@[simp] theorem eS_while {c b} : evS glob F (.while_ c b) s = whGo (whC glob F c) (whB glob F b) WF s := by (conv => lhs; unfold evS) <;> rfl
@[simp] theorem eS_app {i e} : evS glob F (.app i e) s = ifB (hasL s.r[i]?) ((evE glob F e s).bind (kApp i)) .bad := by (conv => lhs; unfold evS) <;> rfl
@[simp] theorem eS_put {i k e} : evS glob F (.put i k e) s = (evE glob F e s).bind (kPut1 glob F i k) := by (conv => lhs; unfold evS) <;> rfl
@[simp] theorem eS_shPut {i k e} : evS glob F (.shPut i k e) s = (evE glob F e s).bind (kShPut i k) := by (conv => lhs; unfold evS) <;> rfl
@[simp] theorem eS_ex {e} : evS glob F (.ex e) s = (evE glob F e s).bind kEx := by (conv => lhs; unfold evS) <;> rfl
@[simp] theorem eS_pass  : evS glob F .pass s = .ok .nx s := by (conv => lhs; unfold evS) <;> rfl
@[simp] theorem eSs_nil : evSs glob F [] s = .ok .nx s := by (conv => lhs; unfold evSs) <;> rfl
@[simp] theorem eSs_cons {x l} : evSs glob F (x :: l) s = (evS glob F x s).bind (kS glob F l) := by
  conv => lhs; unfold evSs
  congr; funext o s1; cases o <;> rfl
@[simp] theorem eW_ex {e} : evW glob F (.ex e) s = (evE glob F e s).bind kWalk := by (conv => lhs; unfold evW) <;> rfl
@[simp] theorem eW_rng {e} : evW glob F (.rng e) s = (evE glob F e s).bind kRng := by
  conv => lhs; unfold evW
  congr; funext x s1; rw [kRng_eq]
  cases x with
  | int j =>
    show (if -(2 ^ 62) ≤ j ∧ j < 2 ^ 62 then _ else _) = R.of (if -(2 ^ 62) ≤ j ∧ j < 2 ^ 62 then _ else _) s1
    by_cases h : -(2 ^ 62) ≤ j ∧ j < 2 ^ 62
    · rw [if_pos h, if_pos h]; rfl
    · rw [if_neg h, if_neg h]; rfl
  | _ => rfl
@[simp] theorem eW_zip {a b} : evW glob F (.zip a b) s = (evE glob F a s).bind (kZip1 glob F b) := by
  conv => lhs; unfold evW
  congr; funext x s1; rw [kZip1_eq]; congr; funext y s2; rw [kZip2_eq]
  cases x <;> cases y <;> rfl
@[simp] theorem eW_enum {a} : evW glob F (.enum a) s = (evE glob F a s).bind kEnum := by
  conv => lhs; unfold evW
  congr; funext x s1; rw [kEnum_eq]
  cases x <;> rfl
@[simp] theorem eW_items {a} : evW glob F (.items a) s = (evE glob F a s).bind kItems := by
  conv => lhs; unfold evW
  congr; funext x s1; rw [kItems_eq]
  cases x <;> rfl
@[simp] theorem eW_vals {a} : evW glob F (.vals a) s = (evE glob F a s).bind kVals := by
  conv => lhs; unfold evW
  congr; funext x s1; rw [kVals_eq]
  cases x <;> rfl
end
end TD.P

-- UT
set_option maxHeartbeats 1000000
/-! the functions in my syntax (printed by gen2.py) -/
namespace TD.P
open PySem PySem.Spec PyProof.Rows L2
def c_LETTERS : D := .str "abcdefghijklmnopqrstuvwxyz"
class K_LETTERS (p : Pgm) : Prop where
  k_LETTERS : p.glob "LETTERS" = some c_LETTERS
def c_WORDS : D := .tup [.str "and", .str "nothing", .str "or", .str "then", .str "to", .str "where"]
class K_WORDS (p : Pgm) : Prop where
  k_WORDS : p.glob "WORDS" = some c_WORDS
def c_MOST_TAGS : D := .int 4
class K_MOST_TAGS (p : Pgm) : Prop where
  k_MOST_TAGS : p.glob "MOST_TAGS" = some c_MOST_TAGS
def c_MOST_THINGS : D := .int 20
class K_MOST_THINGS (p : Pgm) : Prop where
  k_MOST_THINGS : p.glob "MOST_THINGS" = some c_MOST_THINGS
def c_MOST_TERMS : D := .int 16
class K_MOST_TERMS (p : Pgm) : Prop where
  k_MOST_TERMS : p.glob "MOST_TERMS" = some c_MOST_TERMS
def c_MOST_STEPS : D := .int 6
class K_MOST_STEPS (p : Pgm) : Prop where
  k_MOST_STEPS : p.glob "MOST_STEPS" = some c_MOST_STEPS
def c_MOST_BOUND : D := .int 3
class K_MOST_BOUND (p : Pgm) : Prop where
  k_MOST_BOUND : p.glob "MOST_BOUND" = some c_MOST_BOUND
def c_MOST_RULES : D := .int 6
class K_MOST_RULES (p : Pgm) : Prop where
  k_MOST_RULES : p.glob "MOST_RULES" = some c_MOST_RULES
abbrev i_is_name : Nat := 0
/-- value sign -/
def b_is_name : List Sx := [.ret (.and [.isi .str (.var 0), .chain .le .le (.int 1) (.f1 .len (.var 0)) (.int 8), .f1 .all (.lc (.op .isin (.var 1) (.glob "LETTERS")) (.v 1) (.ex (.var 0)) none [1])])]
def u_is_name : Fn := ⟨1, 2, b_is_name⟩
class H_is_name (p : Pgm) : Prop extends K_LETTERS p where
  e_is_name : p.tbl i_is_name = some u_is_name
theorem call_is_name {p : Pgm} [h : H_is_name p] {n : Nat} {s : S} {d0 : D} : call (Ev p (n + 1)) i_is_name [d0] s = fin s (evSs p.glob (Ev p n) b_is_name ⟨[.val d0, .no], s.g⟩) := call_ev h.e_is_name rfl (by decide)
abbrev i_rising : Nat := 1
/-- values one other -/
def b_rising : List Sx := [.ret (.f1 .all (.lc (.op .lt (.var 1) (.var 2)) (.t [.v 1, .v 2]) (.zip (.var 0) (.sl (.var 0) (some (.int 1)) none)) none [1, 2]))]
def u_rising : Fn := ⟨1, 3, b_rising⟩
class H_rising (p : Pgm) : Prop where
  e_rising : p.tbl i_rising = some u_rising
theorem call_rising {p : Pgm} [h : H_rising p] {n : Nat} {s : S} {d0 : D} : call (Ev p (n + 1)) i_rising [d0] s = fin s (evSs p.glob (Ev p n) b_rising ⟨[.val d0, .no, .no], s.g⟩) := call_ev h.e_rising rfl (by decide)
abbrev i_is_tags : Nat := 2
/-- value tag -/
def b_is_tags : List Sx := [.ite (.or [.not (.isi .tup (.var 0)), .not (.chain .le .le (.int 1) (.f1 .len (.var 0)) (.glob "MOST_TAGS"))]) [.ret (.bl false)] [], .ret (.and [.f1 .all (.lc (.and [.call i_is_name [.var 1], .op .notin (.var 1) (.glob "WORDS")]) (.v 1) (.ex (.var 0)) none [1]), .call i_rising [.var 0]])]
def u_is_tags : Fn := ⟨1, 2, b_is_tags⟩
class H_is_tags (p : Pgm) : Prop extends H_is_name p, H_rising p, K_MOST_TAGS p, K_WORDS p where
  e_is_tags : p.tbl i_is_tags = some u_is_tags
theorem call_is_tags {p : Pgm} [h : H_is_tags p] {n : Nat} {s : S} {d0 : D} : call (Ev p (n + 1)) i_is_tags [d0] s = fin s (evSs p.glob (Ev p n) b_is_tags ⟨[.val d0, .no], s.g⟩) := call_ev h.e_is_tags rfl (by decide)
abbrev i_is_tag : Nat := 3
/-- tags value -/
def b_is_tag : List Sx := [.ret (.and [.isi .str (.var 1), .op .isin (.var 1) (.var 0)])]
def u_is_tag : Fn := ⟨2, 2, b_is_tag⟩
class H_is_tag (p : Pgm) : Prop where
  e_is_tag : p.tbl i_is_tag = some u_is_tag
theorem call_is_tag {p : Pgm} [h : H_is_tag p] {n : Nat} {s : S} {d0 d1 : D} : call (Ev p (n + 1)) i_is_tag [d0, d1] s = fin s (evSs p.glob (Ev p n) b_is_tag ⟨[.val d0, .val d1], s.g⟩) := call_ev h.e_is_tag rfl (by decide)
abbrev i_is_some : Nat := 4
/-- tags value tag -/
def b_is_some : List Sx := [.ret (.and [.isi .tup (.var 1), .f1 .all (.lc (.call i_is_tag [.var 0, .var 2]) (.v 2) (.ex (.var 1)) none [2]), .call i_rising [.var 1]])]
def u_is_some : Fn := ⟨2, 3, b_is_some⟩
class H_is_some (p : Pgm) : Prop extends H_is_tag p, H_rising p where
  e_is_some : p.tbl i_is_some = some u_is_some
theorem call_is_some {p : Pgm} [h : H_is_some p] {n : Nat} {s : S} {d0 d1 : D} : call (Ev p (n + 1)) i_is_some [d0, d1] s = fin s (evSs p.glob (Ev p n) b_is_some ⟨[.val d0, .val d1, .no], s.g⟩) := call_ev h.e_is_some rfl (by decide)
abbrev i_are_sets : Nat := 5
/-- tags value some -/
def b_are_sets : List Sx := [.ret (.and [.isi .tup (.var 1), .op .le (.f1 .len (.var 1)) (.glob "MOST_THINGS"), .f1 .all (.lc (.call i_is_some [.var 0, .var 2]) (.v 2) (.ex (.var 1)) none [2])])]
def u_are_sets : Fn := ⟨2, 3, b_are_sets⟩
class H_are_sets (p : Pgm) : Prop extends H_is_some p, K_MOST_THINGS p where
  e_are_sets : p.tbl i_are_sets = some u_are_sets
theorem call_are_sets {p : Pgm} [h : H_are_sets p] {n : Nat} {s : S} {d0 d1 : D} : call (Ev p (n + 1)) i_are_sets [d0, d1] s = fin s (evSs p.glob (Ev p n) b_are_sets ⟨[.val d0, .val d1, .no], s.g⟩) := call_ev h.e_are_sets rfl (by decide)
abbrev i_need_tags : Nat := 6
/-- value -/
def b_need_tags : List Sx := [.ite (.not (.call i_is_tags [.var 0])) [.nope] []]
def u_need_tags : Fn := ⟨1, 1, b_need_tags⟩
class H_need_tags (p : Pgm) : Prop extends H_is_tags p where
  e_need_tags : p.tbl i_need_tags = some u_need_tags
theorem call_need_tags {p : Pgm} [h : H_need_tags p] {n : Nat} {s : S} {d0 : D} : call (Ev p (n + 1)) i_need_tags [d0] s = fin s (evSs p.glob (Ev p n) b_need_tags ⟨[.val d0], s.g⟩) := call_ev h.e_need_tags rfl (by decide)
abbrev i_all_sets : Nat := 7
/-- tags found tag some -/
def b_all_sets : List Sx := [.set (.v 1) (.lst [.tup []]), .for_ (.v 2) (.ex (.rev (.var 0))) [.set (.v 1) (.op .add (.op .add (.lst [.tup []]) (.lc (.op .add (.tup [.var 2]) (.var 3)) (.v 3) (.ex (.var 1)) none [3])) (.sl (.var 1) (some (.int 1)) none))], .ret (.var 1)]
def u_all_sets : Fn := ⟨1, 4, b_all_sets⟩
class H_all_sets (p : Pgm) : Prop where
  e_all_sets : p.tbl i_all_sets = some u_all_sets
theorem call_all_sets {p : Pgm} [h : H_all_sets p] {n : Nat} {s : S} {d0 : D} : call (Ev p (n + 1)) i_all_sets [d0] s = fin s (evSs p.glob (Ev p n) b_all_sets ⟨[.val d0, .no, .no, .no], s.g⟩) := call_ev h.e_all_sets rfl (by decide)
abbrev i_is_set : Nat := 8
/-- tags value -/
def b_is_set : List Sx := [.ex (.call i_need_tags [.var 0]), .ret (.call i_is_some [.var 0, .var 1])]
def u_is_set : Fn := ⟨2, 2, b_is_set⟩
class H_is_set (p : Pgm) : Prop extends H_is_some p, H_need_tags p where
  e_is_set : p.tbl i_is_set = some u_is_set
theorem call_is_set {p : Pgm} [h : H_is_set p] {n : Nat} {s : S} {d0 d1 : D} : call (Ev p (n + 1)) i_is_set [d0, d1] s = fin s (evSs p.glob (Ev p n) b_is_set ⟨[.val d0, .val d1], s.g⟩) := call_ev h.e_is_set rfl (by decide)
abbrev i_is_stock : Nat := 9
/-- tags value -/
def b_is_stock : List Sx := [.ex (.call i_need_tags [.var 0]), .ret (.call i_are_sets [.var 0, .var 1])]
def u_is_stock : Fn := ⟨2, 2, b_is_stock⟩
class H_is_stock (p : Pgm) : Prop extends H_are_sets p, H_need_tags p where
  e_is_stock : p.tbl i_is_stock = some u_is_stock
theorem call_is_stock {p : Pgm} [h : H_is_stock p] {n : Nat} {s : S} {d0 d1 : D} : call (Ev p (n + 1)) i_is_stock [d0, d1] s = fin s (evSs p.glob (Ev p n) b_is_stock ⟨[.val d0, .val d1], s.g⟩) := call_ev h.e_is_stock rfl (by decide)
abbrev i_sets_of : Nat := 10
/-- tags -/
def b_sets_of : List Sx := [.ex (.call i_need_tags [.var 0]), .ret (.call i_all_sets [.var 0])]
def u_sets_of : Fn := ⟨1, 1, b_sets_of⟩
class H_sets_of (p : Pgm) : Prop extends H_all_sets p, H_need_tags p where
  e_sets_of : p.tbl i_sets_of = some u_sets_of
theorem call_sets_of {p : Pgm} [h : H_sets_of p] {n : Nat} {s : S} {d0 : D} : call (Ev p (n + 1)) i_sets_of [d0] s = fin s (evSs p.glob (Ev p n) b_sets_of ⟨[.val d0], s.g⟩) := call_ev h.e_sets_of rfl (by decide)
abbrev i_is_term : Nat := 11
/-- tags value tag some -/
def b_is_term : List Sx := [.ite (.or [.not (.isi .tup (.var 1)), .op .ne (.f1 .len (.var 1)) (.int 2), .not (.f1 .all (.lc (.call i_is_some [.var 0, .var 3]) (.v 3) (.ex (.var 1)) none [3]))]) [.ret (.bl false)] [], .ret (.f1 .all (.lc (.op .notin (.var 2) (.ix (.var 1) (.int 1))) (.v 2) (.ex (.ix (.var 1) (.int 0))) none [2]))]
def u_is_term : Fn := ⟨2, 4, b_is_term⟩
class H_is_term (p : Pgm) : Prop extends H_is_some p where
  e_is_term : p.tbl i_is_term = some u_is_term
theorem call_is_term {p : Pgm} [h : H_is_term p] {n : Nat} {s : S} {d0 d1 : D} : call (Ev p (n + 1)) i_is_term [d0, d1] s = fin s (evSs p.glob (Ev p n) b_is_term ⟨[.val d0, .val d1, .no, .no], s.g⟩) := call_ev h.e_is_term rfl (by decide)
abbrev i_is_good : Nat := 12
/-- tags value term -/
def b_is_good : List Sx := [.ite (.or [.not (.isi .tup (.var 1)), .op .gt (.f1 .len (.var 1)) (.glob "MOST_TERMS"), .not (.f1 .all (.lc (.call i_is_term [.var 0, .var 2]) (.v 2) (.ex (.var 1)) none [2]))]) [.ret (.bl false)] [], .ret (.call i_rising [.var 1])]
def u_is_good : Fn := ⟨2, 3, b_is_good⟩
class H_is_good (p : Pgm) : Prop extends H_is_term p, H_rising p, K_MOST_TERMS p where
  e_is_good : p.tbl i_is_good = some u_is_good
theorem call_is_good {p : Pgm} [h : H_is_good p] {n : Nat} {s : S} {d0 d1 : D} : call (Ev p (n + 1)) i_is_good [d0, d1] s = fin s (evSs p.glob (Ev p n) b_is_good ⟨[.val d0, .val d1, .no], s.g⟩) := call_ev h.e_is_good rfl (by decide)
abbrev i_is_filter : Nat := 13
/-- tags value -/
def b_is_filter : List Sx := [.ex (.call i_need_tags [.var 0]), .ret (.call i_is_good [.var 0, .var 1])]
def u_is_filter : Fn := ⟨2, 2, b_is_filter⟩
class H_is_filter (p : Pgm) : Prop extends H_is_good p, H_need_tags p where
  e_is_filter : p.tbl i_is_filter = some u_is_filter
theorem call_is_filter {p : Pgm} [h : H_is_filter p] {n : Nat} {s : S} {d0 d1 : D} : call (Ev p (n + 1)) i_is_filter [d0, d1] s = fin s (evSs p.glob (Ev p n) b_is_filter ⟨[.val d0, .val d1], s.g⟩) := call_ev h.e_is_filter rfl (by decide)
abbrev i_is_deed : Nat := 14
/-- tags value -/
def b_is_deed : List Sx := [.ite (.or [.not (.isi .tup (.var 1)), .op .eq (.var 1) (.tup []), .not (.isi .str (.ix (.var 1) (.int 0)))]) [.ret (.bl false)] [], .ite (.op .isin (.ix (.var 1) (.int 0)) (.tup [.str "put", .str "take"])) [.ret (.and [.op .eq (.f1 .len (.var 1)) (.int 3), .call i_is_tag [.var 0, .ix (.var 1) (.int 1)], .call i_is_good [.var 0, .ix (.var 1) (.int 2)]])] [], .ite (.op .isin (.ix (.var 1) (.int 0)) (.tup [.str "rename", .str "exchange"])) [.ret (.and [.op .eq (.f1 .len (.var 1)) (.int 3), .call i_is_tag [.var 0, .ix (.var 1) (.int 1)], .call i_is_tag [.var 0, .ix (.var 1) (.int 2)], .op .ne (.ix (.var 1) (.int 1)) (.ix (.var 1) (.int 2))])] [], .ret (.and [.op .eq (.ix (.var 1) (.int 0)) (.str "throw"), .op .eq (.f1 .len (.var 1)) (.int 2), .call i_is_good [.var 0, .ix (.var 1) (.int 1)]])]
def u_is_deed : Fn := ⟨2, 2, b_is_deed⟩
class H_is_deed (p : Pgm) : Prop extends H_is_good p, H_is_tag p where
  e_is_deed : p.tbl i_is_deed = some u_is_deed
theorem call_is_deed {p : Pgm} [h : H_is_deed p] {n : Nat} {s : S} {d0 d1 : D} : call (Ev p (n + 1)) i_is_deed [d0, d1] s = fin s (evSs p.glob (Ev p n) b_is_deed ⟨[.val d0, .val d1], s.g⟩) := call_ev h.e_is_deed rfl (by decide)
abbrev i_is_bound : Nat := 15
/-- step -/
def b_is_bound : List Sx := [.ret (.op .isin (.ix (.var 0) (.int 0)) (.tup [.str "if", .str "unless"]))]
def u_is_bound : Fn := ⟨1, 1, b_is_bound⟩
class H_is_bound (p : Pgm) : Prop where
  e_is_bound : p.tbl i_is_bound = some u_is_bound
theorem call_is_bound {p : Pgm} [h : H_is_bound p] {n : Nat} {s : S} {d0 : D} : call (Ev p (n + 1)) i_is_bound [d0] s = fin s (evSs p.glob (Ev p n) b_is_bound ⟨[.val d0], s.g⟩) := call_ev h.e_is_bound rfl (by decide)
abbrev i_is_step : Nat := 16
/-- tags value -/
def b_is_step : List Sx := [.ite (.call i_is_deed [.var 0, .var 1]) [.ret (.bl true)] [], .ite (.or [.not (.isi .tup (.var 1)), .op .ne (.f1 .len (.var 1)) (.int 3), .not (.isi .str (.ix (.var 1) (.int 0))), .not (.call i_is_bound [.var 1])]) [.ret (.bl false)] [], .ret (.and [.call i_is_good [.var 0, .ix (.var 1) (.int 1)], .call i_is_deed [.var 0, .ix (.var 1) (.int 2)]])]
def u_is_step : Fn := ⟨2, 2, b_is_step⟩
class H_is_step (p : Pgm) : Prop extends H_is_bound p, H_is_deed p, H_is_good p where
  e_is_step : p.tbl i_is_step = some u_is_step
theorem call_is_step {p : Pgm} [h : H_is_step p] {n : Nat} {s : S} {d0 d1 : D} : call (Ev p (n + 1)) i_is_step [d0, d1] s = fin s (evSs p.glob (Ev p n) b_is_step ⟨[.val d0, .val d1], s.g⟩) := call_ev h.e_is_step rfl (by decide)
abbrev i_many_bound : Nat := 17
/-- row step -/
def b_many_bound : List Sx := [.ret (.f1 .len (.lc (.var 1) (.v 1) (.ex (.var 0)) (some (.call i_is_bound [.var 1])) [1]))]
def u_many_bound : Fn := ⟨1, 2, b_many_bound⟩
class H_many_bound (p : Pgm) : Prop extends H_is_bound p where
  e_many_bound : p.tbl i_many_bound = some u_many_bound
theorem call_many_bound {p : Pgm} [h : H_many_bound p] {n : Nat} {s : S} {d0 : D} : call (Ev p (n + 1)) i_many_bound [d0] s = fin s (evSs p.glob (Ev p n) b_many_bound ⟨[.val d0, .no], s.g⟩) := call_ev h.e_many_bound rfl (by decide)
abbrev i_is_good_row : Nat := 18
/-- tags value step -/
def b_is_good_row : List Sx := [.ite (.or [.not (.isi .tup (.var 1)), .op .gt (.f1 .len (.var 1)) (.glob "MOST_STEPS"), .not (.f1 .all (.lc (.call i_is_step [.var 0, .var 2]) (.v 2) (.ex (.var 1)) none [2]))]) [.ret (.bl false)] [], .ret (.op .le (.call i_many_bound [.var 1]) (.glob "MOST_BOUND"))]
def u_is_good_row : Fn := ⟨2, 3, b_is_good_row⟩
class H_is_good_row (p : Pgm) : Prop extends H_is_step p, H_many_bound p, K_MOST_BOUND p, K_MOST_STEPS p where
  e_is_good_row : p.tbl i_is_good_row = some u_is_good_row
theorem call_is_good_row {p : Pgm} [h : H_is_good_row p] {n : Nat} {s : S} {d0 d1 : D} : call (Ev p (n + 1)) i_is_good_row [d0, d1] s = fin s (evSs p.glob (Ev p n) b_is_good_row ⟨[.val d0, .val d1, .no], s.g⟩) := call_ev h.e_is_good_row rfl (by decide)
abbrev i_is_row : Nat := 19
/-- tags value -/
def b_is_row : List Sx := [.ex (.call i_need_tags [.var 0]), .ret (.call i_is_good_row [.var 0, .var 1])]
def u_is_row : Fn := ⟨2, 2, b_is_row⟩
class H_is_row (p : Pgm) : Prop extends H_is_good_row p, H_need_tags p where
  e_is_row : p.tbl i_is_row = some u_is_row
theorem call_is_row {p : Pgm} [h : H_is_row p] {n : Nat} {s : S} {d0 d1 : D} : call (Ev p (n + 1)) i_is_row [d0, d1] s = fin s (evSs p.glob (Ev p n) b_is_row ⟨[.val d0, .val d1], s.g⟩) := call_ev h.e_is_row rfl (by decide)
abbrev i_is_rule : Nat := 20
/-- tags value -/
def b_is_rule : List Sx := [.ite (.or [.not (.isi .tup (.var 1)), .op .ne (.f1 .len (.var 1)) (.int 3), .not (.call i_is_good [.var 0, .ix (.var 1) (.int 0)])]) [.ret (.bl false)] [], .ret (.and [.isi .str (.ix (.var 1) (.int 1)), .op .isin (.ix (.var 1) (.int 1)) (.tup [.str "put", .str "take"]), .call i_is_tag [.var 0, .ix (.var 1) (.int 2)]])]
def u_is_rule : Fn := ⟨2, 2, b_is_rule⟩
class H_is_rule (p : Pgm) : Prop extends H_is_good p, H_is_tag p where
  e_is_rule : p.tbl i_is_rule = some u_is_rule
theorem call_is_rule {p : Pgm} [h : H_is_rule p] {n : Nat} {s : S} {d0 d1 : D} : call (Ev p (n + 1)) i_is_rule [d0, d1] s = fin s (evSs p.glob (Ev p n) b_is_rule ⟨[.val d0, .val d1], s.g⟩) := call_ev h.e_is_rule rfl (by decide)
abbrev i_are_rules : Nat := 21
/-- tags value rule -/
def b_are_rules : List Sx := [.ret (.and [.isi .tup (.var 1), .op .le (.f1 .len (.var 1)) (.glob "MOST_RULES"), .f1 .all (.lc (.call i_is_rule [.var 0, .var 2]) (.v 2) (.ex (.var 1)) none [2])])]
def u_are_rules : Fn := ⟨2, 3, b_are_rules⟩
class H_are_rules (p : Pgm) : Prop extends H_is_rule p, K_MOST_RULES p where
  e_are_rules : p.tbl i_are_rules = some u_are_rules
theorem call_are_rules {p : Pgm} [h : H_are_rules p] {n : Nat} {s : S} {d0 d1 : D} : call (Ev p (n + 1)) i_are_rules [d0, d1] s = fin s (evSs p.glob (Ev p n) b_are_rules ⟨[.val d0, .val d1, .no], s.g⟩) := call_ev h.e_are_rules rfl (by decide)
abbrev i_is_rules : Nat := 22
/-- tags value -/
def b_is_rules : List Sx := [.ex (.call i_need_tags [.var 0]), .ret (.call i_are_rules [.var 0, .var 1])]
def u_is_rules : Fn := ⟨2, 2, b_is_rules⟩
class H_is_rules (p : Pgm) : Prop extends H_are_rules p, H_need_tags p where
  e_is_rules : p.tbl i_is_rules = some u_is_rules
theorem call_is_rules {p : Pgm} [h : H_is_rules p] {n : Nat} {s : S} {d0 d1 : D} : call (Ev p (n + 1)) i_is_rules [d0, d1] s = fin s (evSs p.glob (Ev p n) b_is_rules ⟨[.val d0, .val d1], s.g⟩) := call_ev h.e_is_rules rfl (by decide)
abbrev i_law_source : Nat := 23
/-- script k cell -/
def b_law_source : List Sx := [.set (.v 2) (.int 0), .ite (.op .lt (.var 1) (.f1 .len (.var 0))) [.set (.v 2) (.f1 .abs (.f1 .int (.ix (.var 0) (.var 1))))] [], .ite (.op .lt (.var 2) (.op .pow (.int 10) (.int 18))) [.ret (.shr [.int 0, .op .add (.int 1) (.op .mod (.f1 .int (.op .add (.op .mul (.var 2) (.int 7919)) (.op .mul (.int 104729) (.var 1)))) (.int 2147483646))])] [], .ret (.shr [.var 2, .op .add (.int 1) (.op .mod (.f1 .int (.op .add (.var 2) (.var 1))) (.int 2147483646))])]
def u_law_source : Fn := ⟨2, 3, b_law_source⟩
class H_law_source (p : Pgm) : Prop where
  e_law_source : p.tbl i_law_source = some u_law_source
theorem call_law_source {p : Pgm} [h : H_law_source p] {n : Nat} {s : S} {d0 d1 : D} : call (Ev p (n + 1)) i_law_source [d0, d1] s = fin s (evSs p.glob (Ev p n) b_law_source ⟨[.val d0, .val d1, .no], s.g⟩) := call_ev h.e_law_source rfl (by decide)
abbrev i_law_draw : Nat := 24
/-- source many found -/
def b_law_draw : List Sx := [.ite (.op .gt (.ix (.var 0) (.int 0)) (.int 0)) [.set (.v 2) (.op .mod (.f1 .int (.ix (.var 0) (.int 0))) (.var 1)), .shPut 0 0 (.op .fdiv (.ix (.var 0) (.int 0)) (.var 1)), .ret (.var 2)] [], .shPut 0 1 (.op .mod (.f1 .int (.op .mul (.ix (.var 0) (.int 1)) (.int 48271))) (.int 2147483647)), .ret (.op .mod (.f1 .int (.op .fdiv (.op .mod (.f1 .int (.op .mul (.ix (.var 0) (.int 1)) (.ix (.var 0) (.int 1)))) (.int 2147483629)) (.int 64))) (.var 1))]
def u_law_draw : Fn := ⟨2, 3, b_law_draw⟩
class H_law_draw (p : Pgm) : Prop where
  e_law_draw : p.tbl i_law_draw = some u_law_draw
theorem call_law_draw {p : Pgm} [h : H_law_draw p] {n : Nat} {s : S} {d0 d1 : D} : call (Ev p (n + 1)) i_law_draw [d0, d1] s = fin s (evSs p.glob (Ev p n) b_law_draw ⟨[.val d0, .val d1, .no], s.g⟩) := call_ev h.e_law_draw rfl (by decide)
abbrev i_law_of : Nat := 25
/-- source items -/
def b_law_of : List Sx := [.ret (.ix (.var 1) (.call i_law_draw [.var 0, .f1 .len (.var 1)]))]
def u_law_of : Fn := ⟨2, 2, b_law_of⟩
class H_law_of (p : Pgm) : Prop extends H_law_draw p where
  e_law_of : p.tbl i_law_of = some u_law_of
theorem call_law_of {p : Pgm} [h : H_law_of p] {n : Nat} {s : S} {d0 d1 : D} : call (Ev p (n + 1)) i_law_of [d0, d1] s = fin s (evSs p.glob (Ev p n) b_law_of ⟨[.val d0, .val d1], s.g⟩) := call_ev h.e_law_of rfl (by decide)
abbrev i_law_mixed : Nat := 26
/-- source items left found -/
def b_law_mixed : List Sx := [.par [(2, .own), (3, .own)] [.f1 .list (.var 1), .lst []], .while_ (.oNE 2) [.app 3 (.oPopAt 2 (.call i_law_draw [.var 0, .oLen 2]))], .ret (.move 3)]
def u_law_mixed : Fn := ⟨2, 4, b_law_mixed⟩
class H_law_mixed (p : Pgm) : Prop extends H_law_draw p where
  e_law_mixed : p.tbl i_law_mixed = some u_law_mixed
theorem call_law_mixed {p : Pgm} [h : H_law_mixed p] {n : Nat} {s : S} {d0 d1 : D} : call (Ev p (n + 1)) i_law_mixed [d0, d1] s = fin s (evSs p.glob (Ev p n) b_law_mixed ⟨[.val d0, .val d1, .no, .no], s.g⟩) := call_ev h.e_law_mixed rfl (by decide)
abbrev i_law_tags : Nat := 27
/-- source most some -/
def b_law_tags : List Sx := [.set (.v 2) (.lst [.str "done", .str "today", .str "urgent", .str "a", .str "b", .str "if", .str "put", .str "throw", .str "zzzzzzzz", .str "old", .str "unless", .str "rename"]), .ret (.f1 .tuple (.f1 .sorted (.sl (.call i_law_mixed [.var 0, .var 2]) none (some (.op .add (.int 1) (.call i_law_draw [.var 0, .var 1]))))))]
def u_law_tags : Fn := ⟨2, 3, b_law_tags⟩
class H_law_tags (p : Pgm) : Prop extends H_law_draw p, H_law_mixed p where
  e_law_tags : p.tbl i_law_tags = some u_law_tags
theorem call_law_tags {p : Pgm} [h : H_law_tags p] {n : Nat} {s : S} {d0 d1 : D} : call (Ev p (n + 1)) i_law_tags [d0, d1] s = fin s (evSs p.glob (Ev p n) b_law_tags ⟨[.val d0, .val d1, .no], s.g⟩) := call_ev h.e_law_tags rfl (by decide)
abbrev i_law_some : Nat := 28
/-- source tags tag -/
def b_law_some : List Sx := [.ret (.f1 .tuple (.lc (.var 2) (.v 2) (.ex (.var 1)) (some (.op .eq (.call i_law_draw [.var 0, .int 2]) (.int 0))) [2]))]
def u_law_some : Fn := ⟨2, 3, b_law_some⟩
class H_law_some (p : Pgm) : Prop extends H_law_draw p where
  e_law_some : p.tbl i_law_some = some u_law_some
theorem call_law_some {p : Pgm} [h : H_law_some p] {n : Nat} {s : S} {d0 d1 : D} : call (Ev p (n + 1)) i_law_some [d0, d1] s = fin s (evSs p.glob (Ev p n) b_law_some ⟨[.val d0, .val d1, .no], s.g⟩) := call_ev h.e_law_some rfl (by decide)
abbrev i_law_stock : Nat := 29
/-- source tags most turn -/
def b_law_stock : List Sx := [.ret (.f1 .tuple (.lc (.call i_law_some [.var 0, .var 1]) (.v 3) (.rng (.call i_law_draw [.var 0, .op .add (.var 2) (.int 1)])) none [3]))]
def u_law_stock : Fn := ⟨3, 4, b_law_stock⟩
class H_law_stock (p : Pgm) : Prop extends H_law_draw p, H_law_some p where
  e_law_stock : p.tbl i_law_stock = some u_law_stock
theorem call_law_stock {p : Pgm} [h : H_law_stock p] {n : Nat} {s : S} {d0 d1 d2 : D} : call (Ev p (n + 1)) i_law_stock [d0, d1, d2] s = fin s (evSs p.glob (Ev p n) b_law_stock ⟨[.val d0, .val d1, .val d2, .no], s.g⟩) := call_ev h.e_law_stock rfl (by decide)
abbrev i_law_term : Nat := 30
/-- source tags ways has tag way -/
def b_law_term : List Sx := [.set (.v 2) (.lc (.call i_law_of [.var 0, .lst [.int 0, .int 1, .int 2, .int 2]]) (.v 4) (.ex (.var 1)) none [4]), .set (.v 3) (.lc (.var 4) (.t [.v 4, .v 5]) (.zip (.var 1) (.var 2)) (some (.op .eq (.var 5) (.int 0))) [4, 5]), .ret (.tup [.f1 .tuple (.var 3), .f1 .tuple (.lc (.var 4) (.t [.v 4, .v 5]) (.zip (.var 1) (.var 2)) (some (.op .eq (.var 5) (.int 1))) [4, 5])])]
def u_law_term : Fn := ⟨2, 6, b_law_term⟩
class H_law_term (p : Pgm) : Prop extends H_law_of p where
  e_law_term : p.tbl i_law_term = some u_law_term
theorem call_law_term {p : Pgm} [h : H_law_term p] {n : Nat} {s : S} {d0 d1 : D} : call (Ev p (n + 1)) i_law_term [d0, d1] s = fin s (evSs p.glob (Ev p n) b_law_term ⟨[.val d0, .val d1, .no, .no, .no, .no], s.g⟩) := call_ev h.e_law_term rfl (by decide)
abbrev i_law_filter : Nat := 31
/-- source tags turn -/
def b_law_filter : List Sx := [.ret (.f1 .tuple (.f1 .sset (.lc (.call i_law_term [.var 0, .var 1]) (.v 2) (.rng (.call i_law_of [.var 0, .lst [.int 1, .int 1, .int 2, .int 2, .int 3, .int 0]])) none [2])))]
def u_law_filter : Fn := ⟨2, 3, b_law_filter⟩
class H_law_filter (p : Pgm) : Prop extends H_law_of p, H_law_term p where
  e_law_filter : p.tbl i_law_filter = some u_law_filter
theorem call_law_filter {p : Pgm} [h : H_law_filter p] {n : Nat} {s : S} {d0 d1 : D} : call (Ev p (n + 1)) i_law_filter [d0, d1] s = fin s (evSs p.glob (Ev p n) b_law_filter ⟨[.val d0, .val d1, .no], s.g⟩) := call_ev h.e_law_filter rfl (by decide)
abbrev i_law_deed : Nat := 32
/-- source tags way tag other one -/
def b_law_deed : List Sx := [.set (.t [.v 2, .v 3]) (.tup [.call i_law_draw [.var 0, .int 9], .call i_law_of [.var 0, .var 1]]), .ite (.op .lt (.var 2) (.int 3)) [.ret (.tup [.str "put", .var 3, .call i_law_filter [.var 0, .var 1]])] [], .ite (.op .lt (.var 2) (.int 5)) [.ret (.tup [.str "take", .var 3, .call i_law_filter [.var 0, .var 1]])] [], .ite (.op .eq (.var 2) (.int 5)) [.ret (.tup [.str "throw", .call i_law_filter [.var 0, .var 1]])] [], .set (.v 4) (.call i_law_of [.var 0, .op .add (.lc (.var 5) (.v 5) (.ex (.var 1)) (some (.op .ne (.var 5) (.var 3))) [5]) (.lst [.var 3])]), .ret (.ite (.op .ne (.var 4) (.var 3)) (.tup [.call i_law_of [.var 0, .lst [.str "rename", .str "exchange"]], .var 3, .var 4]) (.tup [.str "put", .var 3, .tup [.tup [.tup [], .tup []]]]))]
def u_law_deed : Fn := ⟨2, 6, b_law_deed⟩
class H_law_deed (p : Pgm) : Prop extends H_law_draw p, H_law_filter p, H_law_of p where
  e_law_deed : p.tbl i_law_deed = some u_law_deed
theorem call_law_deed {p : Pgm} [h : H_law_deed p] {n : Nat} {s : S} {d0 d1 : D} : call (Ev p (n + 1)) i_law_deed [d0, d1] s = fin s (evSs p.glob (Ev p n) b_law_deed ⟨[.val d0, .val d1, .no, .no, .no, .no], s.g⟩) := call_ev h.e_law_deed rfl (by decide)
abbrev i_law_row : Nat := 33
/-- source tags most bound found left turn step -/
def b_law_row : List Sx := [.par [(4, .val), (5, .val)] [.tup [], .var 3], .for_ (.v 6) (.rng (.call i_law_draw [.var 0, .op .add (.var 2) (.int 1)])) [.set (.v 7) (.call i_law_deed [.var 0, .var 1]), .ite (.and [.op .gt (.var 5) (.int 0), .op .eq (.call i_law_draw [.var 0, .int 2]) (.int 0)]) [.par [(7, .val), (5, .val)] [.tup [.call i_law_of [.var 0, .lst [.str "if", .str "unless"]], .call i_law_filter [.var 0, .var 1], .var 7], .op .sub (.var 5) (.int 1)]] [], .set (.v 4) (.op .add (.var 4) (.tup [.var 7]))], .ret (.var 4)]
def u_law_row : Fn := ⟨4, 8, b_law_row⟩
class H_law_row (p : Pgm) : Prop extends H_law_deed p, H_law_draw p, H_law_filter p, H_law_of p where
  e_law_row : p.tbl i_law_row = some u_law_row
theorem call_law_row {p : Pgm} [h : H_law_row p] {n : Nat} {s : S} {d0 d1 d2 d3 : D} : call (Ev p (n + 1)) i_law_row [d0, d1, d2, d3] s = fin s (evSs p.glob (Ev p n) b_law_row ⟨[.val d0, .val d1, .val d2, .val d3, .no, .no, .no, .no], s.g⟩) := call_ev h.e_law_row rfl (by decide)
abbrev i_law_sets : Nat := 34
/-- tags found tag some -/
def b_law_sets : List Sx := [.set (.v 1) (.lst [.tup []]), .for_ (.v 2) (.ex (.var 0)) [.set (.v 1) (.op .add (.var 1) (.lc (.op .add (.var 3) (.tup [.var 2])) (.v 3) (.ex (.var 1)) none [3]))], .ret (.f1 .sorted (.var 1))]
def u_law_sets : Fn := ⟨1, 4, b_law_sets⟩
class H_law_sets (p : Pgm) : Prop where
  e_law_sets : p.tbl i_law_sets = some u_law_sets
theorem call_law_sets {p : Pgm} [h : H_law_sets p] {n : Nat} {s : S} {d0 : D} : call (Ev p (n + 1)) i_law_sets [d0] s = fin s (evSs p.glob (Ev p n) b_law_sets ⟨[.val d0, .no, .no, .no], s.g⟩) := call_ev h.e_law_sets rfl (by decide)
abbrev i_law_rules : Nat := 35
/-- source tags rows turn terms -/
def b_law_rules : List Sx := [.own 2 (.lst []), .for_ (.v 3) (.rng (.call i_law_draw [.var 0, .int 6])) [.set (.v 4) (.call i_law_filter [.var 0, .var 1]), .app 2 (.tup [.var 4, .call i_law_of [.var 0, .lst [.str "put", .str "put", .str "take"]], .call i_law_of [.var 0, .var 1]])], .ret (.oTup 2)]
def u_law_rules : Fn := ⟨2, 5, b_law_rules⟩
class H_law_rules (p : Pgm) : Prop extends H_law_draw p, H_law_filter p, H_law_of p where
  e_law_rules : p.tbl i_law_rules = some u_law_rules
theorem call_law_rules {p : Pgm} [h : H_law_rules p] {n : Nat} {s : S} {d0 d1 : D} : call (Ev p (n + 1)) i_law_rules [d0, d1] s = fin s (evSs p.glob (Ev p n) b_law_rules ⟨[.val d0, .val d1, .no, .no, .no], s.g⟩) := call_ev h.e_law_rules rfl (by decide)
abbrev i_law_is_tags : Nat := 36
/-- value item sign -/
def b_law_is_tags : List Sx := [.ite (.or [.not (.isi .tup (.var 0)), .not (.chain .le .le (.int 1) (.f1 .len (.var 0)) (.int 4))]) [.ret (.bl false)] [], .for_ (.v 1) (.ex (.var 0)) [.ite (.or [.not (.isi .str (.var 1)), .not (.chain .le .le (.int 1) (.f1 .len (.var 1)) (.int 8))]) [.ret (.bl false)] [], .ite (.op .ne (.lc (.var 2) (.v 2) (.ex (.var 1)) (some (.op .notin (.var 2) (.str "abcdefghijklmnopqrstuvwxyz"))) [2]) (.lst [])) [.ret (.bl false)] []], .ite (.op .ne (.lc (.var 1) (.v 1) (.ex (.var 0)) (some (.op .isin (.var 1) (.tup [.str "and", .str "nothing", .str "or", .str "then", .str "to", .str "where"]))) [1]) (.lst [])) [.ret (.bl false)] [], .ret (.op .eq (.f1 .list (.var 0)) (.f1 .sset (.var 0)))]
def u_law_is_tags : Fn := ⟨1, 3, b_law_is_tags⟩
class H_law_is_tags (p : Pgm) : Prop where
  e_law_is_tags : p.tbl i_law_is_tags = some u_law_is_tags
theorem call_law_is_tags {p : Pgm} [h : H_law_is_tags p] {n : Nat} {s : S} {d0 : D} : call (Ev p (n + 1)) i_law_is_tags [d0] s = fin s (evSs p.glob (Ev p n) b_law_is_tags ⟨[.val d0, .no, .no], s.g⟩) := call_ev h.e_law_is_tags rfl (by decide)
abbrev i_law_is_some : Nat := 37
/-- tags value item -/
def b_law_is_some : List Sx := [.ite (.not (.isi .tup (.var 1))) [.ret (.bl false)] [], .ite (.op .ne (.lc (.var 2) (.v 2) (.ex (.var 1)) (some (.or [.not (.isi .str (.var 2)), .op .notin (.var 2) (.var 0)])) [2]) (.lst [])) [.ret (.bl false)] [], .ret (.op .eq (.f1 .list (.var 1)) (.f1 .sset (.var 1)))]
def u_law_is_some : Fn := ⟨2, 3, b_law_is_some⟩
class H_law_is_some (p : Pgm) : Prop where
  e_law_is_some : p.tbl i_law_is_some = some u_law_is_some
theorem call_law_is_some {p : Pgm} [h : H_law_is_some p] {n : Nat} {s : S} {d0 d1 : D} : call (Ev p (n + 1)) i_law_is_some [d0, d1] s = fin s (evSs p.glob (Ev p n) b_law_is_some ⟨[.val d0, .val d1, .no], s.g⟩) := call_ev h.e_law_is_some rfl (by decide)
abbrev i_law_is_stock : Nat := 38
/-- tags value item -/
def b_law_is_stock : List Sx := [.ite (.or [.not (.isi .tup (.var 1)), .op .gt (.f1 .len (.var 1)) (.int 20)]) [.ret (.bl false)] [], .ret (.op .eq (.lc (.var 2) (.v 2) (.ex (.var 1)) (some (.not (.call i_law_is_some [.var 0, .var 2]))) [2]) (.lst []))]
def u_law_is_stock : Fn := ⟨2, 3, b_law_is_stock⟩
class H_law_is_stock (p : Pgm) : Prop extends H_law_is_some p where
  e_law_is_stock : p.tbl i_law_is_stock = some u_law_is_stock
theorem call_law_is_stock {p : Pgm} [h : H_law_is_stock p] {n : Nat} {s : S} {d0 d1 : D} : call (Ev p (n + 1)) i_law_is_stock [d0, d1] s = fin s (evSs p.glob (Ev p n) b_law_is_stock ⟨[.val d0, .val d1, .no], s.g⟩) := call_ev h.e_law_is_stock rfl (by decide)
abbrev i_law_is_filter : Nat := 39
/-- tags value item tag -/
def b_law_is_filter : List Sx := [.ite (.or [.not (.isi .tup (.var 1)), .op .gt (.f1 .len (.var 1)) (.int 16)]) [.ret (.bl false)] [], .for_ (.v 2) (.ex (.var 1)) [.ite (.or [.not (.isi .tup (.var 2)), .op .ne (.f1 .len (.var 2)) (.int 2), .not (.call i_law_is_stock [.var 0, .var 2])]) [.ret (.bl false)] [], .ite (.op .ne (.lc (.var 3) (.v 3) (.ex (.ix (.var 2) (.int 0))) (some (.op .isin (.var 3) (.ix (.var 2) (.int 1)))) [3]) (.lst [])) [.ret (.bl false)] []], .ret (.op .eq (.f1 .list (.var 1)) (.f1 .sset (.var 1)))]
def u_law_is_filter : Fn := ⟨2, 4, b_law_is_filter⟩
class H_law_is_filter (p : Pgm) : Prop extends H_law_is_stock p where
  e_law_is_filter : p.tbl i_law_is_filter = some u_law_is_filter
theorem call_law_is_filter {p : Pgm} [h : H_law_is_filter p] {n : Nat} {s : S} {d0 d1 : D} : call (Ev p (n + 1)) i_law_is_filter [d0, d1] s = fin s (evSs p.glob (Ev p n) b_law_is_filter ⟨[.val d0, .val d1, .no, .no], s.g⟩) := call_ev h.e_law_is_filter rfl (by decide)
abbrev i_law_is_deed : Nat := 40
/-- tags value good -/
def b_law_is_deed : List Sx := [.ite (.or [.not (.isi .tup (.var 1)), .op .eq (.var 1) (.tup []), .not (.isi .str (.ix (.var 1) (.int 0)))]) [.ret (.bl false)] [], .ite (.op .eq (.ix (.var 1) (.int 0)) (.str "throw")) [.ret (.and [.op .eq (.f1 .len (.var 1)) (.int 2), .call i_law_is_filter [.var 0, .ix (.var 1) (.int 1)]])] [], .ite (.or [.op .ne (.f1 .len (.var 1)) (.int 3), .not (.isi .str (.ix (.var 1) (.int 1))), .op .notin (.ix (.var 1) (.int 1)) (.var 0)]) [.ret (.bl false)] [], .ite (.op .isin (.ix (.var 1) (.int 0)) (.tup [.str "put", .str "take"])) [.ret (.call i_law_is_filter [.var 0, .ix (.var 1) (.int 2)])] [], .set (.v 2) (.and [.isi .str (.ix (.var 1) (.int 2)), .op .isin (.ix (.var 1) (.int 2)) (.var 0), .op .ne (.ix (.var 1) (.int 1)) (.ix (.var 1) (.int 2))]), .ret (.and [.op .isin (.ix (.var 1) (.int 0)) (.tup [.str "rename", .str "exchange"]), .var 2])]
def u_law_is_deed : Fn := ⟨2, 3, b_law_is_deed⟩
class H_law_is_deed (p : Pgm) : Prop extends H_law_is_filter p where
  e_law_is_deed : p.tbl i_law_is_deed = some u_law_is_deed
theorem call_law_is_deed {p : Pgm} [h : H_law_is_deed p] {n : Nat} {s : S} {d0 d1 : D} : call (Ev p (n + 1)) i_law_is_deed [d0, d1] s = fin s (evSs p.glob (Ev p n) b_law_is_deed ⟨[.val d0, .val d1, .no], s.g⟩) := call_ev h.e_law_is_deed rfl (by decide)
abbrev i_law_is_row : Nat := 41
/-- tags value many step -/
def b_law_is_row : List Sx := [.ite (.or [.not (.isi .tup (.var 1)), .op .gt (.f1 .len (.var 1)) (.int 6)]) [.ret (.bl false)] [], .set (.v 2) (.int 0), .for_ (.v 3) (.ex (.var 1)) [.ite (.not (.call i_law_is_deed [.var 0, .var 3])) [.ite (.or [.not (.isi .tup (.var 3)), .op .ne (.f1 .len (.var 3)) (.int 3), .not (.isi .str (.ix (.var 3) (.int 0)))]) [.ret (.bl false)] [], .ite (.or [.op .notin (.ix (.var 3) (.int 0)) (.tup [.str "if", .str "unless"]), .not (.call i_law_is_filter [.var 0, .ix (.var 3) (.int 1)])]) [.ret (.bl false)] [], .ite (.not (.call i_law_is_deed [.var 0, .ix (.var 3) (.int 2)])) [.ret (.bl false)] [], .set (.v 2) (.op .add (.var 2) (.int 1))] []], .ret (.op .le (.var 2) (.int 3))]
def u_law_is_row : Fn := ⟨2, 4, b_law_is_row⟩
class H_law_is_row (p : Pgm) : Prop extends H_law_is_deed p, H_law_is_filter p where
  e_law_is_row : p.tbl i_law_is_row = some u_law_is_row
theorem call_law_is_row {p : Pgm} [h : H_law_is_row p] {n : Nat} {s : S} {d0 d1 : D} : call (Ev p (n + 1)) i_law_is_row [d0, d1] s = fin s (evSs p.glob (Ev p n) b_law_is_row ⟨[.val d0, .val d1, .no, .no], s.g⟩) := call_ev h.e_law_is_row rfl (by decide)
abbrev i_law_are_rules : Nat := 42
/-- tags value rule -/
def b_law_are_rules : List Sx := [.ite (.or [.not (.isi .tup (.var 1)), .op .gt (.f1 .len (.var 1)) (.int 6)]) [.ret (.bl false)] [], .for_ (.v 2) (.ex (.var 1)) [.ite (.or [.not (.isi .tup (.var 2)), .op .ne (.f1 .len (.var 2)) (.int 3), .not (.isi .str (.ix (.var 2) (.int 1)))]) [.ret (.bl false)] [], .ite (.or [.op .notin (.ix (.var 2) (.int 1)) (.tup [.str "put", .str "take"]), .not (.call i_law_is_deed [.var 0, .tup [.str "put", .ix (.var 2) (.int 2), .ix (.var 2) (.int 0)]])]) [.ret (.bl false)] []], .ret (.bl true)]
def u_law_are_rules : Fn := ⟨2, 3, b_law_are_rules⟩
class H_law_are_rules (p : Pgm) : Prop extends H_law_is_deed p where
  e_law_are_rules : p.tbl i_law_are_rules = some u_law_are_rules
theorem call_law_are_rules {p : Pgm} [h : H_law_are_rules p] {n : Nat} {s : S} {d0 d1 : D} : call (Ev p (n + 1)) i_law_are_rules [d0, d1] s = fin s (evSs p.glob (Ev p n) b_law_are_rules ⟨[.val d0, .val d1, .no], s.g⟩) := call_ev h.e_law_are_rules rfl (by decide)
abbrev i_law_odd : Nat := 43
/-- source items -/
def b_law_odd : List Sx := [.set (.v 1) (.lst [.non, .bl true, .int 0, .int 1, .str "", .str "a", .str "b", .str "A", .str "or", .str "to", .str "done", .str "abcdefgh", .str "abcdefghi", .tup [], .lst [], .tup [.str "a"], .lst [.str "a"]]), .set (.v 1) (.op .add (.var 1) (.lst [.tup [.tup [], .tup []], .tup [.tup [.tup [], .tup []]], .tup [.str "b", .str "a"], .tup [.str "a", .str "a"], .str "put", .str "take", .str "if", .str "throw", .tup [.str "throw", .tup []]])), .ret (.call i_law_of [.var 0, .op .add (.var 1) (.lst [.tup [.str "put", .str "a", .tup []], .tup [.str "rename", .str "a", .str "b"], .tup [.tup [.tup [.str "a"], .tup [.str "a"]]], .op .pow (.int 10) (.int 39)])])]
def u_law_odd : Fn := ⟨1, 2, b_law_odd⟩
class H_law_odd (p : Pgm) : Prop extends H_law_of p where
  e_law_odd : p.tbl i_law_odd = some u_law_odd
theorem call_law_odd {p : Pgm} [h : H_law_odd p] {n : Nat} {s : S} {d0 : D} : call (Ev p (n + 1)) i_law_odd [d0] s = fin s (evSs p.glob (Ev p n) b_law_odd ⟨[.val d0, .no], s.g⟩) := call_ev h.e_law_odd rfl (by decide)
abbrev i_law_bent : Nat := 44
/-- source value at way -/
def b_law_bent : List Sx := [.ite (.or [.not (.isi .tup (.var 1)), .op .eq (.var 1) (.tup []), .op .eq (.call i_law_draw [.var 0, .int 6]) (.int 0)]) [.ret (.call i_law_odd [.var 0])] [], .par [(2, .val), (3, .val)] [.call i_law_draw [.var 0, .f1 .len (.var 1)], .call i_law_draw [.var 0, .int 9]], .ite (.op .eq (.var 3) (.int 0)) [.ret (.op .add (.sl (.var 1) none (some (.var 2))) (.sl (.var 1) (some (.op .add (.var 2) (.int 1))) none))] [], .ite (.op .eq (.var 3) (.int 1)) [.ret (.op .add (.sl (.var 1) none (some (.op .add (.var 2) (.int 1)))) (.sl (.var 1) (some (.var 2)) none))] [], .ite (.op .eq (.var 3) (.int 2)) [.ret (.op .add (.op .add (.sl (.var 1) none (some (.var 2))) (.tup [.call i_law_odd [.var 0]])) (.sl (.var 1) (some (.var 2)) none))] [], .ite (.op .eq (.var 3) (.int 3)) [.ret (.f1 .list (.var 1))] [], .ret (.op .add (.op .add (.sl (.var 1) none (some (.var 2))) (.tup [.call i_law_bent [.var 0, .ix (.var 1) (.var 2)]])) (.sl (.var 1) (some (.op .add (.var 2) (.int 1))) none))]
def u_law_bent : Fn := ⟨2, 4, b_law_bent⟩
class H_law_bent (p : Pgm) : Prop extends H_law_draw p, H_law_odd p where
  e_law_bent : p.tbl i_law_bent = some u_law_bent
theorem call_law_bent {p : Pgm} [h : H_law_bent p] {n : Nat} {s : S} {d0 d1 : D} : call (Ev p (n + 1)) i_law_bent [d0, d1] s = fin s (evSs p.glob (Ev p n) b_law_bent ⟨[.val d0, .val d1, .no, .no], s.g⟩) := call_ev h.e_law_bent rfl (by decide)
abbrev i_law_k01 : Nat := 45
/-- script k step rule found source tags some value turn due -/
def b_law_k01 : List Sx := [.for_ (.v 1) (.rng (.op .add (.int 1) (.min2 (.f1 .len (.var 0)) (.int 10)))) [.set (.v 5) (.call i_law_source [.var 0, .var 1]), .set (.v 6) (.call i_law_tags [.var 5, .int 4]), .ite (.or [.op .ne (.call i_sets_of [.var 6]) (.call i_law_sets [.var 6]), .not (.isi .lst (.call i_sets_of [.var 6]))]) [.ret (.bl false)] [], .set (.v 7) (.lst [.var 6, .call i_law_stock [.var 5, .var 6, .int 20], .call i_law_filter [.var 5, .var 6]]), .for_ (.v 8) (.ex (.op .add (.var 7) (.lst [.call i_law_row [.var 5, .var 6, .int 6, .int 3], .call i_law_rules [.var 5, .var 6], .call i_law_some [.var 5, .var 6]]))) [.for_ (.v 9) (.rng (.int 4)) [.set (.v 10) (.lst [.call i_law_is_tags [.var 8], .call i_law_is_some [.var 6, .var 8], .call i_law_is_stock [.var 6, .var 8]]), .set (.v 10) (.op .add (.var 10) (.lst [.call i_law_is_filter [.var 6, .var 8], .call i_law_is_row [.var 6, .var 8], .call i_law_are_rules [.var 6, .var 8]])), .set (.v 4) (.lst [.call i_is_tags [.var 8], .call i_is_set [.var 6, .var 8], .call i_is_stock [.var 6, .var 8]]), .ite (.op .ne (.op .add (.var 4) (.lst [.call i_is_filter [.var 6, .var 8], .call i_is_row [.var 6, .var 8], .call i_is_rules [.var 6, .var 8]])) (.var 10)) [.ret (.bl false)] [], .set (.v 8) (.call i_law_bent [.var 5, .var 8])]]], .set (.t [.v 2, .v 3]) (.tup [.tup [.str "if", .tup [], .tup [.str "throw", .tup []]], .tup [.tup [], .str "put", .str "a"]]), .set (.v 4) (.lst [.call i_is_row [.tup [.str "a"], .op .mul (.tup [.var 2]) (.int 3)], .call i_is_row [.tup [.str "a"], .op .mul (.tup [.var 2]) (.int 4)], .call i_is_row [.tup [.str "a"], .op .mul (.tup [.ix (.var 2) (.int 2)]) (.int 6)]]), .set (.v 4) (.op .add (.var 4) (.lst [.call i_is_row [.tup [.str "a"], .op .mul (.tup [.ix (.var 2) (.int 2)]) (.int 7)], .call i_is_rules [.tup [.str "a"], .op .mul (.tup [.var 3]) (.int 6)], .call i_is_rules [.tup [.str "a"], .op .mul (.tup [.var 3]) (.int 7)]])), .set (.v 4) (.op .add (.var 4) (.lst [.call i_is_stock [.tup [.str "a"], .op .mul (.tup [.tup []]) (.int 20)], .call i_is_stock [.tup [.str "a"], .op .mul (.tup [.tup []]) (.int 21)], .call i_is_tags [.tup [.str "a", .str "b", .str "c", .str "d", .str "e"]]])), .ret (.op .eq (.var 4) (.op .add (.op .mul (.lst [.bl true, .bl false]) (.int 4)) (.lst [.bl false])))]
def u_law_k01 : Fn := ⟨1, 11, b_law_k01⟩
class H_law_k01 (p : Pgm) : Prop extends H_is_filter p, H_is_row p, H_is_rules p, H_is_set p, H_is_stock p, H_is_tags p, H_law_are_rules p, H_law_bent p, H_law_filter p, H_law_is_filter p, H_law_is_row p, H_law_is_some p, H_law_is_stock p, H_law_is_tags p, H_law_row p, H_law_rules p, H_law_sets p, H_law_some p, H_law_source p, H_law_stock p, H_law_tags p, H_sets_of p where
  e_law_k01 : p.tbl i_law_k01 = some u_law_k01
theorem call_law_k01 {p : Pgm} [h : H_law_k01 p] {n : Nat} {s : S} {d0 : D} : call (Ev p (n + 1)) i_law_k01 [d0] s = fin s (evSs p.glob (Ev p n) b_law_k01 ⟨[.val d0, .no, .no, .no, .no, .no, .no, .no, .no, .no, .no], s.g⟩) := call_ev h.e_law_k01 rfl (by decide)
abbrev i_need_sets : Nat := 46
/-- tags value -/
def b_need_sets : List Sx := [.ite (.not (.call i_are_sets [.var 0, .var 1])) [.nope] []]
def u_need_sets : Fn := ⟨2, 2, b_need_sets⟩
class H_need_sets (p : Pgm) : Prop extends H_are_sets p where
  e_need_sets : p.tbl i_need_sets = some u_need_sets
theorem call_need_sets {p : Pgm} [h : H_need_sets p] {n : Nat} {s : S} {d0 d1 : D} : call (Ev p (n + 1)) i_need_sets [d0, d1] s = fin s (evSs p.glob (Ev p n) b_need_sets ⟨[.val d0, .val d1], s.g⟩) := call_ev h.e_need_sets rfl (by decide)
abbrev i_need_filter : Nat := 47
/-- tags value -/
def b_need_filter : List Sx := [.ite (.not (.call i_is_good [.var 0, .var 1])) [.nope] []]
def u_need_filter : Fn := ⟨2, 2, b_need_filter⟩
class H_need_filter (p : Pgm) : Prop extends H_is_good p where
  e_need_filter : p.tbl i_need_filter = some u_need_filter
theorem call_need_filter {p : Pgm} [h : H_need_filter p] {n : Nat} {s : S} {d0 d1 : D} : call (Ev p (n + 1)) i_need_filter [d0, d1] s = fin s (evSs p.glob (Ev p n) b_need_filter ⟨[.val d0, .val d1], s.g⟩) := call_ev h.e_need_filter rfl (by decide)
abbrev i_term_finds : Nat := 48
/-- term some tag -/
def b_term_finds : List Sx := [.ret (.and [.f1 .all (.lc (.op .isin (.var 2) (.var 1)) (.v 2) (.ex (.ix (.var 0) (.int 0))) none [2]), .f1 .all (.lc (.op .notin (.var 2) (.var 1)) (.v 2) (.ex (.ix (.var 0) (.int 1))) none [2])])]
def u_term_finds : Fn := ⟨2, 3, b_term_finds⟩
class H_term_finds (p : Pgm) : Prop where
  e_term_finds : p.tbl i_term_finds = some u_term_finds
theorem call_term_finds {p : Pgm} [h : H_term_finds p] {n : Nat} {s : S} {d0 d1 : D} : call (Ev p (n + 1)) i_term_finds [d0, d1] s = fin s (evSs p.glob (Ev p n) b_term_finds ⟨[.val d0, .val d1, .no], s.g⟩) := call_ev h.e_term_finds rfl (by decide)
abbrev i_finds : Nat := 49
/-- terms some term -/
def b_finds : List Sx := [.ret (.f1 .any (.lc (.call i_term_finds [.var 2, .var 1]) (.v 2) (.ex (.var 0)) none [2]))]
def u_finds : Fn := ⟨2, 3, b_finds⟩
class H_finds (p : Pgm) : Prop extends H_term_finds p where
  e_finds : p.tbl i_finds = some u_finds
theorem call_finds {p : Pgm} [h : H_finds p] {n : Nat} {s : S} {d0 d1 : D} : call (Ev p (n + 1)) i_finds [d0, d1] s = fin s (evSs p.glob (Ev p n) b_finds ⟨[.val d0, .val d1, .no], s.g⟩) := call_ev h.e_finds rfl (by decide)
abbrev i_matched : Nat := 50
/-- tags terms some -/
def b_matched : List Sx := [.ret (.lc (.var 2) (.v 2) (.ex (.call i_all_sets [.var 0])) (some (.call i_finds [.var 1, .var 2])) [2])]
def u_matched : Fn := ⟨2, 3, b_matched⟩
class H_matched (p : Pgm) : Prop extends H_all_sets p, H_finds p where
  e_matched : p.tbl i_matched = some u_matched
theorem call_matched {p : Pgm} [h : H_matched p] {n : Nat} {s : S} {d0 d1 : D} : call (Ev p (n + 1)) i_matched [d0, d1] s = fin s (evSs p.glob (Ev p n) b_matched ⟨[.val d0, .val d1, .no], s.g⟩) := call_ev h.e_matched rfl (by decide)
abbrev i_numbers_found : Nat := 51
/-- terms stock number some -/
def b_numbers_found : List Sx := [.ret (.lc (.var 2) (.t [.v 2, .v 3]) (.enum (.var 1)) (some (.call i_finds [.var 0, .var 3])) [2, 3])]
def u_numbers_found : Fn := ⟨2, 4, b_numbers_found⟩
class H_numbers_found (p : Pgm) : Prop extends H_finds p where
  e_numbers_found : p.tbl i_numbers_found = some u_numbers_found
theorem call_numbers_found {p : Pgm} [h : H_numbers_found p] {n : Nat} {s : S} {d0 d1 : D} : call (Ev p (n + 1)) i_numbers_found [d0, d1] s = fin s (evSs p.glob (Ev p n) b_numbers_found ⟨[.val d0, .val d1, .no, .no], s.g⟩) := call_ev h.e_numbers_found rfl (by decide)
abbrev i_find : Nat := 52
/-- tags terms stock -/
def b_find : List Sx := [.ex (.call i_need_tags [.var 0]), .ex (.call i_need_filter [.var 0, .var 1]), .ex (.call i_need_sets [.var 0, .var 2]), .ret (.call i_numbers_found [.var 1, .var 2])]
def u_find : Fn := ⟨3, 3, b_find⟩
class H_find (p : Pgm) : Prop extends H_need_filter p, H_need_sets p, H_need_tags p, H_numbers_found p where
  e_find : p.tbl i_find = some u_find
theorem call_find {p : Pgm} [h : H_find p] {n : Nat} {s : S} {d0 d1 d2 : D} : call (Ev p (n + 1)) i_find [d0, d1, d2] s = fin s (evSs p.glob (Ev p n) b_find ⟨[.val d0, .val d1, .val d2], s.g⟩) := call_ev h.e_find rfl (by decide)
abbrev i_matching : Nat := 53
/-- tags terms -/
def b_matching : List Sx := [.ex (.call i_need_tags [.var 0]), .ex (.call i_need_filter [.var 0, .var 1]), .ret (.call i_matched [.var 0, .var 1])]
def u_matching : Fn := ⟨2, 2, b_matching⟩
class H_matching (p : Pgm) : Prop extends H_matched p, H_need_filter p, H_need_tags p where
  e_matching : p.tbl i_matching = some u_matching
theorem call_matching {p : Pgm} [h : H_matching p] {n : Nat} {s : S} {d0 d1 : D} : call (Ev p (n + 1)) i_matching [d0, d1] s = fin s (evSs p.glob (Ev p n) b_matching ⟨[.val d0, .val d1], s.g⟩) := call_ev h.e_matching rfl (by decide)
abbrev i_need_both : Nat := 54
/-- tags one other -/
def b_need_both : List Sx := [.ex (.call i_need_tags [.var 0]), .ex (.call i_need_filter [.var 0, .var 1]), .ex (.call i_need_filter [.var 0, .var 2])]
def u_need_both : Fn := ⟨3, 3, b_need_both⟩
class H_need_both (p : Pgm) : Prop extends H_need_filter p, H_need_tags p where
  e_need_both : p.tbl i_need_both = some u_need_both
theorem call_need_both {p : Pgm} [h : H_need_both p] {n : Nat} {s : S} {d0 d1 d2 : D} : call (Ev p (n + 1)) i_need_both [d0, d1, d2] s = fin s (evSs p.glob (Ev p n) b_need_both ⟨[.val d0, .val d1, .val d2], s.g⟩) := call_ev h.e_need_both rfl (by decide)
abbrev i_same_filter : Nat := 55
/-- tags one other -/
def b_same_filter : List Sx := [.ex (.call i_need_both [.var 0, .var 1, .var 2]), .ret (.op .eq (.call i_matched [.var 0, .var 1]) (.call i_matched [.var 0, .var 2]))]
def u_same_filter : Fn := ⟨3, 3, b_same_filter⟩
class H_same_filter (p : Pgm) : Prop extends H_matched p, H_need_both p where
  e_same_filter : p.tbl i_same_filter = some u_same_filter
theorem call_same_filter {p : Pgm} [h : H_same_filter p] {n : Nat} {s : S} {d0 d1 d2 : D} : call (Ev p (n + 1)) i_same_filter [d0, d1, d2] s = fin s (evSs p.glob (Ev p n) b_same_filter ⟨[.val d0, .val d1, .val d2], s.g⟩) := call_ev h.e_same_filter rfl (by decide)
abbrev i_filter_within : Nat := 56
/-- tags one other some -/
def b_filter_within : List Sx := [.ex (.call i_need_both [.var 0, .var 1, .var 2]), .ret (.f1 .all (.lc (.call i_finds [.var 2, .var 3]) (.v 3) (.ex (.call i_matched [.var 0, .var 1])) none [3]))]
def u_filter_within : Fn := ⟨3, 4, b_filter_within⟩
class H_filter_within (p : Pgm) : Prop extends H_finds p, H_matched p, H_need_both p where
  e_filter_within : p.tbl i_filter_within = some u_filter_within
theorem call_filter_within {p : Pgm} [h : H_filter_within p] {n : Nat} {s : S} {d0 d1 d2 : D} : call (Ev p (n + 1)) i_filter_within [d0, d1, d2] s = fin s (evSs p.glob (Ev p n) b_filter_within ⟨[.val d0, .val d1, .val d2, .no], s.g⟩) := call_ev h.e_filter_within rfl (by decide)
abbrev i_law_finds : Nat := 57
/-- terms some has hasnt tag -/
def b_law_finds : List Sx := [.for_ (.t [.v 2, .v 3]) (.ex (.var 0)) [.ite (.and [.op .eq (.lc (.var 4) (.v 4) (.ex (.var 2)) (some (.op .notin (.var 4) (.var 1))) [4]) (.lst []), .op .eq (.lc (.var 4) (.v 4) (.ex (.var 3)) (some (.op .isin (.var 4) (.var 1))) [4]) (.lst [])]) [.ret (.bl true)] []], .ret (.bl false)]
def u_law_finds : Fn := ⟨2, 5, b_law_finds⟩
class H_law_finds (p : Pgm) : Prop where
  e_law_finds : p.tbl i_law_finds = some u_law_finds
theorem call_law_finds {p : Pgm} [h : H_law_finds p] {n : Nat} {s : S} {d0 d1 : D} : call (Ev p (n + 1)) i_law_finds [d0, d1] s = fin s (evSs p.glob (Ev p n) b_law_finds ⟨[.val d0, .val d1, .no, .no, .no], s.g⟩) := call_ev h.e_law_finds rfl (by decide)
abbrev i_law_k02 : Nat := 58
/-- script k two source turn tags one other stock told due mine theirs at some -/
def b_law_k02 : List Sx := [.for_ (.v 1) (.rng (.op .add (.int 1) (.min2 (.f1 .len (.var 0)) (.int 10)))) [.set (.v 3) (.call i_law_source [.var 0, .var 1]), .for_ (.v 4) (.rng (.int 4)) [.set (.v 5) (.call i_law_tags [.var 3, .int 4]), .set (.t [.v 6, .v 7, .v 8]) (.tup [.call i_law_filter [.var 3, .var 5], .call i_law_filter [.var 3, .var 5], .call i_law_stock [.var 3, .var 5, .int 20]]), .own 9 (.call i_find [.var 5, .var 6, .var 8]), .set (.v 10) (.lc (.var 13) (.v 13) (.rng (.f1 .len (.var 8))) (some (.call i_law_finds [.var 6, .ix (.var 8) (.var 13)])) [13]), .ite (.or [.oOp .ne 9 (.var 10), .not (.oIsi .lst 9)]) [.ret (.bl false)] [], .set (.v 11) (.lc (.var 14) (.v 14) (.ex (.call i_law_sets [.var 5])) (some (.call i_law_finds [.var 6, .var 14])) [14]), .set (.v 12) (.lc (.var 14) (.v 14) (.ex (.call i_law_sets [.var 5])) (some (.call i_law_finds [.var 7, .var 14])) [14]), .ite (.or [.op .ne (.call i_matching [.var 5, .var 6]) (.var 11), .op .ne (.call i_same_filter [.var 5, .var 6, .var 7]) (.op .eq (.var 11) (.var 12))]) [.ret (.bl false)] [], .ite (.op .ne (.call i_filter_within [.var 5, .var 6, .var 7]) (.op .eq (.lc (.var 14) (.v 14) (.ex (.var 11)) (some (.op .notin (.var 14) (.var 12))) [14]) (.lst []))) [.ret (.bl false)] [], .ite (.not (.isi .bool (.call i_same_filter [.var 5, .var 6, .var 7]))) [.ret (.bl false)] [], .app 9 (.str "x"), .ite (.or [.op .ne (.call i_find [.var 5, .var 6, .var 8]) (.oSl 9 none (some (.neg (.int 1)))), .not (.call i_filter_within [.var 5, .tup [], .var 6])]) [.ret (.bl false)] []]], .set (.v 2) (.tup [.tup [.tup [.str "a"], .tup [.str "b"]], .tup [.tup [.str "b"], .tup [.str "a"]]]), .ret (.and [.op .eq (.call i_matching [.tup [.str "a", .str "b"], .var 2]) (.lst [.tup [.str "a"], .tup [.str "b"]]), .op .eq (.call i_matching [.tup [.str "a"], .tup [.tup [.tup [], .tup []]]]) (.lst [.tup [], .tup [.str "a"]])])]
def u_law_k02 : Fn := ⟨1, 15, b_law_k02⟩
class H_law_k02 (p : Pgm) : Prop extends H_filter_within p, H_find p, H_law_filter p, H_law_finds p, H_law_sets p, H_law_source p, H_law_stock p, H_law_tags p, H_matching p, H_same_filter p where
  e_law_k02 : p.tbl i_law_k02 = some u_law_k02
theorem call_law_k02 {p : Pgm} [h : H_law_k02 p] {n : Nat} {s : S} {d0 : D} : call (Ev p (n + 1)) i_law_k02 [d0] s = fin s (evSs p.glob (Ev p n) b_law_k02 ⟨[.val d0, .no, .no, .no, .no, .no, .no, .no, .no, .no, .no, .no, .no, .no, .no], s.g⟩) := call_ev h.e_law_k02 rfl (by decide)
abbrev i_with_tag : Nat := 59
/-- some tag -/
def b_with_tag : List Sx := [.ret (.ite (.op .isin (.var 1) (.var 0)) (.var 0) (.f1 .tuple (.f1 .sorted (.op .add (.var 0) (.tup [.var 1])))))]
def u_with_tag : Fn := ⟨2, 2, b_with_tag⟩
class H_with_tag (p : Pgm) : Prop where
  e_with_tag : p.tbl i_with_tag = some u_with_tag
theorem call_with_tag {p : Pgm} [h : H_with_tag p] {n : Nat} {s : S} {d0 d1 : D} : call (Ev p (n + 1)) i_with_tag [d0, d1] s = fin s (evSs p.glob (Ev p n) b_with_tag ⟨[.val d0, .val d1], s.g⟩) := call_ev h.e_with_tag rfl (by decide)
abbrev i_all_terms : Nat := 60
/-- tags found tag more has hasnt -/
def b_all_terms : List Sx := [.set (.v 1) (.lst [.tup [.tup [], .tup []]]), .for_ (.v 2) (.ex (.var 0)) [.set (.v 3) (.lc (.tup [.call i_with_tag [.var 4, .var 2], .var 5]) (.t [.v 4, .v 5]) (.ex (.var 1)) none [4, 5]), .set (.v 3) (.op .add (.var 3) (.lc (.tup [.var 4, .call i_with_tag [.var 5, .var 2]]) (.t [.v 4, .v 5]) (.ex (.var 1)) none [4, 5])), .set (.v 1) (.op .add (.var 1) (.var 3))], .ret (.var 1)]
def u_all_terms : Fn := ⟨1, 6, b_all_terms⟩
class H_all_terms (p : Pgm) : Prop extends H_with_tag p where
  e_all_terms : p.tbl i_all_terms = some u_all_terms
theorem call_all_terms {p : Pgm} [h : H_all_terms p] {n : Nat} {s : S} {d0 : D} : call (Ev p (n + 1)) i_all_terms [d0] s = fin s (evSs p.glob (Ev p n) b_all_terms ⟨[.val d0, .no, .no, .no, .no, .no], s.g⟩) := call_ev h.e_all_terms rfl (by decide)
abbrev i_is_part : Nat := 61
/-- one other tag -/
def b_is_part : List Sx := [.ret (.and [.op .ne (.var 0) (.var 1), .f1 .all (.lc (.op .isin (.var 2) (.ix (.var 0) (.int 0))) (.v 2) (.ex (.ix (.var 1) (.int 0))) none [2]), .f1 .all (.lc (.op .isin (.var 2) (.ix (.var 0) (.int 1))) (.v 2) (.ex (.ix (.var 1) (.int 1))) none [2])])]
def u_is_part : Fn := ⟨2, 3, b_is_part⟩
class H_is_part (p : Pgm) : Prop where
  e_is_part : p.tbl i_is_part = some u_is_part
theorem call_is_part {p : Pgm} [h : H_is_part p] {n : Nat} {s : S} {d0 d1 : D} : call (Ev p (n + 1)) i_is_part [d0, d1] s = fin s (evSs p.glob (Ev p n) b_is_part ⟨[.val d0, .val d1, .no], s.g⟩) := call_ev h.e_is_part rfl (by decide)
abbrev i_useful_terms : Nat := 62
/-- tags unwanted good term some other -/
def b_useful_terms : List Sx := [.set (.v 2) (.lc (.var 3) (.v 3) (.ex (.call i_all_terms [.var 0])) (some (.not (.f1 .any (.lc (.call i_term_finds [.var 3, .var 4]) (.v 4) (.ex (.var 1)) none [4])))) [3]), .ret (.lc (.var 3) (.v 3) (.ex (.var 2)) (some (.not (.f1 .any (.lc (.call i_is_part [.var 3, .var 5]) (.v 5) (.ex (.var 2)) none [5])))) [3])]
def u_useful_terms : Fn := ⟨2, 6, b_useful_terms⟩
class H_useful_terms (p : Pgm) : Prop extends H_all_terms p, H_is_part p, H_term_finds p where
  e_useful_terms : p.tbl i_useful_terms = some u_useful_terms
theorem call_useful_terms {p : Pgm} [h : H_useful_terms p] {n : Nat} {s : S} {d0 d1 : D} : call (Ev p (n + 1)) i_useful_terms [d0, d1] s = fin s (evSs p.glob (Ev p n) b_useful_terms ⟨[.val d0, .val d1, .no, .no, .no, .no], s.g⟩) := call_ev h.e_useful_terms rfl (by decide)
abbrev i_size_of : Nat := 63
/-- terms has hasnt -/
def b_size_of : List Sx := [.ret (.tup [.f1 .len (.var 0), .f1 .sum (.lc (.op .add (.f1 .len (.var 1)) (.f1 .len (.var 2))) (.t [.v 1, .v 2]) (.ex (.var 0)) none [1, 2])])]
def u_size_of : Fn := ⟨1, 3, b_size_of⟩
class H_size_of (p : Pgm) : Prop where
  e_size_of : p.tbl i_size_of = some u_size_of
theorem call_size_of {p : Pgm} [h : H_size_of p] {n : Nat} {s : S} {d0 : D} : call (Ev p (n + 1)) i_size_of [d0] s = fin s (evSs p.glob (Ev p n) b_size_of ⟨[.val d0, .no, .no], s.g⟩) := call_ev h.e_size_of rfl (by decide)
abbrev i_is_smaller : Nat := 64
/-- one other mine theirs -/
def b_is_smaller : List Sx := [.par [(2, .val), (3, .val)] [.call i_size_of [.var 0], .call i_size_of [.var 1]], .ret (.or [.op .lt (.ix (.var 2) (.int 0)) (.ix (.var 3) (.int 0)), .and [.op .eq (.ix (.var 2) (.int 0)) (.ix (.var 3) (.int 0)), .op .lt (.ix (.var 2) (.int 1)) (.ix (.var 3) (.int 1))]])]
def u_is_smaller : Fn := ⟨2, 4, b_is_smaller⟩
class H_is_smaller (p : Pgm) : Prop extends H_size_of p where
  e_is_smaller : p.tbl i_is_smaller = some u_is_smaller
theorem call_is_smaller {p : Pgm} [h : H_is_smaller p] {n : Nat} {s : S} {d0 d1 : D} : call (Ev p (n + 1)) i_is_smaller [d0, d1] s = fin s (evSs p.glob (Ev p n) b_is_smaller ⟨[.val d0, .val d1, .no, .no], s.g⟩) := call_ev h.e_is_smaller rfl (by decide)
abbrev i_covering : Nat := 65
/-- terms left level later some_left chosen term rest one some -/
def b_covering : List Sx := [.set (.v 2) (.dic [.var 1] [.tup []]), .while_ (.op .notin (.tup []) (.var 2)) [.own 3 (.dic [] []), .for_ (.t [.v 4, .v 5]) (.items (.var 2)) [.for_ (.v 6) (.ex (.lc (.var 8) (.v 8) (.ex (.var 0)) (some (.call i_term_finds [.var 8, .ix (.var 4) (.int 0)])) [8])) [.set (.v 7) (.f1 .tuple (.lc (.var 9) (.v 9) (.ex (.var 4)) (some (.not (.call i_term_finds [.var 6, .var 9]))) [9])), .ite (.or [.oNin (.var 7) 3, .call i_is_smaller [.op .add (.var 5) (.tup [.var 6]), .oIx 3 (.var 7)]]) [.put 3 (.var 7) (.op .add (.var 5) (.tup [.var 6]))] []]], .set (.v 2) (.take 3)], .ret (.ix (.var 2) (.tup []))]
def u_covering : Fn := ⟨2, 10, b_covering⟩
class H_covering (p : Pgm) : Prop extends H_is_smaller p, H_term_finds p where
  e_covering : p.tbl i_covering = some u_covering
theorem call_covering {p : Pgm} [h : H_covering p] {n : Nat} {s : S} {d0 d1 : D} : call (Ev p (n + 1)) i_covering [d0, d1] s = fin s (evSs p.glob (Ev p n) b_covering ⟨[.val d0, .val d1, .no, .no, .no, .no, .no, .no, .no, .no], s.g⟩) := call_ev h.e_covering rfl (by decide)
abbrev i_smallest_for : Nat := 66
/-- tags wanted unwanted left some -/
def b_smallest_for : List Sx := [.ite (.f1 .any (.lc (.op .isin (.var 4) (.var 2)) (.v 4) (.ex (.var 1)) none [4])) [.ret (.non)] [], .set (.v 3) (.f1 .tuple (.lc (.var 4) (.v 4) (.ex (.call i_all_sets [.var 0])) (some (.op .isin (.var 4) (.var 1))) [4])), .ret (.f1 .tuple (.f1 .sorted (.f1 .list (.call i_covering [.call i_useful_terms [.var 0, .var 2], .var 3]))))]
def u_smallest_for : Fn := ⟨3, 5, b_smallest_for⟩
class H_smallest_for (p : Pgm) : Prop extends H_all_sets p, H_covering p, H_useful_terms p where
  e_smallest_for : p.tbl i_smallest_for = some u_smallest_for
theorem call_smallest_for {p : Pgm} [h : H_smallest_for p] {n : Nat} {s : S} {d0 d1 d2 : D} : call (Ev p (n + 1)) i_smallest_for [d0, d1, d2] s = fin s (evSs p.glob (Ev p n) b_smallest_for ⟨[.val d0, .val d1, .val d2, .no, .no], s.g⟩) := call_ev h.e_smallest_for rfl (by decide)
abbrev i_smallest_same : Nat := 67
/-- tags terms wanted some -/
def b_smallest_same : List Sx := [.set (.v 2) (.call i_matched [.var 0, .var 1]), .ret (.call i_smallest_for [.var 0, .var 2, .lc (.var 3) (.v 3) (.ex (.call i_all_sets [.var 0])) (some (.op .notin (.var 3) (.var 2))) [3]])]
def u_smallest_same : Fn := ⟨2, 4, b_smallest_same⟩
class H_smallest_same (p : Pgm) : Prop extends H_all_sets p, H_matched p, H_smallest_for p where
  e_smallest_same : p.tbl i_smallest_same = some u_smallest_same
theorem call_smallest_same {p : Pgm} [h : H_smallest_same p] {n : Nat} {s : S} {d0 d1 : D} : call (Ev p (n + 1)) i_smallest_same [d0, d1] s = fin s (evSs p.glob (Ev p n) b_smallest_same ⟨[.val d0, .val d1, .no, .no], s.g⟩) := call_ev h.e_smallest_same rfl (by decide)
abbrev i_filter_for : Nat := 68
/-- tags wanted unwanted -/
def b_filter_for : List Sx := [.ex (.call i_need_tags [.var 0]), .ex (.call i_need_sets [.var 0, .var 1]), .ex (.call i_need_sets [.var 0, .var 2]), .ret (.call i_smallest_for [.var 0, .var 1, .var 2])]
def u_filter_for : Fn := ⟨3, 3, b_filter_for⟩
class H_filter_for (p : Pgm) : Prop extends H_need_sets p, H_need_tags p, H_smallest_for p where
  e_filter_for : p.tbl i_filter_for = some u_filter_for
theorem call_filter_for {p : Pgm} [h : H_filter_for p] {n : Nat} {s : S} {d0 d1 d2 : D} : call (Ev p (n + 1)) i_filter_for [d0, d1, d2] s = fin s (evSs p.glob (Ev p n) b_filter_for ⟨[.val d0, .val d1, .val d2], s.g⟩) := call_ev h.e_filter_for rfl (by decide)
abbrev i_simplest : Nat := 69
/-- tags terms -/
def b_simplest : List Sx := [.ex (.call i_need_tags [.var 0]), .ex (.call i_need_filter [.var 0, .var 1]), .ret (.call i_smallest_same [.var 0, .var 1])]
def u_simplest : Fn := ⟨2, 2, b_simplest⟩
class H_simplest (p : Pgm) : Prop extends H_need_filter p, H_need_tags p, H_smallest_same p where
  e_simplest : p.tbl i_simplest = some u_simplest
theorem call_simplest {p : Pgm} [h : H_simplest p] {n : Nat} {s : S} {d0 d1 : D} : call (Ev p (n + 1)) i_simplest [d0, d1] s = fin s (evSs p.glob (Ev p n) b_simplest ⟨[.val d0, .val d1], s.g⟩) := call_ev h.e_simplest rfl (by decide)
abbrev i_law_terms : Nat := 70
/-- tags found tag more has hasnt -/
def b_law_terms : List Sx := [.set (.v 1) (.lst [.tup [.tup [], .tup []]]), .for_ (.v 2) (.ex (.var 0)) [.set (.v 3) (.lc (.tup [.op .add (.var 4) (.tup [.var 2]), .var 5]) (.t [.v 4, .v 5]) (.ex (.var 1)) none [4, 5]), .set (.v 1) (.op .add (.op .add (.var 1) (.var 3)) (.lc (.tup [.var 4, .op .add (.var 5) (.tup [.var 2])]) (.t [.v 4, .v 5]) (.ex (.var 1)) none [4, 5]))], .ret (.var 1)]
def u_law_terms : Fn := ⟨1, 6, b_law_terms⟩
class H_law_terms (p : Pgm) : Prop where
  e_law_terms : p.tbl i_law_terms = some u_law_terms
theorem call_law_terms {p : Pgm} [h : H_law_terms p] {n : Nat} {s : S} {d0 : D} : call (Ev p (n + 1)) i_law_terms [d0] s = fin s (evSs p.glob (Ev p n) b_law_terms ⟨[.val d0, .no, .no, .no, .no, .no], s.g⟩) := call_ev h.e_law_terms rfl (by decide)
abbrev i_law_least : Nat := 71
/-- tags wanted unwanted sets best good has hasnt level many mark later cost more size both some truth one other -/
def b_law_least : List Sx := [.par [(3, .val), (4, .val)] [.call i_law_sets [.var 0], .non], .own 5 (.lst []), .for_ (.t [.v 6, .v 7]) (.ex (.call i_law_terms [.var 0])) [.set (.v 10) (.f1 .tuple (.lc (.call i_law_finds [.tup [.tup [.var 6, .var 7]], .var 16]) (.v 16) (.ex (.var 3)) none [16])), .ite (.op .eq (.lc (.var 16) (.t [.v 16, .v 17]) (.zip (.var 3) (.var 10)) (some (.and [.var 17, .op .isin (.var 16) (.var 2)])) [16, 17]) (.lst [])) [.app 5 (.tup [.var 10, .op .add (.f1 .len (.var 6)) (.f1 .len (.var 7))])] []], .set (.v 8) (.dic [.f1 .tuple (.op .mul (.lst [.bl false]) (.f1 .len (.var 3)))] [.int 0]), .for_ (.v 9) (.rng (.op .add (.f1 .len (.var 3)) (.int 1))) [.for_ (.v 10) (.ex (.var 8)) [.ite (.op .eq (.lc (.var 16) (.t [.v 16, .v 17]) (.zip (.var 3) (.var 10)) (some (.and [.op .isin (.var 16) (.var 1), .not (.var 17)])) [16, 17]) (.lst [])) [.set (.v 4) (.ite (.isN (.var 4)) (.ix (.var 8) (.var 10)) (.min2 (.var 4) (.ix (.var 8) (.var 10))))] []], .ite (.notN (.var 4)) [.ret (.tup [.var 9, .var 4])] [], .own 11 (.dic [] []), .for_ (.t [.v 10, .v 12]) (.items (.var 8)) [.for_ (.t [.v 13, .v 14]) (.ex (.take 5)) [.set (.v 15) (.f1 .tuple (.lc (.or [.var 18, .var 19]) (.t [.v 18, .v 19]) (.zip (.var 10) (.var 13)) none [18, 19])), .put 11 (.var 15) (.min2 (.oGet 11 (.var 15) (.op .add (.var 12) (.var 14))) (.op .add (.var 12) (.var 14)))]], .set (.v 8) (.take 11)], .ret (.non)]
def u_law_least : Fn := ⟨3, 20, b_law_least⟩
class H_law_least (p : Pgm) : Prop extends H_law_finds p, H_law_sets p, H_law_terms p where
  e_law_least : p.tbl i_law_least = some u_law_least
theorem call_law_least {p : Pgm} [h : H_law_least p] {n : Nat} {s : S} {d0 d1 d2 : D} : call (Ev p (n + 1)) i_law_least [d0, d1, d2] s = fin s (evSs p.glob (Ev p n) b_law_least ⟨[.val d0, .val d1, .val d2, .no, .no, .no, .no, .no, .no, .no, .no, .no, .no, .no, .no, .no, .no, .no, .no, .no], s.g⟩) := call_ev h.e_law_least rfl (by decide)
abbrev i_law_k03 : Nat := 72
/-- script k source turn tags sets lots wanted unwanted told terms mine some lot -/
def b_law_k03 : List Sx := [.for_ (.v 1) (.rng (.op .add (.int 1) (.min2 (.f1 .len (.var 0)) (.int 8)))) [.set (.v 2) (.call i_law_source [.var 0, .var 1]), .for_ (.v 3) (.rng (.int 2)) [.set (.v 4) (.call i_law_tags [.var 2, .int 3]), .set (.v 5) (.call i_law_sets [.var 4]), .set (.v 6) (.lc (.call i_law_draw [.var 2, .int 3]) (.v 12) (.ex (.var 5)) none [12]), .set (.v 7) (.f1 .tuple (.op .mul (.lc (.var 12) (.t [.v 12, .v 13]) (.zip (.var 5) (.var 6)) (some (.op .eq (.var 13) (.int 0))) [12, 13]) (.int 2))), .set (.v 8) (.f1 .tuple (.rev (.lc (.var 12) (.t [.v 12, .v 13]) (.zip (.var 5) (.var 6)) (some (.op .eq (.var 13) (.int 1))) [12, 13]))), .set (.v 9) (.call i_filter_for [.var 4, .var 7, .var 8]), .ite (.or [.not (.call i_is_filter [.var 4, .var 9]), .op .ne (.lc (.var 12) (.v 12) (.ex (.var 7)) (some (.not (.call i_law_finds [.var 9, .var 12]))) [12]) (.lst [])]) [.ret (.bl false)] [], .ite (.op .ne (.lc (.var 12) (.v 12) (.ex (.var 8)) (some (.call i_law_finds [.var 9, .var 12])) [12]) (.lst [])) [.ret (.bl false)] [], .ite (.op .ne (.call i_size_of [.var 9]) (.call i_law_least [.var 4, .var 7, .var 8])) [.ret (.bl false)] [], .ite (.and [.op .ne (.var 7) (.tup []), .notN (.call i_filter_for [.var 4, .var 7, .op .add (.var 8) (.sl (.var 7) (some (.neg (.int 1))) none)])]) [.ret (.bl false)] [], .set (.v 10) (.call i_law_filter [.var 2, .var 4]), .set (.v 11) (.lc (.var 12) (.v 12) (.ex (.var 5)) (some (.call i_law_finds [.var 10, .var 12])) [12]), .set (.v 9) (.call i_simplest [.var 4, .var 10]), .ite (.or [.not (.call i_is_filter [.var 4, .var 9]), .op .ne (.lc (.var 12) (.v 12) (.ex (.var 5)) (some (.call i_law_finds [.var 9, .var 12])) [12]) (.var 11)]) [.ret (.bl false)] [], .ite (.op .ne (.call i_size_of [.var 9]) (.call i_law_least [.var 4, .var 11, .lc (.var 12) (.v 12) (.ex (.var 5)) (some (.op .notin (.var 12) (.var 11))) [12]])) [.ret (.bl false)] []]], .ret (.and [.op .eq (.call i_filter_for [.tup [.str "a"], .tup [], .tup []]) (.tup []), .op .eq (.call i_simplest [.tup [.str "a", .str "b"], .tup [.tup [.tup [], .tup [.str "a"]], .tup [.tup [.str "a"], .tup []]]]) (.tup [.tup [.tup [], .tup []]])])]
def u_law_k03 : Fn := ⟨1, 14, b_law_k03⟩
class H_law_k03 (p : Pgm) : Prop extends H_filter_for p, H_is_filter p, H_law_draw p, H_law_filter p, H_law_finds p, H_law_least p, H_law_sets p, H_law_source p, H_law_tags p, H_simplest p, H_size_of p where
  e_law_k03 : p.tbl i_law_k03 = some u_law_k03
theorem call_law_k03 {p : Pgm} [h : H_law_k03 p] {n : Nat} {s : S} {d0 : D} : call (Ev p (n + 1)) i_law_k03 [d0] s = fin s (evSs p.glob (Ev p n) b_law_k03 ⟨[.val d0, .no, .no, .no, .no, .no, .no, .no, .no, .no, .no, .no, .no, .no], s.g⟩) := call_ev h.e_law_k03 rfl (by decide)
abbrev i_law_k04 : Nat := 73
/-- script k source tags terms small wanted others again part some fewer one -/
def b_law_k04 : List Sx := [.for_ (.v 1) (.rng (.op .add (.int 1) (.min2 (.f1 .len (.var 0)) (.int 10)))) [.set (.v 2) (.call i_law_source [.var 0, .var 1]), .set (.v 3) (.call i_law_tags [.var 2, .int 4]), .set (.v 4) (.call i_law_filter [.var 2, .var 3]), .set (.v 5) (.call i_simplest [.var 3, .var 4]), .ite (.or [.not (.call i_is_filter [.var 3, .var 5]), .not (.call i_same_filter [.var 3, .var 5, .var 4])]) [.ret (.bl false)] [], .ite (.or [.not (.op .le (.call i_size_of [.var 5]) (.call i_size_of [.var 4])), .op .ne (.call i_size_of [.call i_simplest [.var 3, .var 5]]) (.call i_size_of [.var 5])]) [.ret (.bl false)] [], .set (.v 6) (.f1 .tuple (.call i_matching [.var 3, .var 4])), .set (.v 7) (.f1 .tuple (.lc (.var 10) (.v 10) (.ex (.call i_sets_of [.var 3])) (some (.op .notin (.var 10) (.var 6))) [10])), .set (.v 8) (.call i_filter_for [.var 3, .var 6, .var 7]), .ite (.or [.op .ne (.call i_size_of [.var 8]) (.call i_size_of [.var 5]), .not (.call i_same_filter [.var 3, .var 8, .var 5])]) [.ret (.bl false)] [], .set (.v 9) (.f1 .tuple (.lc (.var 10) (.v 10) (.ex (.var 6)) (some (.op .eq (.call i_law_draw [.var 2, .int 2]) (.int 0))) [10])), .set (.v 10) (.call i_filter_for [.var 3, .var 9, .var 7]), .ite (.or [.not (.op .le (.call i_size_of [.var 10]) (.call i_size_of [.var 5])), .not (.call i_filter_within [.var 3, .var 10, .var 4])]) [.ret (.bl false)] [], .set (.v 11) (.call i_filter_for [.var 3, .var 9, .sl (.var 7) none (some (.op .fdiv (.f1 .len (.var 7)) (.int 2)))]), .nope, .ite (.op .ne (.lc (.var 12) (.v 12) (.ex (.sl (.var 7) none (some (.op .fdiv (.f1 .len (.var 7)) (.int 2))))) (some (.op .isin (.var 12) (.call i_matching [.var 3, .var 11]))) [12]) (.lst [])) [.ret (.bl false)] []], .ret (.bl true)]
def u_law_k04 : Fn := ⟨1, 13, b_law_k04⟩
class H_law_k04 (p : Pgm) : Prop extends H_filter_for p, H_filter_within p, H_find p, H_is_filter p, H_law_draw p, H_law_filter p, H_law_source p, H_law_tags p, H_matching p, H_same_filter p, H_sets_of p, H_simplest p, H_size_of p where
  e_law_k04 : p.tbl i_law_k04 = some u_law_k04
theorem call_law_k04 {p : Pgm} [h : H_law_k04 p] {n : Nat} {s : S} {d0 : D} : call (Ev p (n + 1)) i_law_k04 [d0] s = fin s (evSs p.glob (Ev p n) b_law_k04 ⟨[.val d0, .no, .no, .no, .no, .no, .no, .no, .no, .no, .no, .no, .no], s.g⟩) := call_ev h.e_law_k04 rfl (by decide)
abbrev i_without_tag : Nat := 74
/-- some tag other -/
def b_without_tag : List Sx := [.ret (.f1 .tuple (.lc (.var 2) (.v 2) (.ex (.var 0)) (some (.op .ne (.var 2) (.var 1))) [2]))]
def u_without_tag : Fn := ⟨2, 3, b_without_tag⟩
class H_without_tag (p : Pgm) : Prop where
  e_without_tag : p.tbl i_without_tag = some u_without_tag
theorem call_without_tag {p : Pgm} [h : H_without_tag p] {n : Nat} {s : S} {d0 d1 : D} : call (Ev p (n + 1)) i_without_tag [d0, d1] s = fin s (evSs p.glob (Ev p n) b_without_tag ⟨[.val d0, .val d1, .no], s.g⟩) := call_ev h.e_without_tag rfl (by decide)
abbrev i_need_row : Nat := 75
/-- tags value -/
def b_need_row : List Sx := [.ite (.not (.call i_is_good_row [.var 0, .var 1])) [.nope] []]
def u_need_row : Fn := ⟨2, 2, b_need_row⟩
class H_need_row (p : Pgm) : Prop extends H_is_good_row p where
  e_need_row : p.tbl i_need_row = some u_need_row
theorem call_need_row {p : Pgm} [h : H_need_row p] {n : Nat} {s : S} {d0 d1 : D} : call (Ev p (n + 1)) i_need_row [d0, d1] s = fin s (evSs p.glob (Ev p n) b_need_row ⟨[.val d0, .val d1], s.g⟩) := call_ev h.e_need_row rfl (by decide)
abbrev i_swapped : Nat := 76
/-- some one other found tag there -/
def b_swapped : List Sx := [.set (.v 3) (.var 0), .for_ (.t [.v 4, .v 5]) (.ex (.tup [.tup [.var 1, .op .isin (.var 2) (.var 0)], .tup [.var 2, .op .isin (.var 1) (.var 0)]])) [.set (.v 3) (.ite (.var 5) (.call i_with_tag [.var 3, .var 4]) (.call i_without_tag [.var 3, .var 4]))], .ret (.var 3)]
def u_swapped : Fn := ⟨3, 6, b_swapped⟩
class H_swapped (p : Pgm) : Prop extends H_with_tag p, H_without_tag p where
  e_swapped : p.tbl i_swapped = some u_swapped
theorem call_swapped {p : Pgm} [h : H_swapped p] {n : Nat} {s : S} {d0 d1 d2 : D} : call (Ev p (n + 1)) i_swapped [d0, d1, d2] s = fin s (evSs p.glob (Ev p n) b_swapped ⟨[.val d0, .val d1, .val d2, .no, .no, .no], s.g⟩) := call_ev h.e_swapped rfl (by decide)
abbrev i_deed_on : Nat := 77
/-- deed some word -/
def b_deed_on : List Sx := [.set (.v 2) (.ix (.var 0) (.int 0)), .ite (.op .eq (.var 2) (.str "throw")) [.ret (.ite (.call i_finds [.ix (.var 0) (.int 1), .var 1]) (.non) (.var 1))] [], .ite (.op .eq (.var 2) (.str "exchange")) [.ret (.call i_swapped [.var 1, .ix (.var 0) (.int 1), .ix (.var 0) (.int 2)])] [], .ite (.op .eq (.var 2) (.str "rename")) [.ret (.ite (.op .isin (.ix (.var 0) (.int 1)) (.var 1)) (.call i_with_tag [.call i_without_tag [.var 1, .ix (.var 0) (.int 1)], .ix (.var 0) (.int 2)]) (.var 1))] [], .ite (.not (.call i_finds [.ix (.var 0) (.int 2), .var 1])) [.ret (.var 1)] [], .ret (.ite (.op .eq (.var 2) (.str "put")) (.call i_with_tag [.var 1, .ix (.var 0) (.int 1)]) (.call i_without_tag [.var 1, .ix (.var 0) (.int 1)]))]
def u_deed_on : Fn := ⟨2, 3, b_deed_on⟩
class H_deed_on (p : Pgm) : Prop extends H_finds p, H_swapped p, H_with_tag p, H_without_tag p where
  e_deed_on : p.tbl i_deed_on = some u_deed_on
theorem call_deed_on {p : Pgm} [h : H_deed_on p] {n : Nat} {s : S} {d0 d1 : D} : call (Ev p (n + 1)) i_deed_on [d0, d1] s = fin s (evSs p.glob (Ev p n) b_deed_on ⟨[.val d0, .val d1, .no], s.g⟩) := call_ev h.e_deed_on rfl (by decide)
abbrev i_deed_of : Nat := 78
/-- step -/
def b_deed_of : List Sx := [.ret (.ite (.call i_is_bound [.var 0]) (.ix (.var 0) (.int 2)) (.var 0))]
def u_deed_of : Fn := ⟨1, 1, b_deed_of⟩
class H_deed_of (p : Pgm) : Prop extends H_is_bound p where
  e_deed_of : p.tbl i_deed_of = some u_deed_of
theorem call_deed_of {p : Pgm} [h : H_deed_of p] {n : Nat} {s : S} {d0 : D} : call (Ev p (n + 1)) i_deed_of [d0] s = fin s (evSs p.glob (Ev p n) b_deed_of ⟨[.val d0], s.g⟩) := call_ev h.e_deed_of rfl (by decide)
abbrev i_is_let : Nat := 79
/-- step some_found -/
def b_is_let : List Sx := [.ret (.op .eq (.var 1) (.op .eq (.ix (.var 0) (.int 0)) (.str "if")))]
def u_is_let : Fn := ⟨2, 2, b_is_let⟩
class H_is_let (p : Pgm) : Prop where
  e_is_let : p.tbl i_is_let = some u_is_let
theorem call_is_let {p : Pgm} [h : H_is_let p] {n : Nat} {s : S} {d0 d1 : D} : call (Ev p (n + 1)) i_is_let [d0, d1] s = fin s (evSs p.glob (Ev p n) b_is_let ⟨[.val d0, .val d1], s.g⟩) := call_ev h.e_is_let rfl (by decide)
abbrev i_played : Nat := 80
/-- row stock now told step let some -/
def b_played : List Sx := [.par [(2, .val), (3, .val)] [.f1 .list (.var 1), .tup []], .for_ (.v 4) (.ex (.var 0)) [.set (.v 5) (.bl true), .ite (.call i_is_bound [.var 4]) [.set (.v 5) (.call i_is_let [.var 4, .f1 .any (.lc (.and [.notN (.var 6), .call i_finds [.ix (.var 4) (.int 1), .var 6]]) (.v 6) (.ex (.var 2)) none [6])]), .set (.v 3) (.op .add (.var 3) (.tup [.var 5]))] [], .ite (.var 5) [.set (.v 2) (.lc (.ite (.isN (.var 6)) (.non) (.call i_deed_on [.call i_deed_of [.var 4], .var 6])) (.v 6) (.ex (.var 2)) none [6])] []], .ret (.tup [.var 2, .var 3])]
def u_played : Fn := ⟨2, 7, b_played⟩
class H_played (p : Pgm) : Prop extends H_deed_of p, H_deed_on p, H_finds p, H_is_bound p, H_is_let p where
  e_played : p.tbl i_played = some u_played
theorem call_played {p : Pgm} [h : H_played p] {n : Nat} {s : S} {d0 d1 : D} : call (Ev p (n + 1)) i_played [d0, d1] s = fin s (evSs p.glob (Ev p n) b_played ⟨[.val d0, .val d1, .no, .no, .no, .no, .no], s.g⟩) := call_ev h.e_played rfl (by decide)
abbrev i_need_both_2 : Nat := 81
/-- tags row -/
def b_need_both_2 : List Sx := [.ex (.call i_need_tags [.var 0]), .ex (.call i_need_row [.var 0, .var 1])]
def u_need_both_2 : Fn := ⟨2, 2, b_need_both_2⟩
class H_need_both_2 (p : Pgm) : Prop extends H_need_row p, H_need_tags p where
  e_need_both_2 : p.tbl i_need_both_2 = some u_need_both_2
theorem call_need_both_2 {p : Pgm} [h : H_need_both_2 p] {n : Nat} {s : S} {d0 d1 : D} : call (Ev p (n + 1)) i_need_both_2 [d0, d1] s = fin s (evSs p.glob (Ev p n) b_need_both_2 ⟨[.val d0, .val d1], s.g⟩) := call_ev h.e_need_both_2 rfl (by decide)
abbrev i_done : Nat := 82
/-- tags row stock some -/
def b_done : List Sx := [.ex (.call i_need_both_2 [.var 0, .var 1]), .ex (.call i_need_sets [.var 0, .var 2]), .ret (.f1 .tuple (.lc (.var 3) (.v 3) (.ex (.ix (.call i_played [.var 1, .var 2]) (.int 0))) (some (.notN (.var 3))) [3]))]
def u_done : Fn := ⟨3, 4, b_done⟩
class H_done (p : Pgm) : Prop extends H_need_both_2 p, H_need_sets p, H_played p where
  e_done : p.tbl i_done = some u_done
theorem call_done {p : Pgm} [h : H_done p] {n : Nat} {s : S} {d0 d1 d2 : D} : call (Ev p (n + 1)) i_done [d0, d1, d2] s = fin s (evSs p.glob (Ev p n) b_done ⟨[.val d0, .val d1, .val d2, .no], s.g⟩) := call_ev h.e_done rfl (by decide)
abbrev i_answers : Nat := 83
/-- tags row stock -/
def b_answers : List Sx := [.ex (.call i_need_both_2 [.var 0, .var 1]), .ex (.call i_need_sets [.var 0, .var 2]), .ret (.ix (.call i_played [.var 1, .var 2]) (.int 1))]
def u_answers : Fn := ⟨3, 3, b_answers⟩
class H_answers (p : Pgm) : Prop extends H_need_both_2 p, H_need_sets p, H_played p where
  e_answers : p.tbl i_answers = some u_answers
theorem call_answers {p : Pgm} [h : H_answers p] {n : Nat} {s : S} {d0 d1 d2 : D} : call (Ev p (n + 1)) i_answers [d0, d1, d2] s = fin s (evSs p.glob (Ev p n) b_answers ⟨[.val d0, .val d1, .val d2], s.g⟩) := call_ev h.e_answers rfl (by decide)
abbrev i_law_on : Nat := 84
/-- deed some word rest other tag -/
def b_law_on : List Sx := [.set (.v 2) (.ix (.var 0) (.int 0)), .ite (.op .eq (.var 2) (.str "throw")) [.ret (.ite (.call i_law_finds [.ix (.var 0) (.int 1), .var 1]) (.non) (.var 1))] [], .ite (.op .eq (.var 2) (.str "rename")) [.ret (.f1 .tuple (.f1 .sset (.lc (.ite (.op .eq (.var 5) (.ix (.var 0) (.int 1))) (.ix (.var 0) (.int 2)) (.var 5)) (.v 5) (.ex (.var 1)) none [5])))] [], .ite (.op .eq (.var 2) (.str "exchange")) [.set (.v 4) (.sdic [.ix (.var 0) (.int 1), .ix (.var 0) (.int 2)] [.ix (.var 0) (.int 2), .ix (.var 0) (.int 1)]), .ret (.f1 .tuple (.f1 .sorted (.lc (.get (.var 4) (.var 5) (.var 5)) (.v 5) (.ex (.var 1)) none [5])))] [], .ite (.not (.call i_law_finds [.ix (.var 0) (.int 2), .var 1])) [.ret (.var 1)] [], .set (.v 3) (.lc (.var 5) (.v 5) (.ex (.var 1)) (some (.op .ne (.var 5) (.ix (.var 0) (.int 1)))) [5]), .ret (.f1 .tuple (.f1 .sorted (.op .add (.var 3) (.op .mul (.lst [.ix (.var 0) (.int 1)]) (.f1 .int (.op .eq (.var 2) (.str "put")))))))]
def u_law_on : Fn := ⟨2, 6, b_law_on⟩
class H_law_on (p : Pgm) : Prop extends H_law_finds p where
  e_law_on : p.tbl i_law_on = some u_law_on
theorem call_law_on {p : Pgm} [h : H_law_on p] {n : Nat} {s : S} {d0 d1 : D} : call (Ev p (n + 1)) i_law_on [d0, d1] s = fin s (evSs p.glob (Ev p n) b_law_on ⟨[.val d0, .val d1, .no, .no, .no, .no], s.g⟩) := call_ev h.e_law_on rfl (by decide)
abbrev i_law_play : Nat := 85
/-- row stock now told step let deed some one -/
def b_law_play : List Sx := [.par [(2, .val), (3, .own)] [.f1 .list (.var 1), .lst []], .for_ (.v 4) (.ex (.var 0)) [.set (.t [.v 5, .v 6]) (.tup [.bl true, .var 4]), .ite (.op .isin (.ix (.var 4) (.int 0)) (.tup [.str "if", .str "unless"])) [.set (.v 7) (.lc (.var 8) (.v 8) (.ex (.var 2)) (some (.and [.notN (.var 8), .call i_law_finds [.ix (.var 4) (.int 1), .var 8]])) [8]), .set (.t [.v 5, .v 6]) (.tup [.op .eq (.op .ne (.var 7) (.lst [])) (.op .eq (.ix (.var 4) (.int 0)) (.str "if")), .ix (.var 4) (.int 2)]), .app 3 (.var 5)] [], .ite (.var 5) [.set (.v 2) (.lc (.ite (.isN (.var 8)) (.var 8) (.call i_law_on [.var 6, .var 8])) (.v 8) (.ex (.var 2)) none [8])] []], .ret (.tup [.var 2, .oTup 3])]
def u_law_play : Fn := ⟨2, 9, b_law_play⟩
class H_law_play (p : Pgm) : Prop extends H_law_finds p, H_law_on p where
  e_law_play : p.tbl i_law_play = some u_law_play
theorem call_law_play {p : Pgm} [h : H_law_play p] {n : Nat} {s : S} {d0 d1 : D} : call (Ev p (n + 1)) i_law_play [d0, d1] s = fin s (evSs p.glob (Ev p n) b_law_play ⟨[.val d0, .val d1, .no, .no, .no, .no, .no, .no, .no], s.g⟩) := call_ev h.e_law_play rfl (by decide)
abbrev i_law_k05 : Nat := 86
/-- script k row bound source turn tags stock now told some -/
def b_law_k05 : List Sx := [.for_ (.v 1) (.rng (.op .add (.int 1) (.min2 (.f1 .len (.var 0)) (.int 12)))) [.set (.v 4) (.call i_law_source [.var 0, .var 1]), .for_ (.v 5) (.rng (.int 4)) [.set (.v 6) (.call i_law_tags [.var 4, .int 4]), .par [(2, .val), (7, .val)] [.call i_law_row [.var 4, .var 6, .int 6, .int 3], .call i_law_stock [.var 4, .var 6, .int 20]], .set (.t [.v 8, .v 9]) (.call i_law_play [.var 2, .var 7]), .ite (.op .ne (.call i_done [.var 6, .var 2, .var 7]) (.f1 .tuple (.lc (.var 10) (.v 10) (.ex (.var 8)) (some (.notN (.var 10))) [10]))) [.ret (.bl false)] [], .ite (.op .ne (.call i_answers [.var 6, .var 2, .var 7]) (.var 9)) [.ret (.bl false)] []]], .set (.v 2) (.tup [.tup [.str "rename", .str "a", .str "b"], .tup [.str "exchange", .str "b", .str "c"], .tup [.str "throw", .tup [.tup [.tup [.str "c"], .tup [.str "a"]]]], .tup [.str "put", .str "a", .tup [.tup [.tup [], .tup []]]]]), .ite (.op .ne (.call i_done [.tup [.str "a", .str "b", .str "c"], .var 2, .tup [.tup [.str "a"], .tup [.str "a", .str "b"], .tup [.str "c"], .tup []]]) (.tup [.tup [.str "a", .str "b"], .tup [.str "a"]])) [.ret (.bl false)] [], .set (.v 3) (.tup [.tup [.str "if", .tup [.tup [.tup [], .tup []]], .tup [.str "throw", .tup [.tup [.tup [], .tup []]]]], .tup [.str "unless", .tup [.tup [.tup [], .tup []]], .tup [.str "throw", .tup []]]]), .ret (.and [.op .eq (.call i_answers [.tup [.str "a"], .var 3, .tup [.tup [], .tup []]]) (.tup [.bl true, .bl true]), .op .eq (.call i_answers [.tup [.str "a"], .var 3, .tup []]) (.tup [.bl false, .bl true])])]
def u_law_k05 : Fn := ⟨1, 11, b_law_k05⟩
class H_law_k05 (p : Pgm) : Prop extends H_answers p, H_done p, H_law_play p, H_law_row p, H_law_source p, H_law_stock p, H_law_tags p where
  e_law_k05 : p.tbl i_law_k05 = some u_law_k05
theorem call_law_k05 {p : Pgm} [h : H_law_k05 p] {n : Nat} {s : S} {d0 : D} : call (Ev p (n + 1)) i_law_k05 [d0] s = fin s (evSs p.glob (Ev p n) b_law_k05 ⟨[.val d0, .no, .no, .no, .no, .no, .no, .no, .no, .no, .no], s.g⟩) := call_ev h.e_law_k05 rfl (by decide)
abbrev i_need_some : Nat := 87
/-- tags value -/
def b_need_some : List Sx := [.ite (.not (.call i_is_some [.var 0, .var 1])) [.nope] []]
def u_need_some : Fn := ⟨2, 2, b_need_some⟩
class H_need_some (p : Pgm) : Prop extends H_is_some p where
  e_need_some : p.tbl i_need_some = some u_need_some
theorem call_need_some {p : Pgm} [h : H_need_some p] {n : Nat} {s : S} {d0 d1 : D} : call (Ev p (n + 1)) i_need_some [d0, d1] s = fin s (evSs p.glob (Ev p n) b_need_some ⟨[.val d0, .val d1], s.g⟩) := call_ev h.e_need_some rfl (by decide)
abbrev i_need_told : Nat := 88
/-- row value answer -/
def b_need_told : List Sx := [.ite (.or [.not (.isi .tup (.var 1)), .op .ne (.f1 .len (.var 1)) (.call i_many_bound [.var 0])]) [.nope] [], .ite (.not (.f1 .all (.lc (.isi .bool (.var 2)) (.v 2) (.ex (.var 1)) none [2]))) [.nope] []]
def u_need_told : Fn := ⟨2, 3, b_need_told⟩
class H_need_told (p : Pgm) : Prop extends H_many_bound p where
  e_need_told : p.tbl i_need_told = some u_need_told
theorem call_need_told {p : Pgm} [h : H_need_told p] {n : Nat} {s : S} {d0 d1 : D} : call (Ev p (n + 1)) i_need_told [d0, d1] s = fin s (evSs p.glob (Ev p n) b_need_told ⟨[.val d0, .val d1, .no], s.g⟩) := call_ev h.e_need_told rfl (by decide)
abbrev i_followed : Nat := 89
/-- row told some hits at step let -/
def b_followed : List Sx := [.set (.t [.v 3, .v 4]) (.tup [.tup [], .int 0]), .for_ (.v 5) (.ex (.var 0)) [.set (.v 6) (.bl true), .ite (.call i_is_bound [.var 5]) [.set (.v 3) (.op .add (.var 3) (.tup [.and [.notN (.var 2), .call i_finds [.ix (.var 5) (.int 1), .var 2]]])), .set (.v 6) (.ix (.var 1) (.var 4)), .set (.v 4) (.op .add (.var 4) (.int 1))] [], .ite (.and [.var 6, .notN (.var 2)]) [.set (.v 2) (.call i_deed_on [.call i_deed_of [.var 5], .var 2])] []], .ret (.tup [.var 2, .var 3])]
def u_followed : Fn := ⟨3, 7, b_followed⟩
class H_followed (p : Pgm) : Prop extends H_deed_of p, H_deed_on p, H_finds p, H_is_bound p where
  e_followed : p.tbl i_followed = some u_followed
theorem call_followed {p : Pgm} [h : H_followed p] {n : Nat} {s : S} {d0 d1 d2 : D} : call (Ev p (n + 1)) i_followed [d0, d1, d2] s = fin s (evSs p.glob (Ev p n) b_followed ⟨[.val d0, .val d1, .val d2, .no, .no, .no, .no], s.g⟩) := call_ev h.e_followed rfl (by decide)
abbrev i_becomes : Nat := 90
/-- tags row told some -/
def b_becomes : List Sx := [.ex (.call i_need_both_2 [.var 0, .var 1]), .ex (.call i_need_told [.var 1, .var 2]), .ex (.call i_need_some [.var 0, .var 3]), .ret (.ix (.call i_followed [.var 1, .var 2, .var 3]) (.int 0))]
def u_becomes : Fn := ⟨4, 4, b_becomes⟩
class H_becomes (p : Pgm) : Prop extends H_followed p, H_need_both_2 p, H_need_some p, H_need_told p where
  e_becomes : p.tbl i_becomes = some u_becomes
theorem call_becomes {p : Pgm} [h : H_becomes p] {n : Nat} {s : S} {d0 d1 d2 d3 : D} : call (Ev p (n + 1)) i_becomes [d0, d1, d2, d3] s = fin s (evSs p.glob (Ev p n) b_becomes ⟨[.val d0, .val d1, .val d2, .val d3], s.g⟩) := call_ev h.e_becomes rfl (by decide)
abbrev i_law_becomes : Nat := 91
/-- row told some left step let deed -/
def b_law_becomes : List Sx := [.own 3 (.f1 .list (.var 1)), .for_ (.v 4) (.ex (.var 0)) [.par [(5, .val), (6, .val)] [.bl true, .var 4], .ite (.op .isin (.ix (.var 4) (.int 0)) (.tup [.str "if", .str "unless"])) [.par [(5, .val), (6, .val)] [.oPopAt 3 (.int 0), .ix (.var 4) (.int 2)]] [], .ite (.and [.var 5, .notN (.var 2)]) [.set (.v 2) (.call i_law_on [.var 6, .var 2])] []], .ret (.var 2)]
def u_law_becomes : Fn := ⟨3, 7, b_law_becomes⟩
class H_law_becomes (p : Pgm) : Prop extends H_law_on p where
  e_law_becomes : p.tbl i_law_becomes = some u_law_becomes
theorem call_law_becomes {p : Pgm} [h : H_law_becomes p] {n : Nat} {s : S} {d0 d1 d2 : D} : call (Ev p (n + 1)) i_law_becomes [d0, d1, d2] s = fin s (evSs p.glob (Ev p n) b_law_becomes ⟨[.val d0, .val d1, .val d2, .no, .no, .no, .no], s.g⟩) := call_ev h.e_law_becomes rfl (by decide)
abbrev i_law_k06 : Nat := 92
/-- script k row source turn tags many told some step -/
def b_law_k06 : List Sx := [.for_ (.v 1) (.rng (.op .add (.int 1) (.min2 (.f1 .len (.var 0)) (.int 12)))) [.set (.v 3) (.call i_law_source [.var 0, .var 1]), .for_ (.v 4) (.rng (.int 4)) [.set (.v 5) (.call i_law_tags [.var 3, .int 4]), .set (.v 2) (.call i_law_row [.var 3, .var 5, .int 6, .int 3]), .set (.v 6) (.f1 .len (.lc (.var 9) (.v 9) (.ex (.var 2)) (some (.op .isin (.ix (.var 9) (.int 0)) (.tup [.str "if", .str "unless"]))) [9])), .set (.v 7) (.f1 .tuple (.lc (.op .eq (.call i_law_draw [.var 3, .int 2]) (.int 0)) (.v 9) (.rng (.var 6)) none [9])), .for_ (.v 8) (.ex (.call i_law_sets [.var 5])) [.ite (.op .ne (.call i_becomes [.var 5, .var 2, .var 7, .var 8]) (.call i_law_becomes [.var 2, .var 7, .var 8])) [.ret (.bl false)] []]]], .set (.v 2) (.tup [.tup [.str "if", .tup [], .tup [.str "put", .str "a", .tup [.tup [.tup [], .tup []]]]]]), .ret (.and [.op .eq (.call i_becomes [.tup [.str "a"], .var 2, .tup [.bl true], .tup []]) (.tup [.str "a"]), .isN (.call i_becomes [.tup [.str "a"], .tup [.tup [.str "throw", .tup [.tup [.tup [], .tup []]]]], .tup [], .tup []])])]
def u_law_k06 : Fn := ⟨1, 10, b_law_k06⟩
class H_law_k06 (p : Pgm) : Prop extends H_becomes p, H_law_becomes p, H_law_draw p, H_law_row p, H_law_sets p, H_law_source p, H_law_tags p where
  e_law_k06 : p.tbl i_law_k06 = some u_law_k06
theorem call_law_k06 {p : Pgm} [h : H_law_k06 p] {n : Nat} {s : S} {d0 : D} : call (Ev p (n + 1)) i_law_k06 [d0] s = fin s (evSs p.glob (Ev p n) b_law_k06 ⟨[.val d0, .no, .no, .no, .no, .no, .no, .no, .no, .no], s.g⟩) := call_ev h.e_law_k06 rfl (by decide)
abbrev i_law_left : Nat := 93
/-- tags row told stock rows some -/
def b_law_left : List Sx := [.set (.v 4) (.lc (.call i_becomes [.var 0, .var 1, .var 2, .var 5]) (.v 5) (.ex (.var 3)) none [5]), .ret (.lc (.var 5) (.v 5) (.ex (.var 4)) (some (.notN (.var 5))) [5])]
def u_law_left : Fn := ⟨4, 6, b_law_left⟩
class H_law_left (p : Pgm) : Prop extends H_becomes p where
  e_law_left : p.tbl i_law_left = some u_law_left
theorem call_law_left {p : Pgm} [h : H_law_left p] {n : Nat} {s : S} {d0 d1 d2 d3 : D} : call (Ev p (n + 1)) i_law_left [d0, d1, d2, d3] s = fin s (evSs p.glob (Ev p n) b_law_left ⟨[.val d0, .val d1, .val d2, .val d3, .no, .no], s.g⟩) := call_ev h.e_law_left rfl (by decide)
abbrev i_law_k07 : Nat := 94
/-- script k source turn tags row stock told rows mixed at first some -/
def b_law_k07 : List Sx := [.for_ (.v 1) (.rng (.op .add (.int 1) (.min2 (.f1 .len (.var 0)) (.int 10)))) [.set (.v 2) (.call i_law_source [.var 0, .var 1]), .for_ (.v 3) (.rng (.int 3)) [.set (.v 4) (.call i_law_tags [.var 2, .int 4]), .set (.t [.v 5, .v 6]) (.tup [.call i_law_row [.var 2, .var 4, .int 6, .int 3], .call i_law_stock [.var 2, .var 4, .int 9]]), .set (.v 7) (.call i_answers [.var 4, .var 5, .var 6]), .set (.v 8) (.lc (.call i_becomes [.var 4, .var 5, .var 7, .var 12]) (.v 12) (.ex (.var 6)) none [12]), .ite (.op .ne (.call i_done [.var 4, .var 5, .var 6]) (.f1 .tuple (.lc (.var 12) (.v 12) (.ex (.var 8)) (some (.notN (.var 12))) [12]))) [.ret (.bl false)] [], .set (.v 9) (.f1 .tuple (.call i_law_mixed [.var 2, .op .add (.f1 .list (.var 6)) (.f1 .list (.sl (.var 6) none (some (.int 5))))])), .ite (.op .ne (.call i_answers [.var 4, .var 5, .var 9]) (.var 7)) [.ret (.bl false)] [], .ite (.op .ne (.call i_done [.var 4, .var 5, .var 9]) (.call i_done [.var 4, .tup [], .f1 .tuple (.call i_law_left [.var 4, .var 5, .var 7, .var 9])])) [.ret (.bl false)] [], .set (.v 10) (.call i_law_draw [.var 2, .op .add (.f1 .len (.var 5)) (.int 1)]), .set (.v 11) (.call i_done [.var 4, .sl (.var 5) none (some (.var 10)), .var 6]), .ite (.op .ne (.call i_done [.var 4, .sl (.var 5) (some (.var 10)) none, .var 11]) (.call i_done [.var 4, .var 5, .var 6])) [.ret (.bl false)] [], .ite (.op .ne (.op .add (.call i_answers [.var 4, .sl (.var 5) none (some (.var 10)), .var 6]) (.call i_answers [.var 4, .sl (.var 5) (some (.var 10)) none, .var 11])) (.var 7)) [.ret (.bl false)] []]], .ret (.bl true)]
def u_law_k07 : Fn := ⟨1, 13, b_law_k07⟩
class H_law_k07 (p : Pgm) : Prop extends H_answers p, H_becomes p, H_done p, H_law_draw p, H_law_left p, H_law_mixed p, H_law_row p, H_law_source p, H_law_stock p, H_law_tags p where
  e_law_k07 : p.tbl i_law_k07 = some u_law_k07
theorem call_law_k07 {p : Pgm} [h : H_law_k07 p] {n : Nat} {s : S} {d0 : D} : call (Ev p (n + 1)) i_law_k07 [d0] s = fin s (evSs p.glob (Ev p n) b_law_k07 ⟨[.val d0, .no, .no, .no, .no, .no, .no, .no, .no, .no, .no, .no, .no], s.g⟩) := call_ev h.e_law_k07 rfl (by decide)
abbrev i_wanted_hits : Nat := 95
/-- row told steps step answer -/
def b_wanted_hits : List Sx := [.set (.v 2) (.lc (.var 3) (.v 3) (.ex (.var 0)) (some (.call i_is_bound [.var 3])) [3]), .ret (.f1 .tuple (.lc (.op .eq (.var 4) (.op .eq (.ix (.var 3) (.int 0)) (.str "if"))) (.t [.v 3, .v 4]) (.zip (.var 2) (.var 1)) none [3, 4]))]
def u_wanted_hits : Fn := ⟨2, 5, b_wanted_hits⟩
class H_wanted_hits (p : Pgm) : Prop extends H_is_bound p where
  e_wanted_hits : p.tbl i_wanted_hits = some u_wanted_hits
theorem call_wanted_hits {p : Pgm} [h : H_wanted_hits p] {n : Nat} {s : S} {d0 d1 : D} : call (Ev p (n + 1)) i_wanted_hits [d0, d1] s = fin s (evSs p.glob (Ev p n) b_wanted_hits ⟨[.val d0, .val d1, .no, .no, .no], s.g⟩) := call_ev h.e_wanted_hits rfl (by decide)
abbrev i_beyond : Nat := 96
/-- hits wanted hit want -/
def b_beyond : List Sx := [.ret (.lc (.and [.var 2, .not (.var 3)]) (.t [.v 2, .v 3]) (.zip (.var 0) (.var 1)) none [2, 3])]
def u_beyond : Fn := ⟨2, 4, b_beyond⟩
class H_beyond (p : Pgm) : Prop where
  e_beyond : p.tbl i_beyond = some u_beyond
theorem call_beyond {p : Pgm} [h : H_beyond p] {n : Nat} {s : S} {d0 d1 : D} : call (Ev p (n + 1)) i_beyond [d0, d1] s = fin s (evSs p.glob (Ev p n) b_beyond ⟨[.val d0, .val d1, .no, .no], s.g⟩) := call_ev h.e_beyond rfl (by decide)
abbrev i_members : Nat := 97
/-- tags row told wanted rows some told_so -/
def b_members : List Sx := [.set (.v 3) (.call i_wanted_hits [.var 1, .var 2]), .set (.v 4) (.lc (.tup [.var 5, .call i_followed [.var 1, .var 2, .var 5]]) (.v 5) (.ex (.call i_all_sets [.var 0])) none [5]), .ret (.dc (.var 5) (.var 6) (.t [.v 5, .v 6]) (.ex (.var 4)) (some (.not (.f1 .any (.call i_beyond [.ix (.var 6) (.int 1), .var 3])))) [5, 6])]
def u_members : Fn := ⟨3, 7, b_members⟩
class H_members (p : Pgm) : Prop extends H_all_sets p, H_beyond p, H_followed p, H_wanted_hits p where
  e_members : p.tbl i_members = some u_members
theorem call_members {p : Pgm} [h : H_members p] {n : Nat} {s : S} {d0 d1 d2 : D} : call (Ev p (n + 1)) i_members [d0, d1, d2] s = fin s (evSs p.glob (Ev p n) b_members ⟨[.val d0, .val d1, .val d2, .no, .no, .no, .no], s.g⟩) := call_ev h.e_members rfl (by decide)
abbrev i_all_told : Nat := 98
/-- row found turn told answer -/
def b_all_told : List Sx := [.set (.v 1) (.lst [.tup []]), .for_ (.v 2) (.rng (.call i_many_bound [.var 0])) [.set (.v 1) (.lc2 (.op .add (.var 3) (.tup [.var 4])) 3 4 (.var 1) (.tup [.bl false, .bl true]) [3, 4])], .ret (.var 1)]
def u_all_told : Fn := ⟨1, 5, b_all_told⟩
class H_all_told (p : Pgm) : Prop extends H_many_bound p where
  e_all_told : p.tbl i_all_told = some u_all_told
theorem call_all_told {p : Pgm} [h : H_all_told p] {n : Nat} {s : S} {d0 : D} : call (Ev p (n + 1)) i_all_told [d0] s = fin s (evSs p.glob (Ev p n) b_all_told ⟨[.val d0, .no, .no, .no, .no], s.g⟩) := call_ev h.e_all_told rfl (by decide)
abbrev i_joined : Nat := 99
/-- one other mine theirs -/
def b_joined : List Sx := [.ret (.f1 .tuple (.lc (.or [.var 2, .var 3]) (.t [.v 2, .v 3]) (.zip (.var 0) (.var 1)) none [2, 3]))]
def u_joined : Fn := ⟨2, 4, b_joined⟩
class H_joined (p : Pgm) : Prop where
  e_joined : p.tbl i_joined = some u_joined
theorem call_joined {p : Pgm} [h : H_joined p] {n : Nat} {s : S} {d0 d1 : D} : call (Ev p (n + 1)) i_joined [d0, d1] s = fin s (evSs p.glob (Ev p n) b_joined ⟨[.val d0, .val d1, .no, .no], s.g⟩) := call_ev h.e_joined rfl (by decide)
abbrev i_fewest : Nat := 100
/-- marks wanted rows seen later some here key mark there want -/
def b_fewest : List Sx := [.set (.v 2) (.lst [.tup [.tup [], .f1 .tuple (.lc (.bl false) (.v 10) (.ex (.var 1)) none [10])]]), .own 3 (.dic [] []), .while_ (.op .ne (.var 2) (.lst [])) [.own 4 (.lst []), .for_ (.t [.v 5, .v 6]) (.ex (.var 2)) [.ite (.op .eq (.var 6) (.var 1)) [.ret (.var 5)] [], .for_ (.t [.v 7, .v 8]) (.items (.var 0)) [.set (.v 9) (.call i_joined [.var 6, .var 8]), .ite (.oNin (.var 9) 3) [.put 3 (.var 9) (.bl true), .app 4 (.tup [.op .add (.var 5) (.tup [.var 7]), .var 9])] []]], .set (.v 2) (.take 4)], .ret (.non)]
def u_fewest : Fn := ⟨2, 11, b_fewest⟩
class H_fewest (p : Pgm) : Prop extends H_joined p where
  e_fewest : p.tbl i_fewest = some u_fewest
theorem call_fewest {p : Pgm} [h : H_fewest p] {n : Nat} {s : S} {d0 d1 : D} : call (Ev p (n + 1)) i_fewest [d0, d1] s = fin s (evSs p.glob (Ev p n) b_fewest ⟨[.val d0, .val d1, .no, .no, .no, .no, .no, .no, .no, .no, .no], s.g⟩) := call_ev h.e_fewest rfl (by decide)
abbrev i_least_for : Nat := 101
/-- tags row told marks some end hits -/
def b_least_for : List Sx := [.set (.v 3) (.dc (.var 4) (.var 6) (.t [.v 4, .t [.v 5, .v 6]]) (.items (.call i_members [.var 0, .var 1, .var 2])) none [4, 5, 6]), .ret (.call i_fewest [.var 3, .call i_wanted_hits [.var 1, .var 2]])]
def u_least_for : Fn := ⟨3, 7, b_least_for⟩
class H_least_for (p : Pgm) : Prop extends H_fewest p, H_members p, H_wanted_hits p where
  e_least_for : p.tbl i_least_for = some u_least_for
theorem call_least_for {p : Pgm} [h : H_least_for p] {n : Nat} {s : S} {d0 d1 d2 : D} : call (Ev p (n + 1)) i_least_for [d0, d1, d2] s = fin s (evSs p.glob (Ev p n) b_least_for ⟨[.val d0, .val d1, .val d2, .no, .no, .no, .no], s.g⟩) := call_ev h.e_least_for rfl (by decide)
abbrev i_told_possible : Nat := 102
/-- tags row told -/
def b_told_possible : List Sx := [.ret (.lc (.var 2) (.v 2) (.ex (.call i_all_told [.var 1])) (some (.notN (.call i_least_for [.var 0, .var 1, .var 2]))) [2])]
def u_told_possible : Fn := ⟨2, 3, b_told_possible⟩
class H_told_possible (p : Pgm) : Prop extends H_all_told p, H_least_for p where
  e_told_possible : p.tbl i_told_possible = some u_told_possible
theorem call_told_possible {p : Pgm} [h : H_told_possible p] {n : Nat} {s : S} {d0 d1 : D} : call (Ev p (n + 1)) i_told_possible [d0, d1] s = fin s (evSs p.glob (Ev p n) b_told_possible ⟨[.val d0, .val d1, .no], s.g⟩) := call_ev h.e_told_possible rfl (by decide)
abbrev i_possible_answers : Nat := 103
/-- tags row -/
def b_possible_answers : List Sx := [.ex (.call i_need_both_2 [.var 0, .var 1]), .ret (.call i_told_possible [.var 0, .var 1])]
def u_possible_answers : Fn := ⟨2, 2, b_possible_answers⟩
class H_possible_answers (p : Pgm) : Prop extends H_need_both_2 p, H_told_possible p where
  e_possible_answers : p.tbl i_possible_answers = some u_possible_answers
theorem call_possible_answers {p : Pgm} [h : H_possible_answers p] {n : Nat} {s : S} {d0 d1 : D} : call (Ev p (n + 1)) i_possible_answers [d0, d1] s = fin s (evSs p.glob (Ev p n) b_possible_answers ⟨[.val d0, .val d1], s.g⟩) := call_ev h.e_possible_answers rfl (by decide)
abbrev i_least_stock : Nat := 104
/-- tags row told -/
def b_least_stock : List Sx := [.ex (.call i_need_both_2 [.var 0, .var 1]), .ex (.call i_need_told [.var 1, .var 2]), .ret (.call i_least_for [.var 0, .var 1, .var 2])]
def u_least_stock : Fn := ⟨3, 3, b_least_stock⟩
class H_least_stock (p : Pgm) : Prop extends H_least_for p, H_need_both_2 p, H_need_told p where
  e_least_stock : p.tbl i_least_stock = some u_least_stock
theorem call_least_stock {p : Pgm} [h : H_least_stock p] {n : Nat} {s : S} {d0 d1 d2 : D} : call (Ev p (n + 1)) i_least_stock [d0, d1, d2] s = fin s (evSs p.glob (Ev p n) b_least_stock ⟨[.val d0, .val d1, .val d2], s.g⟩) := call_ev h.e_least_stock rfl (by decide)
abbrev i_law_stocks : Nat := 105
/-- tags found some stock -/
def b_law_stocks : List Sx := [.set (.v 1) (.lst [.tup []]), .for_ (.v 2) (.ex (.call i_law_sets [.var 0])) [.set (.v 1) (.op .add (.var 1) (.lc (.op .add (.var 3) (.tup [.var 2])) (.v 3) (.ex (.var 1)) none [3]))], .ret (.var 1)]
def u_law_stocks : Fn := ⟨1, 4, b_law_stocks⟩
class H_law_stocks (p : Pgm) : Prop extends H_law_sets p where
  e_law_stocks : p.tbl i_law_stocks = some u_law_stocks
theorem call_law_stocks {p : Pgm} [h : H_law_stocks p] {n : Nat} {s : S} {d0 : D} : call (Ev p (n + 1)) i_law_stocks [d0] s = fin s (evSs p.glob (Ev p n) b_law_stocks ⟨[.val d0, .no, .no, .no], s.g⟩) := call_ev h.e_law_stocks rfl (by decide)
abbrev i_law_runs : Nat := 106
/-- tags row stock -/
def b_law_runs : List Sx := [.ret (.lc (.op .add (.tup [.var 2]) (.call i_law_play [.var 1, .var 2])) (.v 2) (.ex (.call i_law_stocks [.var 0])) none [2])]
def u_law_runs : Fn := ⟨2, 3, b_law_runs⟩
class H_law_runs (p : Pgm) : Prop extends H_law_play p, H_law_stocks p where
  e_law_runs : p.tbl i_law_runs = some u_law_runs
theorem call_law_runs {p : Pgm} [h : H_law_runs p] {n : Nat} {s : S} {d0 d1 : D} : call (Ev p (n + 1)) i_law_runs [d0, d1] s = fin s (evSs p.glob (Ev p n) b_law_runs ⟨[.val d0, .val d1, .no], s.g⟩) := call_ev h.e_law_runs rfl (by decide)
abbrev i_law_k08 : Nat := 107
/-- script k both some source tags row sizes stock now told every step -/
def b_law_k08 : List Sx := [.for_ (.v 1) (.rng (.op .add (.int 1) (.min2 (.f1 .len (.var 0)) (.int 6)))) [.set (.v 4) (.call i_law_source [.var 0, .var 1]), .set (.v 5) (.call i_law_tags [.var 4, .int 3]), .set (.v 6) (.call i_law_row [.var 4, .var 5, .int 6, .int 3]), .own 7 (.dic [] []), .for_ (.t [.v 8, .v 9, .v 10]) (.ex (.call i_law_runs [.var 5, .var 6])) [.put 7 (.var 10) (.min2 (.f1 .len (.var 8)) (.oGet 7 (.var 10) (.f1 .len (.var 8))))], .ite (.op .ne (.call i_possible_answers [.var 5, .var 6]) (.f1 .sorted (.oLst 7))) [.ret (.bl false)] [], .set (.v 11) (.lst [.tup []]), .for_ (.v 12) (.ex (.var 6)) [.ite (.op .isin (.ix (.var 12) (.int 0)) (.tup [.str "if", .str "unless"])) [.set (.v 11) (.op .add (.lc (.op .add (.var 10) (.tup [.bl false])) (.v 10) (.ex (.var 11)) none [10]) (.lc (.op .add (.var 10) (.tup [.bl true])) (.v 10) (.ex (.var 11)) none [10]))] []], .for_ (.v 10) (.ex (.var 11)) [.set (.v 8) (.call i_least_stock [.var 5, .var 6, .var 10]), .ite (.op .ne (.isN (.var 8)) (.oNin (.var 10) 7)) [.ret (.bl false)] [], .ite (.notN (.var 8)) [.ite (.or [.op .ne (.f1 .len (.var 8)) (.oIx 7 (.var 10)), .op .ne (.ix (.call i_law_play [.var 6, .var 8]) (.int 1)) (.var 10), .not (.isi .tup (.var 8))]) [.ret (.bl false)] []] []]], .set (.v 2) (.tup [.tup [.str "if", .tup [.tup [.tup [.str "a"], .tup []]], .tup [.str "put", .str "b", .tup []]], .tup [.str "if", .tup [.tup [.tup [.str "b"], .tup []]], .tup [.str "take", .str "a", .tup []]]]), .set (.v 3) (.lst [.tup [.bl false, .bl false], .tup [.bl true, .bl false], .tup [.bl true, .bl true]]), .ret (.op .eq (.lc (.f1 .len (.call i_least_stock [.tup [.str "a", .str "b"], .var 2, .var 10])) (.v 10) (.ex (.var 3)) none [10]) (.lst [.int 0, .int 1, .int 1]))]
def u_law_k08 : Fn := ⟨1, 13, b_law_k08⟩
class H_law_k08 (p : Pgm) : Prop extends H_law_play p, H_law_row p, H_law_runs p, H_law_source p, H_law_tags p, H_least_stock p, H_possible_answers p where
  e_law_k08 : p.tbl i_law_k08 = some u_law_k08
theorem call_law_k08 {p : Pgm} [h : H_law_k08 p] {n : Nat} {s : S} {d0 : D} : call (Ev p (n + 1)) i_law_k08 [d0] s = fin s (evSs p.glob (Ev p n) b_law_k08 ⟨[.val d0, .no, .no, .no, .no, .no, .no, .no, .no, .no, .no, .no, .no], s.g⟩) := call_ev h.e_law_k08 rfl (by decide)
abbrev i_all_ends : Nat := 108
/-- tags row some found told known -/
def b_all_ends : List Sx := [.own 3 (.lst []), .for_ (.v 4) (.ex (.call i_told_possible [.var 0, .var 1])) [.set (.v 5) (.call i_members [.var 0, .var 1, .var 4]), .ite (.op .isin (.var 2) (.var 5)) [.app 3 (.ix (.ix (.var 5) (.var 2)) (.int 0))] []], .ret (.move 3)]
def u_all_ends : Fn := ⟨3, 6, b_all_ends⟩
class H_all_ends (p : Pgm) : Prop extends H_members p, H_told_possible p where
  e_all_ends : p.tbl i_all_ends = some u_all_ends
theorem call_all_ends {p : Pgm} [h : H_all_ends p] {n : Nat} {s : S} {d0 d1 d2 : D} : call (Ev p (n + 1)) i_all_ends [d0, d1, d2] s = fin s (evSs p.glob (Ev p n) b_all_ends ⟨[.val d0, .val d1, .val d2, .no, .no, .no], s.g⟩) := call_ev h.e_all_ends rfl (by decide)
abbrev i_comes_to : Nat := 109
/-- tags row some found other -/
def b_comes_to : List Sx := [.ex (.call i_need_both_2 [.var 0, .var 1]), .ex (.call i_need_some [.var 0, .var 2]), .set (.v 3) (.call i_all_ends [.var 0, .var 1, .var 2]), .ret (.lc (.var 4) (.v 4) (.ex (.call i_all_sets [.var 0])) (some (.op .isin (.var 4) (.var 3))) [4])]
def u_comes_to : Fn := ⟨3, 5, b_comes_to⟩
class H_comes_to (p : Pgm) : Prop extends H_all_ends p, H_all_sets p, H_need_both_2 p, H_need_some p where
  e_comes_to : p.tbl i_comes_to = some u_comes_to
theorem call_comes_to {p : Pgm} [h : H_comes_to p] {n : Nat} {s : S} {d0 d1 d2 : D} : call (Ev p (n + 1)) i_comes_to [d0, d1, d2] s = fin s (evSs p.glob (Ev p n) b_comes_to ⟨[.val d0, .val d1, .val d2, .no, .no], s.g⟩) := call_ev h.e_comes_to rfl (by decide)
abbrev i_may_be_thrown : Nat := 110
/-- tags row some -/
def b_may_be_thrown : List Sx := [.ex (.call i_need_both_2 [.var 0, .var 1]), .ex (.call i_need_some [.var 0, .var 2]), .ret (.op .isin (.non) (.call i_all_ends [.var 0, .var 1, .var 2]))]
def u_may_be_thrown : Fn := ⟨3, 3, b_may_be_thrown⟩
class H_may_be_thrown (p : Pgm) : Prop extends H_all_ends p, H_need_both_2 p, H_need_some p where
  e_may_be_thrown : p.tbl i_may_be_thrown = some u_may_be_thrown
theorem call_may_be_thrown {p : Pgm} [h : H_may_be_thrown p] {n : Nat} {s : S} {d0 d1 d2 : D} : call (Ev p (n + 1)) i_may_be_thrown [d0, d1, d2] s = fin s (evSs p.glob (Ev p n) b_may_be_thrown ⟨[.val d0, .val d1, .val d2], s.g⟩) := call_ev h.e_may_be_thrown rfl (by decide)
abbrev i_confounded : Nat := 111
/-- tags row found told known one other -/
def b_confounded : List Sx := [.ex (.call i_need_both_2 [.var 0, .var 1]), .own 2 (.dic [] []), .for_ (.v 3) (.ex (.call i_told_possible [.var 0, .var 1])) [.set (.v 4) (.call i_members [.var 0, .var 1, .var 3]), .for_ (.v 5) (.ex (.var 4)) [.for_ (.v 6) (.ex (.var 4)) [.ite (.and [.op .lt (.var 5) (.var 6), .notN (.ix (.ix (.var 4) (.var 5)) (.int 0)), .op .eq (.ix (.ix (.var 4) (.var 5)) (.int 0)) (.ix (.ix (.var 4) (.var 6)) (.int 0))]) [.put 2 (.tup [.var 5, .var 6]) (.bl true)] []]]], .ret (.f1 .sorted (.oLst 2))]
def u_confounded : Fn := ⟨2, 7, b_confounded⟩
class H_confounded (p : Pgm) : Prop extends H_members p, H_need_both_2 p, H_told_possible p where
  e_confounded : p.tbl i_confounded = some u_confounded
theorem call_confounded {p : Pgm} [h : H_confounded p] {n : Nat} {s : S} {d0 d1 : D} : call (Ev p (n + 1)) i_confounded [d0, d1] s = fin s (evSs p.glob (Ev p n) b_confounded ⟨[.val d0, .val d1, .no, .no, .no, .no, .no], s.g⟩) := call_ev h.e_confounded rfl (by decide)
abbrev i_law_k09 : Nat := 112
/-- script k source tags row to pairs stock now told some rows place at other spot -/
def b_law_k09 : List Sx := [.for_ (.v 1) (.rng (.op .add (.int 1) (.min2 (.f1 .len (.var 0)) (.int 6)))) [.set (.v 2) (.call i_law_source [.var 0, .var 1]), .set (.v 3) (.call i_law_tags [.var 2, .int 3]), .set (.t [.v 4, .v 5, .v 6]) (.tup [.call i_law_row [.var 2, .var 3, .int 6, .int 3], .dic [] [], .dic [] []]), .for_ (.t [.v 7, .v 8, .v 9]) (.ex (.call i_law_runs [.var 3, .var 4])) [.set (.v 11) (.f1 .sorted (.lc (.tup [.ix (.var 7) (.var 13), .var 13]) (.v 13) (.rng (.f1 .len (.var 7))) none [13])), .for_ (.t [.v 12, .t [.v 10, .v 13]]) (.enum (.var 11)) [.put 5 (.tup [.var 10, .ix (.var 8) (.var 13)]) (.bl true), .for_ (.t [.v 14, .v 15]) (.ex (.sl (.var 11) (some (.op .add (.var 12) (.int 1))) none)) [.ite (.and [.notN (.ix (.var 8) (.var 13)), .op .eq (.ix (.var 8) (.var 13)) (.ix (.var 8) (.var 15))]) [.put 6 (.tup [.var 10, .var 14]) (.bl true)] []]]], .for_ (.v 10) (.ex (.call i_law_sets [.var 3])) [.ite (.op .ne (.call i_comes_to [.var 3, .var 4, .var 10]) (.lc (.var 14) (.v 14) (.ex (.call i_law_sets [.var 3])) (some (.oIn (.tup [.var 10, .var 14]) 5)) [14])) [.ret (.bl false)] [], .ite (.op .ne (.call i_may_be_thrown [.var 3, .var 4, .var 10]) (.oIn (.tup [.var 10, .non]) 5)) [.ret (.bl false)] []], .ite (.op .ne (.call i_confounded [.var 3, .var 4]) (.f1 .sorted (.oLst 6))) [.ret (.bl false)] []], .ret (.bl true)]
def u_law_k09 : Fn := ⟨1, 16, b_law_k09⟩
class H_law_k09 (p : Pgm) : Prop extends H_comes_to p, H_confounded p, H_law_row p, H_law_runs p, H_law_sets p, H_law_source p, H_law_tags p, H_may_be_thrown p where
  e_law_k09 : p.tbl i_law_k09 = some u_law_k09
theorem call_law_k09 {p : Pgm} [h : H_law_k09 p] {n : Nat} {s : S} {d0 : D} : call (Ev p (n + 1)) i_law_k09 [d0] s = fin s (evSs p.glob (Ev p n) b_law_k09 ⟨[.val d0, .no, .no, .no, .no, .no, .no, .no, .no, .no, .no, .no, .no, .no, .no, .no], s.g⟩) := call_ev h.e_law_k09 rfl (by decide)
abbrev i_law_k10 : Nat := 113
/-- script k source tags row known pairs turn told stock some there other same -/
def b_law_k10 : List Sx := [.for_ (.v 1) (.rng (.op .add (.int 1) (.min2 (.f1 .len (.var 0)) (.int 8)))) [.set (.v 2) (.call i_law_source [.var 0, .var 1]), .set (.v 3) (.call i_law_tags [.var 2, .int 4]), .set (.v 4) (.call i_law_row [.var 2, .var 3, .int 6, .int 3]), .par [(5, .val), (6, .val)] [.call i_possible_answers [.var 3, .var 4], .call i_confounded [.var 3, .var 4]], .for_ (.v 7) (.rng (.int 6)) [.set (.v 9) (.call i_law_stock [.var 2, .var 3, .int 12]), .set (.v 8) (.call i_answers [.var 3, .var 4, .var 9]), .ite (.or [.op .notin (.var 8) (.var 5), .op .gt (.f1 .len (.call i_least_stock [.var 3, .var 4, .var 8])) (.f1 .len (.var 9))]) [.ret (.bl false)] [], .for_ (.v 10) (.ex (.var 9)) [.set (.v 11) (.call i_becomes [.var 3, .var 4, .var 8, .var 10]), .ite (.and [.isN (.var 11), .not (.call i_may_be_thrown [.var 3, .var 4, .var 10])]) [.ret (.bl false)] [], .ite (.and [.notN (.var 11), .op .notin (.var 11) (.call i_comes_to [.var 3, .var 4, .var 10])]) [.ret (.bl false)] [], .for_ (.v 12) (.ex (.var 9)) [.set (.v 13) (.and [.notN (.var 11), .op .eq (.var 11) (.call i_becomes [.var 3, .var 4, .var 8, .var 12])]), .ite (.and [.op .lt (.var 10) (.var 12), .var 13, .op .notin (.tup [.var 10, .var 12]) (.var 6)]) [.ret (.bl false)] []]]], .for_ (.v 8) (.ex (.var 5)) [.set (.v 9) (.call i_least_stock [.var 3, .var 4, .var 8]), .ite (.or [.op .ne (.call i_answers [.var 3, .var 4, .var 9]) (.var 8), .op .gt (.f1 .len (.var 9)) (.f1 .len (.var 8))]) [.ret (.bl false)] []], .ite (.op .ne (.f1 .len (.call i_done [.var 3, .var 4, .tup []])) (.int 0)) [.ret (.bl false)] []], .ret (.bl true)]
def u_law_k10 : Fn := ⟨1, 14, b_law_k10⟩
class H_law_k10 (p : Pgm) : Prop extends H_answers p, H_becomes p, H_comes_to p, H_confounded p, H_done p, H_law_row p, H_law_source p, H_law_stock p, H_law_tags p, H_least_stock p, H_may_be_thrown p, H_possible_answers p where
  e_law_k10 : p.tbl i_law_k10 = some u_law_k10
theorem call_law_k10 {p : Pgm} [h : H_law_k10 p] {n : Nat} {s : S} {d0 : D} : call (Ev p (n + 1)) i_law_k10 [d0] s = fin s (evSs p.glob (Ev p n) b_law_k10 ⟨[.val d0, .no, .no, .no, .no, .no, .no, .no, .no, .no, .no, .no, .no, .no], s.g⟩) := call_ev h.e_law_k10 rfl (by decide)
abbrev i_parted_by : Nat := 114
/-- tags first second told other mine theirs marks some apart -/
def b_parted_by : List Sx := [.par [(5, .val), (6, .val)] [.call i_members [.var 0, .var 1, .var 3], .call i_members [.var 0, .var 2, .var 4]], .own 7 (.dic [] []), .for_ (.v 8) (.ex (.var 5)) [.ite (.op .isin (.var 8) (.var 6)) [.set (.v 9) (.op .ne (.ix (.ix (.var 5) (.var 8)) (.int 0)) (.ix (.ix (.var 6) (.var 8)) (.int 0))), .put 7 (.var 8) (.op .add (.op .add (.ix (.ix (.var 5) (.var 8)) (.int 1)) (.ix (.ix (.var 6) (.var 8)) (.int 1))) (.tup [.var 9]))] []], .ret (.call i_fewest [.take 7, .op .add (.op .add (.call i_wanted_hits [.var 1, .var 3]) (.call i_wanted_hits [.var 2, .var 4])) (.tup [.bl true])])]
def u_parted_by : Fn := ⟨5, 10, b_parted_by⟩
class H_parted_by (p : Pgm) : Prop extends H_fewest p, H_members p, H_wanted_hits p where
  e_parted_by : p.tbl i_parted_by = some u_parted_by
theorem call_parted_by {p : Pgm} [h : H_parted_by p] {n : Nat} {s : S} {d0 d1 d2 d3 d4 : D} : call (Ev p (n + 1)) i_parted_by [d0, d1, d2, d3, d4] s = fin s (evSs p.glob (Ev p n) b_parted_by ⟨[.val d0, .val d1, .val d2, .val d3, .val d4, .no, .no, .no, .no, .no], s.g⟩) := call_ev h.e_parted_by rfl (by decide)
abbrev i_least_parting : Nat := 115
/-- tags first second best told other found -/
def b_least_parting : List Sx := [.set (.v 3) (.non), .for_ (.v 4) (.ex (.call i_all_told [.var 1])) [.for_ (.v 5) (.ex (.call i_all_told [.var 2])) [.set (.v 6) (.call i_parted_by [.var 0, .var 1, .var 2, .var 4, .var 5]), .ite (.and [.notN (.var 6), .or [.isN (.var 3), .op .lt (.f1 .len (.var 6)) (.f1 .len (.var 3))]]) [.set (.v 3) (.var 6)] []]], .ret (.var 3)]
def u_least_parting : Fn := ⟨3, 7, b_least_parting⟩
class H_least_parting (p : Pgm) : Prop extends H_all_told p, H_parted_by p where
  e_least_parting : p.tbl i_least_parting = some u_least_parting
theorem call_least_parting {p : Pgm} [h : H_least_parting p] {n : Nat} {s : S} {d0 d1 d2 : D} : call (Ev p (n + 1)) i_least_parting [d0, d1, d2] s = fin s (evSs p.glob (Ev p n) b_least_parting ⟨[.val d0, .val d1, .val d2, .no, .no, .no, .no], s.g⟩) := call_ev h.e_least_parting rfl (by decide)
abbrev i_same_rows : Nat := 116
/-- tags first second -/
def b_same_rows : List Sx := [.ret (.isN (.call i_least_parting [.var 0, .var 1, .var 2]))]
def u_same_rows : Fn := ⟨3, 3, b_same_rows⟩
class H_same_rows (p : Pgm) : Prop extends H_least_parting p where
  e_same_rows : p.tbl i_same_rows = some u_same_rows
theorem call_same_rows {p : Pgm} [h : H_same_rows p] {n : Nat} {s : S} {d0 d1 d2 : D} : call (Ev p (n + 1)) i_same_rows [d0, d1, d2] s = fin s (evSs p.glob (Ev p n) b_same_rows ⟨[.val d0, .val d1, .val d2], s.g⟩) := call_ev h.e_same_rows rfl (by decide)
abbrev i_need_pair : Nat := 117
/-- tags first second -/
def b_need_pair : List Sx := [.ex (.call i_need_both_2 [.var 0, .var 1]), .ex (.call i_need_row [.var 0, .var 2])]
def u_need_pair : Fn := ⟨3, 3, b_need_pair⟩
class H_need_pair (p : Pgm) : Prop extends H_need_both_2 p, H_need_row p where
  e_need_pair : p.tbl i_need_pair = some u_need_pair
theorem call_need_pair {p : Pgm} [h : H_need_pair p] {n : Nat} {s : S} {d0 d1 d2 : D} : call (Ev p (n + 1)) i_need_pair [d0, d1, d2] s = fin s (evSs p.glob (Ev p n) b_need_pair ⟨[.val d0, .val d1, .val d2], s.g⟩) := call_ev h.e_need_pair rfl (by decide)
abbrev i_alike : Nat := 118
/-- tags first second -/
def b_alike : List Sx := [.ex (.call i_need_pair [.var 0, .var 1, .var 2]), .ret (.call i_same_rows [.var 0, .var 1, .var 2])]
def u_alike : Fn := ⟨3, 3, b_alike⟩
class H_alike (p : Pgm) : Prop extends H_need_pair p, H_same_rows p where
  e_alike : p.tbl i_alike = some u_alike
theorem call_alike {p : Pgm} [h : H_alike p] {n : Nat} {s : S} {d0 d1 d2 : D} : call (Ev p (n + 1)) i_alike [d0, d1, d2] s = fin s (evSs p.glob (Ev p n) b_alike ⟨[.val d0, .val d1, .val d2], s.g⟩) := call_ev h.e_alike rfl (by decide)
abbrev i_parting_stock : Nat := 119
/-- tags first second -/
def b_parting_stock : List Sx := [.ex (.call i_need_pair [.var 0, .var 1, .var 2]), .ret (.call i_least_parting [.var 0, .var 1, .var 2])]
def u_parting_stock : Fn := ⟨3, 3, b_parting_stock⟩
class H_parting_stock (p : Pgm) : Prop extends H_least_parting p, H_need_pair p where
  e_parting_stock : p.tbl i_parting_stock = some u_parting_stock
theorem call_parting_stock {p : Pgm} [h : H_parting_stock p] {n : Nat} {s : S} {d0 d1 d2 : D} : call (Ev p (n + 1)) i_parting_stock [d0, d1, d2] s = fin s (evSs p.glob (Ev p n) b_parting_stock ⟨[.val d0, .val d1, .val d2], s.g⟩) := call_ev h.e_parting_stock rfl (by decide)
abbrev i_law_near : Nat := 120
/-- source tags row at way ahead behind step -/
def b_law_near : List Sx := [.par [(3, .val), (4, .val)] [.call i_law_draw [.var 0, .op .add (.f1 .len (.var 2)) (.int 1)], .call i_law_draw [.var 0, .int 4]], .par [(5, .val), (6, .val)] [.sl (.var 2) none (some (.var 3)), .sl (.var 2) (some (.op .add (.var 3) (.int 1))) none], .ite (.op .eq (.var 4) (.int 0)) [.ret (.op .add (.var 5) (.var 6))] [], .ite (.op .eq (.var 4) (.int 1)) [.ret (.op .add (.op .add (.op .add (.var 5) (.sl (.var 6) none (some (.int 1)))) (.sl (.var 2) (some (.var 3)) (some (.op .add (.var 3) (.int 1))))) (.sl (.var 6) (some (.int 1)) none))] [], .ite (.and [.op .eq (.var 4) (.int 2), .op .lt (.var 3) (.f1 .len (.var 2)), .op .isin (.ix (.ix (.var 2) (.var 3)) (.int 0)) (.tup [.str "if", .str "unless"])]) [.set (.v 7) (.tup [.ix (.ix (.var 2) (.var 3)) (.int 0), .call i_law_filter [.var 0, .var 1], .ix (.ix (.var 2) (.var 3)) (.int 2)]), .ret (.op .add (.op .add (.var 5) (.tup [.var 7])) (.var 6))] [], .ret (.op .add (.op .add (.var 5) (.tup [.call i_law_deed [.var 0, .var 1]])) (.var 6))]
def u_law_near : Fn := ⟨3, 8, b_law_near⟩
class H_law_near (p : Pgm) : Prop extends H_law_deed p, H_law_draw p, H_law_filter p where
  e_law_near : p.tbl i_law_near = some u_law_near
theorem call_law_near {p : Pgm} [h : H_law_near p] {n : Nat} {s : S} {d0 d1 d2 : D} : call (Ev p (n + 1)) i_law_near [d0, d1, d2] s = fin s (evSs p.glob (Ev p n) b_law_near ⟨[.val d0, .val d1, .val d2, .no, .no, .no, .no, .no], s.g⟩) := call_ev h.e_law_near rfl (by decide)
abbrev i_law_apart : Nat := 121
/-- tags one other best stock -/
def b_law_apart : List Sx := [.set (.v 3) (.non), .for_ (.v 4) (.ex (.call i_law_stocks [.var 0])) [.ite (.op .ne (.ix (.call i_law_play [.var 1, .var 4]) (.int 0)) (.ix (.call i_law_play [.var 2, .var 4]) (.int 0))) [.set (.v 3) (.ite (.isN (.var 3)) (.f1 .len (.var 4)) (.min2 (.var 3) (.f1 .len (.var 4))))] []], .ret (.var 3)]
def u_law_apart : Fn := ⟨3, 5, b_law_apart⟩
class H_law_apart (p : Pgm) : Prop extends H_law_play p, H_law_stocks p where
  e_law_apart : p.tbl i_law_apart = some u_law_apart
theorem call_law_apart {p : Pgm} [h : H_law_apart p] {n : Nat} {s : S} {d0 d1 d2 : D} : call (Ev p (n + 1)) i_law_apart [d0, d1, d2] s = fin s (evSs p.glob (Ev p n) b_law_apart ⟨[.val d0, .val d1, .val d2, .no, .no], s.g⟩) := call_ev h.e_law_apart rfl (by decide)
abbrev i_law_k11 : Nat := 122
/-- script k find_b row rest one source turn tags other best stock -/
def b_law_k11 : List Sx := [.for_ (.v 1) (.rng (.op .add (.int 1) (.min2 (.f1 .len (.var 0)) (.int 5)))) [.set (.v 6) (.call i_law_source [.var 0, .var 1]), .for_ (.v 7) (.rng (.int 2)) [.set (.v 8) (.call i_law_tags [.var 6, .int 3]), .set (.v 5) (.call i_law_row [.var 6, .var 8, .int 5, .int 3]), .set (.v 9) (.call i_law_near [.var 6, .var 8, .var 5]), .par [(10, .val), (11, .val)] [.call i_law_apart [.var 8, .var 5, .var 9], .call i_parting_stock [.var 8, .var 5, .var 9]], .ite (.or [.op .ne (.call i_alike [.var 8, .var 5, .var 9]) (.isN (.var 10)), .op .ne (.isN (.var 11)) (.isN (.var 10))]) [.ret (.bl false)] [], .ite (.notN (.var 11)) [.ite (.or [.op .ne (.f1 .len (.var 11)) (.var 10), .op .eq (.ix (.call i_law_play [.var 5, .var 11]) (.int 0)) (.ix (.call i_law_play [.var 9, .var 11]) (.int 0))]) [.ret (.bl false)] []] [], .ite (.or [.not (.call i_alike [.var 8, .var 5, .var 5]), .op .ne (.call i_alike [.var 8, .var 9, .var 5]) (.isN (.var 10))]) [.ret (.bl false)] []]], .set (.v 2) (.tup [.tup [.tup [.str "b"], .tup []]]), .set (.v 3) (.tup [.tup [.str "if", .tup [.tup [.tup [.str "a"], .tup []]], .tup [.str "throw", .var 2]], .tup [.str "if", .tup [.tup [.tup [.str "c"], .tup []]], .tup [.str "throw", .var 2]]]), .set (.v 4) (.tup [.tup [.str "if", .tup [.tup [.tup [.str "a"], .tup []], .tup [.tup [.str "c"], .tup []]], .tup [.str "throw", .var 2]]]), .ite (.not (.call i_alike [.tup [.str "a", .str "b", .str "c"], .var 3, .var 4])) [.ret (.bl false)] [], .set (.v 5) (.call i_parting_stock [.tup [.str "a", .str "b", .str "c"], .var 3, .tup []]), .ret (.and [.op .eq (.f1 .len (.var 5)) (.int 1), .op .eq (.f1 .len (.call i_parting_stock [.tup [.str "a", .str "b", .str "c"], .sl (.var 3) none (some (.int 1)), .sl (.var 3) (some (.int 1)) none])) (.int 1)])]
def u_law_k11 : Fn := ⟨1, 12, b_law_k11⟩
class H_law_k11 (p : Pgm) : Prop extends H_alike p, H_law_apart p, H_law_near p, H_law_play p, H_law_row p, H_law_source p, H_law_tags p, H_parting_stock p where
  e_law_k11 : p.tbl i_law_k11 = some u_law_k11
theorem call_law_k11 {p : Pgm} [h : H_law_k11 p] {n : Nat} {s : S} {d0 : D} : call (Ev p (n + 1)) i_law_k11 [d0] s = fin s (evSs p.glob (Ev p n) b_law_k11 ⟨[.val d0, .no, .no, .no, .no, .no, .no, .no, .no, .no, .no, .no], s.g⟩) := call_ev h.e_law_k11 rfl (by decide)
abbrev i_needless_steps : Nat := 123
/-- tags row at -/
def b_needless_steps : List Sx := [.ex (.call i_need_both_2 [.var 0, .var 1]), .ret (.lc (.var 2) (.v 2) (.rng (.f1 .len (.var 1))) (some (.call i_same_rows [.var 0, .var 1, .op .add (.sl (.var 1) none (some (.var 2))) (.sl (.var 1) (some (.op .add (.var 2) (.int 1))) none)])) [2])]
def u_needless_steps : Fn := ⟨2, 3, b_needless_steps⟩
class H_needless_steps (p : Pgm) : Prop extends H_need_both_2 p, H_same_rows p where
  e_needless_steps : p.tbl i_needless_steps = some u_needless_steps
theorem call_needless_steps {p : Pgm} [h : H_needless_steps p] {n : Nat} {s : S} {d0 d1 : D} : call (Ev p (n + 1)) i_needless_steps [d0, d1] s = fin s (evSs p.glob (Ev p n) b_needless_steps ⟨[.val d0, .val d1, .no], s.g⟩) := call_ev h.e_needless_steps rfl (by decide)
abbrev i_exchangeable : Nat := 124
/-- tags row place -/
def b_exchangeable : List Sx := [.ex (.call i_need_both_2 [.var 0, .var 1]), .ite (.or [.not (.isi .int (.var 2)), .isi .bool (.var 2), .not (.chain .le .lt (.int 0) (.var 2) (.op .sub (.f1 .len (.var 1)) (.int 1)))]) [.nope] [], .ret (.call i_same_rows [.var 0, .var 1, .op .add (.op .add (.sl (.var 1) none (some (.var 2))) (.tup [.ix (.var 1) (.op .add (.var 2) (.int 1)), .ix (.var 1) (.var 2)])) (.sl (.var 1) (some (.op .add (.var 2) (.int 2))) none)])]
def u_exchangeable : Fn := ⟨3, 3, b_exchangeable⟩
class H_exchangeable (p : Pgm) : Prop extends H_need_both_2 p, H_same_rows p where
  e_exchangeable : p.tbl i_exchangeable = some u_exchangeable
theorem call_exchangeable {p : Pgm} [h : H_exchangeable p] {n : Nat} {s : S} {d0 d1 d2 : D} : call (Ev p (n + 1)) i_exchangeable [d0, d1, d2] s = fin s (evSs p.glob (Ev p n) b_exchangeable ⟨[.val d0, .val d1, .val d2], s.g⟩) := call_ev h.e_exchangeable rfl (by decide)
abbrev i_law_ends : Nat := 125
/-- tags row stock told some -/
def b_law_ends : List Sx := [.set (.v 3) (.call i_answers [.var 0, .var 1, .var 2]), .ret (.lc (.call i_becomes [.var 0, .var 1, .var 3, .var 4]) (.v 4) (.ex (.var 2)) none [4])]
def u_law_ends : Fn := ⟨3, 5, b_law_ends⟩
class H_law_ends (p : Pgm) : Prop extends H_answers p, H_becomes p where
  e_law_ends : p.tbl i_law_ends = some u_law_ends
theorem call_law_ends {p : Pgm} [h : H_law_ends p] {n : Nat} {s : S} {d0 d1 d2 : D} : call (Ev p (n + 1)) i_law_ends [d0, d1, d2] s = fin s (evSs p.glob (Ev p n) b_law_ends ⟨[.val d0, .val d1, .val d2, .no, .no], s.g⟩) := call_ev h.e_law_ends rfl (by decide)
abbrev i_law_k13 : Nat := 126
/-- script k source tags one other same stock turn at idle bound some turned step -/
def b_law_k13 : List Sx := [.for_ (.v 1) (.rng (.op .add (.int 1) (.min2 (.f1 .len (.var 0)) (.int 8)))) [.set (.v 2) (.call i_law_source [.var 0, .var 1]), .set (.v 3) (.call i_law_tags [.var 2, .int 4]), .set (.v 4) (.call i_law_row [.var 2, .var 3, .int 5, .int 3]), .set (.v 5) (.call i_law_near [.var 2, .var 3, .var 4]), .par [(6, .val), (7, .val)] [.call i_alike [.var 3, .var 4, .var 5], .call i_parting_stock [.var 3, .var 4, .var 5]], .ite (.op .ne (.var 6) (.isN (.var 7))) [.ret (.bl false)] [], .ite (.notN (.var 7)) [.set (.v 11) (.f1 .len (.lc (.var 14) (.v 14) (.ex (.op .add (.var 4) (.var 5))) (some (.op .isin (.ix (.var 14) (.int 0)) (.tup [.str "if", .str "unless"]))) [14])), .ite (.op .gt (.f1 .len (.var 7)) (.op .add (.var 11) (.int 1))) [.ret (.bl false)] [], .ite (.op .eq (.call i_law_ends [.var 3, .var 4, .var 7]) (.call i_law_ends [.var 3, .var 5, .var 7])) [.ret (.bl false)] []] [], .for_ (.v 8) (.rng (.int 6)) [.set (.v 12) (.call i_law_stock [.var 2, .var 3, .int 8]), .ite (.op .ne (.call i_law_ends [.var 3, .var 4, .var 12]) (.call i_law_ends [.var 3, .var 5, .var 12])) [.ite (.or [.var 6, .op .lt (.f1 .len (.var 12)) (.f1 .len (.var 7))]) [.ret (.bl false)] []] []], .for_ (.v 9) (.ex (.call i_needless_steps [.var 3, .var 4])) [.ite (.not (.call i_alike [.var 3, .op .add (.sl (.var 4) none (some (.var 9))) (.sl (.var 4) (some (.op .add (.var 9) (.int 1))) none), .var 4])) [.ret (.bl false)] []], .for_ (.v 9) (.rng (.op .sub (.f1 .len (.var 4)) (.int 1))) [.set (.v 13) (.op .add (.op .add (.sl (.var 4) none (some (.var 9))) (.tup [.ix (.var 4) (.op .add (.var 9) (.int 1)), .ix (.var 4) (.var 9)])) (.sl (.var 4) (some (.op .add (.var 9) (.int 2))) none)), .ite (.op .ne (.call i_exchangeable [.var 3, .var 4, .var 9]) (.call i_alike [.var 3, .var 13, .var 4])) [.ret (.bl false)] []], .set (.v 10) (.tup [.str "if", .tup [.tup [.tup [], .tup []]], .tup [.str "put", .ix (.var 3) (.int 0), .tup []]]), .ite (.and [.op .lt (.f1 .len (.var 4)) (.int 6), .op .lt (.f1 .len (.lc (.var 14) (.v 14) (.ex (.var 4)) (some (.op .isin (.ix (.var 14) (.int 0)) (.tup [.str "if", .str "unless"]))) [14])) (.int 3)]) [.ite (.or [.not (.call i_alike [.var 3, .op .add (.var 4) (.tup [.var 10]), .var 4]), .op .notin (.f1 .len (.var 4)) (.call i_needless_steps [.var 3, .op .add (.var 4) (.tup [.var 10])])]) [.ret (.bl false)] []] []], .ret (.bl true)]
def u_law_k13 : Fn := ⟨1, 15, b_law_k13⟩
class H_law_k13 (p : Pgm) : Prop extends H_alike p, H_exchangeable p, H_law_ends p, H_law_near p, H_law_row p, H_law_source p, H_law_stock p, H_law_tags p, H_needless_steps p, H_parting_stock p where
  e_law_k13 : p.tbl i_law_k13 = some u_law_k13
theorem call_law_k13 {p : Pgm} [h : H_law_k13 p] {n : Nat} {s : S} {d0 : D} : call (Ev p (n + 1)) i_law_k13 [d0] s = fin s (evSs p.glob (Ev p n) b_law_k13 ⟨[.val d0, .no, .no, .no, .no, .no, .no, .no, .no, .no, .no, .no, .no, .no, .no], s.g⟩) := call_ev h.e_law_k13 rfl (by decide)
abbrev i_ends_with_ways : Nat := 127
/-- tags row terms yes no told some end hits -/
def b_ends_with_ways : List Sx := [.par [(3, .own), (4, .own)] [.dic [] [], .dic [] []], .for_ (.v 5) (.ex (.call i_told_possible [.var 0, .var 1])) [.for_ (.t [.v 6, .t [.v 7, .v 8]]) (.items (.call i_members [.var 0, .var 1, .var 5])) [.ite (.and [.notN (.var 7), .call i_finds [.var 2, .var 6]]) [.put 3 (.var 7) (.tup [.var 5, .var 6])] [.ite (.notN (.var 7)) [.put 4 (.var 7) (.tup [.var 5, .var 6])] []]]], .ret (.tup [.take 3, .take 4])]
def u_ends_with_ways : Fn := ⟨3, 9, b_ends_with_ways⟩
class H_ends_with_ways (p : Pgm) : Prop extends H_finds p, H_members p, H_told_possible p where
  e_ends_with_ways : p.tbl i_ends_with_ways = some u_ends_with_ways
theorem call_ends_with_ways {p : Pgm} [h : H_ends_with_ways p] {n : Nat} {s : S} {d0 d1 d2 : D} : call (Ev p (n + 1)) i_ends_with_ways [d0, d1, d2] s = fin s (evSs p.glob (Ev p n) b_ends_with_ways ⟨[.val d0, .val d1, .val d2, .no, .no, .no, .no, .no, .no], s.g⟩) := call_ev h.e_ends_with_ways rfl (by decide)
abbrev i_kept_of : Nat := 128
/-- tags row terms yes no -/
def b_kept_of : List Sx := [.set (.t [.v 3, .v 4]) (.call i_ends_with_ways [.var 0, .var 1, .var 2]), .ret (.call i_smallest_for [.var 0, .f1 .list (.var 3), .f1 .list (.var 4)])]
def u_kept_of : Fn := ⟨3, 5, b_kept_of⟩
class H_kept_of (p : Pgm) : Prop extends H_ends_with_ways p, H_smallest_for p where
  e_kept_of : p.tbl i_kept_of = some u_kept_of
theorem call_kept_of {p : Pgm} [h : H_kept_of p] {n : Nat} {s : S} {d0 d1 d2 : D} : call (Ev p (n + 1)) i_kept_of [d0, d1, d2] s = fin s (evSs p.glob (Ev p n) b_kept_of ⟨[.val d0, .val d1, .val d2, .no, .no], s.g⟩) := call_ev h.e_kept_of rfl (by decide)
abbrev i_thing_with : Nat := 129
/-- tags row told some marks other end hits -/
def b_thing_with : List Sx := [.set (.v 4) (.dc (.var 5) (.var 7) (.t [.v 5, .t [.v 6, .v 7]]) (.items (.call i_members [.var 0, .var 1, .var 2])) none [5, 6, 7]), .ret (.tup [.op .add (.tup [.var 3]) (.call i_fewest [.var 4, .call i_wanted_hits [.var 1, .var 2]]), .int 0])]
def u_thing_with : Fn := ⟨4, 8, b_thing_with⟩
class H_thing_with (p : Pgm) : Prop extends H_fewest p, H_members p, H_wanted_hits p where
  e_thing_with : p.tbl i_thing_with = some u_thing_with
theorem call_thing_with {p : Pgm} [h : H_thing_with p] {n : Nat} {s : S} {d0 d1 d2 d3 : D} : call (Ev p (n + 1)) i_thing_with [d0, d1, d2, d3] s = fin s (evSs p.glob (Ev p n) b_thing_with ⟨[.val d0, .val d1, .val d2, .val d3, .no, .no, .no, .no], s.g⟩) := call_ev h.e_thing_with rfl (by decide)
abbrev i_need_three : Nat := 130
/-- tags row terms -/
def b_need_three : List Sx := [.ex (.call i_need_both_2 [.var 0, .var 1]), .ex (.call i_need_filter [.var 0, .var 2])]
def u_need_three : Fn := ⟨3, 3, b_need_three⟩
class H_need_three (p : Pgm) : Prop extends H_need_both_2 p, H_need_filter p where
  e_need_three : p.tbl i_need_three = some u_need_three
theorem call_need_three {p : Pgm} [h : H_need_three p] {n : Nat} {s : S} {d0 d1 d2 : D} : call (Ev p (n + 1)) i_need_three [d0, d1, d2] s = fin s (evSs p.glob (Ev p n) b_need_three ⟨[.val d0, .val d1, .val d2], s.g⟩) := call_ev h.e_need_three rfl (by decide)
abbrev i_kept_filter : Nat := 131
/-- tags row terms -/
def b_kept_filter : List Sx := [.ex (.call i_need_three [.var 0, .var 1, .var 2]), .ret (.call i_kept_of [.var 0, .var 1, .var 2])]
def u_kept_filter : Fn := ⟨3, 3, b_kept_filter⟩
class H_kept_filter (p : Pgm) : Prop extends H_kept_of p, H_need_three p where
  e_kept_filter : p.tbl i_kept_filter = some u_kept_filter
theorem call_kept_filter {p : Pgm} [h : H_kept_filter p] {n : Nat} {s : S} {d0 d1 d2 : D} : call (Ev p (n + 1)) i_kept_filter [d0, d1, d2] s = fin s (evSs p.glob (Ev p n) b_kept_filter ⟨[.val d0, .val d1, .val d2], s.g⟩) := call_ev h.e_kept_filter rfl (by decide)
abbrev i_confused : Nat := 132
/-- tags row terms yes no end told some -/
def b_confused : List Sx := [.ex (.call i_need_three [.var 0, .var 1, .var 2]), .set (.t [.v 3, .v 4]) (.call i_ends_with_ways [.var 0, .var 1, .var 2]), .for_ (.t [.v 5, .t [.v 6, .v 7]]) (.items (.var 3)) [.ite (.op .isin (.var 5) (.var 4)) [.ret (.tup [.call i_thing_with [.var 0, .var 1, .var 6, .var 7], .call i_thing_with [.var 0, .var 1, .ix (.ix (.var 4) (.var 5)) (.int 0), .ix (.ix (.var 4) (.var 5)) (.int 1)]])] []], .ret (.non)]
def u_confused : Fn := ⟨3, 8, b_confused⟩
class H_confused (p : Pgm) : Prop extends H_ends_with_ways p, H_need_three p, H_thing_with p where
  e_confused : p.tbl i_confused = some u_confused
theorem call_confused {p : Pgm} [h : H_confused p] {n : Nat} {s : S} {d0 d1 d2 : D} : call (Ev p (n + 1)) i_confused [d0, d1, d2] s = fin s (evSs p.glob (Ev p n) b_confused ⟨[.val d0, .val d1, .val d2, .no, .no, .no, .no, .no], s.g⟩) := call_ev h.e_confused rfl (by decide)
abbrev i_law_lots : Nat := 133
/-- tags row terms yes no stock now told some end -/
def b_law_lots : List Sx := [.par [(3, .own), (4, .own)] [.dic [] [], .dic [] []], .for_ (.t [.v 5, .v 6, .v 7]) (.ex (.call i_law_runs [.var 0, .var 1])) [.for_ (.t [.v 8, .v 9]) (.zip (.var 5) (.var 6)) [.ite (.and [.notN (.var 9), .call i_law_finds [.var 2, .var 8]]) [.put 3 (.var 9) (.bl true)] [.ite (.notN (.var 9)) [.put 4 (.var 9) (.bl true)] []]]], .ret (.tup [.f1 .sorted (.oLst 3), .f1 .sorted (.oLst 4)])]
def u_law_lots : Fn := ⟨3, 10, b_law_lots⟩
class H_law_lots (p : Pgm) : Prop extends H_law_finds p, H_law_runs p where
  e_law_lots : p.tbl i_law_lots = some u_law_lots
theorem call_law_lots {p : Pgm} [h : H_law_lots p] {n : Nat} {s : S} {d0 d1 d2 : D} : call (Ev p (n + 1)) i_law_lots [d0, d1, d2] s = fin s (evSs p.glob (Ev p n) b_law_lots ⟨[.val d0, .val d1, .val d2, .no, .no, .no, .no, .no, .no, .no], s.g⟩) := call_ev h.e_law_lots rfl (by decide)
abbrev i_law_confused : Nat := 134
/-- tags row terms pair places stock number first one second other -/
def b_law_confused : List Sx := [.own 4 (.lst []), .for_ (.t [.v 5, .v 6]) (.ex (.var 3)) [.ite (.or [.not (.isi .tup (.var 5)), .not (.chain .le .lt (.int 0) (.var 6) (.f1 .len (.var 5)))]) [.ret (.bl false)] [], .app 4 (.tup [.call i_law_finds [.var 2, .ix (.var 5) (.var 6)], .ix (.ix (.call i_law_play [.var 1, .var 5]) (.int 0)) (.var 6)])], .set (.t [.t [.v 7, .v 8], .t [.v 9, .v 10]]) (.take 4), .ret (.and [.var 7, .not (.var 9), .notN (.var 8), .op .eq (.var 8) (.var 10)])]
def u_law_confused : Fn := ⟨4, 11, b_law_confused⟩
class H_law_confused (p : Pgm) : Prop extends H_law_finds p, H_law_play p where
  e_law_confused : p.tbl i_law_confused = some u_law_confused
theorem call_law_confused {p : Pgm} [h : H_law_confused p] {n : Nat} {s : S} {d0 d1 d2 d3 : D} : call (Ev p (n + 1)) i_law_confused [d0, d1, d2, d3] s = fin s (evSs p.glob (Ev p n) b_law_confused ⟨[.val d0, .val d1, .val d2, .val d3, .no, .no, .no, .no, .no, .no, .no], s.g⟩) := call_ev h.e_law_confused rfl (by decide)
abbrev i_law_k14 : Nat := 135
/-- script k sure source tags row terms yes no told pair bad some -/
def b_law_k14 : List Sx := [.for_ (.v 1) (.rng (.op .add (.int 1) (.min2 (.f1 .len (.var 0)) (.int 6)))) [.set (.v 3) (.call i_law_source [.var 0, .var 1]), .set (.v 4) (.call i_law_tags [.var 3, .int 3]), .par [(5, .val), (6, .val)] [.call i_law_row [.var 3, .var 4, .int 5, .int 3], .call i_law_filter [.var 3, .var 4]], .set (.t [.v 7, .v 8]) (.call i_law_lots [.var 4, .var 5, .var 6]), .set (.t [.v 9, .v 10]) (.tup [.call i_kept_filter [.var 4, .var 5, .var 6], .call i_confused [.var 4, .var 5, .var 6]]), .set (.v 11) (.lc (.var 12) (.v 12) (.ex (.var 7)) (some (.op .isin (.var 12) (.var 8))) [12]), .ite (.or [.op .ne (.isN (.var 9)) (.op .ne (.var 11) (.lst [])), .op .ne (.isN (.var 10)) (.op .eq (.var 11) (.lst []))]) [.ret (.bl false)] [], .ite (.and [.notN (.var 10), .not (.call i_law_confused [.var 4, .var 5, .var 6, .var 10])]) [.ret (.bl false)] [], .ite (.notN (.var 9)) [.ite (.or [.not (.call i_is_filter [.var 4, .var 9]), .op .ne (.lc (.var 12) (.v 12) (.ex (.var 7)) (some (.not (.call i_law_finds [.var 9, .var 12]))) [12]) (.lst [])]) [.ret (.bl false)] [], .ite (.or [.op .ne (.lc (.var 12) (.v 12) (.ex (.var 8)) (some (.call i_law_finds [.var 9, .var 12])) [12]) (.lst []), .op .ne (.call i_size_of [.var 9]) (.call i_law_least [.var 4, .var 7, .var 8])]) [.ret (.bl false)] []] []], .set (.v 2) (.tup [.tup [.str "if", .tup [.tup [.tup [.str "a"], .tup []]], .tup [.str "put", .str "b", .tup [.tup [.tup [], .tup []]]]], .tup [.str "unless", .tup [.tup [.tup [.str "a"], .tup []]], .tup [.str "take", .str "b", .tup [.tup [.tup [], .tup []]]]]]), .ite (.notN (.call i_kept_filter [.tup [.str "a", .str "b"], .var 2, .tup [.tup [.tup [.str "b"], .tup []]]])) [.ret (.bl false)] [], .ret (.and [.op .eq (.call i_kept_filter [.tup [.str "a", .str "b"], .var 2, .tup [.tup [.tup [.str "a"], .tup []]]]) (.tup [.tup [.tup [.str "a"], .tup []]]), .isN (.call i_confused [.tup [.str "a"], .tup [], .tup []])])]
def u_law_k14 : Fn := ⟨1, 13, b_law_k14⟩
class H_law_k14 (p : Pgm) : Prop extends H_confused p, H_is_filter p, H_kept_filter p, H_law_confused p, H_law_filter p, H_law_finds p, H_law_least p, H_law_lots p, H_law_row p, H_law_source p, H_law_tags p, H_size_of p where
  e_law_k14 : p.tbl i_law_k14 = some u_law_k14
theorem call_law_k14 {p : Pgm} [h : H_law_k14 p] {n : Nat} {s : S} {d0 : D} : call (Ev p (n + 1)) i_law_k14 [d0] s = fin s (evSs p.glob (Ev p n) b_law_k14 ⟨[.val d0, .no, .no, .no, .no, .no, .no, .no, .no, .no, .no, .no, .no], s.g⟩) := call_ev h.e_law_k14 rfl (by decide)
abbrev i_law_left_2 : Nat := 136
/-- tags row terms stock told found number here at some -/
def b_law_left_2 : List Sx := [.par [(4, .val), (5, .own), (6, .val)] [.call i_answers [.var 0, .var 1, .var 3], .lst [], .int 0], .set (.v 7) (.call i_find [.var 0, .var 2, .var 3]), .for_ (.t [.v 8, .v 9]) (.enum (.var 3)) [.ite (.notN (.call i_becomes [.var 0, .var 1, .var 4, .var 9])) [.ite (.op .isin (.var 8) (.var 7)) [.app 5 (.var 6)] [], .set (.v 6) (.op .add (.var 6) (.int 1))] []], .ret (.move 5)]
def u_law_left_2 : Fn := ⟨4, 10, b_law_left_2⟩
class H_law_left_2 (p : Pgm) : Prop extends H_answers p, H_becomes p, H_find p where
  e_law_left_2 : p.tbl i_law_left_2 = some u_law_left_2
theorem call_law_left_2 {p : Pgm} [h : H_law_left_2 p] {n : Nat} {s : S} {d0 d1 d2 d3 : D} : call (Ev p (n + 1)) i_law_left_2 [d0, d1, d2, d3] s = fin s (evSs p.glob (Ev p n) b_law_left_2 ⟨[.val d0, .val d1, .val d2, .val d3, .no, .no, .no, .no, .no, .no], s.g⟩) := call_ev h.e_law_left_2 rfl (by decide)
abbrev i_law_k15 : Nat := 137
/-- script k source tags row terms told pair small turn stock number more place ends_so -/
def b_law_k15 : List Sx := [.for_ (.v 1) (.rng (.op .add (.int 1) (.min2 (.f1 .len (.var 0)) (.int 8)))) [.set (.v 2) (.call i_law_source [.var 0, .var 1]), .set (.v 3) (.call i_law_tags [.var 2, .int 4]), .par [(4, .val), (5, .val)] [.call i_law_row [.var 2, .var 3, .int 5, .int 3], .call i_law_filter [.var 2, .var 3]], .par [(6, .val), (7, .val)] [.call i_kept_filter [.var 3, .var 4, .var 5], .call i_confused [.var 3, .var 4, .var 5]], .ite (.op .ne (.isN (.var 6)) (.notN (.var 7))) [.ret (.bl false)] [], .ite (.notN (.var 6)) [.for_ (.v 9) (.rng (.int 6)) [.set (.v 10) (.call i_law_stock [.var 2, .var 3, .int 12]), .ite (.op .ne (.call i_find [.var 3, .var 6, .call i_done [.var 3, .var 4, .var 10]]) (.call i_law_left_2 [.var 3, .var 4, .var 5, .var 10])) [.ret (.bl false)] []]] [.set (.t [.t [.v 10, .v 11], .t [.v 12, .v 13]]) (.var 7), .own 14 (.lst [.call i_becomes [.var 3, .var 4, .call i_answers [.var 3, .var 4, .var 10], .ix (.var 10) (.var 11)]]), .app 14 (.call i_becomes [.var 3, .var 4, .call i_answers [.var 3, .var 4, .var 12], .ix (.var 12) (.var 13)]), .ite (.or [.isN (.oIx 14 (.int 0)), .op .ne (.oIx 14 (.int 0)) (.oIx 14 (.int 1))]) [.ret (.bl false)] [], .ite (.or [.op .notin (.var 11) (.call i_find [.var 3, .var 5, .var 10]), .op .isin (.var 13) (.call i_find [.var 3, .var 5, .var 12])]) [.ret (.bl false)] []], .set (.v 8) (.call i_kept_filter [.var 3, .tup [], .var 5]), .ite (.or [.op .ne (.call i_matching [.var 3, .var 8]) (.call i_matching [.var 3, .var 5]), .op .ne (.call i_size_of [.var 8]) (.call i_size_of [.call i_simplest [.var 3, .var 5]])]) [.ret (.bl false)] []], .ret (.bl true)]
def u_law_k15 : Fn := ⟨1, 15, b_law_k15⟩
class H_law_k15 (p : Pgm) : Prop extends H_answers p, H_becomes p, H_confused p, H_done p, H_find p, H_kept_filter p, H_law_filter p, H_law_left_2 p, H_law_row p, H_law_source p, H_law_stock p, H_law_tags p, H_matching p, H_simplest p, H_size_of p where
  e_law_k15 : p.tbl i_law_k15 = some u_law_k15
theorem call_law_k15 {p : Pgm} [h : H_law_k15 p] {n : Nat} {s : S} {d0 : D} : call (Ev p (n + 1)) i_law_k15 [d0] s = fin s (evSs p.glob (Ev p n) b_law_k15 ⟨[.val d0, .no, .no, .no, .no, .no, .no, .no, .no, .no, .no, .no, .no, .no, .no], s.g⟩) := call_ev h.e_law_k15 rfl (by decide)
abbrev i_need_rules : Nat := 138
/-- tags value -/
def b_need_rules : List Sx := [.ex (.call i_need_tags [.var 0]), .ite (.not (.call i_are_rules [.var 0, .var 1])) [.nope] []]
def u_need_rules : Fn := ⟨2, 2, b_need_rules⟩
class H_need_rules (p : Pgm) : Prop extends H_are_rules p, H_need_tags p where
  e_need_rules : p.tbl i_need_rules = some u_need_rules
theorem call_need_rules {p : Pgm} [h : H_need_rules p] {n : Nat} {s : S} {d0 d1 : D} : call (Ev p (n + 1)) i_need_rules [d0, d1] s = fin s (evSs p.glob (Ev p n) b_need_rules ⟨[.val d0, .val d1], s.g⟩) := call_ev h.e_need_rules rfl (by decide)
abbrev i_changes : Nat := 139
/-- rules some found terms word tag other -/
def b_changes : List Sx := [.own 2 (.lst []), .for_ (.t [.v 3, .v 4, .v 5]) (.ex (.var 0)) [.set (.v 6) (.ite (.op .eq (.var 4) (.str "put")) (.call i_with_tag [.var 1, .var 5]) (.call i_without_tag [.var 1, .var 5])), .ite (.and [.call i_finds [.var 3, .var 1], .op .ne (.var 6) (.var 1), .oNin (.var 6) 2]) [.app 2 (.var 6)] []], .ret (.move 2)]
def u_changes : Fn := ⟨2, 7, b_changes⟩
class H_changes (p : Pgm) : Prop extends H_finds p, H_with_tag p, H_without_tag p where
  e_changes : p.tbl i_changes = some u_changes
theorem call_changes {p : Pgm} [h : H_changes p] {n : Nat} {s : S} {d0 d1 : D} : call (Ev p (n + 1)) i_changes [d0, d1] s = fin s (evSs p.glob (Ev p n) b_changes ⟨[.val d0, .val d1, .no, .no, .no, .no, .no], s.g⟩) := call_ev h.e_changes rfl (by decide)
abbrev i_steps_of : Nat := 140
/-- tags rules some -/
def b_steps_of : List Sx := [.ret (.dc (.var 2) (.call i_changes [.var 1, .var 2]) (.v 2) (.ex (.call i_all_sets [.var 0])) none [2])]
def u_steps_of : Fn := ⟨2, 3, b_steps_of⟩
class H_steps_of (p : Pgm) : Prop extends H_all_sets p, H_changes p where
  e_steps_of : p.tbl i_steps_of = some u_steps_of
theorem call_steps_of {p : Pgm} [h : H_steps_of p] {n : Nat} {s : S} {d0 d1 : D} : call (Ev p (n + 1)) i_steps_of [d0, d1] s = fin s (evSs p.glob (Ev p n) b_steps_of ⟨[.val d0, .val d1, .no], s.g⟩) := call_ev h.e_steps_of rfl (by decide)
abbrev i_reached : Nat := 141
/-- table some found rows other -/
def b_reached : List Sx := [.own 2 (.dic [.var 1] [.bl true]), .own 3 (.lst [.var 1]), .while_ (.oNE 3) [.for_ (.v 4) (.ex (.ix (.var 0) (.oPop 3))) [.ite (.oNin (.var 4) 2) [.put 2 (.var 4) (.bl true), .app 3 (.var 4)] []]], .ret (.move 2)]
def u_reached : Fn := ⟨2, 5, b_reached⟩
class H_reached (p : Pgm) : Prop where
  e_reached : p.tbl i_reached = some u_reached
theorem call_reached {p : Pgm} [h : H_reached p] {n : Nat} {s : S} {d0 d1 : D} : call (Ev p (n + 1)) i_reached [d0, d1] s = fin s (evSs p.glob (Ev p n) b_reached ⟨[.val d0, .val d1, .no, .no, .no], s.g⟩) := call_ev h.e_reached rfl (by decide)
abbrev i_ends_in : Nat := 142
/-- tags table some known other -/
def b_ends_in : List Sx := [.set (.v 3) (.call i_reached [.var 1, .var 2]), .ret (.lc (.var 4) (.v 4) (.ex (.call i_all_sets [.var 0])) (some (.and [.op .isin (.var 4) (.var 3), .op .eq (.ix (.var 1) (.var 4)) (.lst [])])) [4])]
def u_ends_in : Fn := ⟨3, 5, b_ends_in⟩
class H_ends_in (p : Pgm) : Prop extends H_all_sets p, H_reached p where
  e_ends_in : p.tbl i_ends_in = some u_ends_in
theorem call_ends_in {p : Pgm} [h : H_ends_in p] {n : Nat} {s : S} {d0 d1 d2 : D} : call (Ev p (n + 1)) i_ends_in [d0, d1, d2] s = fin s (evSs p.glob (Ev p n) b_ends_in ⟨[.val d0, .val d1, .val d2, .no, .no], s.g⟩) := call_ev h.e_ends_in rfl (by decide)
abbrev i_ends : Nat := 143
/-- tags rules some -/
def b_ends : List Sx := [.ex (.call i_need_rules [.var 0, .var 1]), .ex (.call i_need_some [.var 0, .var 2]), .ret (.call i_ends_in [.var 0, .call i_steps_of [.var 0, .var 1], .var 2])]
def u_ends : Fn := ⟨3, 3, b_ends⟩
class H_ends (p : Pgm) : Prop extends H_ends_in p, H_need_rules p, H_need_some p, H_steps_of p where
  e_ends : p.tbl i_ends = some u_ends
theorem call_ends {p : Pgm} [h : H_ends p] {n : Nat} {s : S} {d0 d1 d2 : D} : call (Ev p (n + 1)) i_ends [d0, d1, d2] s = fin s (evSs p.glob (Ev p n) b_ends ⟨[.val d0, .val d1, .val d2], s.g⟩) := call_ev h.e_ends rfl (by decide)
abbrev i_resting : Nat := 144
/-- tags rules some -/
def b_resting : List Sx := [.ex (.call i_need_rules [.var 0, .var 1]), .ret (.lc (.var 2) (.v 2) (.ex (.call i_all_sets [.var 0])) (some (.op .eq (.call i_changes [.var 1, .var 2]) (.lst []))) [2])]
def u_resting : Fn := ⟨2, 3, b_resting⟩
class H_resting (p : Pgm) : Prop extends H_all_sets p, H_changes p, H_need_rules p where
  e_resting : p.tbl i_resting = some u_resting
theorem call_resting {p : Pgm} [h : H_resting p] {n : Nat} {s : S} {d0 d1 : D} : call (Ev p (n + 1)) i_resting [d0, d1] s = fin s (evSs p.glob (Ev p n) b_resting ⟨[.val d0, .val d1, .no], s.g⟩) := call_ev h.e_resting rfl (by decide)
abbrev i_law_nexts : Nat := 145
/-- rules some found terms word tag other -/
def b_law_nexts : List Sx := [.own 2 (.dic [] []), .for_ (.t [.v 3, .v 4, .v 5]) (.ex (.var 0)) [.set (.v 6) (.call i_law_on [.tup [.var 4, .var 5, .var 3], .var 1]), .ite (.op .ne (.var 6) (.var 1)) [.put 2 (.var 6) (.bl true)] []], .ret (.f1 .sorted (.oLst 2))]
def u_law_nexts : Fn := ⟨2, 7, b_law_nexts⟩
class H_law_nexts (p : Pgm) : Prop extends H_law_on p where
  e_law_nexts : p.tbl i_law_nexts = some u_law_nexts
theorem call_law_nexts {p : Pgm} [h : H_law_nexts p] {n : Nat} {s : S} {d0 d1 : D} : call (Ev p (n + 1)) i_law_nexts [d0, d1] s = fin s (evSs p.glob (Ev p n) b_law_nexts ⟨[.val d0, .val d1, .no, .no, .no, .no, .no], s.g⟩) := call_ev h.e_law_nexts rfl (by decide)
abbrev i_law_reach : Nat := 146
/-- rules some found line other -/
def b_law_reach : List Sx := [.par [(2, .own), (3, .own)] [.dic [] [], .lst [.var 1]], .while_ (.oNE 3) [.for_ (.v 4) (.ex (.call i_law_nexts [.var 0, .oPop 3])) [.ite (.oNin (.var 4) 2) [.put 2 (.var 4) (.bl true), .app 3 (.var 4)] []]], .ret (.f1 .sorted (.oLst 2))]
def u_law_reach : Fn := ⟨2, 5, b_law_reach⟩
class H_law_reach (p : Pgm) : Prop extends H_law_nexts p where
  e_law_reach : p.tbl i_law_reach = some u_law_reach
theorem call_law_reach {p : Pgm} [h : H_law_reach p] {n : Nat} {s : S} {d0 d1 : D} : call (Ev p (n + 1)) i_law_reach [d0, d1] s = fin s (evSs p.glob (Ev p n) b_law_reach ⟨[.val d0, .val d1, .no, .no, .no], s.g⟩) := call_ev h.e_law_reach rfl (by decide)
abbrev i_law_k16 : Nat := 147
/-- script k lazy source turn tags rules rest some come other -/
def b_law_k16 : List Sx := [.for_ (.v 1) (.rng (.op .add (.int 1) (.min2 (.f1 .len (.var 0)) (.int 10)))) [.set (.v 3) (.call i_law_source [.var 0, .var 1]), .for_ (.v 4) (.rng (.int 2)) [.set (.v 5) (.call i_law_tags [.var 3, .int 4]), .set (.v 6) (.call i_law_rules [.var 3, .var 5]), .set (.v 7) (.lc (.var 8) (.v 8) (.ex (.call i_law_sets [.var 5])) (some (.op .eq (.call i_law_nexts [.var 6, .var 8]) (.lst []))) [8]), .ite (.or [.op .ne (.call i_resting [.var 5, .var 6]) (.var 7), .not (.isi .lst (.call i_resting [.var 5, .var 6]))]) [.ret (.bl false)] [], .for_ (.v 8) (.ex (.call i_law_sets [.var 5])) [.set (.v 9) (.op .add (.call i_law_reach [.var 6, .var 8]) (.lst [.var 8])), .ite (.op .ne (.call i_ends [.var 5, .var 6, .var 8]) (.lc (.var 10) (.v 10) (.ex (.var 7)) (some (.op .isin (.var 10) (.var 9))) [10])) [.ret (.bl false)] []]]], .set (.v 2) (.tup [.tup [.tup [.tup [.tup [], .tup []]], .str "put", .str "a"], .tup [.tup [.tup [.tup [.str "a"], .tup []]], .str "put", .str "b"], .tup [.tup [.tup [.tup [.str "b"], .tup []]], .str "take", .str "a"]]), .ret (.and [.op .eq (.call i_ends [.tup [.str "a", .str "b"], .var 2, .tup [.str "b"]]) (.lst []), .op .eq (.call i_ends [.tup [.str "a", .str "b"], .sl (.var 2) none (some (.int 2)), .tup []]) (.lst [.tup [.str "a", .str "b"]])])]
def u_law_k16 : Fn := ⟨1, 11, b_law_k16⟩
class H_law_k16 (p : Pgm) : Prop extends H_ends p, H_law_nexts p, H_law_reach p, H_law_rules p, H_law_sets p, H_law_source p, H_law_tags p, H_resting p where
  e_law_k16 : p.tbl i_law_k16 = some u_law_k16
theorem call_law_k16 {p : Pgm} [h : H_law_k16 p] {n : Nat} {s : S} {d0 : D} : call (Ev p (n + 1)) i_law_k16 [d0] s = fin s (evSs p.glob (Ev p n) b_law_k16 ⟨[.val d0, .no, .no, .no, .no, .no, .no, .no, .no, .no, .no], s.g⟩) := call_ev h.e_law_k16 rfl (by decide)
abbrev i_lengths : Nat := 148
/-- table found many some other -/
def b_lengths : List Sx := [.own 1 (.dic [] []), .set (.v 2) (.neg (.int 1)), .while_ (.op .lt (.var 2) (.oLen 1)) [.set (.v 2) (.oLen 1), .for_ (.v 3) (.ex (.var 0)) [.ite (.f1 .all (.lc (.oIn (.var 4) 1) (.v 4) (.ex (.ix (.var 0) (.var 3))) none [4])) [.put 1 (.var 3) (.f1 .max (.op .add (.lst [.int 0]) (.lc (.op .add (.oIx 1 (.var 4)) (.int 1)) (.v 4) (.ex (.ix (.var 0) (.var 3))) none [4])))] []]], .ret (.move 1)]
def u_lengths : Fn := ⟨1, 5, b_lengths⟩
class H_lengths (p : Pgm) : Prop where
  e_lengths : p.tbl i_lengths = some u_lengths
theorem call_lengths {p : Pgm} [h : H_lengths p] {n : Nat} {s : S} {d0 : D} : call (Ev p (n + 1)) i_lengths [d0] s = fin s (evSs p.glob (Ev p n) b_lengths ⟨[.val d0, .no, .no, .no, .no], s.g⟩) := call_ev h.e_lengths rfl (by decide)
abbrev i_shortest_back : Nat := 149
/-- table some rows seen way other -/
def b_shortest_back : List Sx := [.own 2 (.lst [.lst [.var 1]]), .own 3 (.dic [] []), .while_ (.oNE 2) [.set (.v 4) (.oPopAt 2 (.int 0)), .for_ (.v 5) (.ex (.ix (.var 0) (.ix (.var 4) (.neg (.int 1))))) [.ite (.op .eq (.var 5) (.var 1)) [.ret (.op .add (.var 4) (.lst [.var 5]))] [], .ite (.oNin (.var 5) 3) [.put 3 (.var 5) (.bl true), .app 2 (.op .add (.var 4) (.lst [.var 5]))] []]], .ret (.non)]
def u_shortest_back : Fn := ⟨2, 6, b_shortest_back⟩
class H_shortest_back (p : Pgm) : Prop where
  e_shortest_back : p.tbl i_shortest_back = some u_shortest_back
theorem call_shortest_back {p : Pgm} [h : H_shortest_back p] {n : Nat} {s : S} {d0 d1 : D} : call (Ev p (n + 1)) i_shortest_back [d0, d1] s = fin s (evSs p.glob (Ev p n) b_shortest_back ⟨[.val d0, .val d1, .no, .no, .no, .no], s.g⟩) := call_ev h.e_shortest_back rfl (by decide)
abbrev i_is_settled : Nat := 150
/-- table -/
def b_is_settled : List Sx := [.ret (.op .eq (.f1 .len (.call i_lengths [.var 0])) (.f1 .len (.var 0)))]
def u_is_settled : Fn := ⟨1, 1, b_is_settled⟩
class H_is_settled (p : Pgm) : Prop extends H_lengths p where
  e_is_settled : p.tbl i_is_settled = some u_is_settled
theorem call_is_settled {p : Pgm} [h : H_is_settled p] {n : Nat} {s : S} {d0 : D} : call (Ev p (n + 1)) i_is_settled [d0] s = fin s (evSs p.glob (Ev p n) b_is_settled ⟨[.val d0], s.g⟩) := call_ev h.e_is_settled rfl (by decide)
abbrev i_need_settled : Nat := 151
/-- table -/
def b_need_settled : List Sx := [.ite (.not (.call i_is_settled [.var 0])) [.nope] []]
def u_need_settled : Fn := ⟨1, 1, b_need_settled⟩
class H_need_settled (p : Pgm) : Prop extends H_is_settled p where
  e_need_settled : p.tbl i_need_settled = some u_need_settled
theorem call_need_settled {p : Pgm} [h : H_need_settled p] {n : Nat} {s : S} {d0 : D} : call (Ev p (n + 1)) i_need_settled [d0] s = fin s (evSs p.glob (Ev p n) b_need_settled ⟨[.val d0], s.g⟩) := call_ev h.e_need_settled rfl (by decide)
abbrev i_settles : Nat := 152
/-- tags rules -/
def b_settles : List Sx := [.ex (.call i_need_rules [.var 0, .var 1]), .ret (.call i_is_settled [.call i_steps_of [.var 0, .var 1]])]
def u_settles : Fn := ⟨2, 2, b_settles⟩
class H_settles (p : Pgm) : Prop extends H_is_settled p, H_need_rules p, H_steps_of p where
  e_settles : p.tbl i_settles = some u_settles
theorem call_settles {p : Pgm} [h : H_settles p] {n : Nat} {s : S} {d0 d1 : D} : call (Ev p (n + 1)) i_settles [d0, d1] s = fin s (evSs p.glob (Ev p n) b_settles ⟨[.val d0, .val d1], s.g⟩) := call_ev h.e_settles rfl (by decide)
abbrev i_ring : Nat := 153
/-- tags rules table some found -/
def b_ring : List Sx := [.ex (.call i_need_rules [.var 0, .var 1]), .set (.v 2) (.call i_steps_of [.var 0, .var 1]), .for_ (.v 3) (.ex (.call i_all_sets [.var 0])) [.set (.v 4) (.call i_shortest_back [.var 2, .var 3]), .ite (.notN (.var 4)) [.ret (.var 4)] []], .ret (.non)]
def u_ring : Fn := ⟨2, 5, b_ring⟩
class H_ring (p : Pgm) : Prop extends H_all_sets p, H_need_rules p, H_shortest_back p, H_steps_of p where
  e_ring : p.tbl i_ring = some u_ring
theorem call_ring {p : Pgm} [h : H_ring p] {n : Nat} {s : S} {d0 d1 : D} : call (Ev p (n + 1)) i_ring [d0, d1] s = fin s (evSs p.glob (Ev p n) b_ring ⟨[.val d0, .val d1, .no, .no, .no], s.g⟩) := call_ev h.e_ring rfl (by decide)
abbrev i_is_sure : Nat := 154
/-- tags rules table some -/
def b_is_sure : List Sx := [.ex (.call i_need_rules [.var 0, .var 1]), .set (.v 2) (.call i_steps_of [.var 0, .var 1]), .ret (.and [.call i_is_settled [.var 2], .f1 .all (.lc (.op .eq (.f1 .len (.call i_ends_in [.var 0, .var 2, .var 3])) (.int 1)) (.v 3) (.ex (.call i_all_sets [.var 0])) none [3])])]
def u_is_sure : Fn := ⟨2, 4, b_is_sure⟩
class H_is_sure (p : Pgm) : Prop extends H_all_sets p, H_ends_in p, H_is_settled p, H_need_rules p, H_steps_of p where
  e_is_sure : p.tbl i_is_sure = some u_is_sure
theorem call_is_sure {p : Pgm} [h : H_is_sure p] {n : Nat} {s : S} {d0 d1 : D} : call (Ev p (n + 1)) i_is_sure [d0, d1] s = fin s (evSs p.glob (Ev p n) b_is_sure ⟨[.val d0, .val d1, .no, .no], s.g⟩) := call_ev h.e_is_sure rfl (by decide)
abbrev i_longest_run : Nat := 155
/-- tags rules table many -/
def b_longest_run : List Sx := [.ex (.call i_need_rules [.var 0, .var 1]), .set (.v 2) (.call i_steps_of [.var 0, .var 1]), .ex (.call i_need_settled [.var 2]), .ret (.f1 .max (.lc (.var 3) (.v 3) (.vals (.call i_lengths [.var 2])) none [3]))]
def u_longest_run : Fn := ⟨2, 4, b_longest_run⟩
class H_longest_run (p : Pgm) : Prop extends H_lengths p, H_need_rules p, H_need_settled p, H_steps_of p where
  e_longest_run : p.tbl i_longest_run = some u_longest_run
theorem call_longest_run {p : Pgm} [h : H_longest_run p] {n : Nat} {s : S} {d0 d1 : D} : call (Ev p (n + 1)) i_longest_run [d0, d1] s = fin s (evSs p.glob (Ev p n) b_longest_run ⟨[.val d0, .val d1, .no, .no], s.g⟩) := call_ev h.e_longest_run rfl (by decide)
abbrev i_does_same : Nat := 156
/-- tags table rules other some -/
def b_does_same : List Sx := [.set (.v 3) (.call i_steps_of [.var 0, .var 2]), .ite (.not (.call i_is_settled [.var 3])) [.ret (.bl false)] [], .ret (.f1 .all (.lc (.op .eq (.call i_ends_in [.var 0, .var 1, .var 4]) (.call i_ends_in [.var 0, .var 3, .var 4])) (.v 4) (.ex (.call i_all_sets [.var 0])) none [4]))]
def u_does_same : Fn := ⟨3, 5, b_does_same⟩
class H_does_same (p : Pgm) : Prop extends H_all_sets p, H_ends_in p, H_is_settled p, H_steps_of p where
  e_does_same : p.tbl i_does_same = some u_does_same
theorem call_does_same {p : Pgm} [h : H_does_same p] {n : Nat} {s : S} {d0 d1 d2 : D} : call (Ev p (n + 1)) i_does_same [d0, d1, d2] s = fin s (evSs p.glob (Ev p n) b_does_same ⟨[.val d0, .val d1, .val d2, .no, .no], s.g⟩) := call_ev h.e_does_same rfl (by decide)
abbrev i_needless_rules : Nat := 157
/-- tags rules table at -/
def b_needless_rules : List Sx := [.ex (.call i_need_rules [.var 0, .var 1]), .set (.v 2) (.call i_steps_of [.var 0, .var 1]), .ex (.call i_need_settled [.var 2]), .ret (.lc (.var 3) (.v 3) (.rng (.f1 .len (.var 1))) (some (.call i_does_same [.var 0, .var 2, .op .add (.sl (.var 1) none (some (.var 3))) (.sl (.var 1) (some (.op .add (.var 3) (.int 1))) none)])) [3])]
def u_needless_rules : Fn := ⟨2, 4, b_needless_rules⟩
class H_needless_rules (p : Pgm) : Prop extends H_does_same p, H_need_rules p, H_need_settled p, H_steps_of p where
  e_needless_rules : p.tbl i_needless_rules = some u_needless_rules
theorem call_needless_rules {p : Pgm} [h : H_needless_rules p] {n : Nat} {s : S} {d0 d1 : D} : call (Ev p (n + 1)) i_needless_rules [d0, d1] s = fin s (evSs p.glob (Ev p n) b_needless_rules ⟨[.val d0, .val d1, .no, .no], s.g⟩) := call_ev h.e_needless_rules rfl (by decide)
abbrev i_law_drawn_run : Nat := 158
/-- source rules some most many -/
def b_law_drawn_run : List Sx := [.set (.v 4) (.int 0), .while_ (.and [.op .lt (.var 4) (.var 3), .op .ne (.call i_law_nexts [.var 1, .var 2]) (.lst [])]) [.set (.v 2) (.call i_law_of [.var 0, .call i_law_nexts [.var 1, .var 2]]), .set (.v 4) (.op .add (.var 4) (.int 1))], .ret (.tup [.var 2, .var 4])]
def u_law_drawn_run : Fn := ⟨4, 5, b_law_drawn_run⟩
class H_law_drawn_run (p : Pgm) : Prop extends H_law_nexts p, H_law_of p where
  e_law_drawn_run : p.tbl i_law_drawn_run = some u_law_drawn_run
theorem call_law_drawn_run {p : Pgm} [h : H_law_drawn_run p] {n : Nat} {s : S} {d0 d1 d2 d3 : D} : call (Ev p (n + 1)) i_law_drawn_run [d0, d1, d2, d3] s = fin s (evSs p.glob (Ev p n) b_law_drawn_run ⟨[.val d0, .val d1, .val d2, .val d3, .no], s.g⟩) := call_ev h.e_law_drawn_run rfl (by decide)
abbrev i_law_k18 : Nat := 159
/-- script k source tags rules good rest some known at more end many less other -/
def b_law_k18 : List Sx := [.for_ (.v 1) (.rng (.op .add (.int 1) (.min2 (.f1 .len (.var 0)) (.int 8)))) [.set (.v 2) (.call i_law_source [.var 0, .var 1]), .set (.v 3) (.call i_law_tags [.var 2, .int 4]), .set (.v 4) (.call i_law_rules [.var 2, .var 3]), .set (.t [.v 5, .v 6]) (.tup [.call i_settles [.var 3, .var 4], .call i_resting [.var 3, .var 4]]), .ite (.op .ne (.var 5) (.isN (.call i_ring [.var 3, .var 4]))) [.ret (.bl false)] [], .for_ (.v 7) (.ex (.call i_sets_of [.var 3])) [.set (.v 8) (.call i_ends [.var 3, .var 4, .var 7]), .ite (.or [.op .ne (.lc (.var 14) (.v 14) (.ex (.var 8)) (some (.op .notin (.var 14) (.var 6))) [14]) (.lst []), .and [.op .isin (.var 7) (.var 6), .op .ne (.var 8) (.lst [.var 7])]]) [.ret (.bl false)] [], .ite (.var 5) [.set (.t [.v 11, .v 12]) (.call i_law_drawn_run [.var 2, .var 4, .var 7, .int 60]), .ite (.or [.op .notin (.var 11) (.var 8), .op .gt (.var 12) (.call i_longest_run [.var 3, .var 4]), .op .eq (.var 8) (.lst [])]) [.ret (.bl false)] [], .ite (.and [.call i_is_sure [.var 3, .var 4], .op .ne (.var 8) (.lst [.var 11])]) [.ret (.bl false)] []] []], .ite (.var 5) [.for_ (.v 9) (.ex (.call i_needless_rules [.var 3, .var 4])) [.set (.v 13) (.op .add (.sl (.var 4) none (some (.var 9))) (.sl (.var 4) (some (.op .add (.var 9) (.int 1))) none)), .ite (.op .ne (.lc (.int 1) (.v 7) (.ex (.call i_sets_of [.var 3])) (some (.op .ne (.call i_ends [.var 3, .var 13, .var 7]) (.call i_ends [.var 3, .var 4, .var 7]))) [7]) (.lst [])) [.ret (.bl false)] []], .set (.v 10) (.op .add (.var 4) (.tup [.tup [.tup [], .str "put", .ix (.var 3) (.int 0)]])), .ite (.and [.op .lt (.f1 .len (.var 4)) (.int 6), .op .notin (.f1 .len (.var 4)) (.call i_needless_rules [.var 3, .var 10])]) [.ret (.bl false)] []] []], .ret (.bl true)]
def u_law_k18 : Fn := ⟨1, 15, b_law_k18⟩
class H_law_k18 (p : Pgm) : Prop extends H_ends p, H_is_sure p, H_law_drawn_run p, H_law_rules p, H_law_source p, H_law_tags p, H_longest_run p, H_needless_rules p, H_resting p, H_ring p, H_sets_of p, H_settles p where
  e_law_k18 : p.tbl i_law_k18 = some u_law_k18
theorem call_law_k18 {p : Pgm} [h : H_law_k18 p] {n : Nat} {s : S} {d0 : D} : call (Ev p (n + 1)) i_law_k18 [d0] s = fin s (evSs p.glob (Ev p n) b_law_k18 ⟨[.val d0, .no, .no, .no, .no, .no, .no, .no, .no, .no, .no, .no, .no, .no, .no], s.g⟩) := call_ev h.e_law_k18 rfl (by decide)
end TD.P

-- GK07
set_option maxHeartbeats 1000000
namespace TD.K07
open PySem PySem.Spec PyProof.Rows L2 TD.P
def T : List Df := [
  ⟨i_is_name, "is_name", ["value"], false, u_is_name⟩,
  ⟨i_rising, "rising", ["values"], false, u_rising⟩,
  ⟨i_is_tags, "is_tags", ["value"], false, u_is_tags⟩,
  ⟨i_is_tag, "is_tag", ["tags", "value"], false, u_is_tag⟩,
  ⟨i_is_some, "is_some", ["tags", "value"], false, u_is_some⟩,
  ⟨i_are_sets, "are_sets", ["tags", "value"], false, u_are_sets⟩,
  ⟨i_need_tags, "need_tags", ["value"], false, u_need_tags⟩,
  ⟨i_need_some, "need_some", ["tags", "value"], false, u_need_some⟩,
  ⟨i_need_sets, "need_sets", ["tags", "value"], false, u_need_sets⟩,
  ⟨i_with_tag, "with_tag", ["some", "tag"], false, u_with_tag⟩,
  ⟨i_without_tag, "without_tag", ["some", "tag"], false, u_without_tag⟩,
  ⟨i_is_term, "is_term", ["tags", "value"], false, u_is_term⟩,
  ⟨i_is_good, "is_good", ["tags", "value"], false, u_is_good⟩,
  ⟨i_term_finds, "term_finds", ["term", "some"], false, u_term_finds⟩,
  ⟨i_finds, "finds", ["terms", "some"], false, u_finds⟩,
  ⟨i_is_deed, "is_deed", ["tags", "value"], false, u_is_deed⟩,
  ⟨i_is_bound, "is_bound", ["step"], false, u_is_bound⟩,
  ⟨i_is_step, "is_step", ["tags", "value"], false, u_is_step⟩,
  ⟨i_many_bound, "many_bound", ["row"], false, u_many_bound⟩,
  ⟨i_is_good_row, "is_good_row", ["tags", "value"], false, u_is_good_row⟩,
  ⟨i_need_row, "need_row", ["tags", "value"], false, u_need_row⟩,
  ⟨i_need_told, "need_told", ["row", "value"], false, u_need_told⟩,
  ⟨i_swapped, "swapped", ["some", "one", "other"], false, u_swapped⟩,
  ⟨i_deed_on, "deed_on", ["deed", "some"], false, u_deed_on⟩,
  ⟨i_deed_of, "deed_of", ["step"], false, u_deed_of⟩,
  ⟨i_is_let, "is_let", ["step", "some_found"], false, u_is_let⟩,
  ⟨i_played, "played", ["row", "stock"], false, u_played⟩,
  ⟨i_followed, "followed", ["row", "told", "some"], false, u_followed⟩,
  ⟨i_need_both_2, "need_both", ["tags", "row"], false, u_need_both_2⟩,
  ⟨i_done, "done", ["tags", "row", "stock"], false, u_done⟩,
  ⟨i_answers, "answers", ["tags", "row", "stock"], false, u_answers⟩,
  ⟨i_becomes, "becomes", ["tags", "row", "told", "some"], false, u_becomes⟩,
  ⟨i_law_source, "_law_source", ["script", "k"], false, u_law_source⟩,
  ⟨i_law_draw, "_law_draw", ["source", "many"], false, u_law_draw⟩,
  ⟨i_law_of, "_law_of", ["source", "items"], false, u_law_of⟩,
  ⟨i_law_mixed, "_law_mixed", ["source", "items"], true, u_law_mixed⟩,
  ⟨i_law_tags, "_law_tags", ["source", "most"], false, u_law_tags⟩,
  ⟨i_law_some, "_law_some", ["source", "tags"], false, u_law_some⟩,
  ⟨i_law_stock, "_law_stock", ["source", "tags", "most"], false, u_law_stock⟩,
  ⟨i_law_term, "_law_term", ["source", "tags"], false, u_law_term⟩,
  ⟨i_law_filter, "_law_filter", ["source", "tags"], false, u_law_filter⟩,
  ⟨i_law_deed, "_law_deed", ["source", "tags"], false, u_law_deed⟩,
  ⟨i_law_row, "_law_row", ["source", "tags", "most", "bound"], false, u_law_row⟩,
  ⟨i_law_left, "_law_left", ["tags", "row", "told", "stock"], true, u_law_left⟩,
  ⟨i_law_k07, "law", ["script"], false, u_law_k07⟩]
def Ns : List (List Str) := [
  (["value", "sign"] : List Str),
  (["values", "one", "other"] : List Str),
  (["value", "tag"] : List Str),
  (["tags", "value"] : List Str),
  (["tags", "value", "tag"] : List Str),
  (["tags", "value", "some"] : List Str),
  (["value"] : List Str),
  (["tags", "value"] : List Str),
  (["tags", "value"] : List Str),
  (["some", "tag"] : List Str),
  (["some", "tag", "other"] : List Str),
  (["tags", "value", "tag", "some"] : List Str),
  (["tags", "value", "term"] : List Str),
  (["term", "some", "tag"] : List Str),
  (["terms", "some", "term"] : List Str),
  (["tags", "value"] : List Str),
  (["step"] : List Str),
  (["tags", "value"] : List Str),
  (["row", "step"] : List Str),
  (["tags", "value", "step"] : List Str),
  (["tags", "value"] : List Str),
  (["row", "value", "answer"] : List Str),
  (["some", "one", "other", "found", "tag", "there"] : List Str),
  (["deed", "some", "word"] : List Str),
  (["step"] : List Str),
  (["step", "some_found"] : List Str),
  (["row", "stock", "now", "told", "step", "let", "some"] : List Str),
  (["row", "told", "some", "hits", "at", "step", "let"] : List Str),
  (["tags", "row"] : List Str),
  (["tags", "row", "stock", "some"] : List Str),
  (["tags", "row", "stock"] : List Str),
  (["tags", "row", "told", "some"] : List Str),
  (["script", "k", "cell"] : List Str),
  (["source", "many", "found"] : List Str),
  (["source", "items"] : List Str),
  (["source", "items", "left", "found"] : List Str),
  (["source", "most", "some"] : List Str),
  (["source", "tags", "tag"] : List Str),
  (["source", "tags", "most", "turn"] : List Str),
  (["source", "tags", "ways", "has", "tag", "way"] : List Str),
  (["source", "tags", "turn"] : List Str),
  (["source", "tags", "way", "tag", "other", "one"] : List Str),
  (["source", "tags", "most", "bound", "found", "left", "turn", "step"] : List Str),
  (["tags", "row", "told", "stock", "rows", "some"] : List Str),
  (["script", "k", "source", "turn", "tags", "row", "stock", "told", "rows", "mixed", "at", "first", "some"] : List Str)]
def consts : List (Str × D) := [("LETTERS", c_LETTERS), ("WORDS", c_WORDS), ("MOST_TAGS", c_MOST_TAGS), ("MOST_THINGS", c_MOST_THINGS), ("MOST_TERMS", c_MOST_TERMS), ("MOST_STEPS", c_MOST_STEPS), ("MOST_BOUND", c_MOST_BOUND)]
def pk : Pgm := ⟨globOf consts, tblOf T⟩
instance : K_LETTERS pk := ⟨by rfl⟩
instance : K_WORDS pk := ⟨by rfl⟩
instance : K_MOST_TAGS pk := ⟨by rfl⟩
instance : K_MOST_THINGS pk := ⟨by rfl⟩
instance : K_MOST_TERMS pk := ⟨by rfl⟩
instance : K_MOST_STEPS pk := ⟨by rfl⟩
instance : K_MOST_BOUND pk := ⟨by rfl⟩
instance : H_is_name pk := { (inferInstance : K_LETTERS pk) with e_is_name := by rfl }
instance : H_rising pk := ⟨by rfl⟩
instance : H_is_tags pk := { (inferInstance : H_is_name pk), (inferInstance : H_rising pk), (inferInstance : K_MOST_TAGS pk), (inferInstance : K_WORDS pk) with e_is_tags := by rfl }
instance : H_is_tag pk := ⟨by rfl⟩
instance : H_is_some pk := { (inferInstance : H_is_tag pk), (inferInstance : H_rising pk) with e_is_some := by rfl }
instance : H_are_sets pk := { (inferInstance : H_is_some pk), (inferInstance : K_MOST_THINGS pk) with e_are_sets := by rfl }
instance : H_need_tags pk := { (inferInstance : H_is_tags pk) with e_need_tags := by rfl }
instance : H_need_some pk := { (inferInstance : H_is_some pk) with e_need_some := by rfl }
instance : H_need_sets pk := { (inferInstance : H_are_sets pk) with e_need_sets := by rfl }
instance : H_with_tag pk := ⟨by rfl⟩
instance : H_without_tag pk := ⟨by rfl⟩
instance : H_is_term pk := { (inferInstance : H_is_some pk) with e_is_term := by rfl }
instance : H_is_good pk := { (inferInstance : H_is_term pk), (inferInstance : H_rising pk), (inferInstance : K_MOST_TERMS pk) with e_is_good := by rfl }
instance : H_term_finds pk := ⟨by rfl⟩
instance : H_finds pk := { (inferInstance : H_term_finds pk) with e_finds := by rfl }
instance : H_is_deed pk := { (inferInstance : H_is_good pk), (inferInstance : H_is_tag pk) with e_is_deed := by rfl }
instance : H_is_bound pk := ⟨by rfl⟩
instance : H_is_step pk := { (inferInstance : H_is_bound pk), (inferInstance : H_is_deed pk), (inferInstance : H_is_good pk) with e_is_step := by rfl }
instance : H_many_bound pk := { (inferInstance : H_is_bound pk) with e_many_bound := by rfl }
instance : H_is_good_row pk := { (inferInstance : H_is_step pk), (inferInstance : H_many_bound pk), (inferInstance : K_MOST_BOUND pk), (inferInstance : K_MOST_STEPS pk) with e_is_good_row := by rfl }
instance : H_need_row pk := { (inferInstance : H_is_good_row pk) with e_need_row := by rfl }
instance : H_need_told pk := { (inferInstance : H_many_bound pk) with e_need_told := by rfl }
instance : H_swapped pk := { (inferInstance : H_with_tag pk), (inferInstance : H_without_tag pk) with e_swapped := by rfl }
instance : H_deed_on pk := { (inferInstance : H_finds pk), (inferInstance : H_swapped pk), (inferInstance : H_with_tag pk), (inferInstance : H_without_tag pk) with e_deed_on := by rfl }
instance : H_deed_of pk := { (inferInstance : H_is_bound pk) with e_deed_of := by rfl }
instance : H_is_let pk := ⟨by rfl⟩
instance : H_played pk := { (inferInstance : H_deed_of pk), (inferInstance : H_deed_on pk), (inferInstance : H_finds pk), (inferInstance : H_is_bound pk), (inferInstance : H_is_let pk) with e_played := by rfl }
instance : H_followed pk := { (inferInstance : H_deed_of pk), (inferInstance : H_deed_on pk), (inferInstance : H_finds pk), (inferInstance : H_is_bound pk) with e_followed := by rfl }
instance : H_need_both_2 pk := { (inferInstance : H_need_row pk), (inferInstance : H_need_tags pk) with e_need_both_2 := by rfl }
instance : H_done pk := { (inferInstance : H_need_both_2 pk), (inferInstance : H_need_sets pk), (inferInstance : H_played pk) with e_done := by rfl }
instance : H_answers pk := { (inferInstance : H_need_both_2 pk), (inferInstance : H_need_sets pk), (inferInstance : H_played pk) with e_answers := by rfl }
instance : H_becomes pk := { (inferInstance : H_followed pk), (inferInstance : H_need_both_2 pk), (inferInstance : H_need_some pk), (inferInstance : H_need_told pk) with e_becomes := by rfl }
instance : H_law_source pk := ⟨by rfl⟩
instance : H_law_draw pk := ⟨by rfl⟩
instance : H_law_of pk := { (inferInstance : H_law_draw pk) with e_law_of := by rfl }
instance : H_law_mixed pk := { (inferInstance : H_law_draw pk) with e_law_mixed := by rfl }
instance : H_law_tags pk := { (inferInstance : H_law_draw pk), (inferInstance : H_law_mixed pk) with e_law_tags := by rfl }
instance : H_law_some pk := { (inferInstance : H_law_draw pk) with e_law_some := by rfl }
instance : H_law_stock pk := { (inferInstance : H_law_draw pk), (inferInstance : H_law_some pk) with e_law_stock := by rfl }
instance : H_law_term pk := { (inferInstance : H_law_of pk) with e_law_term := by rfl }
instance : H_law_filter pk := { (inferInstance : H_law_of pk), (inferInstance : H_law_term pk) with e_law_filter := by rfl }
instance : H_law_deed pk := { (inferInstance : H_law_draw pk), (inferInstance : H_law_filter pk), (inferInstance : H_law_of pk) with e_law_deed := by rfl }
instance : H_law_row pk := { (inferInstance : H_law_deed pk), (inferInstance : H_law_draw pk), (inferInstance : H_law_filter pk), (inferInstance : H_law_of pk) with e_law_row := by rfl }
instance : H_law_left pk := { (inferInstance : H_becomes pk) with e_law_left := by rfl }
instance : H_law_k07 pk := { (inferInstance : H_answers pk), (inferInstance : H_becomes pk), (inferInstance : H_done pk), (inferInstance : H_law_draw pk), (inferInstance : H_law_left pk), (inferInstance : H_law_mixed pk), (inferInstance : H_law_row pk), (inferInstance : H_law_source pk), (inferInstance : H_law_stock pk), (inferInstance : H_law_tags pk) with e_law_k07 := by rfl }
end TD.K07

-- HK07
set_option maxHeartbeats 0
namespace TD.K07
open PySem PySem.Spec PyProof.Rows L2
abbrev R : PySem.W.OpenRow := PySem.W.OpenLaw.row PySem.Challenge.rw_tagdeeds_k07_whole_rows_and_things
def fn : List He.DefD := defsOf PySem.Challenge.pw_tagdeeds_k07_whole_rows_and_things.main.body
theorem chk : chkAll T Ns T fn = true := by decide +kernel
abbrev hk : PySem.W.Hook := hookU 4 (fasOf fn) fn (csB consts)
abbrev ob : PySem.W.SharedT → He.AlD × Bool := obU 4 (fasOf fn) fn (csB consts)
def l0 : List Str := ["TagError", "InvalidTags", "InvalidSet", "InvalidStock", "InvalidRow", "InvalidAnswers", "LETTERS", "WORDS", "MOST_TAGS", "MOST_THINGS", "is_name", "rising", "is_tags", "is_tag", "is_some", "are_sets", "need_tags", "need_some", "need_sets", "with_tag", "without_tag", "MOST_TERMS", "is_term", "is_good", "term_finds", "finds", "MOST_STEPS", "MOST_BOUND", "is_deed", "is_bound"]
def l1 : List Str := ["is_step", "many_bound", "is_good_row", "need_row", "need_told", "swapped", "deed_on", "deed_of", "is_let", "played", "followed", "need_both", "done", "answers", "becomes", "_law_source", "_law_draw", "_law_of", "_law_mixed", "_law_tags", "_law_some", "_law_stock", "_law_term", "_law_filter", "_law_deed", "_law_row", "_law_left"]
def loose : List Str := l0 ++ l1
theorem run (w : World) : HandSHeadRun.RunEq R (PySem.W.view R.prog [62]) hk ob 3000 loose w := by
  intro os
  kernel_rfl
end TD.K07
section
open PySem PySem.W PySem.Calls PyProof.Rows
theorem PySem.Challenge.head_07 (good : TD.Good TD.K07.T TD.K07.consts 18 TD.P.i_law_k07) : PySem.Challenge.rw_tagdeeds_k07_whole_rows_and_things.Holds := by
  w_on; o_law
  refine HandSHeadRun.head_any (r := OpenLaw.row PySem.Challenge.rw_tagdeeds_k07_whole_rows_and_things) (q := view (OpenLaw.row PySem.Challenge.rw_tagdeeds_k07_whole_rows_and_things).prog [62]) (H := TD.K07.hk) (ob := TD.K07.ob) (M := 3000) (loose := TD.K07.loose) (d := HandSHeadRun.topDef (OpenLaw.row PySem.Challenge.rw_tagdeeds_k07_whole_rows_and_things).prog 62) (kwd := []) TD.obU_eq
    (by kernel_rfl) (fun s => by kernel_rfl) TD.K07.run (by kernel_rfl) (by kernel_rfl) (by kernel_rfl) (by rfl) (by first | assumption | decide +kernel) (by decide +kernel) ⟨rfl, rfl, rfl, rfl, rfl, by decide +kernel⟩ ?hw ?hc
  case hw => w_witness2
  case hc =>
    refine LamX.walk_ofTsE (l := PySem.Challenge.rw_tagdeeds_k07_whole_rows_and_things) (n := 63) (k := 18) (x := "script") (CX := L2.CX (PySem.Challenge.rw_tagdeeds_k07_whole_rows_and_things).prog) rfl (by decide) (by kernel_rfl) ⟨rfl, by decide, by decide⟩ (fun w mg fa h Y G hmg => ?F) (fun w H s e s' h => TD.cx_no h)
    exact TD.law_F (T := TD.K07.T) (Ns := TD.K07.Ns) (fn := TD.K07.fn) (cs := TD.K07.consts) (n := 18) (i := TD.P.i_law_k07) (d := ⟨TD.P.i_law_k07, "law", ["script"], false, TD.P.u_law_k07⟩) (nm := "law") Y G hmg TD.K07.chk (by rfl) rfl rfl rfl (by rfl) good

end

-- ME
set_option maxHeartbeats 1000000
/-! typed data -/
namespace TD.P
open PySem PySem.Spec PyProof.Rows L2
/-- what is written as a datum: equal if and only if ==; may be a key -/
class Enc (α : Type) where
  enc : α → D
  dp : Nat
  fl_ : ∀ (a : α) (n : Nat), dp ≤ n → fl n (enc a) = true
  inj : ∀ a b : α, eqv (enc a) (enc b) = true ↔ a = b
  nk_ : ∀ a : α, ∃ k, nk (enc a) = some k ∧ k.depth ≤ dp
  bd : α → Prop
/-- .. never None, and all can be compared -/
class OEnc (α : Type) extends Enc α where
  nn : ∀ a : α, isNonD (enc a) = false
  alk_ : ∀ a b : α, alk (enc a) (enc b) = true
open Enc
def encs {α : Type} [Enc α] (l : List α) : List D := l.map enc
section
variable {α β : Type} [Enc α] [Enc β]
theorem fls_encs {n : Nat} (h : dp α ≤ n) : ∀ l : List α, fls n (encs l) = true
  | [] => by simp [fls, encs]
  | a :: l => by
    show fls n (enc a :: encs l) = true
    unfold fls
    rw [fl_ a n h, fls_encs h l]
    rfl
theorem eqvs_encs : ∀ l m : List α, eqvs (encs l) (encs m) = true ↔ l = m
  | [], [] => by simp [eqvs, encs]
  | [], _ :: _ => by simp [eqvs, encs]
  | _ :: _, [] => by simp [eqvs, encs]
  | a :: l, b :: m => by
    show eqvs (enc a :: encs l) (enc b :: encs m) = true ↔ _
    unfold eqvs
    rw [Bool.and_eq_true, inj, eqvs_encs l m, List.cons.injEq]
theorem nks_encs : ∀ l : List α, ∃ ks, nks (encs l) = some ks ∧ NestedKey.depth (.tup ks) ≤ dp α + 1
  | [] => ⟨[], by simp [nks, encs], by simp [NestedKey.depth, NestedKey.depthAll]⟩
  | a :: l => by
    obtain ⟨k, h1, h2⟩ := nk_ a
    obtain ⟨ks, h3, h4⟩ := nks_encs l
    refine ⟨k :: ks, ?_, ?_⟩
    · show nks (enc a :: encs l) = _
      unfold nks
      rw [h1, h3]
    · simp only [NestedKey.depth, NestedKey.depthAll] at h4 ⊢
      omega
end
mutual
theorem pd_fl : ∀ {d : D} {n : Nat}, fl n d = true → ∃ q, pd d = some q
  | .tup l, n, h => by
    cases n with
    | zero => simp [fl] at h
    | succ n =>
      obtain ⟨q, e⟩ := pds_fl (by simpa only [fl] using h)
      exact ⟨.tuple q, by unfold pd; rw [e]; rfl⟩
  | .lst l, n, h => by
    cases n with
    | zero => simp [fl] at h
    | succ n =>
      obtain ⟨q, e⟩ := pds_fl (by simpa only [fl] using h)
      exact ⟨.list q, by unfold pd; rw [e]; rfl⟩
  | .non, n, h => ⟨_, rfl⟩
  | .bl b, n, h => ⟨_, rfl⟩
  | .int b, n, h => ⟨_, rfl⟩
  | .str b, n, h => ⟨_, rfl⟩
  | .dic b, n, h => by cases n <;> simp [fl] at h
  | .sdc b, n, h => by cases n <;> simp [fl] at h
  | .ref b, n, h => by cases n <;> simp [fl] at h
  | .kl b, n, h => by cases n <;> simp [fl] at h
theorem pds_fl : ∀ {l : List D} {n : Nat}, fls n l = true → ∃ q, pds l = some q
  | [], n, h => ⟨[], by simp [pds]⟩
  | d :: l, n, h => by
    unfold fls at h
    rw [Bool.and_eq_true] at h
    obtain ⟨q, e⟩ := pd_fl h.1
    obtain ⟨r, e'⟩ := pds_fl h.2
    exact ⟨q :: r, by unfold pds; rw [e, e']⟩
end
instance : OEnc Str where
  enc := .str
  dp := 0
  fl_ _ n _ := by cases n <;> simp [fl]
  inj a b := by simp [eqv]
  nk_ a := ⟨_, rfl, by simp [NestedKey.depth]⟩
  bd x := x.length ≤ 1048576
  nn _ := rfl
  alk_ a b := by simp [alk, pdD, pd, PySem.W.alike]
instance : OEnc Bool where
  enc := .bl
  dp := 0
  fl_ _ n _ := by cases n <;> simp [fl]
  inj a b := by simp [eqv]
  nk_ a := ⟨_, rfl, by simp [NestedKey.depth]⟩
  bd _ := True
  nn _ := rfl
  alk_ a b := by simp [alk, pdD, pd, PySem.W.alike]
instance : OEnc Int where
  enc := .int
  dp := 0
  fl_ _ n _ := by cases n <;> simp [fl]
  inj a b := by simp [eqv]
  nk_ a := ⟨_, rfl, by simp [NestedKey.depth]⟩
  bd _ := True
  nn _ := rfl
  alk_ a b := by simp [alk, pdD, pd, PySem.W.alike]
instance : OEnc Nat where
  enc n := .int n
  dp := 0
  fl_ _ n _ := by cases n <;> simp [fl]
  inj a b := by simp [eqv]; omega
  nk_ a := ⟨_, rfl, by simp [NestedKey.depth]⟩
  bd _ := True
  nn _ := rfl
  alk_ a b := by simp [alk, pdD, pd, PySem.W.alike]

section
variable {α β : Type}
instance [Enc α] : Enc (List α) where
  enc l := .tup (encs l)
  dp := dp α + 1
  fl_ l n h := by
    cases n with
    | zero => omega
    | succ n => unfold fl; exact fls_encs (by omega) l
  inj a b := by unfold eqv; exact eqvs_encs a b
  nk_ l := by
    obtain ⟨ks, h1, h2⟩ := nks_encs l
    exact ⟨.tup ks, by unfold nk; rw [h1]; rfl, h2⟩
  bd l := l.length ≤ 1048576 ∧ ∀ a ∈ l, bd a
instance [Enc α] [Enc β] : Enc (α × β) where
  enc p := .tup [enc p.1, enc p.2]
  dp := max (dp α) (dp β) + 1
  fl_ p n h := by
    cases n with
    | zero => omega
    | succ n => simp [fl, fls, fl_ p.1 n (by omega), fl_ p.2 n (by omega)]
  inj a b := by
    obtain ⟨a1, a2⟩ := a
    obtain ⟨b1, b2⟩ := b
    simp [eqv, eqvs, inj]
  nk_ p := by
    obtain ⟨k, h1, h2⟩ := nk_ p.1
    obtain ⟨m, h3, h4⟩ := nk_ p.2
    refine ⟨.tup [k, m], ?_, ?_⟩
    · simp [nk, nks, h1, h3]
    · simp only [NestedKey.depth, NestedKey.depthAll]
      omega
  bd p := bd p.1 ∧ bd p.2
instance [OEnc α] : Enc (Option α) where
  enc o := match o with
    | none => .non
    | some a => enc a
  dp := dp α
  fl_ o n h := by
    cases o with
    | none => cases n <;> simp [fl]
    | some a => exact fl_ a n h
  inj a b := by
    have no : ∀ x : α, eqv (enc x) .non = false ∧ eqv .non (enc x) = false := fun x => by
      have := OEnc.nn x
      cases e : enc x <;> simp [e, isNonD, eqv] at this ⊢
    cases a with
    | none => cases b with
      | none => simp [eqv]
      | some b => simp [(no b).2]
    | some a => cases b with
      | none => simp [(no a).1]
      | some b => simp [inj]
  nk_ o := by
    cases o with
    | none => exact ⟨_, rfl, by simp [NestedKey.depth]⟩
    | some a => exact nk_ a
  bd o := ∀ a, o = some a → bd a
theorem pds_encs [Enc α] : ∀ l : List α, ∃ ps, pds (encs l) = some ps ∧ ps = l.map fun a => pdD (enc a)
  | [] => ⟨[], by simp [pds, encs], rfl⟩
  | a :: l => by
    obtain ⟨ps, h1, h2⟩ := pds_encs l
    have : ∃ q, pd (enc a) = some q := pd_fl (fl_ a (dp α) (Nat.le_refl _))
    obtain ⟨q, hq⟩ := this
    refine ⟨q :: ps, ?_, ?_⟩
    · show pds (enc a :: encs l) = _
      unfold pds
      rw [hq, h1]
    · rw [h2]; simp [pdD, hq]
theorem alkAll_encs [OEnc α] : ∀ l m : List α, PySem.W.alikeAll (l.map fun a => pdD (enc a)) (m.map fun a => pdD (enc a)) = true
  | [], _ => by simp [PySem.W.alikeAll]
  | _ :: _, [] => by simp [PySem.W.alikeAll]
  | a :: l, b :: m => by
    simp only [List.map_cons, PySem.W.alikeAll, alkAll_encs l m, Bool.and_true]
    exact OEnc.alk_ a b
instance [OEnc α] : OEnc (List α) where
  nn _ := rfl
  alk_ a b := by
    obtain ⟨ps, h1, rfl⟩ := pds_encs a
    obtain ⟨qs, h2, rfl⟩ := pds_encs b
    have e1 : pdD (enc a) = .tuple (a.map fun a => pdD (enc a)) := by show (pd (.tup (encs a))).getD .none = _; unfold pd; rw [h1]; rfl
    have e2 : pdD (enc b) = .tuple (b.map fun a => pdD (enc a)) := by show (pd (.tup (encs b))).getD .none = _; unfold pd; rw [h2]; rfl
    unfold alk
    rw [e1, e2, PySem.W.alike]
    exact alkAll_encs a b
instance [OEnc α] [OEnc β] : OEnc (α × β) where
  nn _ := rfl
  alk_ a b := by
    have key : ∀ p : α × β, pdD (enc p) = .tuple [pdD (enc p.1), pdD (enc p.2)] := fun p => by
      obtain ⟨q, hq⟩ := pd_fl (fl_ p.1 (dp α) (Nat.le_refl _))
      obtain ⟨r, hr⟩ := pd_fl (fl_ p.2 (dp β) (Nat.le_refl _))
      show (pd (.tup [enc p.1, enc p.2])).getD .none = _
      simp [pd, pds, hq, hr, pdD]
    unfold alk
    rw [key, key, PySem.W.alike]
    have := OEnc.alk_ a.1 b.1
    have h2 := OEnc.alk_ a.2 b.2
    unfold alk at this h2
    simp [PySem.W.alikeAll, this, h2]
end
end TD.P

-- MB
set_option maxHeartbeats 1000000
/-! operations on typed data -/
namespace TD.P
open PySem PySem.Spec PyProof.Rows L2
open Enc
section
variable {α β : Type}
@[simp] theorem enc_str (x : Str) : enc x = D.str x := id rfl
@[simp] theorem enc_int (x : Int) : enc x = D.int x := id rfl
@[simp] theorem enc_nat (x : Nat) : enc x = D.int x := id rfl
@[simp] theorem enc_bool (x : Bool) : enc x = D.bl x := id rfl
@[simp] theorem enc_none [OEnc α] : enc (none : Option α) = D.non := id rfl
@[simp] theorem enc_some [OEnc α] (a : α) : enc (some a) = enc a := id rfl
@[simp] theorem dp_str : dp Str = 0 := id rfl
@[simp] theorem dp_int : dp Int = 0 := id rfl
@[simp] theorem dp_nat : dp Nat = 0 := id rfl
@[simp] theorem dp_bool : dp Bool = 0 := id rfl
@[simp] theorem dp_list [Enc α] : dp (List α) = dp α + 1 := id rfl
@[simp] theorem dp_pair [Enc α] [Enc β] : dp (α × β) = max (dp α) (dp β) + 1 := id rfl
@[simp] theorem dp_opt [OEnc α] : dp (Option α) = dp α := id rfl
@[simp] theorem bd_int (x : Int) : bd x ↔ True := Iff.rfl
@[simp] theorem bd_nat (x : Nat) : bd x ↔ True := Iff.rfl
@[simp] theorem bd_bool (x : Bool) : bd x ↔ True := Iff.rfl
theorem bd_str (x : Str) : bd x ↔ x.length ≤ 1048576 := Iff.rfl
theorem bd_list [Enc α] (l : List α) : bd l ↔ l.length ≤ 1048576 ∧ ∀ a ∈ l, bd a := Iff.rfl
theorem bd_pair [Enc α] [Enc β] (p : α × β) : bd p ↔ bd p.1 ∧ bd p.2 := Iff.rfl
@[simp] theorem tup_fold [Enc α] (l : List α) : D.tup (encs l) = enc l := id rfl
theorem encs_nil [Enc α] : encs ([] : List α) = [] := rfl
theorem encs_cons [Enc α] (a : α) (l : List α) : encs (a :: l) = enc a :: encs l := rfl
theorem encs_append [Enc α] (l m : List α) : encs (l ++ m) = encs l ++ encs m := List.map_append
@[simp] theorem encs_len [Enc α] (l : List α) : (encs l).length = l.length := List.length_map _
theorem encs_map [Enc α] (l : List α) : encs l = l.map enc := rfl
@[simp] theorem encs_emp [Enc α] (l : List α) : (encs l).isEmpty = l.isEmpty := by cases l <;> rfl
/-- sl: the line -/
theorem sl_le {n : Nat} (h : n ≤ 1048576) : n ≤ sizeLine := Nat.le_trans h (by decide)
theorem eqv_enc [Enc α] [DecidableEq α] (a b : α) : eqv (enc a) (enc b) = decide (a = b) := by
  rw [Bool.eq_iff_iff, inj]; simp
/-- in -/
def hasB {α : Type} [DecidableEq α] (l : List α) (a : α) : Bool := decide (a ∈ l)
@[simp] theorem hasB_iff {α : Type} [DecidableEq α] {l : List α} {a : α} : hasB l a = true ↔ a ∈ l := by simp [hasB]
@[simp] theorem hasB_no {α : Type} [DecidableEq α] {l : List α} {a : α} : hasB l a = false ↔ a ∉ l := by simp [hasB]
theorem hasB_eq {α : Type} [DecidableEq α] (l : List α) (a : α) : hasB l a = decide (a ∈ l) := rfl
theorem inD_enc [Enc α] [DecidableEq α] (a : α) (l : List α) : inD (enc a) (encs l) = hasB l a := by
  unfold inD
  induction l with
  | nil => simp [encs_nil, hasB]
  | cons b l ih =>
    simp only [encs_cons, List.any_cons, ih, eqv_enc]
    rw [Bool.eq_iff_iff]
    simp only [Bool.or_eq_true, decide_eq_true_eq, hasB_iff, List.mem_cons]
    exact or_congr eq_comm Iff.rfl
section
variable [Enc α] [DecidableEq α]
@[simp] theorem o_eq (a b : α) (h : dp α ≤ 40) : evO .eq (enc a) (enc b) = some (.bl (decide (a = b))) := by
  unfold evO
  simp [fl_ a 40 h, fl_ b 40 h, eqv_enc]
@[simp] theorem o_ne (a b : α) (h : dp α ≤ 40) : evO .ne (enc a) (enc b) = some (.bl (!decide (a = b))) := by
  unfold evO
  simp [fl_ a 40 h, fl_ b 40 h, eqv_enc]
theorem fl_lst {n : Nat} (l : List α) (h : dp α ≤ n) : fl (n + 1) (.lst (encs l)) = true := by unfold fl; exact fls_encs h l
theorem fl_tup' {n : Nat} (l : List α) (h : dp α ≤ n) : fl (n + 1) (.tup (encs l)) = true := by unfold fl; exact fls_encs h l
theorem eqv_lst (l m : List α) : eqv (.lst (encs l)) (.lst (encs m)) = decide (l = m) := by
  unfold eqv
  rw [Bool.eq_iff_iff, eqvs_encs]; simp
@[simp] theorem o_eq_l (l m : List α) (h : dp α ≤ 39) : evO .eq (.lst (encs l)) (.lst (encs m)) = some (.bl (decide (l = m))) := by
  unfold evO
  simp [fl_lst l h, fl_lst m h, eqv_lst]
@[simp] theorem o_ne_l (l m : List α) (h : dp α ≤ 39) : evO .ne (.lst (encs l)) (.lst (encs m)) = some (.bl (!decide (l = m))) := by
  unfold evO
  simp [fl_lst l h, fl_lst m h, eqv_lst]
theorem eqv_nil (l : List D) : eqv (.lst l) (.lst []) = l.isEmpty := by cases l <;> simp [eqv, eqvs]
theorem eqv_tnil (l : List D) : eqv (.tup l) (.tup []) = l.isEmpty := by cases l <;> simp [eqv, eqvs]
@[simp] theorem o_eq_nil (l : List α) (h : dp α ≤ 39) : evO .eq (.lst (encs l)) (.lst []) = some (.bl l.isEmpty) := by
  unfold evO
  simp [fl_lst l h, eqv_nil, show fl 40 (.lst []) = true from rfl]
@[simp] theorem o_ne_nil (l : List α) (h : dp α ≤ 39) : evO .ne (.lst (encs l)) (.lst []) = some (.bl (!l.isEmpty)) := by
  unfold evO
  simp [fl_lst l h, eqv_nil, show fl 40 (.lst []) = true from rfl]
@[simp] theorem o_eq_tnil (l : List α) (h : dp α ≤ 39) : evO .eq (enc l) (.tup []) = some (.bl l.isEmpty) := by
  show evO .eq (.tup (encs l)) (.tup []) = _
  unfold evO
  simp only [fl_tup' l h, eqv_tnil, show fl 40 (.tup []) = true from rfl]
  simp
@[simp] theorem o_ne_tnil (l : List α) (h : dp α ≤ 39) : evO .ne (enc l) (.tup []) = some (.bl (!l.isEmpty)) := by
  show evO .ne (.tup (encs l)) (.tup []) = _
  unfold evO
  simp only [fl_tup' l h, eqv_tnil, show fl 40 (.tup []) = true from rfl]
  simp
theorem isin_tup (d : D) (l : List D) (hs : ∀ x, d ≠ .str x ∨ True) : evO .isin d (.tup l) = if fl 40 d && fls 40 l then some (.bl (inD d l)) else none := by
  unfold evO; cases d <;> rfl
theorem isin_lst (d : D) (l : List D) : evO .isin d (.lst l) = if fl 40 d && fls 40 l then some (.bl (inD d l)) else none := by
  unfold evO; cases d <;> rfl
theorem notin_tup (d : D) (l : List D) : evO .notin d (.tup l) = if fl 40 d && fls 40 l then some (.bl (!inD d l)) else none := by
  unfold evO; cases d <;> rfl
theorem notin_lst (d : D) (l : List D) : evO .notin d (.lst l) = if fl 40 d && fls 40 l then some (.bl (!inD d l)) else none := by
  unfold evO; cases d <;> rfl
@[simp] theorem o_in (a : α) (l : List α) (h : dp α ≤ 39) : evO .isin (enc a) (enc l) = some (.bl (hasB l a)) := by
  show evO .isin (enc a) (.tup (encs l)) = _
  rw [isin_tup _ _ (fun _ => .inr trivial), fl_ a 40 (by omega), fls_encs (by omega : dp α ≤ 40) l, inD_enc]
  rfl
@[simp] theorem o_nin (a : α) (l : List α) (h : dp α ≤ 39) : evO .notin (enc a) (enc l) = some (.bl (!hasB l a)) := by
  show evO .notin (enc a) (.tup (encs l)) = _
  rw [notin_tup, fl_ a 40 (by omega), fls_encs (by omega : dp α ≤ 40) l, inD_enc]
  rfl
@[simp] theorem o_in_l (a : α) (l : List α) (h : dp α ≤ 39) : evO .isin (enc a) (.lst (encs l)) = some (.bl (hasB l a)) := by
  rw [isin_lst, fl_ a 40 (by omega), fls_encs (by omega : dp α ≤ 40) l, inD_enc]
  rfl
@[simp] theorem o_nin_l (a : α) (l : List α) (h : dp α ≤ 39) : evO .notin (enc a) (.lst (encs l)) = some (.bl (!hasB l a)) := by
  rw [notin_lst, fl_ a 40 (by omega), fls_encs (by omega : dp α ≤ 40) l, inD_enc]
  rfl
end
@[simp] theorem o_in_s (a : Str) (l : List Str) : evO .isin (.str a) (enc l) = some (.bl (hasB l a)) := o_in a l (by decide)
@[simp] theorem o_nin_s (a : Str) (l : List Str) : evO .notin (.str a) (enc l) = some (.bl (!hasB l a)) := o_nin a l (by decide)
@[simp] theorem o_eq_s (a b : Str) : evO .eq (.str a) (.str b) = some (.bl (decide (a = b))) := o_eq a b (by decide)
@[simp] theorem o_ne_s (a b : Str) : evO .ne (.str a) (.str b) = some (.bl (!decide (a = b))) := o_ne a b (by decide)
@[simp] theorem o_eq_i (a b : Int) : evO .eq (.int a) (.int b) = some (.bl (decide (a = b))) := o_eq a b (by decide)
@[simp] theorem o_ne_i (a b : Int) : evO .ne (.int a) (.int b) = some (.bl (!decide (a = b))) := o_ne a b (by decide)
@[simp] theorem o_eq_b (a b : Bool) : evO .eq (.bl a) (.bl b) = some (.bl (decide (a = b))) := o_eq a b (by decide)
@[simp] theorem o_ne_b (a b : Bool) : evO .ne (.bl a) (.bl b) = some (.bl (!decide (a = b))) := o_ne a b (by decide)
@[simp] theorem o_lt_i (a b : Int) : evO .lt (.int a) (.int b) = some (.bl (decide (a < b))) := by
  have h : alk (.int a) (.int b) = true := OEnc.alk_ a b
  simp [evO, fl, isNonD, h, ltD, pdD, pd, PySem.W.dataLt_int]
@[simp] theorem o_gt_i (a b : Int) : evO .gt (.int a) (.int b) = some (.bl (decide (b < a))) := by unfold evO; rfl
@[simp] theorem o_le_i (a b : Int) : evO .le (.int a) (.int b) = some (.bl (decide (a ≤ b))) := by unfold evO; rfl
@[simp] theorem o_ge_i (a b : Int) : evO .ge (.int a) (.int b) = some (.bl (decide (b ≤ a))) := by unfold evO; rfl
@[simp] theorem o_add_i (a b : Int) : evO .add (.int a) (.int b) = some (.int (a + b)) := by unfold evO; rfl
@[simp] theorem o_sub_i (a b : Int) : evO .sub (.int a) (.int b) = some (.int (a - b)) := by unfold evO; rfl
/-- the order of Python -/
def ltE [Enc α] (a b : α) : Bool := ltD (enc a) (enc b)
@[simp] theorem o_lt [OEnc α] (a b : α) (h : dp α ≤ 40) : evO .lt (enc a) (enc b) = some (.bl (ltE a b)) := by
  simp [evO, fl_ a 40 h, fl_ b 40 h, OEnc.nn, OEnc.alk_, ltE]
@[simp] theorem o_lt_s (a b : Str) : evO .lt (.str a) (.str b) = some (.bl (ltE a b)) := o_lt a b (by decide)
@[simp] theorem f_len_t [Enc α] (l : List α) : evF .len (enc l) = some (.int l.length) := by
  show evF .len (.tup (encs l)) = _
  simp [evF]
@[simp] theorem f_len_l (l : List D) : evF .len (.lst l) = some (.int l.length) := by unfold evF; rfl
@[simp] theorem f_tuple [Enc α] (l : List α) : evF .tuple (.lst (encs l)) = some (enc l) := by unfold evF; rfl
@[simp] theorem f_list [Enc α] (l : List α) : evF .list (enc l) = some (.lst (encs l)) := by
  show evF .list (.tup (encs l)) = _
  simp [evF]
theorem allBl_map (l : List Bool) : allBl (l.map .bl) = some l := by
  induction l with
  | nil => rfl
  | cons b l ih => simp [allBl, ih]
theorem allInt_map (l : List Int) : allInt (l.map .int) = some l := by
  induction l with
  | nil => rfl
  | cons b l ih => simp [allInt, ih]
@[simp] theorem f_all (l : List Bool) : evF .all (.lst (encs l)) = some (.bl (l.all id)) := by
  show (allBl (l.map .bl)).map _ = _
  rw [allBl_map]; rfl
@[simp] theorem f_any (l : List Bool) : evF .any (.lst (encs l)) = some (.bl (l.any id)) := by
  show (allBl (l.map .bl)).map _ = _
  rw [allBl_map]; rfl
@[simp] theorem f_sum (l : List Int) : evF .sum (.lst (encs l)) = some (.int l.sum) := by
  show (allInt (l.map .int)).map _ = _
  rw [allInt_map]; rfl
@[simp] theorem w_tup [Enc α] (l : List α) : walkD (enc l) = some (encs l) := id rfl
@[simp] theorem f_len_p [Enc α] [Enc β] (q : α × β) : evF .len (enc q) = some (.int 2) := id rfl
@[simp] theorem w_pair [Enc α] (q : α × α) : walkD (enc q) = some (encs [q.1, q.2]) := id rfl
@[simp] theorem w_lst (l : List D) : walkD (.lst l) = some l := id rfl
@[simp] theorem ix_0 [Enc α] [Enc β] (p : α × β) : evIx (enc p) (.int 0) = some (enc p.1) := id rfl
@[simp] theorem ix_1 [Enc α] [Enc β] (p : α × β) : evIx (enc p) (.int 1) = some (enc p.2) := id rfl
@[simp] theorem setT_pair [Enc α] [Enc β] (l : List Tg) (p : α × β) (r : List Sl) : setT (.t l) (enc p) r = setTs l [enc p.1, enc p.2] r := id rfl
/-! walks -/
theorem zip_enc [Enc α] [Enc β] (l : List α) (m : List β) : (((encs l).zip (encs m)).map fun p => D.tup [p.1, p.2]) = encs (l.zip m) := by
  rw [encs_map, encs_map, List.zip_map, List.map_map]; rfl
theorem enum_enc [Enc α] (l : List α) : ((encs l).zipIdx.map fun p => D.tup [.int (p.2 : Nat), p.1]) = encs (l.zipIdx.map fun p => ((p.2 : Nat), p.1)) := by
  rw [encs_map, encs_map, List.zipIdx_map, List.map_map, List.map_map]; rfl
@[simp] theorem zip_tt [Enc α] [Enc β] (l : List α) (m : List β) : zipD (enc l) (enc m) = some (encs (l.zip m)) := congrArg some (zip_enc l m)
@[simp] theorem zip_tl [Enc α] [Enc β] (l : List α) (m : List β) : zipD (enc l) (.lst (encs m)) = some (encs (l.zip m)) := congrArg some (zip_enc l m)
@[simp] theorem zip_lt [Enc α] [Enc β] (l : List α) (m : List β) : zipD (.lst (encs l)) (enc m) = some (encs (l.zip m)) := congrArg some (zip_enc l m)
@[simp] theorem zip_ll [Enc α] [Enc β] (l : List α) (m : List β) : zipD (.lst (encs l)) (.lst (encs m)) = some (encs (l.zip m)) := congrArg some (zip_enc l m)
@[simp] theorem enum_t [Enc α] (l : List α) : enumD (enc l) = some (encs (l.zipIdx.map fun p => ((p.2 : Nat), p.1))) := congrArg some (enum_enc l)
@[simp] theorem enum_l [Enc α] (l : List α) : enumD (.lst (encs l)) = some (encs (l.zipIdx.map fun p => ((p.2 : Nat), p.1))) := congrArg some (enum_enc l)
end
section
variable {glob : Str → Option D} {F : Fs} {s : S}
theorem lcGo_pure {α : Type} {f : D → S → R (Option D)} {s : S} {k : α → D} {h : α → Option D} : ∀ {l : List α} {acc : List D}, (∀ a ∈ l, f (k a) s = .ok (h a) s) → lcGo f (l.map k) acc s = .ok (acc ++ l.filterMap h) s
  | [], acc, _ => by simp [lcGo]
  | a :: l, acc, hb => by
    have e := hb a List.mem_cons_self
    have ih := fun acc => lcGo_pure (f := f) (s := s) (k := k) (h := h) (l := l) (acc := acc) fun b m => hb b (List.mem_cons_of_mem _ m)
    show lcGo f (k a :: l.map k) acc s = _
    unfold lcGo
    rw [e, bind_ok]
    cases q : h a with
    | none => simp only [ih]; rw [List.filterMap_cons_none q]
    | some x => simp only [ih]; rw [List.filterMap_cons_some q]; simp
theorem lcRun_pure {α : Type} {f : D → S → R (Option D)} {ws : List Nat} {s : S} {k : α → D} {h : α → Option D} {l : List α} (hl : l.length ≤ 1048576) (hb : ∀ a ∈ l, f (k a) (s.lock ws) = .ok (h a) (s.lock ws)) :
    lcRun f (l.map k) ws s = .ok (.lst (l.filterMap h)) s := by
  unfold lcRun
  rw [if_neg (by have := sl_le hl; simp; omega), lcGo_pure hb]
  rfl
theorem lc_map {α β : Type} [Enc α] [Enc β] (k : α → β) {f : D → S → R (Option D)} {ws : List Nat} {s : S} {l : List α} (hl : l.length ≤ 1048576) (hb : ∀ a ∈ l, f (enc a) (s.lock ws) = .ok (some (enc (k a))) (s.lock ws)) :
    lcRun f (encs l) ws s = .ok (.lst (encs (l.map k))) s := by
  rw [encs_map, lcRun_pure (h := fun a => some (enc (k a))) hl hb, encs_map]
  simp
theorem lc_fm {α β : Type} [Enc α] [Enc β] (p : α → Bool) (k : α → β) {f : D → S → R (Option D)} {ws : List Nat} {s : S} {l : List α} (hl : l.length ≤ 1048576) (hb : ∀ a ∈ l, f (enc a) (s.lock ws) = .ok (cond (p a) (some (enc (k a))) none) (s.lock ws)) :
    lcRun f (encs l) ws s = .ok (.lst (encs ((l.filter p).map k))) s := by
  rw [encs_map, lcRun_pure (h := fun a => cond (p a) (some (enc (k a))) none) hl hb]
  congr 2
  clear hb hl
  induction l with
  | nil => rfl
  | cons a l ih =>
    cases q : p a with
    | true => rw [List.filterMap_cons_some (b := enc (k a)) (by simp [q]), ih, List.filter_cons_of_pos (by simp [q])]; rfl
    | false => rw [List.filterMap_cons_none (by simp [q]), ih, List.filter_cons_of_neg (by simp [q])]
theorem lc_filter {α : Type} [Enc α] (p : α → Bool) {f : D → S → R (Option D)} {ws : List Nat} {s : S} {l : List α} (hl : l.length ≤ 1048576) (hb : ∀ a ∈ l, f (enc a) (s.lock ws) = .ok (cond (p a) (some (enc a)) none) (s.lock ws)) :
    lcRun f (encs l) ws s = .ok (.lst (encs (l.filter p))) s := by
  rw [lc_fm (β := α) p id hl hb]
  simp
end

@[simp] theorem lock_eq (r : List Sl) (g : List (List D)) (ws : List Nat) : S.lock ⟨r, g⟩ ws = ⟨ws.foldl (fun r i => r.set i .no) (r.map lockS), g⟩ := id rfl
@[simp] theorem lockS_val (d : D) : lockS (.val d) = .val d := id rfl
@[simp] theorem lockS_no : lockS .no = .no := id rfl
@[simp] theorem lockS_oL (l : List D) : lockS (.oL l) = .pL l := id rfl
@[simp] theorem lockS_oD (l : List (D × D)) : lockS (.oD l) = .pD l := id rfl
@[simp] theorem setT_v (i : Nat) (d : D) (r : List Sl) : setT (.v i) d r = if i < r.length then some (r.set i (.val d)) else none := id rfl
@[simp] theorem setT_t (l : List Tg) (ds : List D) (r : List Sl) : setT (.t l) (.tup ds) r = setTs l ds r := id rfl
@[simp] theorem setTs_nil (r : List Sl) : setTs [] [] r = some r := id rfl
@[simp] theorem setTs_cons (t : Tg) (ts : List Tg) (d : D) (ds : List D) (r : List Sl) : setTs (t :: ts) (d :: ds) r = (setT t d r).bind (setTs ts ds) := id rfl
theorem rng_i {j : Int} (h0 : -1000000 ≤ j) (h : j ≤ 1048576) : rngD (.int j) = some (encs (List.range j.toNat)) := by
  show (if -(2 ^ 62) ≤ j ∧ j < 2 ^ 62 then some ((List.range j.toNat).map fun k => D.int (k : Nat)) else none) = _
  rw [if_pos ⟨by have : (2 : Int) ^ 62 = 4611686018427387904 := by decide
                 omega, by have : (2 : Int) ^ 62 = 4611686018427387904 := by decide
                           omega⟩]
  rfl
theorem rng_n {n : Nat} (h : n ≤ 1048576) : rngD (.int n) = some (encs (List.range n)) := rng_i (by omega) (by omega)
/-! slices, places -/
def cutA {α : Type} (l : List α) (lo hi : Option Int) : List α := (l.drop (HT.sIx l.length 0 lo)).take (HT.sIx l.length l.length hi - HT.sIx l.length 0 lo)
theorem cutD_map {α : Type} (f : α → D) (l : List α) (lo hi : Option Int) : cutD (l.map f) lo hi = (cutA l lo hi).map f := by
  unfold cutD cutA
  simp [List.map_take, List.map_drop]
@[simp] theorem cut_from {α : Type} (l : List α) (k : Nat) : cutA l (some (k : Int)) none = l.drop k := by
  unfold cutA
  rw [HT.sIx_nat, HT.sIx_none, List.take_of_length_le (by simp)]
  by_cases h : k ≤ l.length
  · rw [Nat.min_eq_left h]
  · rw [Nat.min_eq_right (by omega), List.drop_length, List.drop_of_length_le (by omega)]
@[simp] theorem cut_to {α : Type} (l : List α) (k : Nat) : cutA l none (some (k : Int)) = l.take k := by
  unfold cutA
  rw [HT.sIx_nat, HT.sIx_none, Nat.sub_zero, List.drop_zero]
  by_cases h : k ≤ l.length
  · rw [Nat.min_eq_left h]
  · rw [Nat.min_eq_right (by omega), List.take_of_length_le (by omega), List.take_of_length_le (by omega)]
@[simp] theorem cut_1 {α : Type} (l : List α) : cutA l (some 1) none = l.tail := (cut_from l 1).trans (by simp)
theorem sIx_m1 (n d : Nat) : HT.sIx n d (some (-1)) = n - 1 := by
  show (if (-1 : Int) < 0 then ((-1 : Int) + (n : Int)).toNat else min (-1 : Int).toNat n) = _
  rw [if_pos (by decide)]
  omega
@[simp] theorem cut_neg1 {α : Type} (l : List α) : cutA l none (some (-1)) = l.dropLast := by
  unfold cutA
  rw [sIx_m1, HT.sIx_none, List.drop_zero, List.dropLast_eq_take, Nat.sub_zero]
@[simp] theorem sl_t {α : Type} [Enc α] (l : List α) (lo hi : Option Int) : evSl (enc l) lo hi = some (enc (cutA l lo hi)) := by
  show some (D.tup (cutD (encs l) lo hi)) = _
  rw [encs_map, cutD_map]; rfl
@[simp] theorem sl_l {α : Type} [Enc α] (l : List α) (lo hi : Option Int) : evSl (.lst (encs l)) lo hi = some (.lst (encs (cutA l lo hi))) := by
  show some (D.lst (cutD (encs l) lo hi)) = _
  rw [encs_map, cutD_map, encs_map]
theorem atI_map {α β : Type} (f : α → β) (l : List α) (i : Int) : atI (l.map f) i = (atI l i).map f := by
  unfold atI
  rw [List.length_map]
  cases h : ixN l.length i <;> simp
theorem atI_nat' {α : Type} (l : List α) (k : Nat) : atI l (k : Int) = l[k]? := by
  cases h : l[k]? with
  | some v => exact atI_nat h
  | none =>
    cases q : atI l (k : Int) with
    | none => rfl
    | some v =>
      obtain ⟨j, h1, h2, h3, h4, h5⟩ := atI_get q
      rw [List.getElem?_eq_none_iff] at h
      omega
@[simp] theorem ix_t {α : Type} [Enc α] (l : List α) (i : Int) : evIx (enc l) (.int i) = (atI l i).map enc := by
  show atI (encs l) i = _
  exact atI_map _ _ _
@[simp] theorem ix_l {α : Type} [Enc α] (l : List α) (i : Int) : evIx (.lst (encs l)) (.int i) = (atI l i).map enc := by
  show atI (encs l) i = _
  exact atI_map _ _ _
@[simp] theorem ixG_t {α : Type} [Enc α] (l : List α) (y : D) (s : S) : ixG (enc l) y s = R.of (evIx (enc l) y) s := id rfl
@[simp] theorem ixG_p {α β : Type} [Enc α] [Enc β] (l : α × β) (y : D) (s : S) : ixG (enc l) y s = R.of (evIx (enc l) y) s := id rfl
@[simp] theorem ixG_l (l : List D) (y : D) (s : S) : ixG (.lst l) y s = R.of (evIx (.lst l) y) s := id rfl
@[simp] theorem ixG_tt (l : List D) (y : D) (s : S) : ixG (.tup l) y s = R.of (evIx (.tup l) y) s := id rfl
@[simp] theorem rev_t {α : Type} [Enc α] (l : List α) : evRev (enc l) = some (enc l.reverse) := by
  show some (D.tup (encs l).reverse) = _
  rw [encs_map, ← List.map_reverse]; rfl
@[simp] theorem rev_l {α : Type} [Enc α] (l : List α) : evRev (.lst (encs l)) = some (.lst (encs l.reverse)) := by
  show some (D.lst (encs l).reverse) = _
  rw [encs_map, ← List.map_reverse, encs_map]
/-! sums of lists -/
theorem add_t {α : Type} [Enc α] (l m : List α) (h : l.length + m.length ≤ 1048576) : evO .add (enc l) (enc m) = some (enc (l ++ m)) := by
  show (if (encs l).length + (encs m).length ≤ sizeLine then some (D.tup (encs l ++ encs m)) else none) = _
  rw [if_pos (by simpa using sl_le h), ← encs_append]; rfl
theorem add_t1 {α : Type} [Enc α] (l : List α) (a : α) (h : l.length + 1 ≤ 1048576) : evO .add (enc l) (.tup [enc a]) = some (enc (l ++ [a])) := add_t l [a] h
theorem add_1t {α : Type} [Enc α] (l : List α) (a : α) (h : l.length + 1 ≤ 1048576) : evO .add (.tup [enc a]) (enc l) = some (enc (a :: l)) := add_t [a] l (by simpa [Nat.add_comm] using h)
theorem add_l {α : Type} [Enc α] (l m : List α) (h : l.length + m.length ≤ 1048576) : evO .add (.lst (encs l)) (.lst (encs m)) = some (.lst (encs (l ++ m))) := by
  show (if (encs l).length + (encs m).length ≤ sizeLine then some (D.lst (encs l ++ encs m)) else none) = _
  rw [if_pos (by simpa using sl_le h), ← encs_append]
theorem add_1l {α : Type} [Enc α] (l : List α) (a : α) (h : l.length + 1 ≤ 1048576) : evO .add (.lst [enc a]) (.lst (encs l)) = some (.lst (encs (a :: l))) := add_l [a] l (by simpa [Nat.add_comm] using h)
theorem add_l1 {α : Type} [Enc α] (l : List α) (a : α) (h : l.length + 1 ≤ 1048576) : evO .add (.lst (encs l)) (.lst [enc a]) = some (.lst (encs (l ++ [a]))) := add_l l [a] h
theorem add_nl {α : Type} [Enc α] (l : List (List α)) (h : l.length + 1 ≤ 1048576) : evO .add (.lst [.tup []]) (.lst (encs l)) = some (.lst (encs ([] :: l))) := add_1l l [] h
theorem add_st (l : List Str) (a : Str) (h : l.length + 1 ≤ 1048576) : evO .add (.tup [.str a]) (enc l) = some (enc (a :: l)) := add_1t l a h
theorem add_ts (l : List Str) (a : Str) (h : l.length + 1 ≤ 1048576) : evO .add (enc l) (.tup [.str a]) = some (enc (l ++ [a])) := add_t1 l a h
/-! loops -/
theorem for_inv {α τ : Type} [Enc α] {f : D → S → R Fl} (I : τ → S → Prop) (step : τ → α → τ) : ∀ {l : List α} {t : τ} {s : S}, (∀ a ∈ l, ∀ t s, I t s → ∃ s', f (enc a) s = .ok .nx s' ∧ I (step t a) s') → I t s → ∃ s', forGo f (encs l) s = .ok .nx s' ∧ I (l.foldl step t) s'
  | [], t, s, _, hi => ⟨s, rfl, hi⟩
  | a :: l, t, s, hb, hi => by
    obtain ⟨s1, e1, h1⟩ := hb a List.mem_cons_self t s hi
    obtain ⟨s2, e2, h2⟩ := for_inv (f := f) I step (l := l) (fun b m => hb b (List.mem_cons_of_mem _ m)) h1
    refine ⟨s2, ?_, h2⟩
    rw [encs_cons]
    unfold forGo
    rw [e1, bind_ok]
    exact e2
/-- .. said of what was walked so far -/
theorem for_pre {α : Type} [Enc α] {f : D → S → R Fl} (I : List α → S → Prop) {l : List α} {s : S} (hb : ∀ (done : List α) (a : α) (rest : List α), l = done ++ a :: rest → ∀ s, I done s → ∃ s', f (enc a) s = .ok .nx s' ∧ I (done ++ [a]) s') (hi : I [] s) : ∃ s', forGo f (encs l) s = .ok .nx s' ∧ I l s' := by
  have key : ∀ (rest done : List α) (s : S), l = done ++ rest → I done s → ∃ s', forGo f (encs rest) s = .ok .nx s' ∧ I l s' := fun rest => by
    induction rest with
    | nil => intro done s e h; rw [List.append_nil] at e; exact ⟨s, rfl, e ▸ h⟩
    | cons a rest ih =>
      intro done s e h
      obtain ⟨s1, e1, h1⟩ := hb done a rest e s h
      obtain ⟨s2, e2, h2⟩ := ih (done ++ [a]) s1 (by rw [e]; simp) h1
      refine ⟨s2, ?_, h2⟩
      rw [encs_cons]
      unfold forGo
      rw [e1, bind_ok]
      exact e2
  exact key l [] s rfl hi
/-- a loop whose turns keep I -/
theorem for_all {α : Type} [Enc α] {f : D → S → R Fl} (I : S → Prop) {l : List α} {s : S} (hb : ∀ a ∈ l, ∀ s, I s → ∃ s', f (enc a) s = .ok .nx s' ∧ I s') (hi : I s) : ∃ s', forGo f (encs l) s = .ok .nx s' ∧ I s' :=
  for_inv (fun (_ : Unit) s => I s) (fun _ _ => ()) (fun a m _ s h => hb a m s h) (t := ()) hi
/-- .. that may return -/
theorem for_find {α : Type} [Enc α] {f : D → S → R Fl} (I : S → Prop) (p : α → Option D) : ∀ {l : List α} {s : S}, (∀ a ∈ l, ∀ s, I s → ∃ s', f (enc a) s = .ok (match p a with | some d => .ret d | none => .nx) s' ∧ I s') → I s →
    ∃ s', forGo f (encs l) s = .ok (match l.findSome? p with | some d => .ret d | none => .nx) s' ∧ I s'
  | [], s, _, hi => ⟨s, rfl, hi⟩
  | a :: l, s, hb, hi => by
    obtain ⟨s1, e1, h1⟩ := hb a List.mem_cons_self s hi
    rw [encs_cons]
    unfold forGo
    rw [e1, bind_ok, List.findSome?_cons]
    cases q : p a with
    | some d => exact ⟨s1, by simp, h1⟩
    | none => exact for_find I p (fun b m => hb b (List.mem_cons_of_mem _ m)) h1
/-! .. as steps of a proof: Q is the goal -/
theorem for_k {α β : Type} [Enc α] {f : D → S → R Fl} {l : List α} {s : S} {k : Fl → S → R β} (Q : R β → Prop) (I : List α → S → Prop) (hb : ∀ (done : List α) (a : α) (rest : List α), l = done ++ a :: rest → ∀ s, I done s → ∃ s', f (enc a) s = .ok .nx s' ∧ I (done ++ [a]) s') (hi : I [] s) (h : ∀ s', I l s' → Q (k .nx s')) : Q ((forGo f (encs l) s).bind k) := by
  obtain ⟨s', e, h'⟩ := for_pre I hb hi
  rw [e]
  exact h s' h'
theorem all_k {α β : Type} [Enc α] {f : D → S → R Fl} {l : List α} {s : S} {k : Fl → S → R β} (Q : R β → Prop) (I : S → Prop) (hb : ∀ a ∈ l, ∀ s, I s → ∃ s', f (enc a) s = .ok .nx s' ∧ I s') (hi : I s) (h : ∀ s', I s' → Q (k .nx s')) : Q ((forGo f (encs l) s).bind k) := by
  obtain ⟨s', e, h'⟩ := for_all I hb hi
  rw [e]
  exact h s' h'
theorem find_k {α β : Type} [Enc α] {f : D → S → R Fl} {l : List α} {s : S} {k : Fl → S → R β} (Q : R β → Prop) (I : S → Prop) (p : α → Option D) (hb : ∀ a ∈ l, ∀ s, I s → ∃ s', f (enc a) s = .ok (match p a with | some d => .ret d | none => .nx) s' ∧ I s') (hi : I s)
    (h : ∀ s', I s' → Q (k (match l.findSome? p with | some d => .ret d | none => .nx) s')) : Q ((forGo f (encs l) s).bind k) := by
  obtain ⟨s', e, h'⟩ := for_find I p hb hi
  rw [e]
  exact h s' h'
/-- it goes on, and I holds -/
def Nx (I : S → Prop) (z : R Fl) : Prop := ∃ s', z = .ok .nx s' ∧ I s'
theorem Nx.mk {I : S → Prop} {s : S} (h : I s) : Nx I (.ok .nx s) := ⟨s, rfl, h⟩
/-- it ends with True -/
def Tr (s : S) (z : R D) : Prop := ∃ g', z = .ok (.bl true) ⟨s.r, g'⟩
theorem Tr.mk {s : S} {g} : Tr s (.ok (.bl true) ⟨s.r, g⟩) := ⟨g, rfl⟩
/-- a loop whose turns keep I -/
theorem all_n {α β : Type} [Enc α] {f : D → S → R Fl} {l : List α} {s : S} {k : Fl → S → R β} (Q : R β → Prop) (I : S → Prop) (hb : ∀ a ∈ l, ∀ s, I s → Nx I (f (enc a) s)) (hi : I s) (h : ∀ s', I s' → Q (k .nx s')) : Q ((forGo f (encs l) s).bind k) := all_k Q I hb hi h
theorem all_nx {α : Type} [Enc α] {f : D → S → R Fl} {l : List α} {s : S} {I' : S → Prop} (I : S → Prop) (hb : ∀ a ∈ l, ∀ s, I s → Nx I (f (enc a) s)) (hi : I s) (h : ∀ s', I s' → I' s') : Nx I' (forGo f (encs l) s) := by
  obtain ⟨s', e, h'⟩ := for_all I hb hi
  exact ⟨s', e, h s' h'⟩
instance : DecidablePred (Enc.bd : Str → Prop) := fun x => inferInstanceAs (Decidable (x.length ≤ 1048576))
instance {α : Type} [Enc α] [DecidablePred (Enc.bd : α → Prop)] : DecidablePred (Enc.bd : List α → Prop) := fun l => inferInstanceAs (Decidable (l.length ≤ 1048576 ∧ ∀ a ∈ l, bd a))
instance {α β : Type} [Enc α] [Enc β] [DecidablePred (Enc.bd : α → Prop)] [DecidablePred (Enc.bd : β → Prop)] : DecidablePred (Enc.bd : α × β → Prop) := fun q => inferInstanceAs (Decidable (bd q.1 ∧ bd q.2))
theorem good_of {p : Pgm} {n i : Nat} {ds : List D} {g : List (List D)} (h : Tr ⟨[], g⟩ (call (Ev p n) i ds ⟨[], g⟩)) : ∃ s, run p.glob p.tbl n i ds ⟨[], g⟩ = .ok (.bl true) s := by
  obtain ⟨g', e⟩ := h
  unfold call Ev at e
  generalize run p.glob p.tbl n i ds { r := [], g := g } = z at *
  cases z with
  | ok a s => cases e; exact ⟨s, rfl⟩
  | exc x s => cases e
  | bad => cases e
/-! a loop over a written list -/
def kFg (f : D → S → R Fl) (l : List D) : Fl → S → R Fl
  | .nx, s => forGo f l s
  | .ret d, s => .ok (.ret d) s
@[simp] theorem kFg_nx (f : D → S → R Fl) (l : List D) (s : S) : kFg f l .nx s = forGo f l s := id rfl
@[simp] theorem kFg_ret (f : D → S → R Fl) (l : List D) (d : D) (s : S) : kFg f l (.ret d) s = .ok (.ret d) s := id rfl
theorem forGo_nil (f : D → S → R Fl) (s : S) : forGo f [] s = .ok .nx s := rfl
theorem forGo_cons (f : D → S → R Fl) (d : D) (l : List D) (s : S) : forGo f (d :: l) s = (f d s).bind (kFg f l) := by
  conv => lhs; unfold forGo
  cases f d s with
  | ok a s => cases a <;> rfl
  | _ => rfl
/-- the tail of a body -/
@[simp] theorem bind_kS_nil {glob : Str → Option D} {F : Fs} (z : R Fl) : z.bind (kS glob F []) = z := by
  cases z with
  | ok a s => cases a <;> simp
  | _ => rfl
end TD.P

-- MC
set_option maxHeartbeats 1000000
/-! mirrors: sets, filters -/
namespace TD.P
open PySem PySem.Spec PyProof.Rows L2
open Enc
abbrev St := List Str
abbrev Tm := St × St
abbrev Ft := List Tm
/-- strictly ascending -/
def rising {α : Type} [Enc α] (l : List α) : Bool := (l.zip l.tail).all fun q => ltE q.1 q.2
def strIn (x y : Str) : Bool := !(Builtin.Str.occurrences y x 0 y.length 1).isEmpty
def chars (z : Str) : List Str := z.cps.toList.map fun c => ⟨#[c]⟩
@[simp] theorem o_in_ss (x y : Str) : evO .isin (.str x) (.str y) = some (.bl (strIn x y)) := by unfold evO; rfl
@[simp] theorem w_str (z : Str) : walkD (.str z) = some (encs (chars z)) := by
  show some (z.cps.toList.map fun c => D.str ⟨#[c]⟩) = _
  rw [encs_map]; unfold chars; rw [List.map_map]; rfl
@[simp] theorem chars_len (z : Str) : (chars z).length = z.length := by unfold chars; simp; rfl
theorem f_len_s (x : Str) (h : x.length ≤ 1048576) : evF .len (.str x) = some (.int x.length) := by
  show (if x.length ≤ sizeLine then some (D.int x.length) else none) = _
  rw [if_pos (sl_le h)]
def LETTERS : Str := "abcdefghijklmnopqrstuvwxyz"
def WORDS : List Str := ["and", "nothing", "or", "then", "to", "where"]
theorem c_LETTERS_eq : c_LETTERS = .str LETTERS := rfl
theorem c_WORDS_eq : c_WORDS = enc WORDS := rfl
def isName (w : Str) : Bool := (decide ((1 : Int) ≤ w.length) && decide ((w.length : Int) ≤ 8)) && (chars w).all fun c => strIn c LETTERS
def isTags (t : List Str) : Bool := decide ((1 : Int) ≤ t.length) && decide ((t.length : Int) ≤ 4) && ((t.all fun w => isName w && !hasB WORDS w) && rising t)
def isSome' (tags s : St) : Bool := (s.all fun x => hasB tags x) && rising s
def areSets (tags : St) (l : List St) : Bool := decide ((l.length : Int) ≤ 20) && l.all (isSome' tags)
def isTerm (tags : St) (t : Tm) : Bool := (isSome' tags t.1 && isSome' tags t.2) && t.1.all fun x => !hasB t.2 x
def isGood (tags : St) (f : Ft) : Bool := !decide (16 < (f.length : Int)) && (f.all (isTerm tags) && rising f)
def termFinds (t : Tm) (s : St) : Bool := t.1.all (fun x => hasB s x) && t.2.all (fun x => !hasB s x)
def findsF (f : Ft) (s : St) : Bool := f.any fun t => termFinds t s
/-- all sets, in ascending order -/
def allSets (tags : St) : List St := tags.foldr (fun tag found => [] :: (found.map (tag :: ·) ++ found.tail)) [[]]
def matchedF (tags : St) (f : Ft) : List St := (allSets tags).filter (findsF f)
theorem isDic_enc {α : Type} [Enc α] (l : List α) : isDicD (enc l) = false := rfl
theorem isTup_enc {α : Type} [Enc α] (l : List α) : isTy .tup (enc l) = true := rfl
section
variable {p : Pgm} {n : Nat} {s : S}
theorem term_finds_ok [H_term_finds p] (t : Tm) (x : St) (h : bd t) : call (Ev p (n + 1)) i_term_finds [enc t, enc x] s = .ok (.bl (termFinds t x)) s := by
  rw [call_term_finds]
  simp [b_term_finds, lc_map (fun y => hasB x y) (l := t.1) h.1.1, lc_map (fun y => !hasB x y) (l := t.2) h.2.1]
  rfl
theorem finds_ok [H_finds p] (f : Ft) (x : St) (h : bd f) : call (Ev p (n + 2)) i_finds [enc f, enc x] s = .ok (.bl (findsF f x)) s := by
  rw [call_finds]
  have h2 := h.2
  simp [b_finds]
  rw [lc_map (fun t => termFinds t x) h.1]; rotate_left
  · intro t ht; simp [term_finds_ok, h2 t ht]
  simp
  rfl
theorem rising_ok {α : Type} [OEnc α] [H_rising p] (l : List α) (h : l.length ≤ 1048576) (hd : dp α ≤ 40) : call (Ev p (n + 1)) i_rising [enc l] s = .ok (.bl (rising l)) s := by
  rw [call_rising]
  have h3 : (l.zip l.tail).length ≤ 1048576 := by simp; omega
  simp [b_rising, lc_map (fun q : α × α => ltE q.1 q.2) (l := l.zip l.tail) h3, hd]
  rfl
theorem is_name_ok [H_is_name p] (w : Str) (h : w.length ≤ 1048576) : call (Ev p (n + 1)) i_is_name [.str w] s = .ok (.bl (isName w)) s := by
  rw [call_is_name]
  simp [b_is_name, lc_map (fun c => strIn c LETTERS) (l := chars w) (by simpa using h), f_len_s, h, K_LETTERS.k_LETTERS, isDicD, isTy, c_LETTERS_eq]
  rfl
theorem is_tags_ok [H_is_tags p] (t : List Str) (h : bd t) : call (Ev p (n + 2)) i_is_tags [enc t] s = .ok (.bl (isTags t)) s := by
  rw [call_is_tags]
  have h2 : ∀ w ∈ t, w.length ≤ 1048576 := h.2
  simp [b_is_tags, isDic_enc, isTup_enc, K_MOST_TAGS.k_MOST_TAGS, c_MOST_TAGS]
  rw [lc_map (fun w => isName w && !hasB WORDS w) h.1]; rotate_left
  · intro w hw; simp [is_name_ok, h2 w hw, K_WORDS.k_WORDS, c_WORDS_eq]
  simp [rising_ok t h.1]
  rfl

theorem is_tag_ok [H_is_tag p] (tags : St) (w : Str) : call (Ev p (n + 1)) i_is_tag [enc tags, .str w] s = .ok (.bl (hasB tags w)) s := by
  rw [call_is_tag]
  simp [b_is_tag, isDicD, isTy]
theorem is_some_ok [H_is_some p] (tags x : St) (h : bd x) : call (Ev p (n + 2)) i_is_some [enc tags, enc x] s = .ok (.bl (isSome' tags x)) s := by
  rw [call_is_some]
  simp [b_is_some, isDic_enc, isTup_enc]
  rw [lc_map (fun w => hasB tags w) h.1]; rotate_left
  · intro w hw; simp [is_tag_ok]
  simp [rising_ok x h.1]
  rfl
theorem are_sets_ok [H_are_sets p] (tags : St) (x : List St) (h : bd x) : call (Ev p (n + 3)) i_are_sets [enc tags, enc x] s = .ok (.bl (areSets tags x)) s := by
  rw [call_are_sets]
  have h2 := h.2
  simp [b_are_sets, isDic_enc, isTup_enc, K_MOST_THINGS.k_MOST_THINGS, c_MOST_THINGS]
  rw [lc_map (fun w => isSome' tags w) h.1]; rotate_left
  · intro w hw; simp [is_some_ok, h2 w hw]
  simp
  rfl
theorem need_tags_ok [H_need_tags p] (t : List Str) (h : bd t) (ht : isTags t = true) : call (Ev p (n + 3)) i_need_tags [enc t] s = .ok .non s := by
  rw [call_need_tags]
  simp [b_need_tags, is_tags_ok t h, ht]
theorem need_sets_ok [H_need_sets p] (tags : St) (x : List St) (h : bd x) (ht : areSets tags x = true) : call (Ev p (n + 4)) i_need_sets [enc tags, enc x] s = .ok .non s := by
  rw [call_need_sets]
  simp [b_need_sets, are_sets_ok tags x h, ht]
theorem is_term_ok [H_is_term p] (tags : St) (t : Tm) (h : bd t) : call (Ev p (n + 3)) i_is_term [enc tags, enc t] s = .ok (.bl (isTerm tags t)) s := by
  rw [call_is_term]
  obtain ⟨h1, h2⟩ := h
  simp [b_is_term, show isDicD (enc t) = false from rfl, show isTy .tup (enc t) = true from rfl]
  rw [lc_map (fun w => isSome' tags w) (by simp)]; rotate_left
  · intro w hw
    have : bd w := by simp at hw; rcases hw with rfl | rfl <;> assumption
    simp [is_some_ok, this]
  simp
  rw [lc_map (fun w => !hasB t.2 w) h1.1]; rotate_left
  · intro w hw; simp
  simp
  rfl
theorem is_good_ok [H_is_good p] (tags : St) (f : Ft) (h : bd f) : call (Ev p (n + 4)) i_is_good [enc tags, enc f] s = .ok (.bl (isGood tags f)) s := by
  rw [call_is_good]
  have h2 := h.2
  simp [b_is_good, isDic_enc, isTup_enc, K_MOST_TERMS.k_MOST_TERMS, c_MOST_TERMS]
  rw [lc_map (fun w => isTerm tags w) h.1]; rotate_left
  · intro w hw; simp [is_term_ok, h2 w hw]
  simp [rising_ok f h.1]
  rfl
theorem need_filter_ok [H_need_filter p] (tags : St) (f : Ft) (h : bd f) (hf : isGood tags f = true) : call (Ev p (n + 5)) i_need_filter [enc tags, enc f] s = .ok .non s := by
  rw [call_need_filter]
  simp [b_need_filter, is_good_ok tags f h, hf]
/-- not too many sets -/
theorem allSets_len : ∀ (l : St), (allSets l).length = 2 ^ l.length
  | [] => rfl
  | a :: l => by
    have ih := allSets_len l
    show ([] :: ((allSets l).map (a :: ·) ++ (allSets l).tail)).length = _
    have : 0 < 2 ^ l.length := Nat.two_pow_pos _
    simp [ih, Nat.pow_succ]; omega
theorem allSets_le {l : St} (h : l.length ≤ 16) : (allSets l).length ≤ 65536 := by
  rw [allSets_len]
  exact Nat.pow_le_pow_right (n := 2) (by decide) h
theorem matchedF_le {l : St} (f : Ft) (h : l.length ≤ 16) : (matchedF l f).length ≤ 65536 := Nat.le_trans (List.length_filter_le _ _) (allSets_le h)
theorem allSets_mem_len : ∀ (l w : St), w ∈ allSets l → w.length ≤ l.length
  | [], w, h => by simp [allSets] at h; simp [h]
  | a :: l, w, h => by
    have ih := allSets_mem_len l
    have h : w ∈ [] :: ((allSets l).map (a :: ·) ++ (allSets l).tail) := h
    simp only [List.mem_cons, List.mem_append, List.mem_map] at h
    rcases h with rfl | ⟨v, hv, rfl⟩ | h
    · simp
    · have := ih v hv; simp; omega
    · have := ih w (List.mem_of_mem_tail h); simp; omega
theorem all_sets_ok [H_all_sets p] (t : List Str) (h : t.length ≤ 16) : call (Ev p (n + 1)) i_all_sets [enc t] s = .ok (.lst (encs (allSets t))) s := by
  rw [call_all_sets]
  simp [b_all_sets]
  refine for_k (fun z => fin s z = _) (fun done s' => ∃ x2, s' = ⟨[Sl.val (enc t), Sl.val (D.lst (encs (allSets done.reverse))), x2, Sl.no], s.g⟩) ?_ ⟨_, rfl⟩ ?_
  · rintro done a rest e _ ⟨x2, rfl⟩
    have hl := congrArg List.length e
    have hlen : (allSets done.reverse).length ≤ 65536 := allSets_le (by simp at hl ⊢; omega)
    refine ⟨⟨[Sl.val (enc t), Sl.val (D.lst (encs (allSets (a :: done.reverse)))), Sl.val (enc a), Sl.no], s.g⟩, ?_, Sl.val (enc a), by simp⟩
    simp
    rw [lc_map (fun x => a :: x) (by omega)]; rotate_left
    · intro w hw
      have := allSets_mem_len _ w hw
      simp at hl this
      simp [add_st w a (by omega)]
    simp [add_nl _ (show (List.map (fun x => a :: x) (allSets done.reverse)).length + 1 ≤ 1048576 by simp; omega)]
    rw [add_l _ _ (by simp; omega)]
    simp
    rfl
  · rintro _ ⟨x2, rfl⟩
    simp
theorem matched_ok [H_matched p] (t : St) (f : Ft) (h : t.length ≤ 16) (hf : bd f) : call (Ev p (n + 3)) i_matched [enc t, enc f] s = .ok (.lst (encs (matchedF t f))) s := by
  rw [call_matched]
  simp [b_matched, all_sets_ok t h]
  rw [lc_filter (findsF f) (by have := allSets_le h; omega)]; rotate_left
  · intro w hw; simp [finds_ok f w hf]
  simp
  rfl
def numbersF (f : Ft) (st : List St) : List Nat := ((st.zipIdx.map fun q => (q.2, q.1)).filter fun q => findsF f q.2).map (·.1)
theorem numbers_found_ok [H_numbers_found p] (f : Ft) (st : List St) (hf : bd f) (hs : st.length ≤ 1048576) : call (Ev p (n + 3)) i_numbers_found [enc f, enc st] s = .ok (.lst (encs (numbersF f st))) s := by
  rw [call_numbers_found]
  simp [b_numbers_found]
  rw [lc_fm (fun q : Nat × St => findsF f q.2) (fun q => q.1) (by simpa using hs)]; rotate_left
  · intro w hw; simp [finds_ok f w.2 hf]
  simp
  rfl
theorem find_ok [H_find p] (t : St) (f : Ft) (st : List St) (h1 : bd t) (h2 : bd f) (h3 : bd st) (k1 : isTags t = true) (k2 : isGood t f = true) (k3 : areSets t st = true) : call (Ev p (n + 6)) i_find [enc t, enc f, enc st] s = .ok (.lst (encs (numbersF f st))) s := by
  rw [call_find]
  simp [b_find, need_tags_ok t h1 k1, need_filter_ok t f h2 k2, need_sets_ok t st h3 k3, numbers_found_ok f st h2 h3.1]
theorem tags_len {t : St} (h : isTags t = true) : t.length ≤ 16 := by
  simp [isTags] at h
  omega
theorem matching_ok [H_matching p] (t : St) (f : Ft) (h1 : bd t) (h2 : bd f) (k1 : isTags t = true) (k2 : isGood t f = true) : call (Ev p (n + 6)) i_matching [enc t, enc f] s = .ok (.lst (encs (matchedF t f))) s := by
  rw [call_matching]
  simp [b_matching, need_tags_ok t h1 k1, need_filter_ok t f h2 k2, matched_ok t f (tags_len k1) h2]
theorem need_both_ok [H_need_both p] (t : St) (f g : Ft) (h1 : bd t) (h2 : bd f) (h3 : bd g) (k1 : isTags t = true) (k2 : isGood t f = true) (k3 : isGood t g = true) : call (Ev p (n + 6)) i_need_both [enc t, enc f, enc g] s = .ok .non s := by
  rw [call_need_both]
  simp [b_need_both, need_tags_ok t h1 k1, need_filter_ok t f h2 k2, need_filter_ok t g h3 k3]
theorem same_filter_ok [H_same_filter p] (t : St) (f g : Ft) (h1 : bd t) (h2 : bd f) (h3 : bd g) (k1 : isTags t = true) (k2 : isGood t f = true) (k3 : isGood t g = true) : call (Ev p (n + 7)) i_same_filter [enc t, enc f, enc g] s = .ok (.bl (decide (matchedF t f = matchedF t g))) s := by
  rw [call_same_filter]
  simp [b_same_filter, need_both_ok t f g h1 h2 h3 k1 k2 k3, matched_ok t f (tags_len k1) h2, matched_ok t g (tags_len k1) h3]
theorem filter_within_ok [H_filter_within p] (t : St) (f g : Ft) (h1 : bd t) (h2 : bd f) (h3 : bd g) (k1 : isTags t = true) (k2 : isGood t f = true) (k3 : isGood t g = true) : call (Ev p (n + 7)) i_filter_within [enc t, enc f, enc g] s = .ok (.bl ((matchedF t f).all (findsF g))) s := by
  rw [call_filter_within]
  simp [b_filter_within, need_both_ok t f g h1 h2 h3 k1 k2 k3, matched_ok t f (tags_len k1) h2]
  rw [lc_map (findsF g) (by have := matchedF_le f (tags_len k1); omega)]; rotate_left
  · intro w hw; simp [finds_ok g w h3]
  simp
end
end TD.P

-- MS
set_option maxHeartbeats 1000000
/-! the order of typed data -/
namespace TD.P
open PySem PySem.Spec PyProof.Rows L2
open Enc
section
variable {α β : Type}
theorem ltE_irrefl [Enc α] (a : α) : ltE a a = false := PyProof.Rows.lex_irrefl _
theorem ltE_trans [Enc α] {a b c : α} (h1 : ltE a b = true) (h2 : ltE b c = true) : ltE a c = true := PyProof.Rows.lex_trans _ _ _ h1 h2
theorem ltE_asymm [Enc α] {a b : α} (h1 : ltE a b = true) : ltE b a = false := by
  cases h : ltE b a with
  | false => rfl
  | true => exact absurd (ltE_trans h1 h) (by rw [ltE_irrefl]; decide)
theorem ltE_total [OEnc α] {a b : α} (h1 : ltE a b = false) (h2 : ltE b a = false) : a = b :=
  (inj a b).mp (by
    have e := lt_no (fl_ a (dp α) (Nat.le_refl _)) (fl_ b (dp α) (Nat.le_refl _)) (OEnc.alk_ a b) h1 h2
    rw [e]
    exact (inj b b).mpr rfl)
theorem ltE_neg [Enc α] {a b c : α} (h : ltE a c = true) : ltE a b = true ∨ ltE b c = true := PyProof.Rows.lex_negTrans _ _ _ h
def leE [Enc α] (a b : α) : Bool := !ltE b a
theorem leE_trans [Enc α] (a b c : α) (h1 : leE a b = true) (h2 : leE b c = true) : leE a c = true := by
  unfold leE at *
  simp only [Bool.not_eq_true'] at *
  cases h : ltE c a with
  | false => rfl
  | true => rcases ltE_neg (b := b) h with z | z <;> simp_all
theorem leE_tot [Enc α] (a b : α) : (leE a b || leE b a) = true := by
  unfold leE
  cases h : ltE b a with
  | false => rfl
  | true => rw [ltE_asymm h]; rfl
def sortE [Enc α] (l : List α) : List α := l.mergeSort leE
theorem sortE_perm [Enc α] (l : List α) : (sortE l).Perm l := List.mergeSort_perm _ _
theorem mem_sortE [Enc α] {l : List α} {a : α} : a ∈ sortE l ↔ a ∈ l := (sortE_perm l).mem_iff
@[simp] theorem sortE_len [Enc α] (l : List α) : (sortE l).length = l.length := (sortE_perm l).length_eq
/-- ascending -/
abbrev Asc [Enc α] (l : List α) : Prop := l.Pairwise fun a b => ltE a b = true
theorem sortE_asc [OEnc α] {l : List α} (h : l.Nodup) : Asc (sortE l) := by
  have h1 := List.pairwise_mergeSort (le := leE) leE_trans leE_tot l
  have h2 : (sortE l).Nodup := (sortE_perm l).nodup_iff.mpr h
  refine (h1.and h2).imp fun {a b} ⟨x, y⟩ => ?_
  cases z : ltE a b with
  | true => rfl
  | false =>
    unfold leE at x
    exact absurd (ltE_total z (by simpa using x)) y
theorem Asc.nodup [Enc α] {l : List α} (h : Asc l) : l.Nodup := h.imp fun {a b} x e => by
  rw [e, ltE_irrefl] at x; cases x
theorem asc_ext [Enc α] : ∀ {l m : List α}, Asc l → Asc m → (∀ x, x ∈ l ↔ x ∈ m) → l = m
  | [], [], _, _, _ => rfl
  | [], b :: m, _, _, h => absurd ((h b).mpr List.mem_cons_self) (by simp)
  | a :: l, [], _, _, h => absurd ((h a).mp List.mem_cons_self) (by simp)
  | a :: l, b :: m, h1, h2, h => by
    obtain ⟨p1, p2⟩ := List.pairwise_cons.mp h1
    obtain ⟨q1, q2⟩ := List.pairwise_cons.mp h2
    have e : a = b := by
      rcases List.mem_cons.mp ((h a).mp List.mem_cons_self) with e | e
      · exact e
      · rcases List.mem_cons.mp ((h b).mpr List.mem_cons_self) with f | f
        · exact f.symm
        · have z1 := q1 a e
          have z2 := p1 b f
          exact absurd (ltE_trans z1 z2) (by rw [ltE_irrefl]; decide)
    subst e
    refine congrArg _ (asc_ext p2 q2 fun x => ⟨fun hx => ?_, fun hx => ?_⟩)
    · rcases List.mem_cons.mp ((h x).mp (List.mem_cons_of_mem _ hx)) with z | z
      · subst z; exact absurd (p1 x hx) (by rw [ltE_irrefl]; decide)
      · exact z
    · rcases List.mem_cons.mp ((h x).mpr (List.mem_cons_of_mem _ hx)) with z | z
      · subst z; exact absurd (q1 x hx) (by rw [ltE_irrefl]; decide)
      · exact z
/-- sorted: the same if ascending -/
theorem sortE_self [OEnc α] {l : List α} (h : Asc l) : sortE l = l := asc_ext (sortE_asc h.nodup) h fun _ => mem_sortE
theorem sortE_eq [OEnc α] {l m : List α} (h : l.Nodup) (hm : Asc m) (e : ∀ x, x ∈ l ↔ x ∈ m) : sortE l = m := asc_ext (sortE_asc h) hm fun x => mem_sortE.trans (e x)
/-! how the library's order reads -/
theorem pdD_encs [Enc α] (l : List α) : pdD (enc l) = .tuple (l.map fun a => pdD (enc a)) := by
  obtain ⟨ps, h1, rfl⟩ := pds_encs l
  show (pd (.tup (encs l))).getD .none = _
  unfold pd
  rw [h1]; rfl
theorem ltE_list [Enc α] (l m : List α) : ltE l m = PySem.W.rowLt (l.map fun a => pdD (enc a)) (m.map fun a => pdD (enc a)) := by
  show PySem.W.dataLt (pdD (enc l)) (pdD (enc m)) = _
  rw [pdD_encs, pdD_encs, PySem.W.dataLt_tuple]
  rfl
theorem ltE_no_nil [Enc α] (l : List α) : ltE l ([] : List α) = false := by
  cases l with
  | nil => exact ltE_irrefl _
  | cons a l =>
    rw [ltE_list]
    unfold PySem.W.rowLt
    rw [List.map_cons, PySem.W.toks_all_cons]
    simp only [List.map_nil, PySem.W.keyToksAll]
    rw [PyProof.Rows.lex_diff (O := itemOrd) (by simp)]
    rfl
theorem ltE_nil [Enc α] (b : α) (m : List α) : ltE ([] : List α) (b :: m) = true := by
  rw [ltE_list]
  unfold PySem.W.rowLt
  rw [List.map_cons, PySem.W.toks_all_cons]
  simp only [List.map_nil, PySem.W.keyToksAll]
  rw [PyProof.Rows.lex_diff (O := itemOrd) (by simp)]
  rfl
theorem pd_eqv [Enc α] [DecidableEq α] (a b : α) : PyData.eqv (pdD (enc a)) (pdD (enc b)) = decide (a = b) := by
  rw [← eqv_pd (fl_ a (dp α) (Nat.le_refl _)) (fl_ b (dp α) (Nat.le_refl _)), eqv_enc]
theorem ltE_cons [OEnc α] [DecidableEq α] (a b : α) (l m : List α) : ltE (a :: l) (b :: m) = if a = b then ltE l m else ltE a b := by
  rw [ltE_list]
  unfold PySem.W.rowLt
  rw [List.map_cons, List.map_cons, PySem.W.dataLt_cons (OEnc.alk_ a b), pd_eqv]
  by_cases h : a = b
  · simp only [h, decide_true, if_true]; rw [ltE_list]; rfl
  · simp only [h, decide_false, if_false]; rfl
theorem pdD_pair [Enc α] [Enc β] (q : α × β) : pdD (enc q) = .tuple [pdD (enc q.1), pdD (enc q.2)] := by
  obtain ⟨x, hx⟩ := pd_fl (fl_ q.1 (dp α) (Nat.le_refl _))
  obtain ⟨y, hy⟩ := pd_fl (fl_ q.2 (dp β) (Nat.le_refl _))
  show (pd (.tup [enc q.1, enc q.2])).getD .none = _
  simp [pd, pds, hx, hy, pdD]
theorem ltE_pair [OEnc α] [OEnc β] [DecidableEq α] [DecidableEq β] (q r : α × β) : ltE q r = if q.1 = r.1 then ltE q.2 r.2 else ltE q.1 r.1 := by
  show PySem.W.dataLt (pdD (enc q)) (pdD (enc r)) = _
  rw [pdD_pair, pdD_pair, PySem.W.dataLt_pair (OEnc.alk_ q.1 r.1) (OEnc.alk_ q.2 r.2), pd_eqv, pd_eqv]
  by_cases h : q.1 = r.1
  · simp only [h, decide_true, if_true]
    by_cases h2 : q.2 = r.2
    · simp only [h2, decide_true, if_true]; exact (ltE_irrefl _).symm
    · simp only [h2, decide_false]; rfl
  · simp only [h, decide_false, if_false]; rfl
end
end TD.P

-- MD
set_option maxHeartbeats 1000000
/-! sorted, drawn values -/
namespace TD.P
open PySem PySem.Spec PyProof.Rows L2
open Enc
section
variable {α β : Type}
theorem rising_asc [Enc α] : ∀ {l : List α}, rising l = true ↔ Asc l
  | [] => by simp [rising]
  | [a] => by simp [rising]
  | a :: b :: l => by
    have ih := rising_asc (l := b :: l)
    have e : rising (a :: b :: l) = (ltE a b && rising (b :: l)) := by simp [rising]
    rw [e, Bool.and_eq_true, ih]
    constructor
    · rintro ⟨h1, h2⟩
      refine List.pairwise_cons.mpr ⟨fun c hc => ?_, h2⟩
      rcases List.mem_cons.mp hc with rfl | hc
      · exact h1
      · exact ltE_trans h1 ((List.pairwise_cons.mp h2).1 c hc)
    · intro h
      obtain ⟨h1, h2⟩ := List.pairwise_cons.mp h
      exact ⟨h1 b List.mem_cons_self, h2⟩
theorem sortable_encs [OEnc α] (l : List α) (h : dp α ≤ 40) : sortable (encs l) = true := by
  unfold sortable
  rw [List.all_eq_true]
  intro d hd
  obtain ⟨a, _, rfl⟩ := List.mem_map.mp hd
  rw [fl_ a 40 h, OEnc.nn]
  simp only [Bool.not_false, Bool.true_and, List.all_eq_true]
  intro e he
  obtain ⟨b, _, rfl⟩ := List.mem_map.mp he
  exact OEnc.alk_ a b
theorem sortD_encs [OEnc α] (l : List α) : sortD (encs l) = encs (sortE l) := by
  unfold sortD sortE
  rw [encs_map, encs_map]
  refine (List.map_mergeSort fun a _ b _ => ?_).symm
  rw [PySem.W.dataLe_eq]
  rfl
@[simp] theorem f_sorted [OEnc α] (l : List α) (h : dp α ≤ 40) : evF .sorted (.lst (encs l)) = some (.lst (encs (sortE l))) := by
  show (if sortable (encs l) then some (D.lst (sortD (encs l))) else none) = _
  rw [if_pos (sortable_encs l h), sortD_encs]
def dedupE [DecidableEq α] : List α → List α
  | [] => []
  | a :: l => if a ∈ dedupE l then dedupE l else a :: dedupE l
theorem dedup_encs [Enc α] [DecidableEq α] : ∀ l : List α, dedup (encs l) = encs (dedupE l)
  | [] => rfl
  | a :: l => by
    show (if inD (enc a) (dedup (encs l)) then dedup (encs l) else enc a :: dedup (encs l)) = _
    rw [dedup_encs l, show inD (enc a) (encs (dedupE l)) = hasB (dedupE l) a from inD_enc a _]
    show _ = encs (if a ∈ dedupE l then dedupE l else a :: dedupE l)
    by_cases h : a ∈ dedupE l <;> simp [h, encs_cons]
theorem mem_dedupE [DecidableEq α] {a : α} : ∀ {l : List α}, a ∈ dedupE l ↔ a ∈ l
  | [] => Iff.rfl
  | b :: l => by
    have ih := mem_dedupE (a := a) (l := l)
    unfold dedupE
    by_cases h : b ∈ dedupE l
    · rw [if_pos h, ih, List.mem_cons]
      refine ⟨.inr, fun q => q.elim (fun q => ?_) id⟩
      subst q; exact ih.mp h
    · rw [if_neg h, List.mem_cons, List.mem_cons, ih]
theorem nodup_dedupE [DecidableEq α] : ∀ {l : List α}, (dedupE l).Nodup
  | [] => List.nodup_nil
  | b :: l => by
    unfold dedupE
    by_cases h : b ∈ dedupE l
    · rw [if_pos h]; exact nodup_dedupE
    · rw [if_neg h]; exact List.nodup_cons.mpr ⟨h, nodup_dedupE⟩
/-- a tuple is a key -/
theorem keyOf_list [Enc α] (l : List α) (h : dp α + 1 ≤ 8) : (keyOf (enc l)).isSome = true := by
  obtain ⟨ks, h1, h2⟩ := nks_encs l
  show (match nks (encs l) with | some ks => if (NestedKey.tup ks).depth ≤ 8 then some (NestedKey.tup ks) else none | none => none).isSome = true
  rw [h1]
  show (if (NestedKey.tup ks).depth ≤ 8 then some (NestedKey.tup ks) else none).isSome = true
  rw [if_pos (by omega)]; rfl
theorem keyOf_pair [Enc α] [Enc β] (q : α × β) (h : max (dp α) (dp β) + 1 ≤ 8) : (keyOf (enc q)).isSome = true := by
  obtain ⟨k, h1, h2⟩ := nk_ q.1
  obtain ⟨m, h3, h4⟩ := nk_ q.2
  show (match nks [enc q.1, enc q.2] with | some ks => if (NestedKey.tup ks).depth ≤ 8 then some (NestedKey.tup ks) else none | none => none).isSome = true
  have e : nks [enc q.1, enc q.2] = some [k, m] := by simp [nks, h1, h3]
  rw [e]
  show (if (NestedKey.tup [k, m]).depth ≤ 8 then some (NestedKey.tup [k, m]) else none).isSome = true
  rw [if_pos (by simp only [NestedKey.depth, NestedKey.depthAll]; omega)]; rfl
theorem f_sset [OEnc α] [DecidableEq α] (l : List α) (h : dp α ≤ 40) (hk : ∀ a : α, (keyOf (enc a)).isSome = true) (hl : l.length < 64) : evF .sset (.lst (encs l)) = some (.lst (encs (sortE (dedupE l)))) := by
  show (if sortable (encs l) && ((encs l).all fun d => (keyOf d).isSome) && decide ((encs l).length < 64) then some (D.lst (sortD (dedup (encs l)))) else none) = _
  rw [if_pos, dedup_encs, sortD_encs]
  rw [sortable_encs l h, encs_len, Bool.true_and, Bool.and_eq_true, decide_eq_true_eq, List.all_eq_true]
  refine ⟨fun d hd => ?_, hl⟩
  obtain ⟨a, _, rfl⟩ := List.mem_map.mp hd
  exact hk a
end
/-! ### drawn values -/
/-- a source at k -/
def Src (g : List (List D)) (k : Nat) : Prop := ∃ a b : Int, g[k]? = some [.int a, .int b]
/-- a call that draws -/
def Dr (F : Fs) (k f : Nat) (ds : List D) (P : D → Prop) : Prop := ∀ g, Src g k → ∃ d g', (∀ r, call F f ds ⟨r, g⟩ = .ok d ⟨r, g'⟩) ∧ P d ∧ Src g' k
section
variable {p : Pgm} {n k : Nat}
@[simp] theorem ixG_ref (k : Nat) (y : D) (s : S) : ixG (.ref k) y s = (match s.g[k]?, y with
      | some l, .int j => R.of (atD l j) s
      | _, _ => .bad) := rfl
theorem at_src0 {a b : Int} : atD [D.int a, D.int b] 0 = some (.int a) := rfl
theorem at_src1 {a b : Int} : atD [D.int a, D.int b] 1 = some (.int b) := rfl
@[simp] theorem o_mod_i (a b : Int) (h : 0 < b) : evO .mod (.int a) (.int b) = some (.int (a % b)) := by
  show (if 0 < b then some (D.int (a % b)) else none) = _
  rw [if_pos h]
@[simp] theorem o_fdiv_i (a b : Int) (h : 0 < b) (h2 : b < 1073741824) : evO .fdiv (.int a) (.int b) = some (.int (a / b)) := by
  show (if 0 < b ∧ b < 1073741824 then some (D.int (a / b)) else none) = _
  rw [if_pos ⟨h, h2⟩]
theorem o_mul_i (a b : Int) (h : -(2 ^ 64) < a ∧ a < 2 ^ 64 ∨ -(2 ^ 64) < b ∧ b < 2 ^ 64) : evO .mul (.int a) (.int b) = some (.int (a * b)) := by
  show (if -(2 ^ 64) < a ∧ a < 2 ^ 64 ∨ -(2 ^ 64) < b ∧ b < 2 ^ 64 then some (D.int (a * b)) else none) = _
  rw [if_pos h]
@[simp] theorem f_int_i (a : Int) : evF .int (.int a) = some (.int a) := id rfl
theorem src_set {g : List (List D)} {k : Nat} {a b : Int} (h : g[k]? = some [.int a, .int b]) (l : List D) : (g.set k l)[k]? = some l := by
  have : k < g.length := by
    rcases Nat.lt_or_ge k g.length with z | z
    · exact z
    · rw [List.getElem?_eq_none z] at h; cases h
  simp [this]
theorem law_draw_ok [H_law_draw p] {m : Int} (h1 : 0 < m) (h2 : m < 1073741824) : Dr (Ev p (n + 1)) k i_law_draw [.ref k, .int m] fun d => ∃ v : Nat, d = .int v ∧ (v : Int) < m := by
  rintro g ⟨a, b, hg⟩
  by_cases ha : 0 < a
  · refine ⟨.int (a % m), g.set k [.int (a / m), .int b], fun r => ?_, ⟨(a % m).toNat, ?_, ?_⟩, ⟨_, _, src_set hg _⟩⟩
    · rw [call_law_draw]
      simp [b_law_draw, hg, at_src0, ha, h1, h2, shPutG]
    · rw [Int.toNat_of_nonneg (Int.emod_nonneg _ (by omega))]
    · rw [Int.toNat_of_nonneg (Int.emod_nonneg _ (by omega))]; exact Int.emod_lt_of_pos _ h1
  · have hb1 : 0 ≤ b * 48271 % 2147483647 := Int.emod_nonneg _ (by decide)
    have hb2 : b * 48271 % 2147483647 < 2147483647 := Int.emod_lt_of_pos _ (by decide)
    refine ⟨.int ((b * 48271 % 2147483647) * (b * 48271 % 2147483647) % 2147483629 / 64 % m), g.set k [.int a, .int (b * 48271 % 2147483647)], fun r => ?_, ⟨((b * 48271 % 2147483647) * (b * 48271 % 2147483647) % 2147483629 / 64 % m).toNat, ?_, ?_⟩, ⟨_, _, src_set hg _⟩⟩
    · rw [call_law_draw]
      simp [b_law_draw, hg, at_src0, at_src1, ha, h1, h2, shPutG, src_set hg, o_mul_i]
      generalize b * 48271 % 2147483647 = c at *
      rw [o_mul_i c c (by left; omega)]
      simp [h1]
    · rw [Int.toNat_of_nonneg (Int.emod_nonneg _ (by omega))]
    · rw [Int.toNat_of_nonneg (Int.emod_nonneg _ (by omega))]; exact Int.emod_lt_of_pos _ h1

theorem Dr.imp {F : Fs} {k f : Nat} {ds : List D} {P Q : D → Prop} (h : Dr F k f ds P) (hq : ∀ d, P d → Q d) : Dr F k f ds Q := fun g hg => by
  obtain ⟨d, g', h1, h2, h3⟩ := h g hg
  exact ⟨d, g', h1, hq d h2, h3⟩
theorem atI_some {α : Type} {l : List α} {v : Nat} (h : v < l.length) : ∃ a ∈ l, atI l (v : Int) = some a := ⟨l[v], List.getElem_mem h, by rw [atI_nat', List.getElem?_eq_getElem h]⟩
/-- an item of a list, of a tuple -/
theorem law_of_l [H_law_of p] {α : Type} [Enc α] (l : List α) (h0 : l ≠ []) (h : l.length ≤ 1048576) : Dr (Ev p (n + 2)) k i_law_of [.ref k, .lst (encs l)] fun d => ∃ a ∈ l, d = enc a := fun g hg => by
  have hp := List.length_pos_iff.mpr h0
  obtain ⟨d, g', h1, ⟨v, rfl, hv⟩, h3⟩ := law_draw_ok (p := p) (n := n) (k := k) (m := l.length) (by omega) (by omega) g hg
  obtain ⟨a, ha, e⟩ := atI_some (l := l) (v := v) (by omega)
  refine ⟨enc a, g', fun r => ?_, ⟨a, ha, rfl⟩, h3⟩
  rw [call_law_of]
  simp [b_law_of, h1, e]
theorem law_of_t [H_law_of p] {α : Type} [Enc α] (l : List α) (h0 : l ≠ []) (h : l.length ≤ 1048576) : Dr (Ev p (n + 2)) k i_law_of [.ref k, enc l] fun d => ∃ a ∈ l, d = enc a := fun g hg => by
  have hp := List.length_pos_iff.mpr h0
  obtain ⟨d, g', h1, ⟨v, rfl, hv⟩, h3⟩ := law_draw_ok (p := p) (n := n) (k := k) (m := l.length) (by omega) (by omega) g hg
  obtain ⟨a, ha, e⟩ := atI_some (l := l) (v := v) (by omega)
  refine ⟨enc a, g', fun r => ?_, ⟨a, ha, rfl⟩, h3⟩
  rw [call_law_of]
  simp [b_law_of, h1, e]
/-- a while -/
theorem wh_dec {c : S → R Bool} {f : S → R Fl} (I : Nat → S → Prop) (hc : ∀ m s, I (m + 1) s → c s = .ok true s) (h0 : ∀ s, I 0 s → c s = .ok false s) (hf : ∀ m s, I (m + 1) s → ∃ s', f s = .ok .nx s' ∧ I m s') :
    ∀ (m N : Nat) (s : S), m < N → I m s → ∃ s', whGo c f N s = .ok .nx s' ∧ I 0 s'
  | 0, N + 1, s, _, hi => ⟨s, by unfold whGo; rw [h0 s hi, bind_ok]; rfl, hi⟩
  | m + 1, N + 1, s, hn, hi => by
    obtain ⟨s1, e1, h1⟩ := hf m s hi
    obtain ⟨s2, e2, h2⟩ := wh_dec I hc h0 hf m N s1 (by omega) h1
    refine ⟨s2, ?_, h2⟩
    unfold whGo
    rw [hc m s hi, bind_ok]
    simp only [if_true]
    rw [e1, bind_ok]
    exact e2
theorem wh_k {β : Type} {c : S → R Bool} {f : S → R Fl} {s : S} {k : Fl → S → R β} (Q : R β → Prop) (I : Nat → S → Prop) (m : Nat) (hm : m < 100000) (hi : I m s) (hc : ∀ m s, I (m + 1) s → c s = .ok true s) (h0 : ∀ s, I 0 s → c s = .ok false s) (hf : ∀ m s, I (m + 1) s → ∃ s', f s = .ok .nx s' ∧ I m s') (h : ∀ s', I 0 s' → Q (k .nx s')) : Q ((whGo c f WF s).bind k) := by
  obtain ⟨s', e, h'⟩ := wh_dec I hc h0 hf m WF s hm hi
  rw [e]
  exact h s' h'
theorem perm_pop {α : Type} (l : List α) (v : Nat) (h : v < l.length) : (l[v] :: l.eraseIdx v).Perm l := by
  induction l generalizing v with
  | nil => simp at h
  | cons a l ih =>
    cases v with
    | zero => simp
    | succ v =>
      simp only [List.getElem_cons_succ, List.eraseIdx_cons_succ]
      exact (List.Perm.swap _ _ _).trans ((ih v (by simpa using h)).cons a)
theorem encs_erase {α : Type} [Enc α] (l : List α) (v : Nat) : (encs l).eraseIdx v = encs (l.eraseIdx v) := by
  rw [encs_map, encs_map]
  induction l generalizing v with
  | nil => simp
  | cons a l ih =>
    cases v with
    | zero => simp
    | succ v => simp [ih]
theorem wf_lt {n : Nat} (h : n ≤ 10000) : n < WF := by unfold WF; omega
theorem sz_lt {n : Nat} (h : n ≤ 1048576) : n < sizeLine := by unfold sizeLine; omega
theorem cut_1v {α : Type} (l : List α) (v : Nat) : cutA l none (some (1 + (v : Int))) = l.take (1 + v) := by
  rw [show (1 : Int) + (v : Int) = ((1 + v : Nat) : Int) by simp]
  exact cut_to l _
theorem popAt_ok {α : Type} [Enc α] {i v : Nat} {l : List α} {a : α} {s : S} (h : s.r[i]? = some (.oL (encs l))) (ha : l[v]? = some a) (hv : v ≤ 1048576) : popAt i (.int v) s = .ok (enc a) ⟨s.r.set i (.oL (encs (l.eraseIdx v))), s.g⟩ := by
  have e3 : (encs l)[v]? = some (enc a) := by rw [encs_map]; simp [ha]
  have hv2 : (v : Int) < 4611686018427387904 := by omega
  unfold popAt
  simp [h, e3, hv2, encs_erase]
theorem appG_ok {i : Nat} {l : List D} {d : D} {s : S} (h : s.r[i]? = some (.oL l)) (hv : l.length ≤ 1048576) : appG i d s = .ok .nx ⟨s.r.set i (.oL (l ++ [d])), s.g⟩ := by
  unfold appG
  rw [h]
  show (if l.length < sizeLine then _ else _) = _
  rw [if_pos (sz_lt hv)]
/-- items in a drawn order -/
theorem law_mixed_ok [H_law_mixed p] {α : Type} [Enc α] (l : List α) (hl : l.length ≤ 10000) (hd : dp α ≤ 30) : Dr (Ev p (n + 2)) k i_law_mixed [.ref k, .lst (encs l)] fun d => ∃ m : List α, m.Perm l ∧ d = .lst (encs m) := by
  intro g hg
  have key : ∃ m g', (m.Perm l ∧ Src g' k) ∧ ∀ r, call (Ev p (n + 2)) i_law_mixed [.ref k, .lst (encs l)] ⟨r, g⟩ = .ok (.lst (encs m)) ⟨r, g'⟩ := by
    obtain ⟨s', e2, hs⟩ := wh_dec (c := whC p.glob (Ev p (n + 1)) (.oNE 2)) (f := whB p.glob (Ev p (n + 1)) [.app 3 (.oPopAt 2 (.call i_law_draw [.var 0, .oLen 2]))])
      (fun m s => ∃ a b g', a.length = m ∧ (a ++ b).Perm l ∧ Src g' k ∧ s = ⟨[.val (.ref k), .val (.lst (encs l)), .oL (encs a), .oL (encs b)], g'⟩)
      (by
        rintro m _ ⟨a, b, g', h1, h2, h3, rfl⟩
        have : a.isEmpty = false := by cases a with | nil => simp at h1 | cons => rfl
        simp [fls_encs (show dp α ≤ 40 by omega), this])
      (by
        rintro _ ⟨a, b, g', h1, h2, h3, rfl⟩
        have : a = [] := List.length_eq_zero_iff.mp h1
        subst this
        simp [encs_nil, fls])
      (by
        rintro m _ ⟨a, b, g', h1, h2, h3, rfl⟩
        have hlen := h2.length_eq
        simp at hlen
        obtain ⟨d, g2, q1, ⟨v, rfl, hv⟩, q3⟩ := law_draw_ok (p := p) (n := n) (k := k) (m := a.length) (by omega) (by omega) g' h3
        have hv : v < a.length := by omega
        have e3 : (encs a)[v]? = some (enc a[v]) := by rw [encs_map]; simp [hv]
        refine ⟨⟨[.val (.ref k), .val (.lst (encs l)), .oL (encs (a.eraseIdx v)), .oL (encs (b ++ [a[v]]))], g2⟩, ?_, _, _, g2, ?_, ?_, q3, rfl⟩
        · simp [q1, hasL]
          rw [popAt_ok (l := a) (a := a[v]) rfl (by simp [hv]) (by omega), bind_ok, kApp_eq, appG_ok (l := encs b) rfl (by simp; omega)]
          simp [encs_append, encs_cons, encs_nil]
        · rw [List.length_eraseIdx_of_lt hv]; omega
        · refine List.Perm.trans ?_ h2
          have h5 := (perm_pop a v hv).append_right b
          refine List.Perm.trans ?_ h5
          rw [← List.append_assoc]
          exact List.perm_append_comm)
      l.length WF ⟨[.val (.ref k), .val (.lst (encs l)), .oL (encs l), .oL []], g⟩ (wf_lt hl) ⟨l, [], g, rfl, by simp, hg, rfl⟩
    obtain ⟨a, b, g', h1, h2, h3, rfl⟩ := hs
    have : a = [] := List.length_eq_zero_iff.mp h1
    subst this
    refine ⟨b, g', ⟨h2, h3⟩, fun r => ?_⟩
    rw [call_law_mixed]
    simp [b_law_mixed, setPar, holdS, ownS, isPk, evF]
    rw [e2]
    simp
  obtain ⟨m, g', ⟨h1, h2⟩, h3⟩ := key
  exact ⟨_, g', h3, ⟨m, h1, rfl⟩, h2⟩

inductive All2 {α β : Type} (Q : α → β → Prop) : List α → List β → Prop
  | nil : All2 Q [] []
  | cons {a : α} {b : β} {l : List α} {m : List β} : Q a b → All2 Q l m → All2 Q (a :: l) (b :: m)
theorem All2.len {α β : Type} {Q : α → β → Prop} : ∀ {l : List α} {m : List β}, All2 Q l m → m.length = l.length
  | _, _, .nil => rfl
  | _, _, .cons _ h => congrArg (· + 1) h.len
theorem All2.all {α β : Type} {Q : α → β → Prop} {R : β → Prop} (hq : ∀ a b, Q a b → R b) : ∀ {l : List α} {m : List β}, All2 Q l m → ∀ b ∈ m, R b
  | _, _, .nil => by simp
  | _, _, .cons h t => fun b hb => by
    rcases List.mem_cons.mp hb with rfl | hb
    · exact hq _ _ h
    · exact t.all hq b hb
theorem lcGo_draw {α β : Type} [Enc α] [Enc β] {f : D → S → R (Option D)} {r : List Sl} (Q : α → β → Prop) : ∀ {l : List α} {acc : List D} {g : List (List D)}, Src g k → (∀ a ∈ l, ∀ g, Src g k → ∃ b g', f (enc a) ⟨r, g⟩ = .ok (some (enc b)) ⟨r, g'⟩ ∧ Q a b ∧ Src g' k) →
    ∃ bs g', lcGo f (encs l) acc ⟨r, g⟩ = .ok (acc ++ encs bs) ⟨r, g'⟩ ∧ All2 Q l bs ∧ Src g' k
  | [], acc, g, hg, _ => ⟨[], g, by simp [lcGo, encs_nil], .nil, hg⟩
  | a :: l, acc, g, hg, hb => by
    obtain ⟨b, g1, e1, q1, h1⟩ := hb a List.mem_cons_self g hg
    obtain ⟨bs, g2, e2, q2, h2⟩ := lcGo_draw Q (l := l) (acc := acc ++ [enc b]) h1 fun c m => hb c (List.mem_cons_of_mem _ m)
    refine ⟨b :: bs, g2, ?_, .cons q1 q2, h2⟩
    rw [encs_cons]
    unfold lcGo
    rw [e1, bind_ok]
    simp only [e2]
    rw [encs_cons, List.append_assoc]; rfl
/-- a comprehension that draws -/
theorem lc_draw {α β : Type} [Enc α] [Enc β] {f : D → S → R (Option D)} {r : List Sl} {ws : List Nat} (Q : α → β → Prop) {l : List α} {g : List (List D)} (hl : l.length ≤ 1048576) (hg : Src g k)
    (hb : ∀ a ∈ l, ∀ g, Src g k → ∃ b g', f (enc a) (S.lock ⟨r, g⟩ ws) = .ok (some (enc b)) (S.lock ⟨r, g'⟩ ws) ∧ Q a b ∧ Src g' k) :
    ∃ bs g', lcRun f (encs l) ws ⟨r, g⟩ = .ok (.lst (encs bs)) ⟨r, g'⟩ ∧ All2 Q l bs ∧ Src g' k := by
  obtain ⟨bs, g', e, q, h⟩ := lcGo_draw (r := (S.lock ⟨r, []⟩ ws).r) Q (acc := []) hg (f := f) hb
  refine ⟨bs, g', ?_, q, h⟩
  unfold lcRun
  rw [if_neg (by have := sl_le hl; simp; omega)]
  show (lcGo f (encs l) [] ⟨(S.lock ⟨r, []⟩ ws).r, g⟩).bind _ = _
  rw [e]
  rfl
theorem lcGo_drawf {α : Type} [Enc α] {f : D → S → R (Option D)} {r : List Sl} : ∀ {l : List α} {acc : List D} {g : List (List D)}, Src g k → (∀ a ∈ l, ∀ g, Src g k → ∃ (b : Bool) (g' : _), f (enc a) ⟨r, g⟩ = .ok (cond b (some (enc a)) none) ⟨r, g'⟩ ∧ Src g' k) →
    ∃ bs g', lcGo f (encs l) acc ⟨r, g⟩ = .ok (acc ++ encs bs) ⟨r, g'⟩ ∧ bs.Sublist l ∧ Src g' k
  | [], acc, g, hg, _ => ⟨[], g, by simp [lcGo, encs_nil], .slnil, hg⟩
  | a :: l, acc, g, hg, hb => by
    obtain ⟨b, g1, e1, h1⟩ := hb a List.mem_cons_self g hg
    rw [encs_cons]
    unfold lcGo
    rw [e1, bind_ok]
    cases b with
    | true =>
      obtain ⟨bs, g2, e2, q2, h2⟩ := lcGo_drawf (l := l) (acc := acc ++ [enc a]) h1 fun c m => hb c (List.mem_cons_of_mem _ m)
      refine ⟨a :: bs, g2, ?_, q2.cons₂ a, h2⟩
      simp only [cond_true, e2]
      rw [encs_cons, List.append_assoc]; rfl
    | false =>
      obtain ⟨bs, g2, e2, q2, h2⟩ := lcGo_drawf (l := l) (acc := acc) h1 fun c m => hb c (List.mem_cons_of_mem _ m)
      exact ⟨bs, g2, by simp only [cond_false, e2], q2.cons a, h2⟩
theorem lc_drawf {α : Type} [Enc α] {f : D → S → R (Option D)} {r : List Sl} {ws : List Nat} {l : List α} {g : List (List D)} (hl : l.length ≤ 1048576) (hg : Src g k)
    (hb : ∀ a ∈ l, ∀ g, Src g k → ∃ (b : Bool) (g' : _), f (enc a) (S.lock ⟨r, g⟩ ws) = .ok (cond b (some (enc a)) none) (S.lock ⟨r, g'⟩ ws) ∧ Src g' k) :
    ∃ bs g', lcRun f (encs l) ws ⟨r, g⟩ = .ok (.lst (encs bs)) ⟨r, g'⟩ ∧ bs.Sublist l ∧ Src g' k := by
  obtain ⟨bs, g', e, q, h⟩ := lcGo_drawf (r := (S.lock ⟨r, []⟩ ws).r) (acc := []) hg (f := f) hb
  refine ⟨bs, g', ?_, q, h⟩
  unfold lcRun
  rw [if_neg (by have := sl_le hl; simp; omega)]
  show (lcGo f (encs l) [] ⟨(S.lock ⟨r, []⟩ ws).r, g⟩).bind _ = _
  rw [e]
  rfl
/-! the laws' own -/
def POOL : List Str := ["done", "today", "urgent", "a", "b", "if", "put", "throw", "zzzzzzzz", "old", "unless", "rename"]
/-- drawn tags -/
structure DTags (m : Nat) (t : St) : Prop where
  asc : Asc t
  sub : ∀ x ∈ t, x ∈ POOL
  pos : 1 ≤ t.length
  le : t.length ≤ m
theorem pool_nodup : POOL.Nodup := by decide +kernel
theorem law_tags_ok [H_law_tags p] {m : Nat} (h0 : 0 < m) (h1 : m ≤ 12) : Dr (Ev p (n + 3)) k i_law_tags [.ref k, .int m] fun d => ∃ t, DTags m t ∧ d = enc t := by
  intro g hg
  obtain ⟨d1, g1, e1, ⟨a, pa, rfl⟩, hg1⟩ := law_mixed_ok (p := p) (n := n) (k := k) POOL (by decide) (by decide) g hg
  obtain ⟨d2, g2, e2, ⟨v, rfl, hv⟩, hg2⟩ := law_draw_ok (p := p) (n := n + 1) (k := k) (m := m) (by omega) (by omega) g1 hg1
  have hlen : a.length = 12 := pa.length_eq
  refine ⟨_, g2, fun r => ?_, ⟨sortE (a.take (1 + v)), ⟨sortE_asc ?_, ?_, ?_, ?_⟩, rfl⟩, hg2⟩
  · rw [call_law_tags]
    have e0 : D.lst [D.str "done", D.str "today", D.str "urgent", D.str "a", D.str "b", D.str "if", D.str "put", D.str "throw", D.str "zzzzzzzz", D.str "old", D.str "unless", D.str "rename"] = .lst (encs POOL) := rfl
    simp [b_law_tags, e0, e1, e2, cut_1v]
  · exact (pa.nodup_iff.mpr pool_nodup).sublist (List.take_sublist _ _)
  · intro x hx
    exact pa.mem_iff.mp (List.mem_of_mem_take (mem_sortE.mp hx))
  · simp; omega
  · simp; omega
/-- a drawn set -/
theorem law_some_ok [H_law_some p] (t : St) (h : t.length ≤ 1000) : Dr (Ev p (n + 2)) k i_law_some [.ref k, enc t] fun d => ∃ x : St, x.Sublist t ∧ d = enc x := by
  intro g hg
  have key : ∃ bs g', lcRun (lcBody p.glob (Ev p (n + 1)) (.var 2) (.v 2) (some (.op .eq (.call i_law_draw [.var 0, .int 2]) (.int 0)))) (encs t) [2] ⟨[.val (.ref k), .val (enc t), .no], g⟩ = .ok (.lst (encs bs)) ⟨[.val (.ref k), .val (enc t), .no], g'⟩ ∧ bs.Sublist t ∧ Src g' k := by
    refine lc_drawf (by omega) hg fun a _ g hg => ?_
    obtain ⟨d, g', e, ⟨v, rfl, hv⟩, h3⟩ := law_draw_ok (p := p) (n := n) (k := k) (m := 2) (by omega) (by omega) g hg
    refine ⟨decide ((v : Int) = 0), g', ?_, h3⟩
    simp [e]
  obtain ⟨bs, g', e, h1, h2⟩ := key
  refine ⟨_, g', fun r => ?_, ⟨bs, h1, rfl⟩, h2⟩
  rw [call_law_some]
  simp [b_law_some, e]

/-- a good set of tags -/
theorem isSome_sub {t x : St} (ht : Asc t) (h : x.Sublist t) : isSome' t x = true := by
  unfold isSome'
  rw [Bool.and_eq_true, List.all_eq_true, rising_asc]
  exact ⟨fun w hw => by simpa using h.subset hw, ht.sublist h⟩
theorem law_stock_ok [H_law_stock p] (t : St) (h : t.length ≤ 1000) {m : Nat} (hm : m ≤ 1000) : Dr (Ev p (n + 3)) k i_law_stock [.ref k, enc t, .int m] fun d => ∃ x : List St, (x.length ≤ m ∧ ∀ y ∈ x, y.Sublist t) ∧ d = enc x := by
  intro g hg
  obtain ⟨d, g1, e1, ⟨v, rfl, hv⟩, h3⟩ := law_draw_ok (p := p) (n := n + 1) (k := k) (m := (m : Int) + 1) (by omega) (by omega) g hg
  have key : ∃ bs g', lcRun (lcBody p.glob (Ev p (n + 2)) (.call i_law_some [.var 0, .var 1]) (.v 3) none) (encs (List.range v)) [3] ⟨[.val (.ref k), .val (enc t), .val (.int m), .no], g1⟩ = .ok (.lst (encs bs)) ⟨[.val (.ref k), .val (enc t), .val (.int m), .no], g'⟩ ∧ All2 (fun (_ : Nat) (x : St) => x.Sublist t) (List.range v) bs ∧ Src g' k := by
    refine lc_draw _ (by simp; omega) h3 fun a _ g hg => ?_
    obtain ⟨d, g', e, ⟨x, hx, rfl⟩, h3⟩ := law_some_ok (p := p) (n := n) (k := k) t h g hg
    refine ⟨x, g', ?_, hx, h3⟩
    simp [e]
  obtain ⟨bs, g', e, h1, h2⟩ := key
  refine ⟨_, g', fun r => ?_, ⟨bs, ⟨?_, h1.all (R := fun x : St => x.Sublist t) fun _ _ h => h⟩, rfl⟩, h2⟩
  · rw [call_law_stock]
    simp [b_law_stock, e1, rng_n (show v ≤ 1048576 by omega), e]
  · rw [h1.len]; simp; omega
/-- a good term -/
structure DTerm (t : St) (x : Tm) : Prop where
  s1 : x.1.Sublist t
  s2 : x.2.Sublist t
  no : ∀ w ∈ x.1, w ∉ x.2
theorem zip_filter_map (t : St) (ways : List Int) (c : Int) : (((t.zip ways).filter fun q => decide (q.2 = c)).map (·.1)).Sublist t := by
  induction t generalizing ways with
  | nil => simp
  | cons a t ih =>
    cases ways with
    | nil => simp
    | cons w ws =>
      rw [List.zip_cons_cons, List.filter_cons]
      by_cases h : w = c
      · simp only [h, decide_true, if_true, List.map_cons]; exact (ih ws).cons₂ a
      · simp only [h, decide_false]; exact (ih ws).cons a
theorem zip_snd (t : St) (hn : t.Nodup) (ways : List Int) (c d : Int) (hc : c ≠ d) (w : Str) (h1 : w ∈ ((t.zip ways).filter fun q => decide (q.2 = c)).map (·.1)) : w ∉ ((t.zip ways).filter fun q => decide (q.2 = d)).map (·.1) := by
  induction t generalizing ways with
  | nil => simp at h1
  | cons a t ih =>
    cases ways with
    | nil => simp at h1
    | cons x ws =>
      obtain ⟨n1, n2⟩ := List.nodup_cons.mp hn
      rw [List.zip_cons_cons, List.filter_cons] at h1 ⊢
      have no : ∀ c : Int, a ∉ ((t.zip ws).filter fun q => decide (q.2 = c)).map (·.1) := fun c m => n1 ((zip_filter_map t ws c).subset m)
      by_cases hx : x = c
      · have hd : x ≠ d := fun e => hc (hx.symm.trans e)
        simp only [hx, decide_true, if_true, List.map_cons, List.mem_cons] at h1
        rw [hx] at hd
        simp only [hx, hd, decide_false]
        rcases h1 with rfl | h1
        · exact no d
        · exact ih n2 ws h1
      · simp only [hx, decide_false] at h1
        have h1 : w ∈ ((t.zip ws).filter fun q => decide (q.2 = c)).map (·.1) := h1
        by_cases hd : x = d
        · simp only [hd, decide_true, if_true, List.map_cons, List.mem_cons, not_or]
          refine ⟨?_, ih n2 ws h1⟩
          rintro rfl
          exact no c h1
        · simp only [hd, decide_false]
          exact ih n2 ws h1
theorem law_term_ok [H_law_term p] (t : St) (ht : t.Nodup) (h : t.length ≤ 1000) : Dr (Ev p (n + 3)) k i_law_term [.ref k, enc t] fun d => ∃ x : Tm, DTerm t x ∧ d = enc x := by
  intro g hg
  have key : ∃ bs g', lcRun (lcBody p.glob (Ev p (n + 2)) (.call i_law_of [.var 0, .lst [.int 0, .int 1, .int 2, .int 2]]) (.v 4) none) (encs t) [4] ⟨[.val (.ref k), .val (enc t), .no, .no, .no, .no], g⟩ = .ok (.lst (encs bs)) ⟨[.val (.ref k), .val (enc t), .no, .no, .no, .no], g'⟩ ∧ All2 (fun (_ : Str) (_ : Int) => True) t bs ∧ Src g' k := by
    refine lc_draw _ (by omega) hg fun a _ g hg => ?_
    obtain ⟨d, g', e, ⟨x, hx, rfl⟩, h3⟩ := law_of_l (p := p) (n := n) (k := k) [(0 : Int), 1, 2, 2] (by simp) (by simp) g hg
    refine ⟨x, g', ?_, trivial, h3⟩
    have e0 : D.lst [D.int 0, D.int 1, D.int 2, D.int 2] = .lst (encs [(0 : Int), 1, 2, 2]) := rfl
    simp [e0, e]
  obtain ⟨ws, g', e, h1, h2⟩ := key
  have hz : (t.zip ws).length ≤ 1048576 := by simp; omega
  refine ⟨enc ((((t.zip ws).filter fun q => decide (q.2 = 0)).map (·.1), ((t.zip ws).filter fun q => decide (q.2 = 1)).map (·.1)) : Tm), g', fun r => ?_, ⟨_, ⟨zip_filter_map t ws 0, zip_filter_map t ws 1, fun w hw => zip_snd t ht ws 0 1 (by decide) w hw⟩, rfl⟩, h2⟩
  rw [call_law_term]
  simp [b_law_term, e]
  rw [lc_fm (fun q : Str × Int => decide (q.2 = 0)) (fun q => q.1) hz]; rotate_left
  · intro q hq; simp
  simp
  rw [lc_fm (fun q : Str × Int => decide (q.2 = 1)) (fun q => q.1) hz]; rotate_left
  · intro q hq; simp
  simp
  rfl
/-- a good filter -/
structure DFilt (t : St) (f : Ft) : Prop where
  tm : ∀ x ∈ f, DTerm t x
  asc : Asc f
  le : f.length ≤ 3
theorem dedupE_len {α : Type} [DecidableEq α] : ∀ l : List α, (dedupE l).length ≤ l.length
  | [] => Nat.le_refl _
  | a :: l => by
    have ih := dedupE_len l
    show (if a ∈ dedupE l then dedupE l else a :: dedupE l).length ≤ _
    by_cases h : a ∈ dedupE l
    · rw [if_pos h]; simp; omega
    · rw [if_neg h]; simp; omega
theorem law_filter_ok [H_law_filter p] (t : St) (ht : t.Nodup) (h : t.length ≤ 1000) : Dr (Ev p (n + 4)) k i_law_filter [.ref k, enc t] fun d => ∃ f : Ft, DFilt t f ∧ d = enc f := by
  intro g hg
  obtain ⟨d, g1, e1, ⟨v, hv, rfl⟩, h3⟩ := law_of_l (p := p) (n := n + 1) (k := k) [(1 : Nat), 1, 2, 2, 3, 0] (by simp) (by simp) g hg
  have hv3 : v ≤ 3 := by simp at hv; omega
  have key : ∃ bs g', lcRun (lcBody p.glob (Ev p (n + 3)) (.call i_law_term [.var 0, .var 1]) (.v 2) none) (encs (List.range v)) [2] ⟨[.val (.ref k), .val (enc t), .no], g1⟩ = .ok (.lst (encs bs)) ⟨[.val (.ref k), .val (enc t), .no], g'⟩ ∧ All2 (fun (_ : Nat) (x : Tm) => DTerm t x) (List.range v) bs ∧ Src g' k := by
    refine lc_draw _ (by simp; omega) h3 fun a _ g hg => ?_
    obtain ⟨d, g', e, ⟨x, hx, rfl⟩, h3⟩ := law_term_ok (p := p) (n := n) (k := k) t ht h g hg
    refine ⟨x, g', ?_, hx, h3⟩
    simp [e]
  obtain ⟨bs, g', e, h1, h2⟩ := key
  have hlen : bs.length = v := by rw [h1.len]; simp
  refine ⟨_, g', fun r => ?_, ⟨sortE (dedupE bs), ⟨fun x hx => h1.all (R := DTerm t) (fun _ _ h => h) x (mem_dedupE.mp (mem_sortE.mp hx)), sortE_asc nodup_dedupE, by rw [sortE_len]; have := dedupE_len bs; omega⟩, rfl⟩, h2⟩
  rw [call_law_filter]
  have e0 : D.lst [D.int 1, D.int 1, D.int 2, D.int 2, D.int 3, D.int 0] = .lst (encs [(1 : Nat), 1, 2, 2, 3, 0]) := rfl
  simp [b_law_filter, e0, e1, rng_n (show v ≤ 1048576 by omega), e, f_sset bs (by decide) (fun a => keyOf_pair a (by decide)) (by omega)]

/-! all sets -/
def lawSets0 : St → List St → List St
  | [], f => f
  | a :: t, f => lawSets0 t (f ++ f.map (· ++ [a]))
def lawSets (t : St) : List St := sortE (lawSets0 t [[]])
theorem lawSets0_len : ∀ (t : St) (f : List St), (lawSets0 t f).length = f.length * 2 ^ t.length
  | [], f => by simp [lawSets0]
  | a :: t, f => by
    unfold lawSets0
    rw [lawSets0_len t]
    simp [Nat.pow_succ]
    rw [Nat.add_mul, ← Nat.mul_assoc]; omega
theorem lawSets0_snoc : ∀ (t : St) (a : Str) (f : List St), lawSets0 (t ++ [a]) f = lawSets0 t f ++ (lawSets0 t f).map (· ++ [a])
  | [], a, f => rfl
  | b :: t, a, f => by
    show lawSets0 (t ++ [a]) _ = _
    rw [lawSets0_snoc t]; rfl
theorem lawSets0_mem_len : ∀ (t : St) (f : List St) (m : Nat), (∀ x ∈ f, x.length ≤ m) → ∀ x ∈ lawSets0 t f, x.length ≤ m + t.length
  | [], f, m, h, x, hx => by simpa using h x hx
  | a :: t, f, m, h, x, hx => by
    unfold lawSets0 at hx
    have := lawSets0_mem_len t _ (m + 1) (fun y hy => by
      rcases List.mem_append.mp hy with hy | hy
      · have := h y hy; omega
      · obtain ⟨z, hz, rfl⟩ := List.mem_map.mp hy
        have := h z hz; simp; omega) x hx
    simp; omega
theorem law_sets_ok [H_law_sets p] {s : S} (t : St) (h : t.length ≤ 16) : call (Ev p (n + 1)) i_law_sets [enc t] s = .ok (.lst (encs (lawSets t))) s := by
  rw [call_law_sets]
  simp [b_law_sets]
  refine for_k (fun z => fin s z = _) (fun done s' => ∃ x2, s' = ⟨[Sl.val (enc t), Sl.val (D.lst (encs (lawSets0 done [[]]))), x2, Sl.no], s.g⟩) ?_ ⟨_, rfl⟩ ?_
  · rintro done a rest e _ ⟨x2, rfl⟩
    have hl := congrArg List.length e
    simp at hl
    have hlen : (lawSets0 done [[]]).length ≤ 65536 := by
      rw [lawSets0_len]
      simp
      exact Nat.pow_le_pow_right (n := 2) (by decide) (by omega : done.length ≤ 16)
    refine ⟨⟨[Sl.val (enc t), Sl.val (D.lst (encs (lawSets0 (done ++ [a]) [[]]))), Sl.val (enc a), Sl.no], s.g⟩, ?_, Sl.val (enc a), by simp⟩
    simp
    rw [lc_map (fun x => x ++ [a]) (by omega)]; rotate_left
    · intro w hw
      have := lawSets0_mem_len done [[]] 0 (by simp) w hw
      simp [add_ts w a (by omega)]
    simp
    rw [add_l _ _ (by simp; omega)]
    simp [lawSets0_snoc]
  · rintro _ ⟨x2, rfl⟩
    simp [lawSets]
theorem mem_lawSets0 : ∀ (t : St) (f : List St) (x : St), x ∈ lawSets0 t f ↔ ∃ u ∈ f, ∃ v, v.Sublist t ∧ x = u ++ v
  | [], f, x => by simp [lawSets0]
  | a :: t, f, x => by
    unfold lawSets0
    rw [mem_lawSets0 t]
    constructor
    · rintro ⟨u, hu, v, hv, rfl⟩
      rcases List.mem_append.mp hu with hu | hu
      · exact ⟨u, hu, v, hv.cons a, rfl⟩
      · obtain ⟨w, hw, rfl⟩ := List.mem_map.mp hu
        exact ⟨w, hw, a :: v, hv.cons₂ a, by simp⟩
    · rintro ⟨u, hu, v, hv, rfl⟩
      cases hv with
      | cons _ hv => exact ⟨u, List.mem_append_left _ hu, _, hv, rfl⟩
      | cons_cons _ hv => exact ⟨u ++ [a], List.mem_append_right _ (List.mem_map.mpr ⟨u, hu, rfl⟩), _, hv, by simp⟩
theorem mem_allSets : ∀ (t x : St), x ∈ allSets t ↔ x.Sublist t
  | [], x => by simp [allSets]
  | a :: t, x => by
    have ih := mem_allSets t
    show x ∈ [] :: ((allSets t).map (a :: ·) ++ (allSets t).tail) ↔ _
    have h0 : allSets t = [] :: (allSets t).tail := by cases t <;> rfl
    simp only [List.mem_cons, List.mem_append, List.mem_map]
    constructor
    · rintro (rfl | ⟨y, hy, rfl⟩ | h)
      · exact List.nil_sublist _
      · exact ((ih y).mp hy).cons₂ a
      · exact ((ih x).mp (List.mem_of_mem_tail h)).cons a
    · intro h
      cases h with
      | cons _ h =>
        have h := (ih x).mpr h
        rw [h0] at h
        rcases List.mem_cons.mp h with h | h
        · exact .inl h
        · exact .inr (.inr h)
      | cons_cons _ h => exact .inr (.inl ⟨_, (ih _).mpr h, rfl⟩)
theorem allSets_asc : ∀ {t : St}, Asc t → Asc (allSets t)
  | [], _ => by simp [allSets]
  | a :: t, h => by
    obtain ⟨h1, h2⟩ := List.pairwise_cons.mp h
    have ih := allSets_asc h2
    have h0 : allSets t = [] :: (allSets t).tail := by cases t <;> rfl
    show Asc ([] :: ((allSets t).map (a :: ·) ++ (allSets t).tail))
    have it : Asc (allSets t).tail := ih.sublist (List.tail_sublist _)
    have hd : ∀ x ∈ (allSets t).tail, ∃ b y, x = b :: y ∧ b ∈ t := fun x hx => by
      cases x with
      | nil =>
        rw [h0] at ih
        exact absurd ((List.pairwise_cons.mp ih).1 [] hx) (by rw [ltE_irrefl]; decide)
      | cons b y => exact ⟨b, y, rfl, ((mem_allSets t _).mp (List.mem_of_mem_tail hx)).subset List.mem_cons_self⟩
    refine List.pairwise_cons.mpr ⟨fun x hx => ?_, List.pairwise_append.mpr ⟨?_, it, fun x hx y hy => ?_⟩⟩
    · rcases List.mem_append.mp hx with hx | hx
      · obtain ⟨y, _, rfl⟩ := List.mem_map.mp hx
        exact ltE_nil _ _
      · obtain ⟨b, y, rfl, _⟩ := hd x hx
        exact ltE_nil _ _
    · exact List.pairwise_map.mpr (ih.imp fun {u v} q => by rw [ltE_cons, if_pos rfl]; exact q)
    · obtain ⟨u, _, rfl⟩ := List.mem_map.mp hx
      obtain ⟨b, v, rfl, hb⟩ := hd y hy
      have := h1 b hb
      rw [ltE_cons, if_neg (fun e => by rw [e, ltE_irrefl] at this; cases this)]
      exact this
theorem lawSets0_nodup : ∀ (t : St) (f : List St), f.Nodup → t.Nodup → (∀ u ∈ f, ∀ w ∈ u, w ∉ t) → (lawSets0 t f).Nodup
  | [], f, hf, _, _ => hf
  | a :: t, f, hf, ht, hd => by
    obtain ⟨n1, n2⟩ := List.nodup_cons.mp ht
    unfold lawSets0
    refine lawSets0_nodup t _ ?_ n2 ?_
    · refine List.nodup_append.mpr ⟨hf, ?_, ?_⟩
      · exact List.pairwise_map.mpr (hf.imp fun {u v} q e => q (List.append_cancel_right e))
      · rintro u hu v hv rfl
        obtain ⟨w, _, rfl⟩ := List.mem_map.mp hv
        exact hd _ hu a (by simp) List.mem_cons_self
    · intro u hu w hw hwt
      rcases List.mem_append.mp hu with hu | hu
      · exact hd u hu w hw (List.mem_cons_of_mem _ hwt)
      · obtain ⟨v, hv, rfl⟩ := List.mem_map.mp hu
        rcases List.mem_append.mp hw with hw | hw
        · exact hd v hv w hw (List.mem_cons_of_mem _ hwt)
        · rw [List.mem_singleton.mp hw] at hwt
          exact n1 hwt
/-- the law's sets are the program's -/
theorem lawSets_eq {t : St} (h : Asc t) : lawSets t = allSets t := sortE_eq (lawSets0_nodup t [[]] (by simp) h.nodup (by simp)) (allSets_asc h) fun x => by
  rw [mem_lawSets0, mem_allSets]
  simp
/-- the law's finds -/
theorem law_finds_ok [H_law_finds p] {s : S} (f : Ft) (x : St) (h : bd f) : call (Ev p (n + 1)) i_law_finds [enc f, enc x] s = .ok (.bl (findsF f x)) s := by
  rw [call_law_finds]
  have h2 := h.2
  simp [b_law_finds]
  refine find_k (fun z => fin s z = _) (fun s' => ∃ x2 x3, s' = ⟨[Sl.val (enc f), Sl.val (enc x), x2, x3, Sl.no], s.g⟩) (fun t => if termFinds t x then some (.bl true) else none) ?_ ⟨_, _, rfl⟩ ?_
  · rintro t ht _ ⟨x2, x3, rfl⟩
    have hb := h2 t ht
    refine ⟨⟨[Sl.val (enc f), Sl.val (enc x), .val (enc t.1), .val (enc t.2), Sl.no], s.g⟩, ?_, _, _, rfl⟩
    simp
    rw [lc_filter (fun w => !hasB x w) hb.1.1]; rotate_left
    · intro w hw; simp
    simp
    rw [lc_filter (fun w => hasB x w) hb.2.1]; rotate_left
    · intro w hw; simp
    have e1 : (t.1.filter fun w => !hasB x w).isEmpty = t.1.all fun w => hasB x w := by
      rw [Bool.eq_iff_iff]; simp
    have e2 : (t.2.filter fun w => hasB x w).isEmpty = t.2.all fun w => !hasB x w := by
      rw [Bool.eq_iff_iff]; simp
    simp [e1, e2]
    have e3 : termFinds t x = ((t.1.all fun w => hasB x w) && t.2.all fun w => !hasB x w) := rfl
    rw [e3]
    cases (t.1.all fun w => hasB x w) <;> cases (t.2.all fun w => !hasB x w) <;> simp
  · rintro _ ⟨x2, x3, rfl⟩
    have e : (f.findSome? fun t => if termFinds t x then some (D.bl true) else none) = if findsF f x then some (.bl true) else none := by
      clear h h2
      induction f with
      | nil => rfl
      | cons t f ih =>
        rw [List.findSome?_cons, ih]
        unfold findsF
        rw [List.any_cons]
        cases termFinds t x <;> rfl
    rw [e]
    cases findsF f x <;> simp

/-- the script's list -/
abbrev scr (ns : List Int) : D := .kl (ns.map .int)
@[simp] theorem f_len_k (l : List D) : evF .len (.kl l) = some (.int l.length) := id rfl
@[simp] theorem ixG_k (l : List D) (y : D) (s : S) : ixG (.kl l) y s = R.of (evIx (.kl l) y) s := id rfl
theorem ix_scr (ns : List Int) (i : Nat) (h : i < ns.length) : evIx (scr ns) (.int i) = some (.int ns[i]) := by
  show atI (ns.map D.int) i = _
  rw [atI_nat']; simp [h]
@[simp] theorem f_abs (i : Int) : evF .abs (.int i) = some (.int (if i < 0 then -i else i)) := id rfl
@[simp] theorem o_pow10 : evO .pow (.int 10) (.int 18) = some (.int 1000000000000000000) := id rfl
/-- a new source -/
theorem law_source_ok [H_law_source p] (ns : List Int) (i : Nat) (hi : i ≤ 1000) (g : List (List D)) : ∃ k g', (∀ r, call (Ev p (n + 1)) i_law_source [scr ns, .int i] ⟨r, g⟩ = .ok (.ref k) ⟨r, g'⟩) ∧ Src g' k := by
  have mk : ∀ c : Int, (∀ r, call (Ev p (n + 1)) i_law_source [scr ns, .int i] ⟨r, g⟩ = if c < 1000000000000000000 then .ok (.ref g.length) ⟨r, g ++ [[.int 0, .int (1 + (c * 7919 + 104729 * i) % 2147483646)]]⟩ else .ok (.ref g.length) ⟨r, g ++ [[.int c, .int (1 + (c + i) % 2147483646)]]⟩) → ∃ k g', (∀ r, call (Ev p (n + 1)) i_law_source [scr ns, .int i] ⟨r, g⟩ = .ok (.ref k) ⟨r, g'⟩) ∧ Src g' k := fun c hc => by
    by_cases h : c < 1000000000000000000
    · exact ⟨g.length, g ++ [[.int 0, .int (1 + (c * 7919 + 104729 * i) % 2147483646)]], fun r => by rw [hc r, if_pos h], _, _, by simp; exact ⟨rfl, rfl⟩⟩
    · exact ⟨g.length, g ++ [[.int c, .int (1 + (c + i) % 2147483646)]], fun r => by rw [hc r, if_neg h], _, _, by simp; exact ⟨rfl, rfl⟩⟩
  by_cases h : i < ns.length
  · refine mk (if ns[i] < 0 then -ns[i] else ns[i]) fun r => ?_
    rw [call_law_source]
    simp [b_law_source, h, ix_scr ns i h]
    generalize (if ns[i] < 0 then -ns[i] else ns[i]) = c
    by_cases hc : c < 1000000000000000000 <;> simp [hc, o_mul_i]
  · refine mk 0 fun r => ?_
    rw [call_law_source]
    simp [b_law_source, h, o_mul_i]
end
end TD.P

-- ML
set_option maxHeartbeats 1000000
/-! plain facts of drawn values -/
namespace TD.P
open PySem PySem.Spec PyProof.Rows L2
open Enc
theorem pool_ok : ∀ w ∈ POOL, (isName w && !hasB WORDS w) = true := by decide +kernel
theorem pool_len : ∀ w ∈ POOL, w.length ≤ 9 := by decide +kernel
section
variable {t : St} {m : Nat}
theorem DTags.isTags (h : DTags m t) (hm : m ≤ 4) : TD.P.isTags t = true := by
  unfold TD.P.isTags
  have h1 := h.pos
  have h2 := h.le
  have h3 : t.all (fun w => isName w && !hasB WORDS w) = true := List.all_eq_true.mpr fun w hw => pool_ok w (h.sub w hw)
  rw [h3, rising_asc.mpr h.asc]
  simp; omega
theorem bd_sub {α : Type} [Enc α] {l x : List α} (h : bd l) (hx : x.Sublist l) : bd x := ⟨Nat.le_trans hx.length_le h.1, fun a ha => h.2 a (hx.subset ha)⟩
theorem DTags.bd (h : DTags m t) (hm : m ≤ 4) : Enc.bd t := ⟨by have := h.le; omega, fun w hw => by have := pool_len w (h.sub w hw); show w.length ≤ _; omega⟩
theorem DTerm.bd {x : Tm} (ht : Enc.bd t) (h : DTerm t x) : Enc.bd x := ⟨bd_sub ht h.s1, bd_sub ht h.s2⟩
theorem DFilt.bd {f : Ft} (ht : Enc.bd t) (h : DFilt t f) : Enc.bd f := ⟨by have := h.le; omega, fun x hx => (h.tm x hx).bd ht⟩
theorem DTerm.good {x : Tm} (ht : Asc t) (h : DTerm t x) : isTerm t x = true := by
  unfold isTerm
  rw [isSome_sub ht h.s1, isSome_sub ht h.s2]
  simp
  exact h.no
theorem DFilt.good {f : Ft} (ht : Asc t) (h : DFilt t f) : isGood t f = true := by
  unfold isGood
  have h1 : f.all (isTerm t) = true := List.all_eq_true.mpr fun x hx => (h.tm x hx).good ht
  have := h.le
  rw [h1, rising_asc.mpr h.asc]
  simp; omega
theorem stock_good {st : List St} (ht : Asc t) (h : ∀ x ∈ st, x.Sublist t) (hl : st.length ≤ 20) : areSets t st = true := by
  unfold areSets
  have h1 : st.all (isSome' t) = true := List.all_eq_true.mpr fun x hx => isSome_sub ht (h x hx)
  rw [h1]
  simp; omega
theorem stock_bd {st : List St} (ht : Enc.bd t) (h : ∀ x ∈ st, x.Sublist t) (hl : st.length ≤ 1000) : Enc.bd st := ⟨by omega, fun x hx => bd_sub ht (h x hx)⟩
end
/-- whether a filter finds the thing with a number -/
def foundAt (f : Ft) (st : List St) (i : Nat) : Bool := ((st[i]?).map (findsF f)).getD false
theorem numbers_from (f : Ft) : ∀ (st : List St) (k : Nat), (((st.zipIdx k).map fun q => (q.2, q.1)).filter fun q => findsF f q.2).map (·.1) = (List.range' k st.length).filter fun i => foundAt f st (i - k)
  | [], k => by simp
  | x :: st, k => by
    have ih := numbers_from f st (k + 1)
    rw [List.zipIdx_cons, List.map_cons, List.filter_cons, List.length_cons, List.range'_succ, List.filter_cons]
    have e : (List.range' (k + 1) st.length).filter (fun i => foundAt f (x :: st) (i - k)) = (List.range' (k + 1) st.length).filter fun i => foundAt f st (i - (k + 1)) := by
      refine List.filter_congr fun i hi => ?_
      have := (List.mem_range'_1.mp hi).1
      unfold foundAt
      rw [show i - k = (i - (k + 1)) + 1 by omega, List.getElem?_cons_succ]
    rw [e, ← ih]
    have e0 : foundAt f (x :: st) (k - k) = findsF f x := by simp [foundAt]
    rw [e0]
    cases findsF f x <;> simp
theorem numbers_eq (f : Ft) (st : List St) : numbersF f st = (List.range st.length).filter (foundAt f st) := by
  unfold numbersF
  rw [numbers_from f st 0, List.range_eq_range']
  simp
theorem within_eq (t : St) (f g : Ft) : ((matchedF t f).filter fun x => !hasB (matchedF t g) x).isEmpty = (matchedF t f).all (findsF g) := by
  rw [Bool.eq_iff_iff, List.isEmpty_iff, List.filter_eq_nil_iff, List.all_eq_true]
  refine forall_congr' fun x => forall_congr' fun hx => ?_
  have : x ∈ allSets t := (List.mem_filter.mp hx).1
  simp [matchedF, this]
@[simp] theorem cutD_m1 (l : List D) : cutD l none (some (-1)) = l.dropLast := cut_neg1 l
end TD.P

-- MR
set_option maxHeartbeats 1000000
/-! mirrors: rows -/
namespace TD.P
open PySem PySem.Spec PyProof.Rows L2
open Enc
@[simp] theorem sn_put_take : ((("put" : Str) = ("take" : Str))) = False := eq_false (by decide +kernel)
@[simp] theorem sn_put_rename : ((("put" : Str) = ("rename" : Str))) = False := eq_false (by decide +kernel)
@[simp] theorem sn_put_exchange : ((("put" : Str) = ("exchange" : Str))) = False := eq_false (by decide +kernel)
@[simp] theorem sn_put_throw : ((("put" : Str) = ("throw" : Str))) = False := eq_false (by decide +kernel)
@[simp] theorem sn_put_if : ((("put" : Str) = ("if" : Str))) = False := eq_false (by decide +kernel)
@[simp] theorem sn_put_unless : ((("put" : Str) = ("unless" : Str))) = False := eq_false (by decide +kernel)
@[simp] theorem sn_take_put : ((("take" : Str) = ("put" : Str))) = False := eq_false (by decide +kernel)
@[simp] theorem sn_take_rename : ((("take" : Str) = ("rename" : Str))) = False := eq_false (by decide +kernel)
@[simp] theorem sn_take_exchange : ((("take" : Str) = ("exchange" : Str))) = False := eq_false (by decide +kernel)
@[simp] theorem sn_take_throw : ((("take" : Str) = ("throw" : Str))) = False := eq_false (by decide +kernel)
@[simp] theorem sn_take_if : ((("take" : Str) = ("if" : Str))) = False := eq_false (by decide +kernel)
@[simp] theorem sn_take_unless : ((("take" : Str) = ("unless" : Str))) = False := eq_false (by decide +kernel)
@[simp] theorem sn_rename_put : ((("rename" : Str) = ("put" : Str))) = False := eq_false (by decide +kernel)
@[simp] theorem sn_rename_take : ((("rename" : Str) = ("take" : Str))) = False := eq_false (by decide +kernel)
@[simp] theorem sn_rename_exchange : ((("rename" : Str) = ("exchange" : Str))) = False := eq_false (by decide +kernel)
@[simp] theorem sn_rename_throw : ((("rename" : Str) = ("throw" : Str))) = False := eq_false (by decide +kernel)
@[simp] theorem sn_rename_if : ((("rename" : Str) = ("if" : Str))) = False := eq_false (by decide +kernel)
@[simp] theorem sn_rename_unless : ((("rename" : Str) = ("unless" : Str))) = False := eq_false (by decide +kernel)
@[simp] theorem sn_exchange_put : ((("exchange" : Str) = ("put" : Str))) = False := eq_false (by decide +kernel)
@[simp] theorem sn_exchange_take : ((("exchange" : Str) = ("take" : Str))) = False := eq_false (by decide +kernel)
@[simp] theorem sn_exchange_rename : ((("exchange" : Str) = ("rename" : Str))) = False := eq_false (by decide +kernel)
@[simp] theorem sn_exchange_throw : ((("exchange" : Str) = ("throw" : Str))) = False := eq_false (by decide +kernel)
@[simp] theorem sn_exchange_if : ((("exchange" : Str) = ("if" : Str))) = False := eq_false (by decide +kernel)
@[simp] theorem sn_exchange_unless : ((("exchange" : Str) = ("unless" : Str))) = False := eq_false (by decide +kernel)
@[simp] theorem sn_throw_put : ((("throw" : Str) = ("put" : Str))) = False := eq_false (by decide +kernel)
@[simp] theorem sn_throw_take : ((("throw" : Str) = ("take" : Str))) = False := eq_false (by decide +kernel)
@[simp] theorem sn_throw_rename : ((("throw" : Str) = ("rename" : Str))) = False := eq_false (by decide +kernel)
@[simp] theorem sn_throw_exchange : ((("throw" : Str) = ("exchange" : Str))) = False := eq_false (by decide +kernel)
@[simp] theorem sn_throw_if : ((("throw" : Str) = ("if" : Str))) = False := eq_false (by decide +kernel)
@[simp] theorem sn_throw_unless : ((("throw" : Str) = ("unless" : Str))) = False := eq_false (by decide +kernel)
@[simp] theorem sn_if_put : ((("if" : Str) = ("put" : Str))) = False := eq_false (by decide +kernel)
@[simp] theorem sn_if_take : ((("if" : Str) = ("take" : Str))) = False := eq_false (by decide +kernel)
@[simp] theorem sn_if_rename : ((("if" : Str) = ("rename" : Str))) = False := eq_false (by decide +kernel)
@[simp] theorem sn_if_exchange : ((("if" : Str) = ("exchange" : Str))) = False := eq_false (by decide +kernel)
@[simp] theorem sn_if_throw : ((("if" : Str) = ("throw" : Str))) = False := eq_false (by decide +kernel)
@[simp] theorem sn_if_unless : ((("if" : Str) = ("unless" : Str))) = False := eq_false (by decide +kernel)
@[simp] theorem sn_unless_put : ((("unless" : Str) = ("put" : Str))) = False := eq_false (by decide +kernel)
@[simp] theorem sn_unless_take : ((("unless" : Str) = ("take" : Str))) = False := eq_false (by decide +kernel)
@[simp] theorem sn_unless_rename : ((("unless" : Str) = ("rename" : Str))) = False := eq_false (by decide +kernel)
@[simp] theorem sn_unless_exchange : ((("unless" : Str) = ("exchange" : Str))) = False := eq_false (by decide +kernel)
@[simp] theorem sn_unless_throw : ((("unless" : Str) = ("throw" : Str))) = False := eq_false (by decide +kernel)
@[simp] theorem sn_unless_if : ((("unless" : Str) = ("if" : Str))) = False := eq_false (by decide +kernel)
@[simp] theorem f_len_raw (l : List D) : evF .len (.tup l) = some (.int l.length) := id rfl
theorem ix_raw (l : List D) (k : Nat) : evIx (.tup l) (.int k) = l[k]? := atI_nat' l k
@[simp] theorem ix_r0 (a : D) (l : List D) : evIx (.tup (a :: l)) (.int 0) = some a := (ix_raw _ 0).trans rfl
@[simp] theorem ix_r1 (a b : D) (l : List D) : evIx (.tup (a :: b :: l)) (.int 1) = some b := (ix_raw _ 1).trans rfl
@[simp] theorem ix_r2 (a b c : D) (l : List D) : evIx (.tup (a :: b :: c :: l)) (.int 2) = some c := (ix_raw _ 2).trans rfl
@[simp] theorem o_in_2 (x a b : Str) : evO .isin (.str x) (.tup [.str a, .str b]) = some (.bl (decide (x = a) || decide (x = b))) := by
  have := o_in_s x [a, b]
  rw [show (enc [a, b] : D) = .tup [.str a, .str b] from rfl] at this
  rw [this]
  congr 2
  rw [Bool.eq_iff_iff]; simp
inductive Deed where
  | put (w : Str) (f : Ft) | take (w : Str) (f : Ft) | ren (a b : Str) | exc (a b : Str) | thr (f : Ft)
  deriving DecidableEq
inductive Step where
  | free (d : Deed) | bound (b : Bool) (f : Ft) (d : Deed)
  deriving DecidableEq
def encDeed : Deed → D
  | .put w f => .tup [.str "put", .str w, enc f]
  | .take w f => .tup [.str "take", .str w, enc f]
  | .ren a b => .tup [.str "rename", .str a, .str b]
  | .exc a b => .tup [.str "exchange", .str a, .str b]
  | .thr f => .tup [.str "throw", enc f]
def encStep : Step → D
  | .free d => encDeed d
  | .bound b f d => .tup [.str (if b then "if" else "unless"), enc f, encDeed d]
theorem str_ne {a b : Str} (h : a ≠ b) : (a == b) = false := by simpa using h
theorem encs_tup (l : Ft) : (enc l : D) = .tup (encs l) := rfl
theorem no_str_ft (x : Str) (f : Ft) : eqv (.str x) (enc f) = false := rfl
theorem no_ft_str (x : Str) (f : Ft) : eqv (enc f) (.str x) = false := rfl
theorem deed_nk (d : Deed) : ∃ k, nk (encDeed d) = some k ∧ k.depth ≤ 5 := by
  have hf : ∀ f : Ft, ∃ k, nk (enc f) = some k ∧ k.depth ≤ 3 := fun f => nk_ f
  cases d with
  | put w f => obtain ⟨k, h1, h2⟩ := hf f; exact ⟨.tup [.text "put", .text w, k], by simp [encDeed, nk, nks, h1], by simp only [NestedKey.depth, NestedKey.depthAll]; omega⟩
  | take w f => obtain ⟨k, h1, h2⟩ := hf f; exact ⟨.tup [.text "take", .text w, k], by simp [encDeed, nk, nks, h1], by simp only [NestedKey.depth, NestedKey.depthAll]; omega⟩
  | ren a b => exact ⟨.tup [.text "rename", .text a, .text b], by simp [encDeed, nk, nks], by simp only [NestedKey.depth, NestedKey.depthAll]; omega⟩
  | exc a b => exact ⟨.tup [.text "exchange", .text a, .text b], by simp [encDeed, nk, nks], by simp only [NestedKey.depth, NestedKey.depthAll]; omega⟩
  | thr f => obtain ⟨k, h1, h2⟩ := hf f; exact ⟨.tup [.text "throw", k], by simp [encDeed, nk, nks, h1], by simp only [NestedKey.depth, NestedKey.depthAll]; omega⟩
theorem fl_T (m : Nat) (l : List D) : fl (m + 1) (.tup l) = fls m l := by unfold fl; rfl
theorem fls_C (m : Nat) (d : D) (l : List D) : fls m (d :: l) = (fl m d && fls m l) := by conv => lhs; unfold fls
theorem fls_N (m : Nat) : fls m [] = true := by unfold fls; rfl
theorem deed_fl (d : Deed) (n : Nat) (h : 5 ≤ n) : fl n (encDeed d) = true := by
  obtain ⟨m, rfl⟩ : ∃ m, n = m + 1 := ⟨n - 1, by omega⟩
  have hf : ∀ f : Ft, fl m (enc f) = true := fun f => fl_ f m (by show 3 ≤ m; omega)
  have hs : ∀ x : Str, fl m (.str x) = true := fun x => fl_ x m (by show 0 ≤ m; omega)
  cases d <;> simp only [encDeed, fl_T, fls_C, fls_N, hf, hs, Bool.and_self]
theorem deed_inj (a b : Deed) : eqv (encDeed a) (encDeed b) = true ↔ a = b := by
  have hf : ∀ f g : Ft, eqv (enc f) (enc g) = decide (f = g) := fun f g => eqv_enc f g
  have hs : ∀ x y : Str, eqv (.str x) (.str y) = decide (x = y) := fun x y => eqv_enc x y
  have e1 : ∀ (x : Str) (f : Ft), eqv (.str x) (enc f) = false := fun _ _ => rfl
  have e2 : ∀ (x : Str) (f : Ft), eqv (enc f) (.str x) = false := fun _ _ => rfl
  cases a <;> cases b <;> simp [encDeed, eqv, eqvs, hf, hs, e1, e2]
instance : Enc Deed where
  enc := encDeed
  dp := 5
  fl_ := deed_fl
  inj := deed_inj
  nk_ := deed_nk
  bd d := match d with
    | .put w f => bd f
    | .take w f => bd f
    | .thr f => bd f
    | _ => True
theorem step_fl (s : Step) (n : Nat) (h : 6 ≤ n) : fl n (encStep s) = true := by
  cases s with
  | free d => exact deed_fl d n (by omega)
  | bound b f d =>
    obtain ⟨m, rfl⟩ : ∃ m, n = m + 1 := ⟨n - 1, by omega⟩
    have hf : fl m (enc f) = true := fl_ f m (by show 3 ≤ m; omega)
    have hd : fl m (encDeed d) = true := deed_fl d m (by omega)
    have hs : ∀ x : Str, fl m (.str x) = true := fun x => fl_ x m (by show 0 ≤ m; omega)
    simp only [encStep, fl_T, fls_C, fls_N, hf, hd, hs, Bool.and_self]
theorem eqv_T (l m : List D) : eqv (.tup l) (.tup m) = eqvs l m := by unfold eqv; rfl
theorem eqvs_C (a b : D) (l m : List D) : eqvs (a :: l) (b :: m) = (eqv a b && eqvs l m) := by conv => lhs; unfold eqvs
theorem eqvs_N : eqvs [] [] = true := by unfold eqvs; rfl
def headW : Step → Str
  | .free (.put _ _) => "put" | .free (.take _ _) => "take" | .free (.ren _ _) => "rename" | .free (.exc _ _) => "exchange" | .free (.thr _) => "throw"
  | .bound true _ _ => "if" | .bound false _ _ => "unless"
theorem enc_head (s : Step) : ∃ l, encStep s = .tup (.str (headW s) :: l) := by
  cases s with
  | free d => cases d <;> exact ⟨_, rfl⟩
  | bound b f d => cases b <;> exact ⟨_, rfl⟩
theorem head_of {a b : Step} (h : eqv (encStep a) (encStep b) = true) : headW a = headW b := by
  obtain ⟨l, e⟩ := enc_head a
  obtain ⟨m, e'⟩ := enc_head b
  rw [e, e', eqv_T, eqvs_C, Bool.and_eq_true, show eqv (.str (headW a)) (.str (headW b)) = decide (headW a = headW b) from eqv_enc (headW a) (headW b)] at h
  simpa using h.1
theorem step_inj (a b : Step) : eqv (encStep a) (encStep b) = true ↔ a = b := by
  cases a with
  | free d => cases b with
    | free e => simp only [encStep, deed_inj, Step.free.injEq]
    | bound c g e =>
      refine ⟨fun h => ?_, fun h => nomatch h⟩
      have := head_of h
      cases d <;> cases c <;> simp [headW] at this
  | bound c g e => cases b with
    | free d =>
      refine ⟨fun h => ?_, fun h => nomatch h⟩
      have := head_of h
      cases d <;> cases c <;> simp [headW] at this
    | bound c' g' e' =>
      simp only [encStep, eqv_T, eqvs_C, eqvs_N, Bool.and_true, Bool.and_eq_true, deed_inj, show ∀ x y : Str, eqv (.str x) (.str y) = decide (x = y) from fun x y => eqv_enc x y, show eqv (enc g) (enc g') = decide (g = g') from eqv_enc _ _, decide_eq_true_eq, Step.bound.injEq]
      cases c <;> cases c' <;> simp
theorem step_nk (s : Step) : ∃ k, nk (encStep s) = some k ∧ k.depth ≤ 6 := by
  cases s with
  | free d => obtain ⟨k, h1, h2⟩ := deed_nk d; exact ⟨k, h1, by omega⟩
  | bound b f d =>
    obtain ⟨k, h1, h2⟩ := deed_nk d
    obtain ⟨m, h3, h4⟩ := nk_ f
    have h4 : m.depth ≤ 3 := h4
    refine ⟨.tup [.text (if b then "if" else "unless"), m, k], ?_, by simp only [NestedKey.depth, NestedKey.depthAll]; omega⟩
    unfold encStep nk nks
    rw [show nk (.str (if b then "if" else "unless")) = some (.text (if b then "if" else "unless")) by unfold nk; rfl]
    unfold nks
    rw [h3]
    unfold nks
    rw [h1]
    unfold nks
    rfl
instance : Enc Step where
  enc := encStep
  dp := 6
  fl_ := step_fl
  inj := step_inj
  nk_ := step_nk
  bd s := match s with
    | .free d => bd d
    | .bound b f d => bd f ∧ bd d
abbrev Row := List Step
def Step.deed : Step → Deed
  | .free d => d
  | .bound _ _ d => d
def Step.isB : Step → Bool
  | .free _ => false
  | .bound .. => true

@[simp] theorem enc_deed (d : Deed) : enc d = encDeed d := rfl
@[simp] theorem enc_step (d : Step) : enc d = encStep d := rfl
/-! typed -/
def withTag (s : St) (t : Str) : St := bif hasB s t then s else sortE (s ++ [t])
def withoutTag (s : St) (t : Str) : St := s.filter fun x => !decide (x = t)
def swappedF (s : St) (a b : Str) : St :=
  let f := bif hasB s b then withTag s a else withoutTag s a
  bif hasB s a then withTag f b else withoutTag f b
def deedOn : Deed → St → Option St
  | .put w f, s => some (bif findsF f s then withTag s w else s)
  | .take w f, s => some (bif findsF f s then withoutTag s w else s)
  | .ren a b, s => some (bif hasB s a then withTag (withoutTag s a) b else s)
  | .exc a b, s => some (swappedF s a b)
  | .thr f, s => bif findsF f s then none else some s
def deedOnO (d : Deed) (o : Option St) : Option St := o.bind (deedOn d)
def foundBy (f : Ft) (o : Option St) : Bool := (o.map (findsF f)).getD false
/-- one step of a play -/
def playStep (st : List (Option St) × List Bool) : Step → List (Option St) × List Bool
  | .free d => (st.1.map (deedOnO d), st.2)
  | .bound b f d => let l := decide (st.1.any (foundBy f) = b); (bif l then st.1.map (deedOnO d) else st.1, st.2 ++ [l])
def playedF (row : Row) (stock : List St) : List (Option St) × List Bool := row.foldl playStep (stock.map some, [])
/-- .. of a thing alone, the answers told -/
def followStep (st : Option St × List Bool × List Bool) : Step → Option St × List Bool × List Bool
  | .free d => (deedOnO d st.1, st.2.1, st.2.2)
  | .bound b f d => (bif st.2.2.headD false then deedOnO d st.1 else st.1, st.2.1 ++ [foundBy f st.1], st.2.2.tail)
def followedF (row : Row) (told : List Bool) (s : Option St) : Option St × List Bool := let r := row.foldl followStep (s, [], told); (r.1, r.2.1)
/-- a good set -/
structure OKs (t s : St) : Prop where
  asc : Asc s
  sub : ∀ x ∈ s, x ∈ t
theorem nodup_len : ∀ {s t : St}, s.Nodup → (∀ x ∈ s, x ∈ t) → s.length ≤ t.length
  | [], t, _, _ => Nat.zero_le _
  | a :: s, t, h, hs => by
    obtain ⟨h1, h2⟩ := List.nodup_cons.mp h
    have ha := hs a List.mem_cons_self
    have := nodup_len (s := s) (t := t.erase a) h2 fun x hx => (List.mem_erase_of_ne (fun e => h1 (by rw [← e]; exact hx))).mpr (hs x (List.mem_cons_of_mem _ hx))
    rw [List.length_erase_of_mem ha] at this
    have hp : 0 < t.length := List.length_pos_of_mem ha
    simp; omega
theorem OKs.len {t s : St} (h : OKs t s) : s.length ≤ t.length := nodup_len h.asc.nodup h.sub
theorem OKs.with {t s : St} {w : Str} (h : OKs t s) (hw : w ∈ t) : OKs t (withTag s w) := by
  unfold withTag
  cases q : hasB s w with
  | true => exact h
  | false =>
    have q := hasB_no.mp q
    refine ⟨sortE_asc (List.nodup_append.mpr ⟨h.asc.nodup, by simp, fun a ha b hb e => ?_⟩), fun x hx => ?_⟩
    · rw [List.mem_singleton] at hb; rw [e, hb] at ha; exact q ha
    · rcases List.mem_append.mp (mem_sortE.mp hx) with hx | hx
      · exact h.sub x hx
      · rw [List.mem_singleton.mp hx]; exact hw
theorem OKs.without {t s : St} {w : Str} (h : OKs t s) : OKs t (withoutTag s w) := ⟨h.asc.sublist List.filter_sublist, fun x hx => h.sub x (List.mem_filter.mp hx).1⟩
/-- a good deed, step -/
def GDeed (t : St) : Deed → Prop
  | .put w f => w ∈ t ∧ isGood t f = true ∧ bd f
  | .take w f => w ∈ t ∧ isGood t f = true ∧ bd f
  | .ren a b => a ∈ t ∧ b ∈ t ∧ a ≠ b
  | .exc a b => a ∈ t ∧ b ∈ t ∧ a ≠ b
  | .thr f => isGood t f = true ∧ bd f
def GStep (t : St) : Step → Prop
  | .free d => GDeed t d
  | .bound _ f d => isGood t f = true ∧ bd f ∧ GDeed t d
structure GRow (t : St) (row : Row) : Prop where
  st : ∀ s ∈ row, GStep t s
  le : row.length ≤ 6
  bo : (row.filter Step.isB).length ≤ 3
theorem GDeed.bd {t : St} {d : Deed} (h : GDeed t d) : Enc.bd d := by
  cases d with
  | put w f => exact h.2.2
  | take w f => exact h.2.2
  | thr f => exact h.2
  | _ => trivial
theorem OKs.deed {t s : St} {d : Deed} (h : OKs t s) (hd : GDeed t d) : ∀ r, deedOn d s = some r → OKs t r := by
  intro r e
  cases d with
  | put w f =>
    cases e
    cases findsF f s
    · exact h
    · exact h.with hd.1
  | take w f =>
    cases e
    cases findsF f s
    · exact h
    · exact h.without
  | ren a b =>
    cases e
    cases hasB s a
    · exact h
    · exact h.without.with hd.2.1
  | exc a b =>
    cases e
    have h1 : OKs t (bif hasB s b then withTag s a else withoutTag s a) := by
      cases hasB s b
      · exact h.without
      · exact h.with hd.1
    show OKs t (bif hasB s a then withTag (bif hasB s b then withTag s a else withoutTag s a) b else withoutTag (bif hasB s b then withTag s a else withoutTag s a) b)
    cases hasB s a
    · exact h1.without
    · exact h1.with hd.2.1
  | thr f =>
    have e : (bif findsF f s then none else some s) = some r := e
    cases q : findsF f s with
    | true => rw [q] at e; cases e
    | false => rw [q] at e; cases e; exact h
section
variable {p : Pgm} {n : Nat} {s : S}
theorem without_tag_ok [H_without_tag p] (x : St) (w : Str) (h : x.length ≤ 1000) : call (Ev p (n + 1)) i_without_tag [enc x, .str w] s = .ok (enc (withoutTag x w)) s := by
  rw [call_without_tag]
  simp [b_without_tag]
  rw [lc_filter (fun y => !decide (y = w)) (by omega)]; rotate_left
  · intro y hy; simp
  simp [withoutTag]
@[simp] theorem f_sorted_t {α : Type} [OEnc α] (l : List α) (h : dp α ≤ 40) : evF .sorted (enc l) = some (.lst (encs (sortE l))) := by
  show (if sortable (encs l) then some (D.lst (sortD (encs l))) else none) = _
  rw [if_pos (sortable_encs l h), sortD_encs]
theorem with_tag_ok [H_with_tag p] (x : St) (w : Str) (h : x.length ≤ 1000) : call (Ev p (n + 1)) i_with_tag [enc x, .str w] s = .ok (enc (withTag x w)) s := by
  rw [call_with_tag]
  simp [b_with_tag, add_ts x w (by omega)]
  unfold withTag
  cases hasB x w <;> simp
theorem withTag_len (x : St) (w : Str) : (withTag x w).length ≤ x.length + 1 := by unfold withTag; cases hasB x w <;> simp
theorem withoutTag_len (x : St) (w : Str) : (withoutTag x w).length ≤ x.length := List.length_filter_le _ _
theorem swapped_ok [H_swapped p] (x : St) (a b : Str) (h : x.length ≤ 900) : call (Ev p (n + 2)) i_swapped [enc x, .str a, .str b] s = .ok (enc (swappedF x a b)) s := by
  rw [call_swapped]
  have h1 := withTag_len x a
  have h2 := withoutTag_len x a
  simp [b_swapped]
  rw [show walkD (D.tup [D.tup [D.str a, D.bl (hasB x b)], D.tup [D.str b, D.bl (hasB x a)]]) = some [enc (a, hasB x b), enc (b, hasB x a)] from rfl]
  simp [forGo_cons, forGo_nil]
  unfold swappedF
  cases hasB x b <;> cases hasB x a <;> simp [forGo_cons, forGo_nil, with_tag_ok, without_tag_ok, show x.length ≤ 1000 by omega, show (withTag x a).length ≤ 1000 by omega, show (withoutTag x a).length ≤ 1000 by omega]
theorem deed_on_ok [H_deed_on p] (d : Deed) (x : St) (h : x.length ≤ 900) (hd : bd d) : call (Ev p (n + 3)) i_deed_on [enc d, enc x] s = .ok (enc (deedOn d x)) s := by
  rw [call_deed_on]
  have h1 := withoutTag_len x
  cases d with
  | put w f =>
    have hd : bd f := hd
    simp [b_deed_on, encDeed, deedOn, finds_ok f x hd]
    cases findsF f x <;> simp [with_tag_ok x w (by omega)]
  | take w f =>
    have hd : bd f := hd
    simp [b_deed_on, encDeed, deedOn, finds_ok f x hd]
    cases findsF f x <;> simp [without_tag_ok x w (by omega)]
  | thr f =>
    have hd : bd f := hd
    simp [b_deed_on, encDeed, deedOn, finds_ok f x hd]
    cases findsF f x <;> simp
  | ren a b =>
    simp [b_deed_on, encDeed, deedOn]
    cases hasB x a <;> simp [without_tag_ok x a (by omega), with_tag_ok (withoutTag x a) b (by have := h1 a; omega)]
  | exc a b =>
    simp [b_deed_on, encDeed, deedOn, swapped_ok x a b h]
theorem is_bound_ok [H_is_bound p] (x : Step) : call (Ev p (n + 1)) i_is_bound [enc x] s = .ok (.bl x.isB) s := by
  rw [call_is_bound]
  cases x with
  | free d => cases d <;> simp [b_is_bound, encStep, encDeed, Step.isB]
  | bound b f d => cases b <;> simp [b_is_bound, encStep, Step.isB]
theorem deed_of_ok [H_deed_of p] (x : Step) : call (Ev p (n + 2)) i_deed_of [enc x] s = .ok (enc x.deed) s := by
  rw [call_deed_of]
  have e1 : ∀ s, call (Ev p (n + 1)) i_is_bound [encStep x] s = .ok (.bl x.isB) s := fun s => is_bound_ok (s := s) x
  cases x with
  | free d =>
    have e1 : ∀ s, call (Ev p (n + 1)) i_is_bound [encDeed d] s = .ok (.bl false) s := e1
    simp [b_deed_of, e1, Step.deed, encStep]
  | bound b f d =>
    simp [b_deed_of, e1, Step.isB, Step.deed]
    simp [encStep]
/-- lists of bools -/
@[simp] theorem ix_step1 (b : Bool) (f : Ft) (d : Deed) : evIx (encStep (.bound b f d)) (.int 1) = some (enc f) := by simp [encStep]
theorem is_let_ok [H_is_let p] (b : Bool) (f : Ft) (d : Deed) (c : Bool) : call (Ev p (n + 1)) i_is_let [enc (Step.bound b f d), .bl c] s = .ok (.bl (decide (c = b))) s := by
  rw [call_is_let]
  cases b <;> simp [b_is_let, encStep]
theorem isN_opt (o : Option St) : isNonD (enc o) = o.isNone := by cases o <;> rfl

theorem add_tb (l : List Bool) (a : Bool) (h : l.length + 1 ≤ 1048576) : evO .add (enc l) (.tup [.bl a]) = some (enc (l ++ [a])) := add_t1 l a h
theorem encs_some {α : Type} [OEnc α] (l : List α) : encs (l.map some) = encs l := by
  rw [encs_map, encs_map, List.map_map]; rfl
/-- all good -/
def OKo (t : St) (o : Option St) : Prop := ∀ x, o = some x → OKs t x
theorem OKo.deed {t : St} {d : Deed} {o : Option St} (h : OKo t o) (hd : GDeed t d) : OKo t (deedOnO d o) := by
  intro r e
  cases o with
  | none => cases e
  | some x => exact (h x rfl).deed hd r e
theorem playStep_ok {t : St} {st : List (Option St) × List Bool} {x : Step} (h : ∀ o ∈ st.1, OKo t o) (hx : GStep t x) : (∀ o ∈ (playStep st x).1, OKo t o) ∧ (playStep st x).1.length = st.1.length ∧ (playStep st x).2.length ≤ st.2.length + 1 := by
  cases x with
  | free d =>
    refine ⟨fun o ho => ?_, by simp [playStep], by simp [playStep]⟩
    obtain ⟨y, hy, rfl⟩ := List.mem_map.mp ho
    exact (h y hy).deed hx
  | bound b f d =>
    refine ⟨fun o ho => ?_, ?_, by simp [playStep]⟩
    · have ho : o ∈ (bif decide (st.1.any (foundBy f) = b) then st.1.map (deedOnO d) else st.1) := ho
      cases q : decide (st.1.any (foundBy f) = b) with
      | true =>
        rw [q] at ho
        obtain ⟨y, hy, rfl⟩ := List.mem_map.mp ho
        exact (h y hy).deed hx.2.2
      | false => rw [q] at ho; exact h o ho
    · show (bif decide (st.1.any (foundBy f) = b) then st.1.map (deedOnO d) else st.1).length = _
      cases decide (st.1.any (foundBy f) = b) <;> simp
theorem playStep_all {t : St} : ∀ {l : Row} {st : List (Option St) × List Bool}, (∀ o ∈ st.1, OKo t o) → (∀ x ∈ l, GStep t x) → (∀ o ∈ (l.foldl playStep st).1, OKo t o) ∧ (l.foldl playStep st).1.length = st.1.length ∧ (l.foldl playStep st).2.length ≤ st.2.length + l.length
  | [], st, h, _ => ⟨h, rfl, Nat.le_refl _⟩
  | x :: l, st, h, hl => by
    obtain ⟨h1, h2, h3⟩ := playStep_ok h (hl x List.mem_cons_self)
    obtain ⟨k1, k2, k3⟩ := playStep_all (l := l) h1 fun y hy => hl y (List.mem_cons_of_mem _ hy)
    exact ⟨k1, k2.trans h2, by simp only [List.foldl_cons, List.length_cons]; omega⟩
theorem played_ok [H_played p] (t : St) (ht : t.length ≤ 16) (row : Row) (stock : List St) (hr : ∀ x ∈ row, GStep t x) (hl : row.length ≤ 100) (hs : ∀ x ∈ stock, OKs t x) (hsl : stock.length ≤ 1000) :
    call (Ev p (n + 5)) i_played [enc row, enc stock] s = .ok (.tup [.lst (encs (playedF row stock).1), enc (playedF row stock).2]) s := by
  rw [call_played]
  have h0 : ∀ o ∈ (stock.map some, ([] : List Bool)).1, OKo t o := fun o ho => by
    obtain ⟨y, hy, rfl⟩ := List.mem_map.mp ho
    intro r e; cases e; exact hs y hy
  simp [b_played, encs_nil]
  refine for_k (fun z => fin s z = _) (fun done s' => ∃ x4 x5, s' = ⟨[Sl.val (enc row), Sl.val (enc stock), Sl.val (.lst (encs (done.foldl playStep (stock.map some, [])).1)), Sl.val (enc (done.foldl playStep (stock.map some, [])).2), x4, x5, Sl.no], s.g⟩) ?_ ⟨Sl.no, Sl.no, by rw [show (([] : Row).foldl playStep (stock.map some, [])).1 = stock.map some from rfl, encs_some]; rfl⟩ ?_
  · rintro done a rest e _ ⟨x4, x5, rfl⟩
    have hla := congrArg List.length e
    simp at hla
    have ha : GStep t a := hr a (by rw [e]; simp)
    obtain ⟨k1, k2, k3⟩ := playStep_all (l := done) h0 fun y hy => hr y (by rw [e]; exact List.mem_append_left _ hy)
    simp only [List.length_map, List.length_nil] at k2 k3
    have e0 : (done ++ [a]).foldl playStep (stock.map some, []) = playStep (done.foldl playStep (stock.map some, [])) a := by rw [List.foldl_append]; rfl
    rw [e0]
    generalize done.foldl playStep (stock.map some, []) = st at *
    obtain ⟨now, told⟩ := st
    simp only at k1 k2 k3
    have lc : ∀ (d : Deed) (hd : GDeed t d) (x5 x6 : Sl) (hda : a.deed = d) (r : List Sl) (hr : r = [Sl.val (enc row), Sl.val (enc stock), Sl.val (.lst (encs now)), x5, Sl.val (enc a), x6, Sl.no]), lcRun (lcBody p.glob (Ev p (n + 4)) (.ite (.isN (.var 6)) (.non) (.call i_deed_on [.call i_deed_of [.var 4], .var 6])) (.v 6) none) (encs now) [6] ⟨r, s.g⟩ = .ok (.lst (encs (now.map (deedOnO d)))) ⟨r, s.g⟩ := by
      rintro d hd x5 x6 rfl _ rfl
      rw [lc_map (deedOnO a.deed) (by omega)]
      intro o ho
      cases o with
      | none => simp [isNonD, deedOnO]
      | some x =>
        have := (k1 _ ho x rfl).len
        have e1 : ∀ s, call (Ev p (n + 4)) i_deed_of [encStep a] s = .ok (encDeed a.deed) s := fun s => deed_of_ok (n := n + 2) (s := s) a
        have e2 : ∀ s, call (Ev p (n + 4)) i_deed_on [encDeed a.deed, enc x] s = .ok (enc (deedOn a.deed x)) s := fun s => deed_on_ok (n := n + 1) (s := s) a.deed x (by omega) hd.bd
        simp [OEnc.nn, e1, e2, deedOnO]
    cases a with
    | free d =>
      refine ⟨⟨[Sl.val (enc row), Sl.val (enc stock), Sl.val (.lst (encs (playStep (now, told) (.free d)).1)), Sl.val (enc (playStep (now, told) (.free d)).2), Sl.val (enc (Step.free d)), Sl.val (.bl true), Sl.no], s.g⟩, ?_, _, _, rfl⟩
      have e1 : ∀ s, call (Ev p (n + 4)) i_is_bound [encStep (.free d)] s = .ok (.bl false) s := fun s => is_bound_ok (n := n + 3) (s := s) (.free d)
      simp [e1]
      rw [lc d ha (Sl.val (enc told)) (.val (.bl true)) rfl _ (by rfl)]
      simp [playStep]
    | bound b f d =>
      have e1 : ∀ s, call (Ev p (n + 4)) i_is_bound [encStep (.bound b f d)] s = .ok (.bl true) s := fun s => is_bound_ok (n := n + 3) (s := s) (.bound b f d)
      have e2 : ∀ c s, call (Ev p (n + 4)) i_is_let [encStep (.bound b f d), .bl c] s = .ok (.bl (decide (c = b))) s := fun c s => is_let_ok (n := n + 3) (s := s) b f d c
      refine ⟨⟨[Sl.val (enc row), Sl.val (enc stock), Sl.val (.lst (encs (playStep (now, told) (.bound b f d)).1)), Sl.val (enc (playStep (now, told) (.bound b f d)).2), Sl.val (enc (Step.bound b f d)), Sl.val (.bl (decide (now.any (foundBy f) = b))), Sl.no], s.g⟩, ?_, _, _, rfl⟩
      simp [e1]
      rw [lc_map (foundBy f) (by omega)]; rotate_left
      · intro o ho
        cases o with
        | none => simp [isNonD, foundBy]
        | some x => simp [OEnc.nn, foundBy, finds_ok f x ha.2.1, encStep]
      simp [e2, add_tb told _ (show told.length + 1 ≤ 1048576 by omega)]
      cases q : decide (now.any (foundBy f) = b) with
      | true =>
        simp [q]
        rw [lc d ha.2.2 (Sl.val (enc (told ++ [true]))) (.val (.bl true)) rfl _ (by rfl)]
        simp [playStep, q]
      | false => simp [playStep, q]
  · rintro _ ⟨x4, x5, rfl⟩
    simp [playedF]

/-! good rows -/
@[simp] theorem all_true {α : Type} (l : List α) : (l.all fun _ => true) = true := by
  rw [List.all_eq_true]; intros; rfl
theorem ixG_deed (d : Deed) (y : D) (s : S) : ixG (encDeed d) y s = R.of (evIx (encDeed d) y) s := by cases d <;> rfl
theorem ixG_step (d : Step) (y : D) (s : S) : ixG (encStep d) y s = R.of (evIx (encStep d) y) s := by
  cases d with
  | free d => exact ixG_deed d y s
  | bound b f d => rfl
theorem deed_dic (d : Deed) : isDicD (encDeed d) = false := by cases d <;> rfl
theorem deed_isTup (d : Deed) : isTy .tup (encDeed d) = true := by cases d <;> rfl
theorem step_dic (d : Step) : isDicD (encStep d) = false := by
  cases d with
  | free d => exact deed_dic d
  | bound b f d => rfl
theorem step_isTup (d : Step) : isTy .tup (encStep d) = true := by
  cases d with
  | free d => exact deed_isTup d
  | bound b f d => rfl
theorem step_ne (d : Step) : evO .eq (encStep d) (.tup []) = some (.bl false) := by
  obtain ⟨l, e⟩ := enc_head d
  have hf := step_fl d 40 (by decide)
  show (if (fl 40 (encStep d) && fl 40 (.tup [])) = true then some (D.bl (eqv (encStep d) (.tup []))) else none) = _
  rw [hf, e]
  rfl
theorem deed_ne (d : Deed) : evO .eq (encDeed d) (.tup []) = some (.bl false) := step_ne (.free d)
theorem isStr_str (x : Str) : isTy .str (.str x) = true := rfl
theorem dic_str (x : Str) : isDicD (.str x) = false := rfl
theorem is_deed_ok [H_is_deed p] (t : St) (d : Deed) (h : GDeed t d) : call (Ev p (n + 5)) i_is_deed [enc t, enc d] s = .ok (.bl true) s := by
  rw [call_is_deed]
  cases d with
  | put w f =>
    obtain ⟨h1, h2, h3⟩ := h
    have i0 : evIx (encDeed (.put w f)) (.int 0) = some (.str "put") := by simp [encDeed]
    have i1 : evIx (encDeed (.put w f)) (.int 1) = some (.str w) := by simp [encDeed]
    have i2 : evIx (encDeed (.put w f)) (.int 2) = some (enc f) := by simp [encDeed]
    have l3 : evF .len (encDeed (.put w f)) = some (.int 3) := by simp [encDeed]
    simp [b_is_deed, ixG_deed, deed_dic, deed_isTup, deed_ne, i0, i1, i2, l3, isStr_str, dic_str, is_tag_ok t w, is_good_ok t f h3, h1, h2]
  | take w f =>
    obtain ⟨h1, h2, h3⟩ := h
    have i0 : evIx (encDeed (.take w f)) (.int 0) = some (.str "take") := by simp [encDeed]
    have i1 : evIx (encDeed (.take w f)) (.int 1) = some (.str w) := by simp [encDeed]
    have i2 : evIx (encDeed (.take w f)) (.int 2) = some (enc f) := by simp [encDeed]
    have l3 : evF .len (encDeed (.take w f)) = some (.int 3) := by simp [encDeed]
    simp [b_is_deed, ixG_deed, deed_dic, deed_isTup, deed_ne, i0, i1, i2, l3, isStr_str, dic_str, is_tag_ok t w, is_good_ok t f h3, h1, h2]
  | ren a b =>
    obtain ⟨h1, h2, h3⟩ := h
    have i0 : evIx (encDeed (.ren a b)) (.int 0) = some (.str "rename") := by simp [encDeed]
    have i1 : evIx (encDeed (.ren a b)) (.int 1) = some (.str a) := by simp [encDeed]
    have i2 : evIx (encDeed (.ren a b)) (.int 2) = some (.str b) := by simp [encDeed]
    have l3 : evF .len (encDeed (.ren a b)) = some (.int 3) := by simp [encDeed]
    simp [b_is_deed, ixG_deed, deed_dic, deed_isTup, deed_ne, i0, i1, i2, l3, isStr_str, dic_str, is_tag_ok t a, is_tag_ok t b, h1, h2, h3]
  | exc a b =>
    obtain ⟨h1, h2, h3⟩ := h
    have i0 : evIx (encDeed (.exc a b)) (.int 0) = some (.str "exchange") := by simp [encDeed]
    have i1 : evIx (encDeed (.exc a b)) (.int 1) = some (.str a) := by simp [encDeed]
    have i2 : evIx (encDeed (.exc a b)) (.int 2) = some (.str b) := by simp [encDeed]
    have l3 : evF .len (encDeed (.exc a b)) = some (.int 3) := by simp [encDeed]
    simp [b_is_deed, ixG_deed, deed_dic, deed_isTup, deed_ne, i0, i1, i2, l3, isStr_str, dic_str, is_tag_ok t a, is_tag_ok t b, h1, h2, h3]
  | thr f =>
    obtain ⟨h1, h2⟩ := h
    have i0 : evIx (encDeed (.thr f)) (.int 0) = some (.str "throw") := by simp [encDeed]
    have i1 : evIx (encDeed (.thr f)) (.int 1) = some (enc f) := by simp [encDeed]
    have l3 : evF .len (encDeed (.thr f)) = some (.int 2) := by simp [encDeed]
    simp [b_is_deed, ixG_deed, deed_dic, deed_isTup, deed_ne, i0, i1, l3, isStr_str, dic_str, is_good_ok t f h2, h1]
/-- a bound step is no deed -/
theorem is_deed_no [H_is_deed p] (t : St) (b : Bool) (f : Ft) (d : Deed) : call (Ev p (n + 5)) i_is_deed [enc t, enc (Step.bound b f d)] s = .ok (.bl false) s := by
  rw [call_is_deed]
  have i0 : evIx (encStep (.bound b f d)) (.int 0) = some (.str (bif b then "if" else "unless")) := by cases b <;> simp [encStep]
  cases b <;> simp [b_is_deed, ixG_step, step_dic, step_isTup, step_ne, i0, isStr_str, dic_str]
theorem is_step_ok [H_is_step p] (t : St) (x : Step) (h : GStep t x) : call (Ev p (n + 6)) i_is_step [enc t, enc x] s = .ok (.bl true) s := by
  rw [call_is_step]
  cases x with
  | free d =>
    have e : ∀ s, call (Ev p (n + 5)) i_is_deed [enc t, encStep (.free d)] s = .ok (.bl true) s := fun s => is_deed_ok (s := s) t d h
    simp [b_is_step, e]
  | bound b f d =>
    obtain ⟨h1, h2, h3⟩ := h
    have e : ∀ s, call (Ev p (n + 5)) i_is_deed [enc t, encStep (.bound b f d)] s = .ok (.bl false) s := fun s => is_deed_no (s := s) t b f d
    have e2 : ∀ s, call (Ev p (n + 5)) i_is_deed [enc t, encDeed d] s = .ok (.bl true) s := fun s => is_deed_ok (s := s) t d h3
    have e3 : ∀ s, call (Ev p (n + 5)) i_is_bound [encStep (.bound b f d)] s = .ok (.bl true) s := fun s => is_bound_ok (n := n + 4) (s := s) (.bound b f d)
    have i0 : evIx (encStep (.bound b f d)) (.int 0) = some (.str (bif b then "if" else "unless")) := by cases b <;> simp [encStep]
    have i1 : evIx (encStep (.bound b f d)) (.int 1) = some (enc f) := by cases b <;> simp [encStep]
    have i2 : evIx (encStep (.bound b f d)) (.int 2) = some (encDeed d) := by cases b <;> simp [encStep]
    have l3 : evF .len (encStep (.bound b f d)) = some (.int 3) := by simp [encStep]
    simp [b_is_step, e, ixG_step, step_dic, step_isTup, i0, i1, i2, l3, isStr_str, dic_str, e2, e3, is_good_ok t f h2, h1]
def manyB (row : Row) : Nat := (row.filter Step.isB).length
theorem many_bound_ok [H_many_bound p] (row : Row) (h : row.length ≤ 1000) : call (Ev p (n + 2)) i_many_bound [enc row] s = .ok (.int (manyB row)) s := by
  rw [call_many_bound]
  simp [b_many_bound]
  rw [lc_filter Step.isB (by omega)]; rotate_left
  · intro x hx
    have e : ∀ s, call (Ev p (n + 1)) i_is_bound [encStep x] s = .ok (.bl x.isB) s := fun s => is_bound_ok (s := s) x
    simp [e]
  simp [manyB]
theorem is_good_row_ok [H_is_good_row p] (t : St) (row : Row) (h : GRow t row) : call (Ev p (n + 7)) i_is_good_row [enc t, enc row] s = .ok (.bl true) s := by
  rw [call_is_good_row]
  have hl := h.le
  have hb : manyB row ≤ 3 := h.bo
  simp [b_is_good_row, isDic_enc, isTup_enc, K_MOST_STEPS.k_MOST_STEPS, c_MOST_STEPS, K_MOST_BOUND.k_MOST_BOUND, c_MOST_BOUND]
  rw [lc_map (fun _ => true) (by omega)]; rotate_left
  · intro x hx
    have e : ∀ s, call (Ev p (n + 6)) i_is_step [enc t, encStep x] s = .ok (.bl true) s := fun s => is_step_ok (s := s) t x (h.st x hx)
    simp [e]
  simp [many_bound_ok row (by omega : row.length ≤ 1000), show ¬ (6 : Int) < row.length by omega, K_MOST_BOUND.k_MOST_BOUND, c_MOST_BOUND]
  omega
theorem need_row_ok [H_need_row p] (t : St) (row : Row) (h : GRow t row) : call (Ev p (n + 8)) i_need_row [enc t, enc row] s = .ok .non s := by
  rw [call_need_row]
  simp [b_need_row, is_good_row_ok t row h]
theorem need_both2_ok [H_need_both_2 p] (t : St) (row : Row) (hb : bd t) (ht : isTags t = true) (h : GRow t row) : call (Ev p (n + 9)) i_need_both_2 [enc t, enc row] s = .ok .non s := by
  rw [call_need_both_2]
  simp [b_need_both_2, need_row_ok t row h, need_tags_ok t hb ht]
theorem OKs.some {t s : St} (h : OKs t s) : isSome' t s = true := by
  unfold isSome'
  rw [Bool.and_eq_true, List.all_eq_true, rising_asc]
  exact ⟨fun w hw => by simpa using h.sub w hw, h.asc⟩
theorem OKs.bd {t s : St} (h : OKs t s) (hb : Enc.bd t) : Enc.bd s := ⟨Nat.le_trans h.len hb.1, fun a ha => hb.2 a (h.sub a ha)⟩
theorem need_some_ok [H_need_some p] (t x : St) (hb : bd t) (h : OKs t x) : call (Ev p (n + 3)) i_need_some [enc t, enc x] s = .ok .non s := by
  rw [call_need_some]
  simp [b_need_some, is_some_ok t x (h.bd hb), h.some]
theorem need_told_ok [H_need_told p] (row : Row) (told : List Bool) (hl : row.length ≤ 1000) (h : told.length = manyB row) : call (Ev p (n + 3)) i_need_told [enc row, enc told] s = .ok .non s := by
  rw [call_need_told]
  have : manyB row ≤ row.length := List.length_filter_le _ _
  simp [b_need_told, isDic_enc, isTup_enc, many_bound_ok row hl, h]
  rw [lc_map (fun _ => true) (by omega)]; rotate_left
  · intro x hx; simp [isDicD, isTy]
  simp
theorem stock_ok {t : St} {st : List St} (hb : Enc.bd t) (h : ∀ x ∈ st, OKs t x) (hl : st.length ≤ 20) : areSets t st = true ∧ Enc.bd st := by
  refine ⟨?_, by omega, fun x hx => (h x hx).bd hb⟩
  unfold areSets
  have h1 : st.all (isSome' t) = true := List.all_eq_true.mpr fun x hx => (h x hx).some
  rw [h1]
  simp; omega
def doneF (row : Row) (stock : List St) : List St := (playedF row stock).1.filterMap id
def answersF (row : Row) (stock : List St) : List Bool := (playedF row stock).2
theorem somes_eq (l : List (Option St)) : encs (l.filter fun o => !o.isNone) = encs (l.filterMap id) := by
  induction l with
  | nil => rfl
  | cons o l ih =>
    cases o with
    | none => simpa using ih
    | some x =>
      rw [List.filter_cons_of_pos (by simp), show (some x :: l).filterMap id = x :: l.filterMap id from rfl, encs_cons, encs_cons, ih]; rfl
theorem ixG_raw2 (a b : D) (y : D) (s : S) : ixG (.tup [a, b]) y s = R.of (evIx (.tup [a, b]) y) s := rfl
theorem done_ok [H_done p] (t : St) (row : Row) (stock : List St) (hb : bd t) (ht : isTags t = true) (h : GRow t row) (hs : ∀ x ∈ stock, OKs t x) (hl : stock.length ≤ 20) : call (Ev p (n + 10)) i_done [enc t, enc row, enc stock] s = .ok (enc (doneF row stock)) s := by
  rw [call_done]
  obtain ⟨q1, q2⟩ := stock_ok hb hs hl
  have hr := h.le
  have h0 : ∀ o ∈ (stock.map some, ([] : List Bool)).1, OKo t o := fun o ho => by
    obtain ⟨y, hy, rfl⟩ := List.mem_map.mp ho
    intro r e; cases e; exact hs y hy
  have hlen : (playedF row stock).1.length = stock.length := by
    exact (playStep_all (l := row) h0 h.st).2.1.trans (by simp)
  simp [b_done, need_both2_ok t row hb ht h, need_sets_ok t stock q2 q1, played_ok t (tags_len ht) row stock h.st (by omega) hs (by omega), ixG_raw2]
  rw [lc_filter (fun o : Option St => !o.isNone) (by omega)]; rotate_left
  · intro o ho; simp [isN_opt]
  rw [somes_eq]
  simp [doneF]
theorem answers_ok [H_answers p] (t : St) (row : Row) (stock : List St) (hb : bd t) (ht : isTags t = true) (h : GRow t row) (hs : ∀ x ∈ stock, OKs t x) (hl : stock.length ≤ 20) : call (Ev p (n + 10)) i_answers [enc t, enc row, enc stock] s = .ok (enc (answersF row stock)) s := by
  rw [call_answers]
  obtain ⟨q1, q2⟩ := stock_ok hb hs hl
  have hr := h.le
  simp [b_answers, need_both2_ok t row hb ht h, need_sets_ok t stock q2 q1, played_ok t (tags_len ht) row stock h.st (by omega) hs (by omega), ixG_raw2, answersF]

theorem manyB_free (d : Deed) (l : Row) : manyB (.free d :: l) = manyB l := rfl
theorem manyB_bound (b : Bool) (f : Ft) (d : Deed) (l : Row) : manyB (.bound b f d :: l) = manyB l + 1 := rfl
theorem deed_free (d : Deed) : (Step.free d).deed = d := rfl
theorem deed_bound (b : Bool) (f : Ft) (d : Deed) : (Step.bound b f d).deed = d := rfl
/-! followed -/
theorem followStep_ok {t : St} {st : Option St × List Bool × List Bool} {x : Step} (h : OKo t st.1) (hx : GStep t x) : OKo t (followStep st x).1 := by
  cases x with
  | free d => exact h.deed hx
  | bound b f d =>
    show OKo t (bif st.2.2.headD false then deedOnO d st.1 else st.1)
    cases st.2.2.headD false with
    | true => exact h.deed hx.2.2
    | false => exact h
theorem followStep_all {t : St} : ∀ {l : Row} {st : Option St × List Bool × List Bool}, OKo t st.1 → (∀ x ∈ l, GStep t x) → OKo t (l.foldl followStep st).1 ∧ (l.foldl followStep st).2.1.length ≤ st.2.1.length + l.length ∧ (l.foldl followStep st).2.2 = st.2.2.drop (manyB l)
  | [], st, h, _ => ⟨h, Nat.le_refl _, by simp [manyB]⟩
  | x :: l, st, h, hl => by
    obtain ⟨k1, k2, k3⟩ := followStep_all (l := l) (followStep_ok h (hl x List.mem_cons_self)) fun y hy => hl y (List.mem_cons_of_mem _ hy)
    refine ⟨k1, ?_, ?_⟩
    · have : (followStep st x).2.1.length ≤ st.2.1.length + 1 := by cases x <;> simp [followStep]
      simp only [List.foldl_cons, List.length_cons]; omega
    · rw [List.foldl_cons, k3]
      cases x with
      | free d => rw [manyB_free]; rfl
      | bound b f d =>
        rw [manyB_bound]
        show (st.2.2.tail).drop _ = _
        rw [List.drop_tail]
theorem o_add_1 (i : Nat) : ((i : Int) + 1) = ((i + 1 : Nat) : Int) := by simp
theorem manyB_append (a b : Row) : manyB (a ++ b) = manyB a + manyB b := by simp [manyB]
theorem followed_ok [H_followed p] (t : St) (ht : t.length ≤ 16) (row : Row) (told : List Bool) (o : Option St) (hr : ∀ x ∈ row, GStep t x) (hl : row.length ≤ 100) (ho : OKo t o) (hm : told.length = manyB row) :
    call (Ev p (n + 5)) i_followed [enc row, enc told, enc o] s = .ok (.tup [enc (followedF row told o).1, enc (followedF row told o).2]) s := by
  rw [call_followed]
  simp [b_followed]
  refine for_k (fun z => fin s z = _) (fun done s' => ∃ x5 x6, s' = ⟨[Sl.val (enc row), Sl.val (enc told), Sl.val (enc (done.foldl followStep (o, [], told)).1), Sl.val (enc (done.foldl followStep (o, [], told)).2.1), Sl.val (.int (manyB done)), x5, x6], s.g⟩) ?_ ⟨Sl.no, Sl.no, rfl⟩ ?_
  · rintro done a rest e _ ⟨x5, x6, rfl⟩
    have hla := congrArg List.length e
    simp at hla
    have ha : GStep t a := hr a (by rw [e]; simp)
    obtain ⟨k1, k2, k3⟩ := followStep_all (st := (o, [], told)) (l := done) ho fun y hy => hr y (by rw [e]; exact List.mem_append_left _ hy)
    simp only [List.length_nil] at k2 k3
    have e0 : (done ++ [a]).foldl followStep (o, [], told) = followStep (done.foldl followStep (o, [], told)) a := by rw [List.foldl_append]; rfl
    have em : manyB row = manyB done + manyB (a :: rest) := by rw [e, manyB_append]
    rw [e0, manyB_append]
    generalize done.foldl followStep (o, [], told) = st at *
    obtain ⟨x, hits, left⟩ := st
    simp only at k1 k2 k3
    have dd : ∀ (y : St) (hy : x = some y) (hd : GDeed t a.deed) (s : S), call (Ev p (n + 4)) i_deed_on [encDeed a.deed, enc y] s = .ok (enc (deedOn a.deed y)) s := fun y hy hd s => by
      have := (k1 y hy).len
      exact deed_on_ok (n := n + 1) (s := s) a.deed y (by omega) hd.bd
    have e1 : ∀ s, call (Ev p (n + 4)) i_is_bound [encStep a] s = .ok (.bl a.isB) s := fun s => is_bound_ok (n := n + 3) (s := s) a
    have e2 : ∀ s, call (Ev p (n + 4)) i_deed_of [encStep a] s = .ok (encDeed a.deed) s := fun s => deed_of_ok (n := n + 2) (s := s) a
    cases a with
    | free d =>
      refine ⟨⟨[Sl.val (enc row), Sl.val (enc told), Sl.val (enc (followStep (x, hits, left) (.free d)).1), Sl.val (enc (followStep (x, hits, left) (.free d)).2.1), Sl.val (.int (manyB done + manyB [Step.free d] : Nat)), Sl.val (enc (Step.free d)), Sl.val (.bl true)], s.g⟩, ?_, _, _, rfl⟩
      cases x with
      | none => simp [e1, Step.isB, isNonD, followStep, deedOnO, manyB]
      | some y =>
        have dd' : ∀ s, call (Ev p (n + 4)) i_deed_on [encDeed d, enc y] s = .ok (enc (deedOn d y)) s := dd y rfl ha
        have e2' : ∀ s, call (Ev p (n + 4)) i_deed_of [encStep (.free d)] s = .ok (encDeed d) s := e2
        simp [e1, e2', Step.isB, OEnc.nn, followStep, deedOnO, manyB, dd']
    | bound b f d =>
      have hm2 := manyB_bound b f d rest
      have hlt : manyB done < told.length := by omega
      have hleft : left = told[manyB done] :: told.drop (manyB done + 1) := by rw [k3, List.drop_eq_getElem_cons hlt]
      subst hleft
      refine ⟨⟨[Sl.val (enc row), Sl.val (enc told), Sl.val (enc (followStep (x, hits, told[manyB done] :: told.drop (manyB done + 1)) (.bound b f d)).1), Sl.val (enc (followStep (x, hits, told[manyB done] :: told.drop (manyB done + 1)) (.bound b f d)).2.1), Sl.val (.int (manyB done + manyB [Step.bound b f d] : Nat)), Sl.val (enc (Step.bound b f d)), Sl.val (.bl told[manyB done])], s.g⟩, ?_, _, _, rfl⟩
      have i0 : atI told (manyB done : Int) = some told[manyB done] := by rw [atI_nat', List.getElem?_eq_getElem hlt]
      have i1 : ∀ s, ixG (encStep (.bound b f d)) (.int 1) s = .ok (enc f) s := fun s => by simp [ixG_step]
      have hm3 : manyB [Step.bound b f d] = 1 := rfl
      have addh : ∀ c : Bool, evO .add (enc hits) (.tup [.bl c]) = some (enc (hits ++ [c])) := fun c => add_tb hits c (by omega)
      cases x with
      | none =>
        simp [e1, Step.isB, isNonD, addh, i0, followStep, deedOnO, foundBy, hm3]
      | some y =>
        have dd' : ∀ s, call (Ev p (n + 4)) i_deed_on [encDeed d, enc y] s = .ok (enc (deedOn d y)) s := dd y rfl ha.2.2
        have e2' : ∀ s, call (Ev p (n + 4)) i_deed_of [encStep (.bound b f d)] s = .ok (encDeed d) s := e2
        cases q : told[manyB done] with
        | true => simp [e1, e2', Step.isB, OEnc.nn, addh, i0, i1, q, followStep, deedOnO, foundBy, finds_ok f y ha.2.1, dd', hm3]
        | false => simp [e1, e2, Step.isB, OEnc.nn, addh, i0, i1, q, followStep, deedOnO, foundBy, finds_ok f y ha.2.1, hm3]
  · rintro _ ⟨x4, x5, rfl⟩
    simp [followedF]
theorem becomes_ok [H_becomes p] (t : St) (row : Row) (told : List Bool) (x : St) (hb : bd t) (ht : isTags t = true) (h : GRow t row) (hm : told.length = manyB row) (hx : OKs t x) :
    call (Ev p (n + 10)) i_becomes [enc t, enc row, enc told, enc x] s = .ok (enc (followedF row told (some x)).1) s := by
  rw [call_becomes]
  have hr := h.le
  have hf : ∀ s, call (Ev p (n + 9)) i_followed [enc row, enc told, enc x] s = .ok (.tup [enc (followedF row told (some x)).1, enc (followedF row told (some x)).2]) s := fun s =>
    followed_ok (n := n + 4) (s := s) t (tags_len ht) row told (some x) h.st (by omega) (fun y e => by cases e; exact hx) hm
  simp [b_becomes, need_both2_ok t row hb ht h, need_told_ok row told (by omega) hm, need_some_ok t x hb hx, hf, ixG_raw2]
end
end TD.P

-- MG
set_option maxHeartbeats 1000000
/-! drawn rows -/
namespace TD.P
open PySem PySem.Spec PyProof.Rows L2
open Enc
/-- a body returns, P of what -/
def Rt (k : Nat) (P : D → Prop) (z : R Fl) : Prop := ∃ d s', z = .ok (.ret d) s' ∧ P d ∧ Src s'.g k
theorem Rt.mk {k : Nat} {P : D → Prop} {d : D} {s : S} (h : P d) (hs : Src s.g k) : Rt k P (.ok (.ret d) s) := ⟨d, s, rfl, h, hs⟩
theorem Dr.body {F : Fs} {k f : Nat} {ds : List D} {P : D → Prop} {body : List (List D) → R Fl} (h : ∀ r g, call F f ds ⟨r, g⟩ = fin ⟨r, g⟩ (body g)) (hb : ∀ g, Src g k → Rt k P (body g)) : Dr F k f ds P := fun g hg => by
  obtain ⟨d, s', e, h1, h2⟩ := hb g hg
  exact ⟨d, s'.g, fun r => by rw [h, e]; rfl, h1, h2⟩
section
variable {p : Pgm} {n k : Nat}
theorem DFilt.ok {t : St} {f : Ft} (ht : Asc t) (hb : Enc.bd t) (h : DFilt t f) : isGood t f = true ∧ Enc.bd f := ⟨h.good ht, h.bd hb⟩
theorem fold_put (w : Str) (f : Ft) : D.tup [.str "put", .str w, enc f] = enc (Deed.put w f) := rfl
theorem law_deed_ok [H_law_deed p] (t : St) (ht : Asc t) (h0 : t ≠ []) (hl : t.length ≤ 16) (hb : bd t) : Dr (Ev p (n + 5)) k i_law_deed [.ref k, enc t] fun d => ∃ x : Deed, GDeed t x ∧ d = enc x := by
  refine Dr.body (body := fun g => evSs p.glob (Ev p (n + 4)) b_law_deed ⟨[.val (.ref k), .val (enc t), .no, .no, .no, .no], g⟩) (fun r g => call_law_deed) fun g hg => ?_
  obtain ⟨_, g1, e1, ⟨v, rfl, hv⟩, hg1⟩ := law_draw_ok (p := p) (n := n + 3) (k := k) (m := 9) (by decide) (by decide) g hg
  obtain ⟨_, g2, e2, ⟨w, hw, rfl⟩, hg2⟩ := law_of_t (p := p) (n := n + 2) (k := k) t h0 (by omega) g1 hg1
  obtain ⟨_, g3, e3, ⟨f, hf, rfl⟩, hg3⟩ := law_filter_ok (p := p) (n := n) (k := k) t ht.nodup (by omega) g2 hg2
  obtain ⟨f1, f2⟩ := hf.ok ht hb
  simp [b_law_deed, e1, e2]
  by_cases c1 : (v : Int) < 3
  · simp [c1, e3]
    exact .mk ⟨.put w f, ⟨hw, f1, f2⟩, rfl⟩ hg3
  · by_cases c2 : (v : Int) < 5
    · simp [c1, c2, e3]
      exact .mk ⟨.take w f, ⟨hw, f1, f2⟩, rfl⟩ hg3
    · by_cases c3 : v = 5
      · simp [c1, c2, c3, e3]
        exact .mk ⟨.thr f, ⟨f1, f2⟩, rfl⟩ hg3
      · have c3' : ¬ (v : Int) = 5 := by omega
        simp [c1, c2, c3, c3']
        rw [lc_filter (fun y => !decide (y = w)) (by omega)]; rotate_left
        · intro y hy; simp
        have hla : (t.filter fun y => !decide (y = w)).length ≤ t.length := List.length_filter_le _ _
        have ha : evO .add (.lst (encs (t.filter fun y => !decide (y = w)))) (.lst [.str w]) = some (.lst (encs ((t.filter fun y => !decide (y = w)) ++ [w]))) := add_l1 _ w (by omega)
        obtain ⟨_, g4, e4, ⟨o, ho, rfl⟩, hg4⟩ := law_of_l (p := p) (n := n + 2) (k := k) ((t.filter fun y => !decide (y = w)) ++ [w]) (by simp) (by simp; omega) g2 hg2
        have ho : o ∈ t := by
          rcases List.mem_append.mp ho with ho | ho
          · exact (List.mem_filter.mp ho).1
          · rw [List.mem_singleton.mp ho]; exact hw
        obtain ⟨_, g5, e5, ⟨x, hx, rfl⟩, hg5⟩ := law_of_l (p := p) (n := n + 2) (k := k) [("rename" : Str), "exchange"] (by simp) (by simp) g4 hg4
        have e5' : ∀ r, call (Ev p (n + 4)) i_law_of [.ref k, .lst [.str "rename", .str "exchange"]] ⟨r, g4⟩ = .ok (.str x) ⟨r, g5⟩ := e5
        simp [ha, e4]
        by_cases hne : o = w
        · simp [hne]
          refine .mk ⟨.put w [([], [])], ⟨hw, rfl, ?_⟩, rfl⟩ hg4
          exact ⟨by decide, fun a ha => by rw [List.mem_singleton.mp ha]; exact ⟨⟨by decide, by simp⟩, ⟨by decide, by simp⟩⟩⟩
        · simp [hne, e5']
          simp at hx
          rcases hx with rfl | rfl
          · exact .mk ⟨.ren w o, ⟨hw, ho, fun e => hne e.symm⟩, rfl⟩ hg5
          · exact .mk ⟨.exc w o, ⟨hw, ho, fun e => hne e.symm⟩, rfl⟩ hg5

theorem manyB_snoc (l : Row) (x : Step) : manyB (l ++ [x]) = manyB l + (bif x.isB then 1 else 0) := by
  rw [manyB_append]
  cases x <;> rfl
theorem add_row (l : Row) (x : Step) (h : l.length + 1 ≤ 1048576) : evO .add (enc l) (.tup [encStep x]) = some (enc (l ++ [x])) := add_t1 l x h
theorem law_row_ok [H_law_row p] (t : St) (ht : Asc t) (h0 : t ≠ []) (hl : t.length ≤ 16) (hb : bd t) {m b : Nat} (hm : m ≤ 100) :
    Dr (Ev p (n + 6)) k i_law_row [.ref k, enc t, .int m, .int b] fun d => ∃ row : Row, ((∀ x ∈ row, GStep t x) ∧ row.length ≤ m ∧ manyB row ≤ b) ∧ d = enc row := by
  refine Dr.body (body := fun g => evSs p.glob (Ev p (n + 5)) b_law_row ⟨[.val (.ref k), .val (enc t), .val (.int m), .val (.int b), .no, .no, .no, .no], g⟩) (fun r g => call_law_row) fun g hg => ?_
  obtain ⟨_, g1, e1, ⟨v, rfl, hv⟩, hg1⟩ := law_draw_ok (p := p) (n := n + 4) (k := k) (m := (m : Int) + 1) (by omega) (by omega) g hg
  simp [b_law_row, e1, rng_n (show v ≤ 1048576 by omega)]
  refine for_k (Rt k _) (fun done s' => ∃ (row : Row) (x6 x7 : Sl) (g : List (List D)), s' = ⟨[.val (.ref k), .val (enc t), .val (.int m), .val (.int b), .val (enc row), .val (.int ((b : Int) - manyB row)), x6, x7], g⟩ ∧ Src g k ∧ isPk x6 = false ∧ isPk x7 = false ∧ row.length = done.length ∧ manyB row ≤ b ∧ ∀ x ∈ row, GStep t x) ?_ ⟨[], .no, .no, g1, by simp [manyB]; rfl, hg1, rfl, rfl, rfl, by simp [manyB], by simp⟩ ?_
  · rintro done a rest e _ ⟨row, x6, x7, g, rfl, hg, hp6, hp7, hlen, hmb, hgood⟩
    have hla := congrArg List.length e
    simp at hla
    have hadd : ∀ x, evO .add (enc row) (.tup [encStep x]) = some (enc (row ++ [x])) := fun x => add_row row x (by omega)
    obtain ⟨_, g2, e2, ⟨d, hd, rfl⟩, hg2⟩ := law_deed_ok (p := p) (n := n) (k := k) t ht h0 hl hb g hg
    have hfree : ∀ x ∈ row ++ [Step.free d], GStep t x := fun x hx => by
      rcases List.mem_append.mp hx with hx | hx
      · exact hgood x hx
      · rw [List.mem_singleton.mp hx]; exact hd
    by_cases c : manyB row < b
    · obtain ⟨_, g3, e3, ⟨w, rfl, hw⟩, hg3⟩ := law_draw_ok (p := p) (n := n + 4) (k := k) (m := 2) (by decide) (by decide) g2 hg2
      have c' : (0 : Int) < (b : Int) - (manyB row : Int) := by omega
      by_cases cw : w = 0
      · obtain ⟨_, g4, e4, ⟨x, hx, rfl⟩, hg4⟩ := law_of_l (p := p) (n := n + 3) (k := k) [("if" : Str), "unless"] (by simp) (by simp) g3 hg3
        obtain ⟨_, g5, e5, ⟨f, hf, rfl⟩, hg5⟩ := law_filter_ok (p := p) (n := n + 1) (k := k) t ht.nodup (by omega) g4 hg4
        obtain ⟨f1, f2⟩ := hf.ok ht hb
        have e4' : ∀ r, call (Ev p (n + 5)) i_law_of [.ref k, .lst [.str "if", .str "unless"]] ⟨r, g3⟩ = .ok (.str x) ⟨r, g4⟩ := e4
        obtain ⟨bb, hc⟩ : ∃ c : Bool, x = (if c then ("if" : Str) else ("unless" : Str)) := by
          simp at hx
          rcases hx with rfl | rfl
          · exact ⟨true, rfl⟩
          · exact ⟨false, rfl⟩
        have hst : D.tup [D.str x, enc f, encDeed d] = encStep (.bound bb f d) := by rw [hc]; rfl
        refine ⟨⟨[.val (.ref k), .val (enc t), .val (.int m), .val (.int b), .val (enc (row ++ [.bound bb f d])), .val (.int ((b : Int) - manyB (row ++ [.bound bb f d]))), .val (enc a), .val (encStep (.bound bb f d))], g5⟩, ?_, row ++ [.bound bb f d], _, _, g5, rfl, hg5, rfl, rfl, by simp [hlen], by rw [manyB_snoc]; simp [Step.isB]; omega, ?_⟩
        · simp [e2, c, e3, cw, e4', e5, hp6, hst, hadd, manyB_snoc, Step.isB]
          omega
        · intro y hy
          rcases List.mem_append.mp hy with hy | hy
          · exact hgood y hy
          · rw [List.mem_singleton.mp hy]; exact ⟨f1, f2, hd⟩
      · have cw' : ¬ (w : Int) = 0 := by omega
        refine ⟨⟨[.val (.ref k), .val (enc t), .val (.int m), .val (.int b), .val (enc (row ++ [.free d])), .val (.int ((b : Int) - manyB (row ++ [.free d]))), .val (enc a), .val (encDeed d)], g3⟩, ?_, row ++ [.free d], _, _, g3, rfl, hg3, rfl, rfl, by simp [hlen], by rw [manyB_snoc]; simpa [Step.isB] using hmb, hfree⟩
        have hadd' : evO .add (enc row) (.tup [encDeed d]) = some (enc (row ++ [.free d])) := hadd (.free d)
        simp [e2, c, e3, cw, cw', hadd', manyB_snoc, Step.isB]
    · have c' : ¬ (0 : Int) < (b : Int) - (manyB row : Int) := by omega
      refine ⟨⟨[.val (.ref k), .val (enc t), .val (.int m), .val (.int b), .val (enc (row ++ [.free d])), .val (.int ((b : Int) - manyB (row ++ [.free d]))), .val (enc a), .val (encDeed d)], g2⟩, ?_, row ++ [.free d], _, _, g2, rfl, hg2, rfl, rfl, by simp [hlen], by rw [manyB_snoc]; simpa [Step.isB] using hmb, hfree⟩
      have hadd' : evO .add (enc row) (.tup [encDeed d]) = some (enc (row ++ [.free d])) := hadd (.free d)
      simp [e2, c, hadd', manyB_snoc, Step.isB]
  · rintro _ ⟨row, x6, x7, g, rfl, hg, hp6, hp7, hlen, hmb, hgood⟩
    simp
    exact .mk ⟨row, ⟨hgood, by simp at hlen; omega, hmb⟩, rfl⟩ hg
end
end TD.P

-- MP
set_option maxHeartbeats 1000000
/-! plain: plays -/
namespace TD.P
open PySem PySem.Spec PyProof.Rows L2
open Enc
def ansOf : Row → List (Option St) → List Bool
  | [], _ => []
  | .free d :: r, now => ansOf r (now.map (deedOnO d))
  | .bound b f d :: r, now => decide (now.any (foundBy f) = b) :: ansOf r (bif decide (now.any (foundBy f) = b) then now.map (deedOnO d) else now)
def endOf : Row → List Bool → Option St → Option St
  | [], _, o => o
  | .free d :: r, told, o => endOf r told (deedOnO d o)
  | .bound _ _ d :: r, told, o => endOf r told.tail (bif told.headD false then deedOnO d o else o)
theorem ansOf_bound (b : Bool) (f : Ft) (d : Deed) (r : Row) (now : List (Option St)) : ansOf (.bound b f d :: r) now = decide (now.any (foundBy f) = b) :: ansOf r (bif decide (now.any (foundBy f) = b) then now.map (deedOnO d) else now) := rfl
theorem play_eq : ∀ (row : Row) (now : List (Option St)) (t0 : List Bool), row.foldl playStep (now, t0) = (now.map (endOf row (ansOf row now)), t0 ++ ansOf row now)
  | [], now, t0 => by
    show (now, t0) = (now.map (fun o => o), t0 ++ [])
    simp
  | .free d :: r, now, t0 => by
    show r.foldl playStep (now.map (deedOnO d), t0) = _
    rw [play_eq r]
    simp [ansOf, endOf, List.map_map, Function.comp_def]
  | .bound b f d :: r, now, t0 => by
    show r.foldl playStep (bif decide (now.any (foundBy f) = b) then now.map (deedOnO d) else now, t0 ++ [decide (now.any (foundBy f) = b)]) = _
    rw [play_eq r]
    rw [ansOf_bound]
    generalize decide (now.any (foundBy f) = b) = c
    cases c
    · simp [endOf]
    · simp [endOf, List.map_map, Function.comp_def]
theorem follow_eq : ∀ (row : Row) (told h : List Bool) (o : Option St), (row.foldl followStep (o, h, told)).1 = endOf row told o
  | [], told, h, o => rfl
  | .free d :: r, told, h, o => follow_eq r told h (deedOnO d o)
  | .bound b f d :: r, told, h, o => follow_eq r told.tail _ _
theorem ansOf_len : ∀ (row : Row) (now : List (Option St)), (ansOf row now).length = manyB row
  | [], _ => rfl
  | .free d :: r, now => ansOf_len r _
  | .bound b f d :: r, now => by
    rw [manyB_bound]
    exact congrArg (· + 1) (ansOf_len r _)
theorem answersF_eq (row : Row) (stock : List St) : answersF row stock = ansOf row (stock.map some) := by
  unfold answersF playedF
  rw [play_eq]; rfl
theorem answersF_len (row : Row) (stock : List St) : (answersF row stock).length = manyB row := by rw [answersF_eq, ansOf_len]
theorem doneF_eq (row : Row) (stock : List St) : doneF row stock = ((stock.map some).map (endOf row (answersF row stock))).filterMap id := by
  unfold doneF playedF
  rw [play_eq, answersF_eq]
theorem followedF_eq (row : Row) (told : List Bool) (o : Option St) : (followedF row told o).1 = endOf row told o := follow_eq row told [] o
/-- the same things -/
def Sm (a b : List (Option St)) : Prop := ∀ x : St, some x ∈ a ↔ some x ∈ b
theorem Sm.any {a b : List (Option St)} (h : Sm a b) (f : Ft) : a.any (foundBy f) = b.any (foundBy f) := by
  have key : ∀ {a b : List (Option St)}, Sm a b → a.any (foundBy f) = true → b.any (foundBy f) = true := fun {a b} h q => by
    obtain ⟨o, ho, hf⟩ := List.any_eq_true.mp q
    cases o with
    | none => cases hf
    | some x => exact List.any_eq_true.mpr ⟨some x, (h x).mp ho, hf⟩
  rw [Bool.eq_iff_iff]
  exact ⟨key h, key fun x => (h x).symm⟩
theorem Sm.map {a b : List (Option St)} (h : Sm a b) (g : Option St → Option St) (hg : g none = none) : Sm (a.map g) (b.map g) := by
  have key : ∀ {a b : List (Option St)}, Sm a b → ∀ x, some x ∈ a.map g → some x ∈ b.map g := fun {a b} h x q => by
    obtain ⟨o, ho, e⟩ := List.mem_map.mp q
    cases o with
    | none => rw [hg] at e; cases e
    | some y => exact List.mem_map.mpr ⟨some y, (h y).mp ho, e⟩
  exact fun x => ⟨key h x, key (fun y => (h y).symm) x⟩
theorem ansOf_sm : ∀ (row : Row) {a b : List (Option St)}, Sm a b → ansOf row a = ansOf row b
  | [], _, _, _ => rfl
  | .free d :: r, a, b, h => ansOf_sm r (h.map _ rfl)
  | .bound c f d :: r, a, b, h => by
    rw [ansOf_bound, ansOf_bound, h.any f]
    generalize decide (b.any (foundBy f) = c) = q
    cases q
    · exact congrArg _ (ansOf_sm r h)
    · exact congrArg _ (ansOf_sm r (h.map _ rfl))
theorem endOf_none : ∀ (row : Row) (told : List Bool), endOf row told none = none
  | [], _ => rfl
  | .free d :: r, told => endOf_none r told
  | .bound b f d :: r, told => by
    show endOf r told.tail (bif told.headD false then none else none) = none
    cases told.headD false <;> exact endOf_none r _
theorem endOf_append : ∀ (r1 r2 : Row) (a1 a2 : List Bool) (o : Option St), a1.length = manyB r1 → endOf (r1 ++ r2) (a1 ++ a2) o = endOf r2 a2 (endOf r1 a1 o)
  | [], r2, a1, a2, o, h => by
    have : a1 = [] := List.length_eq_zero_iff.mp h
    subst this; rfl
  | .free d :: r, r2, a1, a2, o, h => endOf_append r r2 a1 a2 _ h
  | .bound b f d :: r, r2, a1, a2, o, h => by
    rw [manyB_bound] at h
    cases a1 with
    | nil => simp at h
    | cons c a1 => exact endOf_append r r2 a1 a2 _ (by simpa using h)
theorem ansOf_append : ∀ (r1 r2 : Row) (now : List (Option St)), ansOf (r1 ++ r2) now = ansOf r1 now ++ ansOf r2 (now.map (endOf r1 (ansOf r1 now)))
  | [], r2, now => by
    show ansOf r2 now = [] ++ ansOf r2 (now.map fun o => o)
    simp
  | .free d :: r, r2, now => by
    show ansOf (r ++ r2) (now.map (deedOnO d)) = ansOf r (now.map (deedOnO d)) ++ _
    rw [ansOf_append r r2]
    simp [ansOf, endOf, List.map_map, Function.comp_def]
  | .bound b f d :: r, r2, now => by
    rw [List.cons_append, ansOf_bound, ansOf_bound]
    generalize decide (now.any (foundBy f) = b) = c
    cases c
    · simp [ansOf_append r r2, endOf]
    · simp [ansOf_append r r2, endOf, List.map_map, Function.comp_def]
theorem filterMap_some (l : List (Option St)) (g : Option St → Option St) (hg : g none = none) : (((l.filterMap id).map some).map g).filterMap id = (l.map g).filterMap id := by
  induction l with
  | nil => rfl
  | cons o l ih =>
    cases o with
    | none => simp [hg] at ih ⊢; exact ih
    | some x =>
      show ((some x :: (l.filterMap id).map some).map g).filterMap id = (g (some x) :: l.map g).filterMap id
      rw [List.map_cons]
      cases q : g (some x) with
      | none => simpa using ih
      | some y => simpa using ih
theorem sm_filter (l : List (Option St)) : Sm ((l.filterMap id).map some) l := fun x => by simp
/-- law 1: what comes of the things -/
theorem done_becomes (row : Row) (stock : List St) : doneF row stock = (stock.map fun x => (followedF row (answersF row stock) (some x)).1).filterMap id := by
  rw [doneF_eq, List.map_map]
  congr 1
  exact List.map_congr_left fun x _ => (followedF_eq _ _ _).symm
/-- law 2: order and equal things make no difference -/
theorem answers_same (row : Row) {a b : List St} (h : ∀ x, x ∈ a ↔ x ∈ b) : answersF row a = answersF row b := by
  rw [answersF_eq, answersF_eq]
  exact ansOf_sm row fun x => by simp [h x]
theorem doneF_nil (l : List St) : doneF [] l = l := by
  rw [doneF_eq]
  show ((l.map some).map fun o => o).filterMap id = l
  induction l with
  | nil => rfl
  | cons x l ih => exact congrArg (x :: ·) ih
/-- law 3: a row in parts -/
theorem done_parts (r1 r2 : Row) (stock : List St) : doneF r2 (doneF r1 stock) = doneF (r1 ++ r2) stock ∧ answersF r1 stock ++ answersF r2 (doneF r1 stock) = answersF (r1 ++ r2) stock := by
  have hsm := sm_filter ((stock.map some).map (endOf r1 (answersF r1 stock)))
  rw [← doneF_eq] at hsm
  have e2 : answersF r2 (doneF r1 stock) = ansOf r2 ((stock.map some).map (endOf r1 (ansOf r1 (stock.map some)))) := by
    rw [answersF_eq]
    rw [answersF_eq] at hsm
    exact ansOf_sm r2 hsm
  have e3 : answersF r1 stock ++ answersF r2 (doneF r1 stock) = answersF (r1 ++ r2) stock := by
    rw [e2, answersF_eq, answersF_eq, ansOf_append]
  refine ⟨?_, e3⟩
  rw [doneF_eq r2, doneF_eq (r1 ++ r2), ← e3, doneF_eq r1, filterMap_some _ _ (endOf_none _ _), List.map_map]
  congr 1
  refine List.map_congr_left fun o _ => ?_
  rw [← doneF_eq, endOf_append _ _ _ _ _ (answersF_len r1 stock)]
  rfl
theorem doneF_ok {t : St} {row : Row} {st : List St} (hr : ∀ x ∈ row, GStep t x) (h : ∀ x ∈ st, OKs t x) : (∀ x ∈ doneF row st, OKs t x) ∧ (doneF row st).length ≤ st.length := by
  have h0 : ∀ o ∈ (st.map some, ([] : List Bool)).1, OKo t o := fun o ho => by
    obtain ⟨y, hy, rfl⟩ := List.mem_map.mp ho
    intro r e; cases e; exact h y hy
  obtain ⟨k1, k2, k3⟩ := playStep_all (l := row) h0 hr
  refine ⟨fun x hx => ?_, ?_⟩
  · obtain ⟨o, ho, e⟩ := List.mem_filterMap.mp hx
    exact k1 o ho x e
  · have := List.length_filterMap_le id (playedF row st).1
    have e : (playedF row st).1.length = st.length := k2.trans (by simp)
    unfold doneF; omega
theorem GRow.take {t : St} {row : Row} (h : GRow t row) (v : Nat) : GRow t (row.take v) := ⟨fun x hx => h.st x (List.mem_of_mem_take hx), by have := h.le; simp; omega, Nat.le_trans ((List.take_sublist v row).filter _).length_le h.bo⟩
theorem GRow.drop {t : St} {row : Row} (h : GRow t row) (v : Nat) : GRow t (row.drop v) := ⟨fun x hx => h.st x (List.mem_of_mem_drop hx), by have := h.le; simp; omega, Nat.le_trans ((List.drop_sublist v row).filter _).length_le h.bo⟩
theorem GRow.nil {t : St} : GRow t [] := ⟨by simp, by simp, by simp⟩
end TD.P

-- LK07
set_option maxHeartbeats 4000000
namespace TD.P.K07
open PySem PySem.Spec PyProof.Rows L2
open Enc
variable {p : Pgm} [H_law_k07 p]
def I (ns : List Int) (s : S) : Prop := ∃ x1 x2 x3 x4 x5 x6 x7 x8 x9 x10 x11 x12 g, s = ⟨[.val (scr ns), x1, x2, x3, x4, x5, x6, x7, x8, x9, x10, x11, x12], g⟩
def J (ns : List Int) (k : Nat) (s : S) : Prop := ∃ x1 x3 x4 x5 x6 x7 x8 x9 x10 x11 x12 g, s = ⟨[.val (scr ns), x1, .val (.ref k), x3, x4, x5, x6, x7, x8, x9, x10, x11, x12], g⟩ ∧ Src g k
theorem J.I {ns : List Int} {k : Nat} {s : S} (h : J ns k s) : I ns s := by
  obtain ⟨x1, x3, x4, x5, x6, x7, x8, x9, x10, x11, x12, g, rfl, _⟩ := h
  exact ⟨_, _, _, _, _, _, _, _, _, _, _, _, _, rfl⟩
def leftF (row : Row) (told : List Bool) (st : List St) : List St := (st.map fun x => (followedF row told (some x)).1).filterMap id
theorem law_left_ok {n : Nat} {s : S} [H_law_left p] (t : St) (row : Row) (told : List Bool) (st : List St) (hb : bd t) (ht : isTags t = true) (h : GRow t row) (hm : told.length = manyB row) (hx : ∀ x ∈ st, OKs t x) (hl : st.length ≤ 1000) :
    call (Ev p (n + 11)) i_law_left [enc t, enc row, enc told, enc st] s = .ok (.lst (encs (leftF row told st))) s := by
  rw [call_law_left]
  simp [b_law_left]
  rw [lc_map (fun x => (followedF row told (some x)).1) (by omega)]; rotate_left
  · intro x hx'
    simp [becomes_ok t row told x hb ht h hm (hx x hx')]
  simp
  rw [lc_filter (fun o : Option St => !o.isNone) (by simp; omega)]; rotate_left
  · intro o ho; simp [isN_opt]
  rw [somes_eq]
  simp [leftF]
theorem law_ok (ns : List Int) (hn : ns.length ≤ 63) (s : S) : Tr s (call (Ev p (3 + 15)) i_law_k07 [scr ns] s) := by
  generalize 3 = n
  rw [call_law_k07]
  have h0 : (-1000000 : Int) ≤ 1 + (if (10 : Int) < (ns.length : Int) then (10 : Int) else (ns.length : Int)) := by split <;> omega
  have h1 : 1 + (if (10 : Int) < (ns.length : Int) then (10 : Int) else (ns.length : Int)) ≤ 100 := by split <;> omega
  simp [b_law_k07]
  generalize 1 + (if (10 : Int) < (ns.length : Int) then (10 : Int) else (ns.length : Int)) = m at *
  simp [rng_i h0 (show m ≤ 1048576 by omega)]
  refine all_n (fun z => Tr s (fin s z)) (I ns) ?_ ⟨_, _, _, _, _, _, _, _, _, _, _, _, _, rfl⟩ ?_
  · rintro i hi _ ⟨x1, x2, x3, x4, x5, x6, x7, x8, x9, x10, x11, x12, g, rfl⟩
    have hi : i < m.toNat := by simpa using hi
    obtain ⟨k, g0, e0, hk⟩ := law_source_ok (p := p) (n := n + 13) ns i (by omega) g
    have r4 : rngD (.int 3) = some (encs (List.range 3)) := rfl
    simp [e0, r4]
    refine all_nx (J ns k) ?_ ⟨_, _, _, _, _, _, _, _, _, _, _, _, rfl, hk⟩ fun _ h => h.I
    rintro a ha _ ⟨x1, x3, x4, x5, x6, x7, x8, x9, x10, x11, x12, g, rfl, hg⟩
    obtain ⟨_, g1, e1, ⟨t, ht, rfl⟩, hg1⟩ := law_tags_ok (p := p) (n := n + 11) (k := k) (m := 4) (by decide) (by decide) g hg
    have tl : t.length ≤ 4 := ht.le
    have tb := ht.bd (by decide)
    have tg := ht.isTags (by decide)
    have t0 : t ≠ [] := by have := ht.pos; intro e; rw [e] at this; simp at this
    obtain ⟨_, g2, e2, ⟨row, ⟨hr1, hr2, hr3⟩, rfl⟩, hg2⟩ := law_row_ok (p := p) (n := n + 8) (k := k) t ht.asc t0 (by omega) tb (m := 6) (b := 3) (by decide) g1 hg1
    obtain ⟨_, g3, e3, ⟨st, ⟨hs1, hs2⟩, rfl⟩, hg3⟩ := law_stock_ok (p := p) (n := n + 11) (k := k) t (by omega) (m := 9) (by omega) g2 hg2
    have gr : GRow t row := ⟨hr1, hr2, hr3⟩
    have ok : ∀ x ∈ st, OKs t x := fun x hx => ⟨ht.asc.sublist (hs2 x hx), fun w hw => (hs2 x hx).subset hw⟩
    have e1' : ∀ r, call (Ev p (n + 14)) i_law_tags [.ref k, .int 4] ⟨r, g⟩ = .ok (enc t) ⟨r, g1⟩ := e1
    have e2' : ∀ r, call (Ev p (n + 14)) i_law_row [.ref k, enc t, .int 6, .int 3] ⟨r, g1⟩ = .ok (enc row) ⟨r, g2⟩ := e2
    have e3' : ∀ r, call (Ev p (n + 14)) i_law_stock [.ref k, enc t, .int 9] ⟨r, g2⟩ = .ok (enc st) ⟨r, g3⟩ := e3
    have eA : ∀ (row : Row) (st : List St), GRow t row → (∀ x ∈ st, OKs t x) → st.length ≤ 20 → ∀ s, call (Ev p (n + 14)) i_answers [enc t, enc row, enc st] s = .ok (enc (answersF row st)) s := fun row st h hx hl s => answers_ok (n := n + 4) t row st tb tg h hx hl
    have eD : ∀ (row : Row) (st : List St), GRow t row → (∀ x ∈ st, OKs t x) → st.length ≤ 20 → ∀ s, call (Ev p (n + 14)) i_done [enc t, enc row, enc st] s = .ok (enc (doneF row st)) s := fun row st h hx hl s => done_ok (n := n + 4) t row st tb tg h hx hl
    simp [e1', e2', e3', eA row st gr ok (by omega)]
    rw [lc_map (fun x => (followedF row (answersF row st) (some x)).1) (by omega)]; rotate_left
    · intro x hx
      simp [becomes_ok t row (answersF row st) x tb tg gr (answersF_len row st) (ok x hx)]
    simp [eD row st gr ok (by omega)]
    rw [lc_filter (fun o : Option St => !o.isNone) (by simp; omega)]; rotate_left
    · intro o ho; simp [isN_opt]
    rw [somes_eq, ← done_becomes]
    have hsum : evO .add (.lst (encs st)) (.lst (encs (st.take 5))) = some (.lst (encs (st ++ st.take 5))) := add_l _ _ (by simp; omega)
    obtain ⟨_, g4, e4, ⟨mixed, hmx, rfl⟩, hg4⟩ := law_mixed_ok (p := p) (n := n + 12) (k := k) (st ++ st.take 5) (by simp; omega) (by decide) g3 hg3
    have hmem : ∀ x, x ∈ mixed ↔ x ∈ st := fun x => by
      rw [hmx.mem_iff, List.mem_append]
      exact ⟨fun h => h.elim id fun h => List.mem_of_mem_take h, .inl⟩
    have hml : mixed.length ≤ 14 := by rw [hmx.length_eq]; simp; omega
    have okm : ∀ x ∈ mixed, OKs t x := fun x hx => ok x ((hmem x).mp hx)
    have hans := answers_same row hmem
    have c5 : cutA st none (some 5) = st.take 5 := cut_to st 5
    have hleft : leftF row (answersF row st) mixed = doneF row mixed := by rw [done_becomes, hans]; rfl
    obtain ⟨dm1, dm2⟩ := doneF_ok gr.st okm
    have eL : ∀ s, call (Ev p (n + 14)) i_law_left [enc t, enc row, enc (answersF row st), enc mixed] s = .ok (.lst (encs (doneF row mixed))) s := fun s => by
      rw [← hleft]
      exact law_left_ok (n := n + 3) t row (answersF row st) mixed tb tg gr (answersF_len row st) okm (by omega)
    have eN : ∀ s, call (Ev p (n + 14)) i_done [enc t, .tup [], enc (doneF row mixed)] s = .ok (enc (doneF row mixed)) s := fun s => by
      have := eD [] (doneF row mixed) GRow.nil dm1 (by omega) s
      rw [doneF_nil] at this
      exact this
    simp [c5, hsum, e4, eA row mixed gr okm (by omega), eD row mixed gr okm (by omega), hans, eL, eN]
    obtain ⟨_, g5, e5, ⟨v, rfl, hv⟩, hg5⟩ := law_draw_ok (p := p) (n := n + 13) (k := k) (m := (row.length : Int) + 1) (by omega) (by omega) g4 hg4
    obtain ⟨df1, df2⟩ := doneF_ok (gr.take v).st ok
    obtain ⟨pp1, pp2⟩ := done_parts (row.take v) (row.drop v) st
    rw [List.take_append_drop] at pp1 pp2
    have l1 := answersF_len (row.take v) st
    have l2 := answersF_len (row.drop v) (doneF (row.take v) st)
    have m1 := (gr.take v).bo
    have m2 := (gr.drop v).bo
    have hadd : evO .add (enc (answersF (row.take v) st)) (enc (answersF (row.drop v) (doneF (row.take v) st))) = some (enc (answersF row st)) := by
      rw [add_t _ _ (by unfold manyB at l1 l2; omega), pp2]
    simp [e5, eD (row.take v) st (gr.take v) ok (by omega)]
    simp [eD (row.drop v) _ (gr.drop v) df1 (by omega), eD row st gr ok (by omega), pp1, eA (row.take v) st (gr.take v) ok (by omega), eA (row.drop v) _ (gr.drop v) df1 (by omega), hadd]
    exact Nx.mk ⟨_, _, _, _, _, _, _, _, _, _, _, _, rfl, hg5⟩
  · rintro _ ⟨x1, x2, x3, x4, x5, x6, x7, x8, x9, x10, x11, x12, g, rfl⟩
    simp
    exact Tr.mk
end TD.P.K07

-- FK07
set_option maxHeartbeats 0
theorem TD.K07.good : TD.Good TD.K07.T TD.K07.consts 18 TD.P.i_law_k07 := fun ns hn => TD.P.good_of (TD.P.K07.law_ok (p := TD.K07.pk) ns hn (TD.S0 []))
theorem PySem.Challenge.cw_tagdeeds_k07_whole_rows_and_things_holds : PySem.Challenge.rw_tagdeeds_k07_whole_rows_and_things.Holds := by
  exact PySem.Challenge.head_07 TD.K07.good
