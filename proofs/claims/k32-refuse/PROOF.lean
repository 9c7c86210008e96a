import PyProof.Rows.All
import Wide.All
import OpenK.AllK
import Wide.FinOn
import KE.KStateDown
import Lean
import PyProof.DictUpdate
import HandS.Base
import HandS.Call
import HandS.List
import HandS.Comp
import HandS.Ends
import HandS.Dict
import HandS.Iter
import HandS.Text
import HandS.More
import HandS.Words
import HandS.WordsList
import HandS.WordsDict
import HandS.WordsExc
import HandS.Defaults
import HandS.MakeKwOnly
import HandS.Wide
import HandS.IsInst
import HandS.TupLe
import HandS.TupAny
import HandS.Zip
import HandS.Flow
import HandS.Style
import HandS.SortInts
import HandS.SetFor
import HandS.Head0
import HandS.Head1
import HandS.Head2
import HandS.HeadEnd
import HandS.HeadHook1
import HandS.HeadHook2
import HandS.Exc
import HandS.ExcInit
import KE.KExcInit
import HandS.Lambda
import HandS.HeadHook4
import HandS.TryMany
import HandS.ExcField
import HandS.ExcIs
import HandS.CallSlots
import HandS.ExcOwn
import HandS.HeadWalk
import HandS.DeepEq
import HandS.HeadHook3
import HandS.NestedK
import PySem.Challenge.RW_fewestsent_k32_stores_refuse
set_option Elab.async false
set_option linter.all false
set_option maxRecDepth 100000
set_option maxHeartbeats 0
/-! Lw: our own short layer over HandS: readings that are worked out by simp. -/
namespace Lw
open PySem PySem.Spec PyProof.Rows L2
/-! ### weaker readings -/
theorem OpR.imp {X : Cx} {f : Value → Value → Sem Value} {r r' : R2} (h : OpR X f r) (i : ∀ x y H Q, r' x y H Q → r x y H Q) : OpR X f r' := fun pins s σ H x y v u Q I rx ry q => h pins s σ H x y v u Q I rx ry (i _ _ _ _ q)
theorem CallR.imp {X : Cx} {f : Value} {r r' : List V → Hp → VK → Prop} (h : CallR X f r) (i : ∀ xs H Q, r' xs H Q → r xs H Q) : CallR X f r' := fun pins s σ H xs us Q I rx q => h pins s σ H xs us Q I rx (i _ _ _ q)
theorem IxR.imp {X : Cx} {r r' : R2} (h : IxR X r) (i : ∀ x y H Q, r' x y H Q → r x y H Q) : IxR X r' := fun a b pins s σ H x y v u Q I rx ry q hs => h a b pins s σ H x y v u Q I rx ry (i _ _ _ _ q) hs
theorem MtR.imp {X : Cx} {id : String} {r r' : V → List V → Hp → VK → Prop} (h : MtR X id r) (i : ∀ x xs H Q, r' x xs H Q → r x xs H Q) : MtR X id r' := fun pins s σ H x xs v us Q I rx ry q => h pins s σ H x xs v us Q I rx ry (i _ _ _ _ q)
theorem PSet.imp {X : Cx} {t t' : TSet} (h : PSet X t) (i : ∀ o k v H Q, t' o k v H Q → t o k v H Q) : PSet X t' := fun pins s σ H o k v ov kv u Q I r1 r2 r3 q => h pins s σ H o k v ov kv u Q I r1 r2 r3 (i _ _ _ _ _ q)
/-! ### what a sequence holds -/
/-- v is a list or a tuple that is tracked; k is said of its items -/
def Sq (H : Hp) (v : V) (k : List V → Prop) : Prop := match v with
  | .ref p => (match H p with
    | some (.lst xs) => k xs
    | some (.tup xs) => k xs
    | some (.frz _ (.lst xs)) => k xs
    | some (.frz _ (.tup xs)) => k xs
    | _ => False)
  | _ => False
theorem Sq_lst {H : Hp} {p : Addr} {xs : List V} {k : List V → Prop} (h : H p = some (.lst xs)) : Sq H (.ref p) k = k xs := by unfold Sq; simp only [h]
theorem Sq_tup {H : Hp} {p : Addr} {xs : List V} {k : List V → Prop} (h : H p = some (.tup xs)) : Sq H (.ref p) k = k xs := by unfold Sq; simp only [h]
theorem Sq.out {K : PySem.W.Frag} {H : Hp} {v : V} {k : List V → Prop} (h : Sq H v k) : ∃ p xs, v = .ref p ∧ (SqL K H p xs ∨ SqT K H p xs) ∧ k xs := by
  unfold Sq at h
  split at h
  · rename_i p
    split at h
    · rename_i xs e
      exact ⟨p, xs, rfl, .inl (.inl (.inl e)), h⟩
    · rename_i xs e
      exact ⟨p, xs, rfl, .inr (.inl (.inl e)), h⟩
    · rename_i o xs e
      exact ⟨p, xs, rfl, .inl (.inl (.inr ⟨o, e⟩)), h⟩
    · rename_i o xs e
      exact ⟨p, xs, rfl, .inr (.inl (.inr ⟨o, e⟩)), h⟩
    · exact h.elim
  · exact h.elim
/-- v is a list that may be changed -/
def Ls (H : Hp) (v : V) (k : Addr → List V → Prop) : Prop := match v with
  | .ref p => (match H p with
    | some (.lst xs) => k p xs
    | _ => False)
  | _ => False
theorem Ls_lst {H : Hp} {p : Addr} {xs : List V} {k : Addr → List V → Prop} (h : H p = some (.lst xs)) : Ls H (.ref p) k = k p xs := by unfold Ls; simp only [h]
theorem Ls.out {H : Hp} {v : V} {k : Addr → List V → Prop} (h : Ls H v k) : ∃ p xs, v = .ref p ∧ H p = some (.lst xs) ∧ k p xs := by
  unfold Ls at h
  split at h
  · rename_i p
    split at h
    · rename_i xs e
      exact ⟨p, xs, rfl, e, h⟩
    · exact h.elim
  · exact h.elim
/-- v is a dict with int and text keys -/
def Dk (H : Hp) (v : V) (k : Addr → List (Key × V) → Prop) : Prop := match v with
  | .ref p => (match H p with
    | some (.dK kvs) => k p kvs
    | _ => False)
  | _ => False
theorem Dk_dK {H : Hp} {p : Addr} {kvs : List (Key × V)} {k : Addr → List (Key × V) → Prop} (h : H p = some (.dK kvs)) : Dk H (.ref p) k = k p kvs := by unfold Dk; simp only [h]
theorem Dk.out {H : Hp} {v : V} {k : Addr → List (Key × V) → Prop} (h : Dk H v k) : ∃ p kvs, v = .ref p ∧ H p = some (.dK kvs) ∧ k p kvs := by
  unfold Dk at h
  split at h
  · rename_i p
    split at h
    · rename_i kvs e
      exact ⟨p, kvs, rfl, e, h⟩
    · exact h.elim
  · exact h.elim
/-- a key -/
def Ky (v : V) (k : Key → Prop) : Prop := match v with
  | .int i => k (.inl i)
  | .str x => k (.inr x)
  | _ => False
theorem Ky_int {i : Int} {k : Key → Prop} : Ky (.int i) k = k (.inl i) := rfl
theorem Ky_str {x : Str} {k : Key → Prop} : Ky (.str x) k = k (.inr x) := rfl
theorem Ky.out {v : V} {k : Key → Prop} (h : Ky v k) : ∃ y, v = kV y ∧ k y := by
  unfold Ky at h
  split at h
  · exact ⟨.inl _, rfl, h⟩
  · exact ⟨.inr _, rfl, h⟩
  · exact h.elim
/-- an int -/
def Nt (v : V) (k : Int → Prop) : Prop := match v with
  | .int i => k i
  | _ => False
theorem Nt_int {i : Int} {k : Int → Prop} : Nt (.int i) k = k i := rfl
theorem Nt.out {v : V} {k : Int → Prop} (h : Nt v k) : ∃ i, v = .int i ∧ k i := by
  unfold Nt at h
  split at h
  · exact ⟨_, rfl, h⟩
  · exact h.elim
/-- what is there -/
def Op {α : Type} (o : Option α) (k : α → Prop) : Prop := match o with
  | some x => k x
  | none => False
theorem Op_some {α : Type} {x : α} {k : α → Prop} : Op (some x) k = k x := rfl
theorem Op.out {α : Type} {o : Option α} {k : α → Prop} (h : Op o k) : ∃ x, o = some x ∧ k x := by
  unfold Op at h
  split at h
  · exact ⟨_, rfl, h⟩
  · exact h.elim
/-- v is a tuple that is tracked -/
def Tp (H : Hp) (v : V) (k : List V → Prop) : Prop := match v with
  | .ref p => (match H p with
    | some (.tup xs) => k xs
    | _ => False)
  | _ => False
theorem Tp_tup {H : Hp} {p : Addr} {xs : List V} {k : List V → Prop} (h : H p = some (.tup xs)) : Tp H (.ref p) k = k xs := by unfold Tp; simp only [h]
theorem Tp_upd {H : Hp} {p : Addr} {xs : List V} {k : List V → Prop} : Tp (upd H p (.tup xs)) (.ref p) k = k xs := Tp_tup upd_same
theorem Tp_ne {H : Hp} {p q : Addr} {o : HO} {k : List V → Prop} (h : q ≠ p) : Tp (upd H p o) (.ref q) k = Tp H (.ref q) k := by unfold Tp; simp only [upd_ne h]
theorem Tp.out {H : Hp} {v : V} {k : List V → Prop} (h : Tp H v k) : ∃ p xs, v = .ref p ∧ H p = some (.tup xs) ∧ k xs := by
  unfold Tp at h
  split at h
  · rename_i p
    split at h
    · rename_i xs e
      exact ⟨p, xs, rfl, e, h⟩
    · exact h.elim
  · exact h.elim
section
variable {X : Cx}
/-! ### items, lengths, stores -/
def rIxF : R2 := fun x y H Q => Sq H x fun xs => Nt y fun i => Op (atI xs i) fun v => Q v H
theorem ix_f : IxR X rIxF := IxR.imp (IxR.or ix_list ix_tup) fun x y H Q h => by
  obtain ⟨p, xs, rfl, hs, h⟩ := Sq.out (K := X.K) h
  obtain ⟨i, rfl, h⟩ := Nt.out h
  obtain ⟨v, e, h⟩ := Op.out h
  rcases hs with hs | hs
  · exact .inl ⟨p, xs, i, v, rfl, rfl, hs, e, h⟩
  · exact .inr ⟨p, xs, i, v, rfl, rfl, hs, e, h⟩
def rLenF : List V → Hp → VK → Prop := fun vs H Q => match vs with
  | [v] => Sq H v fun xs => Q (.int xs.length) H
  | _ => False
theorem call_lenF : CallR X (.builtin "len") rLenF := CallR.imp call_len_seq fun vs H Q h => by
  unfold rLenF at h
  split at h
  · obtain ⟨p, xs, rfl, hs, h⟩ := Sq.out (K := X.K) h
    exact ⟨p, xs, rfl, hs, h⟩
  · exact h.elim
def rSetF : TSet := fun o k v H Q => Ls H o fun p xs => Nt k fun i => Op (ixN xs.length i) fun j => Q (upd H p (.lst (xs.set j v)))
theorem set_f : PSet X rSetF := PSet.imp set_list fun o k v H Q h => by
  obtain ⟨p, xs, rfl, e, h⟩ := Ls.out h
  obtain ⟨i, rfl, h⟩ := Nt.out h
  obtain ⟨j, ej, h⟩ := Op.out h
  exact ⟨p, xs, i, j, rfl, rfl, e, ej, h⟩
/-- a, b = e, e a tuple -/
def gTupF (n : Nat) (t : TGs) : TG := fun v σ H Q => Tp H v fun xs => xs.length = n ∧ t xs σ H Q
theorem PG.imp {e : Expr} {t t' : TG} (h : PG X e t) (i : ∀ v σ H Q, t' v σ H Q → t v σ H Q) : PG X e t' := ⟨fun pins s σ H v u Q I r q => h.run pins s σ H v u Q I r (i _ _ _ _ q)⟩
theorem pg_tupF {es : List Expr} {k : Nat} {pos : Pos} {t : TGs} (n : Nat) (hc : X.calm = true) (h : PGs X es t)
    (hn : (assignEach es X.env).length = n := by rfl) (hst : (assignEach es X.env).findIdx? (·.1) = none := by rfl) : PG X (.Tuple es k pos) (gTupF n t) := PG.imp (pg_tup hc h hn hst) fun v σ H Q q => by
  obtain ⟨p, xs, rfl, e, q⟩ := Tp.out q
  exact ⟨p, xs, rfl, .inl (.inl e), q.1, q.2⟩
/-! ### list methods -/
def rAppF : V → List V → Hp → VK → Prop := fun x vs H Q => match vs with
  | [y] => Ls H x fun l xs => xs.length < sizeLine ∧ Q .non (upd H l (.lst (xs ++ [y])))
  | _ => False
theorem mt_app : MtR X "list.append" rAppF := MtR.imp mt_append fun x vs H Q h => by
  unfold rAppF at h
  split at h
  · obtain ⟨l, xs, rfl, e, h1, h2⟩ := Ls.out h
    exact ⟨l, xs, _, rfl, rfl, e, h1, h2⟩
  · exact h.elim
def rExtF : V → List V → Hp → VK → Prop := fun x vs H Q => match vs with
  | [y] => Ls H x fun l xs => Ls H y fun _ zs => xs.length + zs.length ≤ sizeLine ∧ Q .non (upd H l (.lst (xs ++ zs)))
  | _ => False
theorem mt_extF : MtR X "list.extend" rExtF := MtR.imp mt_extend fun x vs H Q h => by
  unfold rExtF at h
  split at h
  · obtain ⟨l, xs, rfl, e, h⟩ := Ls.out h
    obtain ⟨b, zs, rfl, e2, h1, h2⟩ := Ls.out h
    exact ⟨l, b, xs, zs, rfl, rfl, e, e2, h1, h2⟩
  · exact h.elim
/-- pop(0) of a list that is not empty -/
def rPop0 : V → List V → Hp → VK → Prop := fun x vs H Q => match vs with
  | [.int 0] => Ls H x fun l xs => (match xs with
    | y :: ys => Q y (upd H l (.lst ys))
    | [] => False)
  | _ => False
theorem mt_pop0 : MtR X "list.pop" rPop0 := MtR.imp mt_popAt fun x vs H Q h => by
  unfold rPop0 at h
  split at h
  · obtain ⟨l, xs, rfl, e, h⟩ := Ls.out h
    split at h
    · rename_i y ys
      refine ⟨l, _, 0, 0, y, rfl, rfl, e, by decide, by decide, ?_, rfl, h⟩
      simp [seqIndex?]
    · exact h.elim
  · exact h.elim
/-- remove of an int from a list of ints, in which it stands -/
def rRemF : V → List V → Hp → VK → Prop := fun x vs H Q => match vs with
  | [.int k] => Ls H x fun l xs => ∃ ns : List Int, xs = ns.map V.int ∧ k ∈ ns ∧ Q .non (upd H l (.lst ((ns.erase k).map V.int)))
  | _ => False
theorem first_at {k : Int} : ∀ {ns : List Int}, k ∈ ns → ∃ j, ns[j]? = some k ∧ (∀ m : Nat, m < j → ns[m]? ≠ some k) ∧ ns.eraseIdx j = ns.erase k
  | [], h => by cases h
  | n :: ns, h => by
    by_cases e : n = k
    · subst e
      exact ⟨0, rfl, fun m hm => absurd hm (Nat.not_lt_zero _), by simp⟩
    · have h' : k ∈ ns := by
        rcases List.mem_cons.mp h with q | q
        · exact absurd q.symm e
        · exact q
      obtain ⟨j, h1, h2, h3⟩ := first_at h'
      refine ⟨j + 1, by simpa using h1, fun m hm => ?_, ?_⟩
      · cases m with
        | zero => simpa using e
        | succ m => simpa using h2 m (by omega)
      · rw [List.eraseIdx_cons_succ, h3, List.erase_cons_tail (by simpa using e)]
theorem mt_remF : MtR X "list.remove" rRemF := MtR.imp mt_remove fun x vs H Q h => by
  unfold rRemF at h
  split at h
  · obtain ⟨l, xs, rfl, e, ns, rfl, hk, h⟩ := Ls.out h
    obtain ⟨j, h1, h2, h3⟩ := first_at hk
    exact ⟨l, ns, _, j, rfl, rfl, e, h1, h2, by rw [h3]; exact h⟩
  · exact h.elim
/-! ### in -/
/-- an int in a list (or tuple) of ints -/
def rInF (f : Bool → Bool) : R2 := fun x y H Q => Nt x fun k => Sq H y fun xs => ∃ ns : List Int, xs = ns.map V.int ∧ Q (.bl (f (decide (k ∈ ns)))) H
theorem inV_int {k : Int} : ∀ {ns : List Int}, inV (.int k) (ns.map V.int) = decide (k ∈ ns)
  | [] => rfl
  | n :: ns => by
    have ih := inV_int (k := k) (ns := ns)
    unfold inV at *
    rw [List.map_cons, List.any_cons, ih]
    by_cases e : n = k
    · subst e
      simp [eqV]
    · have e2 : ¬ k = n := fun z => e z.symm
      simp [eqV, e, e2]
theorem flat_ints : ∀ ns : List Int, (ns.map V.int).all flatV = true
  | [] => rfl
  | n :: ns => by rw [List.map_cons, List.all_cons, flat_ints ns]; rfl
theorem op_inF : OpR X (compareOp .In) (rInF id) := OpR.imp op_in_seq fun x y H Q h => by
  obtain ⟨k, rfl, h⟩ := Nt.out h
  obtain ⟨p, xs, rfl, hs, ns, rfl, h⟩ := Sq.out (K := X.K) h
  exact ⟨p, _, rfl, hs, rfl, flat_ints ns, by rw [if_neg (by decide), inV_int]; exact h⟩
theorem op_notInF : OpR X (compareOp .NotIn) (rInF not) := OpR.imp op_notIn_seq fun x y H Q h => by
  obtain ⟨k, rfl, h⟩ := Nt.out h
  obtain ⟨p, xs, rfl, hs, ns, rfl, h⟩ := Sq.out (K := X.K) h
  exact ⟨p, _, rfl, hs, rfl, flat_ints ns, by rw [if_pos rfl, inV_int]; exact h⟩
/-! ### dicts -/
def rDUpd : V → List V → Hp → VK → Prop := fun x vs H Q => match vs with
  | [y] => Dk H x fun d kvs => Dk H y fun o more => d ≠ o ∧ kvs.length + more.length ≤ sizeLine ∧ Q .non (upd H d (.dK (mergeK kvs more)))
  | _ => False
theorem mt_dupd : MtR X "dict.update" rDUpd := by
  intro pins s σ H x vs v us Q I rx rv h
  unfold rDUpd at h
  split at h
  · obtain ⟨d, kvs, rfl, e, h⟩ := Dk.out h
    obtain ⟨o, more, rfl, e2, hne, hl, q⟩ := Dk.out h
    obtain rfl : v = Value.ref d := rx
    obtain ⟨u, rfl, ru⟩ := rv.one
    obtain rfl : u = Value.ref o := ru
    obtain ⟨z, hd, ws, rel, dd⟩ := dk_of I.hok e
    obtain ⟨z2, hd2, ws2, rel2, dd2⟩ := dk_of I.hok e2
    refine call_meetsIn PySem.F.slot_dict_update dd.typeIs PySem.F.entry_dict_update (PySem.F.args_dict_update_2 _ _) (meets_dict_update (mixKind X.prog X.w) d o hne hd2)
      ⟨ws, ws2, dd, dd2, by rw [← rel.length, ← rel2.length]; exact hl, fun h' dd' _ hs => ?_⟩
    have I' := d_write (t' := s.toks) (ob := .dK (mergeK kvs more)) I (by rw [e]; exact True.intro) hs (by obtain ⟨ob, _, _, q, _⟩ := id dd'; exact ⟨ob, q⟩)
      (dk_new (Nat.le_trans (length_mergeK _ _) hl) hd (rel2.merge rel) dd')
    exact ⟨.non, _, I', rfl, q⟩
  · exact h.elim
/-- k in d -/
def tDInF (ty td : TE) : TE := fun σ H Q => ty σ H fun y H1 => td σ H1 fun x H2 => Dk H2 x fun _ kvs => Ky y fun k => Q (.bl (valV kvs k).isSome) H2
theorem PC.imp {op : CmpOp} {a b : Expr} {t t' : TE} (h : PC X op a b t) (i : ∀ σ H Q, t' σ H Q → t σ H Q) : PC X op a b t' := ⟨fun pins s σ H Q I q => h.run pins s σ H Q I (i _ _ _ q)⟩
theorem PE.imp {e : Expr} {t t' : TE} (h : PE X e t) (i : ∀ σ H Q, t' σ H Q → t σ H Q) : PE X e t' := ⟨fun pins s σ H Q I q => h.run pins s σ H Q I (i _ _ _ q)⟩
theorem PS.imp {e : Stmt} {t t' : TS} (h : PS X e t) (i : ∀ D σ H, t' D σ H → t D σ H) : PS X e t' := ⟨fun pins s σ H D I q => h.run pins s σ H D I (i _ _ _ q)⟩
/-- a value's reading, where what is wanted of it may be weakened (every reading is so; each rule's own) -/
def Mono (t : TE) : Prop := ∀ σ H (Q Q' : VK), (∀ v H', Q v H' → Q' v H') → t σ H Q → t σ H Q'
end
/-! ### new objects -/
/-- a new object: the heap behind it keeps what stood, p is none of the old ones -/
theorem alloc {H : Hp} {o : HO} {G : Addr → Hp → Prop} (h : ∀ p H', Same H H' → H' p = some o → (∀ b u, H b = some u → b ≠ p) → (∀ b, b ≠ p → H' b = H b) → G p H') : ∀ p, H p = none → G p (upd H p o) := fun p hp =>
  h p _ (fun b u e => by rw [upd_ne (ne_of_none e hp)]; exact e) upd_same (fun b u e => ne_of_none e hp) fun b hb => upd_ne hb
theorem newf {H H1 : Hp} {p : Addr} {o : HO} (hp : H p = none) (hH : upd H p o = H1) : Same H H1 ∧ H1 p = some o ∧ (∀ b u, H b = some u → b ≠ p) ∧ (∀ b, b ≠ p → H1 b = H b) := by
  subst hH
  exact ⟨fun b u e => by rw [upd_ne (ne_of_none e hp)]; exact e, upd_same, fun b u e => ne_of_none e hp, fun b hb => upd_ne hb⟩
theorem chgf {H H1 : Hp} {a : Addr} {o : HO} (hH : upd H a o = H1) : H1 a = some o ∧ (∀ b, b ≠ a → H1 b = H b) := by
  subst hH
  exact ⟨upd_same, fun b hb => upd_ne hb⟩
/-- a change: the heap behind it keeps all else -/
theorem change {H : Hp} {a : Addr} {o : HO} {G : Hp → Prop} (h : ∀ H', H' a = some o → (∀ b, b ≠ a → H' b = H b) → G H') : G (upd H a o) := h _ upd_same fun _ hb => upd_ne hb
theorem atI_natE {α : Type} (xs : List α) (j : Nat) : atI xs (j : Int) = xs[j]? := by
  unfold atI ixN
  rw [if_pos (by omega)]
  by_cases h : j < xs.length
  · rw [if_pos (by omega)]
    simp
  · rw [if_neg (by omega)]
    rw [List.getElem?_eq_none (by omega)]
    rfl
theorem atI_0 {α : Type} (x : α) (xs : List α) : atI (x :: xs) 0 = some x := by rw [show (0 : Int) = ((0 : Nat) : Int) from rfl, atI_natE]; rfl
theorem atI_1 {α : Type} (x y : α) (xs : List α) : atI (x :: y :: xs) 1 = some y := by rw [show (1 : Int) = ((1 : Nat) : Int) from rfl, atI_natE]; rfl
theorem atI_2 {α : Type} (x y z : α) (xs : List α) : atI (x :: y :: z :: xs) 2 = some z := by rw [show (2 : Int) = ((2 : Nat) : Int) from rfl, atI_natE]; rfl
theorem ixN_natE (n j : Nat) : ixN n (j : Int) = if j < n then some j else none := by
  unfold ixN
  rw [if_pos (by omega)]
  by_cases h : j < n
  · rw [if_pos (by omega), if_pos h]; rfl
  · rw [if_neg (by omega), if_neg h]
theorem ixN_0 (n : Nat) : ixN (n + 1) 0 = some 0 := by rw [show (0 : Int) = ((0 : Nat) : Int) from rfl, ixN_natE, if_pos (by omega)]
theorem ixN_1 (n : Nat) : ixN (n + 2) 1 = some 1 := by rw [show (1 : Int) = ((1 : Nat) : Int) from rfl, ixN_natE, if_pos (by omega)]
theorem ixN_2 (n : Nat) : ixN (n + 3) 2 = some 2 := by rw [show (2 : Int) = ((2 : Nat) : Int) from rfl, ixN_natE, if_pos (by omega)]
/-! ### what stands behind a change -/
theorem Sq_upd {H : Hp} {p : Addr} {xs : List V} {k : List V → Prop} : Sq (upd H p (.lst xs)) (.ref p) k = k xs := Sq_lst upd_same
theorem Sq_updT {H : Hp} {p : Addr} {xs : List V} {k : List V → Prop} : Sq (upd H p (.tup xs)) (.ref p) k = k xs := Sq_tup upd_same
theorem Ls_upd {H : Hp} {p : Addr} {xs : List V} {k : Addr → List V → Prop} : Ls (upd H p (.lst xs)) (.ref p) k = k p xs := Ls_lst upd_same
theorem Dk_upd {H : Hp} {p : Addr} {xs : List (Key × V)} {k : Addr → List (Key × V) → Prop} : Dk (upd H p (.dK xs)) (.ref p) k = k p xs := Dk_dK upd_same
theorem Sq_ne {H : Hp} {p q : Addr} {o : HO} {k : List V → Prop} (h : q ≠ p) : Sq (upd H p o) (.ref q) k = Sq H (.ref q) k := by unfold Sq; simp only [upd_ne h]
theorem Ls_ne {H : Hp} {p q : Addr} {o : HO} {k : Addr → List V → Prop} (h : q ≠ p) : Ls (upd H p o) (.ref q) k = Ls H (.ref q) k := by unfold Ls; simp only [upd_ne h]
theorem Dk_ne {H : Hp} {p q : Addr} {o : HO} {k : Addr → List (Key × V) → Prop} (h : q ≠ p) : Dk (upd H p o) (.ref q) k = Dk H (.ref q) k := by unfold Dk; simp only [upd_ne h]
/-! ### loops -/
/-- what a loop asks -/
def lp (J : It) (g : TG) (tb : TS) (D : Ends) (σ : L2.St) (H1 : Hp) : Prop := ∃ W : Nat → Nat → L2.St → Hp → Prop, (∃ m, W 0 m σ H1) ∧ ∀ i m σ H, W i m σ H →
    (J.stop i H ∧ D.nx σ H) ∨ (J.go i H ∧ ∃ N : L2.St → Hp → Prop, (∀ σ' H', N σ' H' → ∃ m', m' < m ∧ W (i + 1) m' σ' H') ∧ ∀ x H', J.yld i H x H' → g x σ H' fun σ2 H2 => tb { D with nx := N, ct := N, bk := D.nx } σ2 H2)
theorem tFor_eq {wi : TI} {g : TG} {tb : TS} {D : Ends} {σ : L2.St} {H : Hp} : tFor wi g tb D σ H = wi σ H fun J H1 => lp J g tb D σ H1 := rfl
theorem lp_range {lo : Int} {n : Nat} {g : TG} {tb : TS} {D : Ends} {σ : L2.St} {H : Hp} (Pv : Nat → L2.St → Hp → Prop) (h0 : Pv 0 σ H)
    (hs : ∀ i σ H, i < n → Pv i σ H → g (.int (lo + i)) σ H fun σ2 H2 => tb { D with nx := Pv (i + 1), ct := Pv (i + 1), bk := D.nx } σ2 H2) (hd : ∀ σ H, Pv n σ H → D.nx σ H) : lp (Itr lo n) g tb D σ H := for_range Pv h0 hs hd
theorem lp_list {K : PySem.W.Frag} {a : Addr} {xs : List V} {g : TG} {tb : TS} {D : Ends} {σ : L2.St} {H : Hp} (Pv : Nat → L2.St → Hp → Prop) (h0 : Pv 0 σ H) (hl : ∀ i σ H, i ≤ xs.length → Pv i σ H → H a = some (.lst xs))
    (hs : ∀ i x σ H, xs[i]? = some x → Pv i σ H → g x σ H fun σ2 H2 => tb { D with nx := Pv (i + 1), ct := Pv (i + 1), bk := D.nx } σ2 H2) (hd : ∀ σ H, Pv xs.length σ H → D.nx σ H) : lp (Itl K a) g tb D σ H := for_list Pv h0 (fun i σ H hi p => .inl (.inl (hl i σ H hi p))) hs hd
theorem lp_rangeC {lo c : Int} {n : Nat} {g : TG} {tb : TS} {D : Ends} {σ : L2.St} {H : Hp} (Pv : Nat → L2.St → Hp → Prop) (h0 : Pv 0 σ H)
    (hs : ∀ i σ H, i < n → Pv i σ H → g (.int (lo + (i : Nat) * c)) σ H fun σ2 H2 => tb { D with nx := Pv (i + 1), ct := Pv (i + 1), bk := D.nx } σ2 H2) (hd : ∀ σ H, Pv n σ H → D.nx σ H) : lp (Itc lo c n) g tb D σ H := for_rangeC Pv h0 hs hd
/-- what a comprehension asks -/
def lcp (J : It) (g : TG) (tt : TT) (te : TE) (vs : List Nat) (Q : VK) (σ : L2.St) (H1 : Hp) : Prop := ∀ D, H1 D = none → ∃ W : Nat → Nat → Hp → Prop, (∃ m, W 0 m (upd H1 D (.lst []))) ∧ ∀ i m H, W i m H →
  (J.stop i H ∧ Q (.ref D) H) ∨ (J.go i H ∧ ∃ Nx : Hp → Prop, (∀ H', Nx H' → ∃ m', m' < m ∧ W (i + 1) m' H') ∧ ∀ x H', J.yld i H x H' → g x (wipe σ vs) H' fun σ2 H2 => wipe σ2 vs = wipe σ vs ∧ tt σ2 H2 fun b H3 =>
    if b = true then te σ2 H3 fun y H4 => ∃ acc, H4 D = some (.lst acc) ∧ acc.length < sizeLine ∧ Nx (upd H4 D (.lst (acc ++ [y]))) else Nx H3)
theorem tLc_eq {wi : TI} {g : TG} {tt : TT} {te : TE} {vs : List Nat} {σ : L2.St} {H : Hp} {Q : VK} : tLc wi g tt te vs σ H Q = wi σ H fun J H1 => lcp J g tt te vs Q σ H1 := rfl
theorem lcp_range {lo : Int} {n : Nat} {g : TG} {tt : TT} {te : TE} {vs : List Nat} {σ : L2.St} {H1 : Hp} {Q : VK} (Pv : Addr → Nat → Hp → Prop) (h0 : ∀ D, H1 D = none → Pv D 0 (upd H1 D (.lst [])))
    (hs : ∀ D i H, H1 D = none → i < n → Pv D i H → g (.int (lo + i)) (wipe σ vs) H fun σ2 H2 => wipe σ2 vs = wipe σ vs ∧ tt σ2 H2 fun b H3 =>
      if b = true then te σ2 H3 fun y H4 => ∃ acc, H4 D = some (.lst acc) ∧ acc.length < sizeLine ∧ Pv D (i + 1) (upd H4 D (.lst (acc ++ [y]))) else Pv D (i + 1) H3)
    (hd : ∀ D H, H1 D = none → Pv D n H → Q (.ref D) H) : lcp (Itr lo n) g tt te vs Q σ H1 := fun D hD => lc_range (Pv D) (h0 D hD) (fun i H hi p => hs D i H hD hi p) (fun H p => hd D H hD p)
theorem lcp_list {K : PySem.W.Frag} {a : Addr} {xs : List V} {g : TG} {tt : TT} {te : TE} {vs : List Nat} {σ : L2.St} {H1 : Hp} {Q : VK} (Pv : Addr → Nat → Hp → Prop) (h0 : ∀ D, H1 D = none → Pv D 0 (upd H1 D (.lst [])))
    (hl : ∀ D i H, i ≤ xs.length → Pv D i H → H a = some (.lst xs))
    (hs : ∀ D i x H, H1 D = none → xs[i]? = some x → Pv D i H → g x (wipe σ vs) H fun σ2 H2 => wipe σ2 vs = wipe σ vs ∧ tt σ2 H2 fun b H3 =>
      if b = true then te σ2 H3 fun y H4 => ∃ acc, H4 D = some (.lst acc) ∧ acc.length < sizeLine ∧ Pv D (i + 1) (upd H4 D (.lst (acc ++ [y]))) else Pv D (i + 1) H3)
    (hd : ∀ D H, H1 D = none → Pv D xs.length H → Q (.ref D) H) : lcp (Itl K a) g tt te vs Q σ H1 := fun D hD => lc_list (Pv D) (h0 D hD) (fun i H hi p => .inl (.inl (hl D i H hi p))) (fun i x H hx p => hs D i x H hD hx p) (fun H p => hd D H hD p)
theorem cpow12 : CPow 10 12 := ⟨by decide, by decide, by decide⟩
theorem cpow60 : CPow 10 60 := ⟨by decide, by decide, by decide⟩
section
variable {X : Cx}
theorem PI.imp {tg e : Expr} {t t' : TI} (h : PI X tg e t) (i : ∀ σ H R, t' σ H R → t σ H R) : PI X tg e t' := ⟨fun pins s σ H R I q => h.run pins s σ H R I (i _ _ _ q)⟩
/-- a reading may be used for less -/
theorem PE.up {e : Expr} {t : TE} (h : PE X e t) : PE X e (fun σ H Q => ∃ Q0 : VK, t σ H Q0 ∧ ∀ x H1, Q0 x H1 → Q x H1) :=
  ⟨fun pins s σ H Q I ⟨Q0, q, w⟩ => thn (h.run pins s σ H Q0 I q) fun u s1 ⟨v, H1, I1, r, z⟩ => ⟨v, H1, I1, r, w _ _ z⟩⟩
/-- for x in a tracked list -/
def iListF (K : PySem.W.Frag) (tl : TE) : TI := fun σ H R => tl σ H fun x H1 => Ls H1 x fun a _ => R (Itl K a) H1
theorem pi_listF {tg l : Expr} {tl : TE} (hl : PE X l tl) : PI X tg l (iListF X.K tl) := PI.imp (pi_list (PE.up hl)) fun σ H R q => ⟨_, q, fun x H1 z => by
  obtain ⟨a, xs, rfl, e, z⟩ := Ls.out z
  exact ⟨a, rfl, ⟨xs, .inl (.inl e)⟩, z⟩⟩
/-- for x in a tracked tuple -/
def iTupF (K : PySem.W.Frag) (tl : TE) : TI := fun σ H R => tl σ H fun x H1 => Tp H1 x fun _ => ∀ a, x = .ref a → R (Itt K a) H1
theorem pi_tupF {tg l : Expr} {tl : TE} (hl : PE X l tl) : PI X tg l (iTupF X.K tl) := PI.imp (pi_tup (PE.up hl)) fun σ H R q => ⟨_, q, fun x H1 z => by
  obtain ⟨a, xs, rfl, e, z⟩ := Tp.out z
  exact ⟨a, rfl, ⟨xs, .inl (.inl e)⟩, z a rfl⟩⟩
end
theorem lp_tup {K : PySem.W.Frag} {a : Addr} {xs : List V} {g : TG} {tb : TS} {D : Ends} {σ : L2.St} {H : Hp} (Pv : Nat → L2.St → Hp → Prop) (h0 : Pv 0 σ H) (hl : ∀ i σ H, i ≤ xs.length → Pv i σ H → H a = some (.tup xs))
    (hs : ∀ i x σ H, xs[i]? = some x → Pv i σ H → g x σ H fun σ2 H2 => tb { D with nx := Pv (i + 1), ct := Pv (i + 1), bk := D.nx } σ2 H2) (hd : ∀ σ H, Pv xs.length σ H → D.nx σ H) : lp (Itt K a) g tb D σ H := for_tup Pv h0 (fun i σ H hi p => .inl (.inl (hl i σ H hi p))) hs hd
/-! ### types -/
inductive T7 where
  | non | bool | int | str | list | tuple | dict
  deriving DecidableEq
def T7.name : T7 → String
  | .non => "NoneType" | .bool => "bool" | .int => "int" | .str => "str" | .list => "list" | .tuple => "tuple" | .dict => "dict"
def T7.isa (a b : T7) : Bool := decide (a = b) || (decide (a = .bool) && decide (b = .int))
theorem kit7 (a b : T7) : kitB a.name b.name = some (a.isa b) := by cases a <;> cases b <;> decide +kernel
/-- v's type -/
def Tz (H : Hp) (v : V) (k : T7 → Prop) : Prop := match v with
  | .non => k .non
  | .bl _ => k .bool
  | .int _ => k .int
  | .str _ => k .str
  | .ref p => (match H p with
    | some (.lst _) => k .list
    | some (.tup _) => k .tuple
    | some (.dK _) => k .dict
    | _ => False)
  | _ => False
section
variable {H : Hp} {k : T7 → Prop} {p : Addr}
theorem Tz_non : Tz H .non k = k .non := rfl
theorem Tz_bl {b : Bool} : Tz H (.bl b) k = k .bool := rfl
theorem Tz_int {i : Int} : Tz H (.int i) k = k .int := rfl
theorem Tz_str {x : Str} : Tz H (.str x) k = k .str := rfl
theorem Tz_lst {xs : List V} (h : H p = some (.lst xs)) : Tz H (.ref p) k = k .list := by unfold Tz; simp only [h]
theorem Tz_tup {xs : List V} (h : H p = some (.tup xs)) : Tz H (.ref p) k = k .tuple := by unfold Tz; simp only [h]
theorem Tz_dK {kvs : List (Key × V)} (h : H p = some (.dK kvs)) : Tz H (.ref p) k = k .dict := by unfold Tz; simp only [h]
theorem Tz.out {K : PySem.W.Frag} {v : V} (h : Tz H v k) : ∃ t : T7, TyX K H v (.type t.name) ∧ k t := by
  unfold Tz at h
  split at h
  · exact ⟨.non, .base .non, h⟩
  · exact ⟨.bool, .base (.bl _), h⟩
  · exact ⟨.int, .base (.int _), h⟩
  · exact ⟨.str, .base (.str _), h⟩
  · split at h
    · rename_i e
      exact ⟨.list, .base (.lst e), h⟩
    · rename_i e
      exact ⟨.tuple, .base (.tup e), h⟩
    · rename_i e
      exact ⟨.dict, .base (.dK e), h⟩
    · exact h.elim
  · exact h.elim
end
/-- a class as an argument -/
def Cl7 (v : V) (k : T7 → Prop) : Prop := match v with
  | .ty n => if n = "int" then k .int else if n = "bool" then k .bool else if n = "str" then k .str else if n = "list" then k .list else if n = "tuple" then k .tuple else if n = "dict" then k .dict else False
  | _ => False
section
variable {k : T7 → Prop}
theorem Cl7_int : Cl7 (.ty "int") k = k .int := rfl
theorem Cl7_bool : Cl7 (.ty "bool") k = k .bool := rfl
theorem Cl7_str : Cl7 (.ty "str") k = k .str := rfl
theorem Cl7_list : Cl7 (.ty "list") k = k .list := rfl
theorem Cl7_tuple : Cl7 (.ty "tuple") k = k .tuple := rfl
theorem Cl7_dict : Cl7 (.ty "dict") k = k .dict := rfl
theorem Cl7.out {v : V} (h : Cl7 v k) : ∃ t : T7, v = .ty t.name ∧ k t := by
  unfold Cl7 at h
  split at h
  · repeat' (split at h)
    · rename_i e; subst e; exact ⟨.int, rfl, h⟩
    · rename_i e; subst e; exact ⟨.bool, rfl, h⟩
    · rename_i e; subst e; exact ⟨.str, rfl, h⟩
    · rename_i e; subst e; exact ⟨.list, rfl, h⟩
    · rename_i e; subst e; exact ⟨.tuple, rfl, h⟩
    · rename_i e; subst e; exact ⟨.dict, rfl, h⟩
    · exact h.elim
  · exact h.elim
end
def rIsiF : List V → Hp → VK → Prop := fun vs H Q => match vs with
  | [v, c] => Tz H v fun t => Cl7 c fun u => Q (.bl (t.isa u)) H
  | _ => False
theorem call_isiF {X : Cx} : CallR X (.builtin "isinstance") rIsiF := CallR.imp call_isi fun vs H Q h => by
  unfold rIsiF at h
  split at h
  · obtain ⟨t, ht, h⟩ := Tz.out (K := X.K) h
    obtain ⟨u, e, h2⟩ := Cl7.out h
    subst e
    exact ⟨_, _, .type t.name, .type u.name, _, rfl, .ty _, ht, kit_ty (kit7 t u), h2⟩
  · exact h.elim
/-! ### data -/
mutual
/-- at v stands the datum d, tracked -/
inductive Dq (H : Hp) : V → PyData → Prop
  | non : Dq H .non .none
  | bl (b : Bool) : Dq H (.bl b) (.bool b)
  | int (i : Int) : Dq H (.int i) (.int i)
  | str (x : Str) : Dq H (.str x) (.str x)
  | lst {a : Addr} {xs : List V} {ds : List PyData} : H a = some (.lst xs) → DqAll H xs ds → Dq H (.ref a) (.list ds)
  | tup {a : Addr} {xs : List V} {ds : List PyData} : H a = some (.tup xs) → DqAll H xs ds → Dq H (.ref a) (.tuple ds)
inductive DqAll (H : Hp) : List V → List PyData → Prop
  | nil : DqAll H [] []
  | cons {v : V} {vs : List V} {d : PyData} {ds : List PyData} : Dq H v d → DqAll H vs ds → DqAll H (v :: vs) (d :: ds)
end
mutual
theorem Dq.dp {K : PySem.W.Frag} {H : Hp} : ∀ {v : V} {d : PyData}, Dq H v d → Dp K H v d
  | _, _, .non => .non
  | _, _, .bl b => .bl b
  | _, _, .int i => .int i
  | _, _, .str x => .str x
  | _, _, .lst e h => .lst (.inl (.inl e)) (DqAll.dp h)
  | _, _, .tup e h => .tup (.inl (.inl e)) (DqAll.dp h)
theorem DqAll.dp {K : PySem.W.Frag} {H : Hp} : ∀ {vs : List V} {ds : List PyData}, DqAll H vs ds → DpAll K H vs ds
  | _, _, .nil => .nil
  | _, _, .cons h t => .cons (Dq.dp h) (DqAll.dp t)
end
mutual
theorem Dq.same {H H' : Hp} (s : Same H H') : ∀ {v : V} {d : PyData}, Dq H v d → Dq H' v d
  | _, _, .non => .non
  | _, _, .bl b => .bl b
  | _, _, .int i => .int i
  | _, _, .str x => .str x
  | _, _, .lst e h => .lst (s _ _ e) (DqAll.same s h)
  | _, _, .tup e h => .tup (s _ _ e) (DqAll.same s h)
theorem DqAll.same {H H' : Hp} (s : Same H H') : ∀ {vs : List V} {ds : List PyData}, DqAll H vs ds → DqAll H' vs ds
  | _, _, .nil => .nil
  | _, _, .cons h t => .cons (Dq.same s h) (DqAll.same s t)
end
/-- data of at most this depth, no dict in it -/
def okd : Nat → PyData → Bool
  | _, .none => true | _, .bool _ => true | _, .int _ => true | _, .str _ => true
  | n + 1, .list ds => decide (ds.length ≤ 1000000) && ds.all (okd n)
  | n + 1, .tuple ds => decide (ds.length ≤ 1000000) && ds.all (okd n)
  | _, _ => false
theorem dqAll_get {H : Hp} : ∀ {xs : List V} {ds : List PyData} {i : Nat} {d : PyData}, DqAll H xs ds → ds[i]? = some d → ∃ v, xs[i]? = some v ∧ Dq H v d
  | _, _, 0, _, .cons h _, e => ⟨_, rfl, by
    have e := Option.some.inj e
    subst e
    exact h⟩
  | _, _, i + 1, _, .cons _ t, e => by
    obtain ⟨v, h1, h2⟩ := dqAll_get (i := i) t (by simpa using e)
    exact ⟨v, by simpa using h1, h2⟩
  | _, _, i, _, .nil, e => by simp at e
theorem dqAll_len {H : Hp} : ∀ {xs : List V} {ds : List PyData}, DqAll H xs ds → xs.length = ds.length
  | _, _, .nil => rfl
  | _, _, .cons _ t => congrArg Nat.succ (dqAll_len t)
theorem scal_ii {i j : Int} : scal (.int i) (.int j) = true := rfl
theorem scal_bb {i j : Bool} : scal (.bl i) (.bl j) = true := rfl
theorem scal_ss {i j : Str} : scal (.str i) (.str j) = true := rfl
theorem scal_nn : scal .non .non = true := rfl
theorem scal_si {i : Str} {j : Int} : scal (.str i) (.int j) = true := rfl
theorem scal_is {i : Int} {j : Str} : scal (.int i) (.str j) = true := rfl
theorem scal_in {i : Int} : scal (.int i) .non = true := rfl
theorem scal_ni {i : Int} : scal .non (.int i) = true := rfl
theorem okd_l {n : Nat} {ds : List PyData} (h : (decide (ds.length ≤ 1000000) && ds.all (okd n)) = true) : ds.length ≤ 1000000 ∧ ∀ (i : Nat) (d : PyData), ds[i]? = some d → okd n d = true := by
  obtain ⟨h1, h2⟩ := Bool.and_eq_true_iff.mp h
  exact ⟨of_decide_eq_true h1, fun i d e => List.all_eq_true.mp h2 d (List.mem_of_getElem? e)⟩
end Lw
/-! Lw, part B: new objects, dicts, slices, sums of lists, sets' lengths. -/
namespace Lw
open PySem PySem.Spec PyProof.Rows L2
/-- a new object o: k is said of its address and the heap behind it -/
def Nw (H : Hp) (o : HO) (k : Addr → Hp → Prop) : Prop := ∀ p, H p = none → k p (upd H p o)
/-- what is known of a heap to which the object at p came -/
structure Came (H : Hp) (p : Addr) (o : HO) (H' : Hp) : Prop where
  same : Same H H'
  new : H p = none
  it : H' p = some o
  off : ∀ b u, H b = some u → b ≠ p
  out : ∀ b, b ≠ p → H' b = H b
theorem Nw.intro {H : Hp} {o : HO} {k : Addr → Hp → Prop} (h : ∀ p H', Came H p o H' → k p H') : Nw H o k := fun p hp =>
  h p _ ⟨fun b u e => by rw [upd_ne (ne_of_none e hp)]; exact e, hp, upd_same, fun b u e => ne_of_none e hp, fun b hb => upd_ne hb⟩
/-- a change of the object at a: k is said of the heap behind it -/
def Ch (H : Hp) (a : Addr) (o : HO) (k : Hp → Prop) : Prop := k (upd H a o)
structure Turned (H : Hp) (a : Addr) (o : HO) (H' : Hp) : Prop where
  it : H' a = some o
  out : ∀ b, b ≠ a → H' b = H b
theorem Ch.intro {H : Hp} {a : Addr} {o : HO} {k : Hp → Prop} (h : ∀ H', Turned H a o H' → k H') : Ch H a o k := h _ ⟨upd_same, fun b hb => upd_ne hb⟩
section
variable {X : Cx}
def tTupN (t : TA) : TE := fun σ H Q => t σ H fun xs H1 => xs.length ≤ sizeLine ∧ Nw H1 (.tup xs) fun p H' => Q (.ref p) H'
def tLstN (t : TA) : TE := fun σ H Q => t σ H fun xs H1 => xs.length ≤ sizeLine ∧ Nw H1 (.lst xs) fun p H' => Q (.ref p) H'
theorem pe_tupN {es : List Expr} {t : TA} {x1} {pos : Pos} (h : PA X es t) : PE X (.Tuple es x1 pos) (tTupN t) := pe_tup h
theorem pe_lstN {es : List Expr} {t : TA} {pos : Pos} (h : PA X es t) : PE X (.List es pos) (tLstN t) := pe_lst h
def tDNewN : TE := fun _ H Q => Nw H (.dK []) fun p H' => Q (.ref p) H'
theorem pe_dnewN {pos : Pos} : PE X (.Dict [] [] pos) tDNewN := pe_dnewK
/-! ### lists -/
def rSlF : V → Option Int → Option Int → Hp → VK → Prop := fun x lo hi H Q => Sq H x fun xs => (∃ p, x = .ref p ∧ ∃ ys, H p = some (.lst ys)) ∧ Nw H (.lst (cutV xs lo hi)) fun p H' => Q (.ref p) H'
theorem SlR.imp {r r' : V → Option Int → Option Int → Hp → VK → Prop} (h : SlR X r) (i : ∀ x l u H Q, r' x l u H Q → r x l u H Q) : SlR X r' := fun pins s σ H x v vl vu lo hi sl Q I rx hs pl pu q => h pins s σ H x v vl vu lo hi sl Q I rx hs pl pu (i _ _ _ _ _ q)
/-- the items of a tracked list -/
def rSlL2 : V → Option Int → Option Int → Hp → VK → Prop := fun x lo hi H Q => Ls H x fun _ xs => Nw H (.lst (cutV xs lo hi)) fun p H' => Q (.ref p) H'
theorem sl_f : SlR X rSlL2 := SlR.imp sl_list fun x l u H Q h => by
  obtain ⟨p, xs, rfl, e, h⟩ := Ls.out h
  exact ⟨p, xs, rfl, .inl (.inl e), h⟩
def rCatF : R2 := fun x y H Q => Ls H x fun _ xs => Ls H y fun _ ys => xs.length + ys.length ≤ sizeLine ∧ Nw H (.lst (xs ++ ys)) fun p H' => Q (.ref p) H'
theorem op_catF : OpR X (binaryOp .Add) rCatF := OpR.imp op_cat fun x y H Q h => by
  obtain ⟨p, xs, rfl, e, h⟩ := Ls.out h
  obtain ⟨q, ys, rfl, e2, h1, h2⟩ := Ls.out h
  exact ⟨p, q, xs, ys, rfl, rfl, e, e2, h1, h2⟩
def rRepF : R2 := fun x y H Q => Ls H x fun _ xs => Nt y fun k => (-(2 ^ 63) ≤ k ∧ k < 2 ^ 63 ∧ xs.length * k.toNat ≤ sizeLine) ∧ Nw H (.lst (List.replicate k.toNat xs).flatten) fun p H' => Q (.ref p) H'
theorem op_repF : OpR X (binaryOp .Mult) rRepF := OpR.imp op_rep fun x y H Q h => by
  obtain ⟨p, xs, rfl, e, h⟩ := Ls.out h
  obtain ⟨k, rfl, ⟨h1, h2, h3⟩, h4⟩ := Nt.out h
  exact ⟨p, k, xs, rfl, rfl, e, h1, h2, h3, h4⟩
def tRevF (te : TE) : TE := fun σ H Q => te σ H fun x H1 => Ls H1 x fun _ xs => Nw H1 (.lst xs.reverse) fun p H' => Q (.ref p) H'
theorem pe_rev {e : Expr} {te : TE} {k : Nat} {p1 p2 p3 pos : Pos} (he : PE X e te) : PE X (.Subscript e (.Slice none none (some (.UnaryOp .USub (.Constant (.int 1) k p1) p2)) p3) pos) (tRevF te) := PE.imp (pe_revL (PE.up he)) fun σ H Q q => ⟨_, q, fun x H1 h => by
  obtain ⟨p, xs, rfl, e, h⟩ := Ls.out h
  exact ⟨p, xs, rfl, .inl (.inl e), h⟩⟩
/-- list(xs) of a list or tuple -/
def rListF : List V → Hp → VK → Prop := fun vs H Q => match vs with
  | [v] => Sq H v fun xs => Nw H (.lst xs) fun p H' => Q (.ref p) H'
  | _ => False
theorem call_listF : CallR X (.type "list") rListF := CallR.imp call_list_of fun vs H Q h => by
  unfold rListF at h
  split at h
  · obtain ⟨p, xs, rfl, hs, h⟩ := Sq.out (K := X.K) h
    exact ⟨p, xs, rfl, hs, h⟩
  · exact h.elim
/-- max(xs) of ints -/
def rMaxF : List V → Hp → VK → Prop := fun vs H Q => match vs with
  | [v] => Sq H v fun xs => (∃ p ys, v = .ref p ∧ H p = some (.lst ys)) ∧ ∃ ns : List Int, xs = ns.map V.int ∧ 0 < ns.length ∧ ∀ m, m ∈ ns → (∀ y, y ∈ ns → y ≤ m) → Q (.int m) H
  | _ => False
theorem cr_maxF : CallR X (.builtin "max") (fun vs H Q => X.calm = true ∧ rMaxF vs H Q) := by
  intro pins s σ H xs us Q I rx q
  obtain ⟨hc, h⟩ := q
  unfold rMaxF at h
  split at h
  · rename_i v
    obtain ⟨p, ys, rfl, hs, ⟨p', zs, e, e'⟩, ns, e2, h1, h2⟩ := Sq.out (K := X.K) h
    cases e
    subst e2
    refine cr_max hc pins s σ H _ us Q I rx ⟨p, ns, rfl, ?_, h1, h2⟩
    rcases hs with hs | hs
    · exact hs
    · exact absurd hs fun hs => by
        rcases hs with (hs | ⟨o, hs⟩) | ⟨o, its, n, hk, hc2, _⟩
        · rw [e'] at hs; cases hs
        · rw [e'] at hs; cases hs
        · obtain ⟨its', r', ⟨o2, n2, e3, e4, _⟩, _⟩ := I.list (.inl (.inl e'))
          have := I.kIn p o hk
          rw [e3] at this
          cases this
          rw [e4] at hc2
          exact absurd hc2 (by decide)
  · exact h.elim
/-! ### dicts -/
/-- v is a dict that may be read (also while it is walked) -/
def Dr (H : Hp) (v : V) (k : List (Key × V) → Prop) : Prop := match v with
  | .ref p => (match H p with
    | some (.dK kvs) => k kvs
    | some (.frz _ (.dK kvs)) => k kvs
    | _ => False)
  | _ => False
theorem Dr_dK {H : Hp} {p : Addr} {kvs : List (Key × V)} {k : List (Key × V) → Prop} (h : H p = some (.dK kvs)) : Dr H (.ref p) k = k kvs := by unfold Dr; simp only [h]
theorem Dr_frz {H : Hp} {p : Addr} {o : Obj} {kvs : List (Key × V)} {k : List (Key × V) → Prop} (h : H p = some (.frz o (.dK kvs))) : Dr H (.ref p) k = k kvs := by unfold Dr; simp only [h]
theorem Dr.out {H : Hp} {v : V} {k : List (Key × V) → Prop} (h : Dr H v k) : ∃ p kvs, v = .ref p ∧ Rd H p (.dK kvs) ∧ k kvs := by
  unfold Dr at h
  split at h
  · rename_i p
    split at h
    · rename_i kvs e
      exact ⟨p, kvs, rfl, .inl e, h⟩
    · rename_i o kvs e
      exact ⟨p, kvs, rfl, .inr ⟨o, e⟩, h⟩
    · exact h.elim
  · exact h.elim
variable {o e f i value : Expr} {td ty tx tv : TE} {apos cpos pos pos' : Pos}
/-- d[k], there -/
def tDGetF (td ty : TE) : TE := fun σ H Q => td σ H fun x H1 => ty σ H1 fun y H2 => Dr H2 x fun kvs => Ky y fun k => Op (valV kvs k) fun v => Q v H2
theorem pe_dgetF (hu : X.A.units + 1 < cLine) (ho : PE X o td) (hi : PE X i ty) (hs : NoSl i) : PE X (.Subscript o i pos) (tDGetF td ty) := PE.imp (pe_dget hu (PE.up ho) (PE.up hi) hs) fun σ H Q q => ⟨_, q, fun x H1 h => ⟨_, h, fun y H2 h => by
  obtain ⟨p, kvs, rfl, e, h⟩ := Dr.out h
  obtain ⟨k, ek, hk⟩ := Ky.out h
  subst ek
  obtain ⟨v, ev, hk⟩ := Op.out hk
  exact ⟨p, v, rfl, .inl ⟨kvs, k, e, rfl, ev.symm⟩, hk⟩⟩⟩
/-- d.get(k, x) -/
def tDGet2F (td ty tx : TE) : TE := fun σ H Q => td σ H fun x H1 => Dr H1 x fun _ => ty σ H1 fun y H2 => tx σ H2 fun z H3 => Dr H3 x fun kvs => Ky y fun k => Q ((valV kvs k).getD z) H3
theorem pe_dget2F (hu : X.A.units + 1 < cLine) (ho : PE X o td) (he : PE X e ty) (hf : PE X f tx) (m : M2 X o "get" apos e f cpos) : PE X (.Call (.Attribute o "get" apos) [e, f] [] cpos) (tDGet2F td ty tx) := PE.imp (pe_dget2 hu (PE.up ho) (PE.up he) (PE.up hf) m) fun σ H Q q => ⟨_, q, fun x H1 h => by
  obtain ⟨p, kvs, rfl, e, h⟩ := Dr.out h
  refine ⟨p, rfl, .inl ⟨kvs, e⟩, _, h, fun y H2 h => ⟨_, h, fun z H3 h => ?_⟩⟩
  obtain ⟨p', kvs', e', e2, h⟩ := Dr.out h
  cases e'
  obtain ⟨k, ek, hk⟩ := Ky.out h
  subst ek
  exact ⟨_, .inl ⟨kvs', k, e2, rfl, rfl⟩, hk⟩⟩
/-- d.get(k) -/
def tDGet1F (td ty : TE) : TE := fun σ H Q => td σ H fun x H1 => Dr H1 x fun _ => ty σ H1 fun y H2 => Dr H2 x fun kvs => Ky y fun k => Q ((valV kvs k).getD .non) H2
theorem pe_dget1F (hu : X.A.units + 1 < cLine) (ho : PE X o td) (he : PE X e ty) (m : M1 X o "get" apos e cpos) : PE X (.Call (.Attribute o "get" apos) [e] [] cpos) (tDGet1F td ty) := PE.imp (pe_dget1 hu (PE.up ho) (PE.up he) m) fun σ H Q q => ⟨_, q, fun x H1 h => by
  obtain ⟨p, kvs, rfl, e, h⟩ := Dr.out h
  refine ⟨p, rfl, .inl ⟨kvs, e⟩, _, h, fun y H2 h => ?_⟩
  obtain ⟨p', kvs', e', e2, h⟩ := Dr.out h
  cases e'
  obtain ⟨k, ek, hk⟩ := Ky.out h
  subst ek
  exact ⟨_, .inl ⟨kvs', k, e2, rfl, rfl⟩, hk⟩⟩
/-- d.pop(k, x) -/
def tDPop2F (td ty tx : TE) : TE := fun σ H Q => td σ H fun x H1 => Dk H1 x fun a _ => ty σ H1 fun y H2 => tx σ H2 fun z H3 => Dk H3 (.ref a) fun _ kvs => Ky y fun k => match valV kvs k with
  | some v => Q v (upd H3 a (.dK (dropK kvs k)))
  | none => Q z H3
theorem pe_dpop2F (ho : PE X o td) (he : PE X e ty) (hf : PE X f tx) (m : M2 X o "pop" apos e f cpos) : PE X (.Call (.Attribute o "pop" apos) [e, f] [] cpos) (tDPop2F td ty tx) := PE.imp (pe_dpop2 (PE.up ho) (PE.up he) (PE.up hf) m) fun σ H Q q => ⟨_, q, fun x H1 h => by
  obtain ⟨p, kvs, rfl, e, h⟩ := Dk.out h
  refine ⟨p, rfl, .inl ⟨kvs, .inl e⟩, _, h, fun y H2 h => ⟨_, h, fun z H3 h => ?_⟩⟩
  obtain ⟨p', kvs', e', e2, h⟩ := Dk.out h
  cases e'
  obtain ⟨k, ek, hk⟩ := Ky.out h
  subst ek
  refine ⟨kvs', k, e2, rfl, fun v ev => ?_, fun ev => ?_⟩
  · rw [ev] at hk; exact hk
  · rw [ev] at hk; exact hk⟩
/-- d.pop(k), there -/
def tDPop1F (td ty : TE) : TE := fun σ H Q => td σ H fun x H1 => Dk H1 x fun a _ => ty σ H1 fun y H2 => Dk H2 (.ref a) fun _ kvs => Ky y fun k => Op (valV kvs k) fun v => Q v (upd H2 a (.dK (dropK kvs k)))
theorem pe_dpop1F (ho : PE X o td) (he : PE X e ty) (m : M1 X o "pop" apos e cpos) : PE X (.Call (.Attribute o "pop" apos) [e] [] cpos) (tDPop1F td ty) := PE.imp (pe_dpop1 (PE.up ho) (PE.up he) m) fun σ H Q q => ⟨_, q, fun x H1 h => by
  obtain ⟨p, kvs, rfl, e, h⟩ := Dk.out h
  refine ⟨p, rfl, .inl ⟨kvs, .inl e⟩, _, h, fun y H2 h => ?_⟩
  obtain ⟨p', kvs', e', e2, h⟩ := Dk.out h
  cases e'
  obtain ⟨k, ek, hk⟩ := Ky.out h
  subst ek
  obtain ⟨v, ev, hk⟩ := Op.out hk
  exact ⟨kvs', k, v, e2, rfl, ev, hk⟩⟩
/-- d[k] = v -/
def sDPutF (td ty tv : TE) : TS := fun D σ H => tv σ H fun v H1 => td σ H1 fun x H2 => ty σ H2 fun y H3 => Dk H3 x fun a kvs => Ky y fun k => kvs.length < sizeLine ∧ D.nx σ (upd H3 a (.dK (putK kvs k v)))
theorem ps_dputF (hu : X.A.units + 1 < cLine) (ho : PE X o td) (hi : PE X i ty) (hv : PE X value tv) (hs : swapsWith value (some (.Subscript o i pos')) pos.line X.env = pure false) :
    PS X (.Assign [.Subscript o i pos'] value pos) (sDPutF td ty tv) := PS.imp (ps_dput hu (PE.up ho) (PE.up hi) (PE.up hv) hs) fun D σ H q => ⟨_, q, fun v H1 h => ⟨_, h, fun x H2 h => ⟨_, h, fun y H3 h => by
  obtain ⟨a, kvs, rfl, e, h⟩ := Dk.out h
  obtain ⟨k, rfl, h1, h2⟩ := Ky.out h
  exact ⟨a, _, rfl, .inl ⟨kvs, k, e, rfl, h1, rfl⟩, h2⟩⟩⟩⟩
/-- k in d, k not in d -/
theorem pc_dinF (hu : X.A.units + 1 < cLine) (hi : PE X i ty) (ho : PE X o td) : PC X .In i o (fun σ H Q => ty σ H fun y H1 => td σ H1 fun x H2 => Dr H2 x fun kvs => Ky y fun k => Q (.bl (valV kvs k).isSome) H2) := PC.imp (pc_din hu (PE.up hi) (PE.up ho)) fun σ H Q q => ⟨_, q, fun y H1 h => ⟨_, h, fun x H2 h => by
  obtain ⟨p, kvs, rfl, e, h⟩ := Dr.out h
  obtain ⟨k, ek, hk⟩ := Ky.out h
  subst ek
  exact ⟨p, _, rfl, .inl ⟨kvs, k, e, rfl, rfl⟩, hk⟩⟩⟩
theorem pc_dnotinF (hu : X.A.units + 1 < cLine) (hi : PE X i ty) (ho : PE X o td) : PC X .NotIn i o (fun σ H Q => ty σ H fun y H1 => td σ H1 fun x H2 => Dr H2 x fun kvs => Ky y fun k => Q (.bl (!(valV kvs k).isSome)) H2) := PC.imp (pc_dnotin hu (PE.up hi) (PE.up ho)) fun σ H Q q => ⟨_, q, fun y H1 h => ⟨_, h, fun x H2 h => by
  obtain ⟨p, kvs, rfl, e, h⟩ := Dr.out h
  obtain ⟨k, ek, hk⟩ := Ky.out h
  subst ek
  exact ⟨p, _, rfl, .inl ⟨kvs, k, e, rfl, rfl⟩, hk⟩⟩⟩
/-- {k: v} -/
def tDisp1F (tk tv : TE) : TE := fun σ H Q => Nw H (.dK []) fun p H1 => tk σ H1 fun x H2 => tv σ H2 fun y H3 => Ky x fun k => H3 p = some (.dK []) ∧ Q (.ref p) (upd H3 p (.dK [(k, y)]))
theorem pe_disp1 {k v : Expr} {tk tv : TE} (hk : PE X k tk) (hv : PE X v tv) : PE X (.Dict [some k] [v] pos) (tDisp1F tk tv) :=
  PE.imp (pe_disp (pps_cons (PE.up hk) (PE.up hv) pps_nil) rfl rfl (fun z => nomatch z) (by show 1 ≤ 15; decide)) fun σ H Q q => fun p hp => ⟨_, q p hp, fun x H1 h => ⟨_, h, fun y H2 h => by
    obtain ⟨z, ez, hz⟩ := Ky.out h
    exact ⟨hz.1, [(z, y)], by rw [ez]; rfl, (by show 1 ≤ 15; decide), hz.2⟩⟩⟩
theorem mergeK_one {kvs : List (Key × V)} {k : Key} {v : V} : mergeK kvs [(k, v)] = putK kvs k v := rfl
/-! ### len(set(xs)) -/
def card (ns : List Int) : Nat := (ns.foldl step_dedup []).length
def tLenSetF (ta : TE) : TE := fun σ H Q => ta σ H fun x H1 => Ls H1 x fun _ xs => ∃ ns : List Int, xs = ns.map V.int ∧ ns.length ≤ 4000 ∧ Q (.int (card ns : Nat)) H1
theorem range_getD : ∀ ns : List Int, (List.range ns.length).map (fun i => ns.getD i 0) = ns := fun ns => by
  refine List.ext_getElem (by simp) fun i h1 h2 => ?_
  simp [h2]
theorem pe_lenSet {a : Expr} {ta : TE} {p p2 q pos : Pos} (hg : Gl X "len") (hm : X.mg "len" = none) (hg2 : Gl X "set") (hm2 : X.mg "set" = none) (ha : PE X a ta) (hc : X.calm = true := by rfl)
    (na : starEach [a] X.env = (false, eval a X.env) :: starEach [] X.env := by rfl) : PE X (.Call (.Name "len" p) [.Call (.Name "set" p2) [a] [] q] [] pos) (tLenSetF ta) := by
  refine ⟨fun pins s σ H Q I h => ?_⟩
  refine Call_ (ld_blt I hg hm boot_len ?_)
  refine PyProof.Rows.callWith_builtin1 (PyProof.Rows.args_cons ?_ rfl) rfl rfl
  refine Call_ (ld_blt I hg2 hm2 boot_set ?_)
  refine PyProof.Rows.callWith_type1 (PyProof.Rows.args_cons (thn (ha.run pins s σ H _ I h) fun v s1 ⟨x, H1, I1, r1, q1⟩ => PyProof.Rows.args_nil ?_) na) na rfl
  obtain ⟨l, xs, rfl, hq, ns, rfl, hl, q1⟩ := Ls.out q1
  cases r1
  obtain ⟨its, r, pl, hz⟩ := I1.list (.inl (.inl hq))
  have hlen : its.toArray.size = ns.length := by rw [List.size_toArray, ← r.length, List.length_map]
  refine call_set_list (I1.ok.hd hc) pl.isList (by simpa using RZ.intsAre_vals r) (by rw [hlen]; unfold scanBound; omega) fun h' tk hS hk => ?_
  refine PyProof.Rows.args_nil ?_
  have ec : (firstMet (fun i => ns.getD i 0) ns.length).length = card ns := by
    unfold firstMet card
    rw [range_getD]
  have ecl : card ns ≤ ns.length := by
    rw [← ec]
    exact firstMet_length_le _ _
  rw [hlen] at hS
  obtain ⟨o, es, ep, t, ho, hex, hd, _, _, _, hf, hn⟩ := hS
  rw [ec] at hn
  have I2 : Inv X pins σ H1 { s1 with heap := h', toks := tk } := I1.kept fun b o e => hk b o (Heap.lt_size e) e
  exact call_len_set ho hex hd hf (by rw [hn] <;> omega) ⟨.int (card ns : Nat), H1, I2.tok _, ⟨_, by rw [hn]⟩, q1⟩
/-! ### a method of a list, of a dict -/
def tML (r : V → List V → Hp → VK → Prop) (to : TE) (t : TA) : TE := fun σ H Q => to σ H fun x H1 => Ls H1 x fun _ _ => t σ H1 fun xs H2 => r x xs H2 Q
def tML0 (r : V → List V → Hp → VK → Prop) (to : TE) : TE := fun σ H Q => to σ H fun x H1 => Ls H1 x fun _ _ => r x [] H1 Q
def tMD (r : V → List V → Hp → VK → Prop) (to : TE) (t : TA) : TE := fun σ H Q => to σ H fun x H1 => Dk H1 x fun _ _ => t σ H1 fun xs H2 => r x xs H2 Q
theorem pe_mL {name : Str} {id : String} {r : V → List V → Hp → VK → Prop} {es : List Expr} {to : TE} {t : TA} (slot : Slot "list" name id) (hty : typeOf (.builtin id) = pure (.type "method_descriptor")) (hm : MtR X id r) (ho : PE X o to) (ha : PA X (e :: es) t)
    (hbase : attributeBase o name X.env (eval o X.env) = eval o X.env := by rfl)
    (hfew : ((backTo cpos (starEach (e :: es) X.env)).all (fun x => !x.1) && (backToKw cpos (keywordEach [] X.env)).all (fun x => x.1.isSome)
      && decide ((e :: es).length + ([] : List Keyword).length + (if ([] : List Keyword).isEmpty then 0 else 1) < 30)) = true := by rfl) (hline : (apos.endLine == cpos.line) = true := by rfl) (hs : starEach (e :: es) X.env = (false, eval e X.env) :: starEach es X.env := by rfl) (hplain : (backTo cpos (starEach es X.env)).any (·.1) = false := by rfl) :
    PE X (.Call (.Attribute o name apos) (e :: es) [] cpos) (tML r to t) := PE.imp (pe_bm PySem.F.plainAttrs_list slot hty hm (PE.up ho) ha hbase hfew hline hs hplain) fun σ H Q q => ⟨_, q, fun x H1 h => by
  obtain ⟨l, xs, rfl, e, h⟩ := Ls.out h
  exact ⟨.inl ⟨rfl, _, .inl (.inl e)⟩, h⟩⟩
theorem pe_mL0 {name : Str} {id : String} {r : V → List V → Hp → VK → Prop} {to : TE} (slot : Slot "list" name id) (hty : typeOf (.builtin id) = pure (.type "method_descriptor")) (hm : MtR X id r) (ho : PE X o to)
    (hbase : attributeBase o name X.env (eval o X.env) = eval o X.env := by rfl) (hline : (apos.endLine == cpos.line) = true := by rfl) :
    PE X (.Call (.Attribute o name apos) [] [] cpos) (tML0 r to) := PE.imp (pe_bm0 PySem.F.plainAttrs_list slot hty hm (PE.up ho) hbase hline) fun σ H Q q => ⟨_, q, fun x H1 h => by
  obtain ⟨l, xs, rfl, e, h⟩ := Ls.out h
  exact ⟨.inl ⟨rfl, _, .inl (.inl e)⟩, h⟩⟩
theorem pe_mD {name : Str} {id : String} {r : V → List V → Hp → VK → Prop} {es : List Expr} {to : TE} {t : TA} (slot : Slot "dict" name id) (hty : typeOf (.builtin id) = pure (.type "method_descriptor")) (hm : MtR X id r) (ho : PE X o to) (ha : PA X (e :: es) t)
    (hbase : attributeBase o name X.env (eval o X.env) = eval o X.env := by rfl)
    (hfew : ((backTo cpos (starEach (e :: es) X.env)).all (fun x => !x.1) && (backToKw cpos (keywordEach [] X.env)).all (fun x => x.1.isSome)
      && decide ((e :: es).length + ([] : List Keyword).length + (if ([] : List Keyword).isEmpty then 0 else 1) < 30)) = true := by rfl) (hline : (apos.endLine == cpos.line) = true := by rfl) (hs : starEach (e :: es) X.env = (false, eval e X.env) :: starEach es X.env := by rfl) (hplain : (backTo cpos (starEach es X.env)).any (·.1) = false := by rfl) :
    PE X (.Call (.Attribute o name apos) (e :: es) [] cpos) (tMD r to t) := PE.imp (pe_bm PySem.F.plainAttrs_dict slot hty hm (PE.up ho) ha hbase hfew hline hs hplain) fun σ H Q q => ⟨_, q, fun x H1 h => by
  obtain ⟨l, kvs, rfl, e, h⟩ := Dk.out h
  exact ⟨.inr (.inr (.inl ⟨rfl, .inl ⟨_, e⟩⟩)), h⟩⟩
end
theorem ints_inj : ∀ {a b : List Int}, a.map V.int = b.map V.int → a = b
  | [], [], _ => rfl
  | [], _ :: _, e => by simp at e
  | _ :: _, [], e => by simp at e
  | x :: xs, y :: ys, e => by
    rw [List.map_cons, List.map_cons] at e
    injection e with e1 e2
    injection e1 with e1
    rw [e1, ints_inj e2]
theorem ex_ints {L : List Int} {P : List Int → Prop} : (∃ ns : List Int, L.map V.int = ns.map V.int ∧ P ns) = P L := propext
  ⟨fun ⟨ns, e, h⟩ => by rw [ints_inj e]; exact h, fun h => ⟨L, rfl, h⟩⟩
theorem ex_any {α : Type} {a : α} : (∃ x, a = x) = True := eq_true ⟨a, rfl⟩
theorem same_chg {H H' : Hp} {l : Addr} {o : HO} (s : Same H H') (n : ∀ b u, H b = some u → b ≠ l) : Same H (upd H' l o) := fun b u e => by
  rw [upd_ne (n b u e)]
  exact s b u e
/-! ### slices -/
theorem cut_from (xs : List V) (n : Nat) : cutV xs (some (n : Int)) none = xs.drop n := by
  unfold cutV
  rw [HT.sIx_nat, HT.sIx_none]
  by_cases h : n ≤ xs.length
  · rw [Nat.min_eq_left h, List.take_of_length_le (by rw [List.length_drop]; omega)]
  · rw [Nat.min_eq_right (by omega), List.drop_eq_nil_of_le (Nat.le_refl _), List.drop_eq_nil_of_le (by omega), List.take_nil]
theorem cut_to (xs : List V) (n : Nat) : cutV xs none (some (n : Int)) = xs.take n := by
  unfold cutV
  rw [HT.sIx_nat, HT.sIx_none]
  by_cases h : n ≤ xs.length
  · rw [Nat.min_eq_left h]; rfl
  · rw [Nat.min_eq_right (by omega), List.take_of_length_le (show xs.length ≤ n by omega)]
    show (xs.drop 0).take (xs.length - 0) = xs
    rw [List.drop_zero, Nat.sub_zero, List.take_length]
theorem cut_mid (xs : List V) (m n : Nat) : cutV xs (some (m : Int)) (some (n : Int)) = (xs.drop m).take (n - m) := by
  unfold cutV
  rw [HT.sIx_nat, HT.sIx_nat]
  by_cases h : m ≤ xs.length
  · rw [Nat.min_eq_left h]
    by_cases h2 : n ≤ xs.length
    · rw [Nat.min_eq_left h2]
    · rw [Nat.min_eq_right (by omega), List.take_of_length_le (by rw [List.length_drop]; omega), List.take_of_length_le (by rw [List.length_drop]; omega)]
  · rw [Nat.min_eq_right (show xs.length ≤ m by omega), List.drop_eq_nil_of_le (Nat.le_refl _), List.drop_eq_nil_of_le (show xs.length ≤ m by omega), List.take_nil, List.take_nil]
end Lw
/-! Lw, part C: walks over dicts. -/
namespace Lw
open PySem PySem.Spec PyProof.Rows L2
theorem lcp_keys {d : Addr} {o : Obj} {kvs : List (Key × V)} {g : TG} {tt : TT} {te : TE} {vs : List Nat} {σ : L2.St} {H1 : Hp} {Q : VK} (Pv : Addr → Nat → Hp → Prop) (h0 : ∀ D, H1 D = none → Pv D 0 (upd H1 D (.lst [])))
    (hl : ∀ D i H, i ≤ kvs.length → Pv D i H → H d = some (.frz o (.dK kvs)))
    (hs : ∀ D i k v H, H1 D = none → kvs[i]? = some (k, v) → Pv D i H → g (kV k) (wipe σ vs) H fun σ2 H2 => wipe σ2 vs = wipe σ vs ∧ tt σ2 H2 fun b H3 =>
      if b = true then te σ2 H3 fun y H4 => ∃ acc, H4 D = some (.lst acc) ∧ acc.length < sizeLine ∧ Pv D (i + 1) (upd H4 D (.lst (acc ++ [y]))) else Pv D (i + 1) H3)
    (hd : ∀ D H, H1 D = none → Pv D kvs.length H → Q (.ref D) H) : lcp (Itk d o kvs) g tt te vs Q σ H1 := fun D hD => by
  refine ⟨fun i m H => m = kvs.length - i ∧ i ≤ kvs.length ∧ Pv D i H, ⟨kvs.length, by simp, Nat.zero_le _, h0 D hD⟩, ?_⟩
  rintro i m H ⟨rfl, hi, p⟩
  have q := hl D i H hi p
  by_cases hlt : i < kvs.length
  · refine .inr ⟨⟨q, hlt⟩, Pv D (i + 1), fun H' p' => ⟨kvs.length - (i + 1), by omega, rfl, hlt, p'⟩, fun x H' y => ?_⟩
    obtain ⟨e, k, v, e1, e2⟩ := y
    subst e
    subst e2
    exact hs D i k v _ hD e1 p
  · have e : i = kvs.length := by omega
    subst e
    exact .inl ⟨⟨q, Nat.le_refl _⟩, hd D H hD p⟩
theorem lp_keys {d : Addr} {o : Obj} {kvs : List (Key × V)} {g : TG} {tb : TS} {D : Ends} {σ : L2.St} {H : Hp} (Pv : Nat → L2.St → Hp → Prop) (h0 : Pv 0 σ H) (hl : ∀ i σ H, i ≤ kvs.length → Pv i σ H → H d = some (.frz o (.dK kvs)))
    (hs : ∀ i k v σ H, kvs[i]? = some (k, v) → Pv i σ H → g (kV k) σ H fun σ2 H2 => tb { D with nx := Pv (i + 1), ct := Pv (i + 1), bk := D.nx } σ2 H2) (hd : ∀ σ H, Pv kvs.length σ H → D.nx σ H) : lp (Itk d o kvs) g tb D σ H := by
  refine ⟨fun i m σ H => m = kvs.length - i ∧ i ≤ kvs.length ∧ Pv i σ H, ⟨kvs.length, by simp, Nat.zero_le _, h0⟩, ?_⟩
  rintro i m σ H ⟨rfl, hi, p⟩
  have q := hl i σ H hi p
  by_cases hlt : i < kvs.length
  · refine .inr ⟨⟨q, hlt⟩, Pv (i + 1), fun σ' H' p' => ⟨kvs.length - (i + 1), by omega, rfl, hlt, p'⟩, fun x H' y => ?_⟩
    obtain ⟨e, k, v, e1, e2⟩ := y
    subst e
    subst e2
    exact hs i k v σ _ e1 p
  · have e : i = kvs.length := by omega
    subst e
    exact .inl ⟨⟨q, Nat.le_refl _⟩, hd σ H p⟩
/-- a walk over a locked dict -/
def iKeysF (td : TE) : TI := fun σ H R => td σ H fun x H1 => match x with
  | .ref d => (match H1 d with
    | some (.frz o (.dK kvs)) => R (Itk d o kvs) H1
    | _ => False)
  | _ => False
theorem pi_keysF {X : Cx} {tg e : Expr} {td : TE} (he : PE X e td) : PI X tg e (iKeysF td) := PI.imp (pi_keys (PE.up he)) fun σ H R q => ⟨_, q, fun x H1 h => by
  split at h
  · rename_i d
    split at h
    · rename_i o kvs e
      exact ⟨d, o, rfl, .inl ⟨kvs, e, h⟩⟩
    · exact h.elim
  · exact h.elim⟩
/-- a dict is locked meanwhile -/
def LkE (H : Hp) (d : Addr) (k : (Obj → Hp) → HO → Prop) : Prop := ∃ u, H d = some u ∧ Mut (some u) ∧ k (fun od => upd H d (.frz od u)) u
/-- a statement, then the rest, with a word between them -/
def tCutL (t u : TS) : TS := fun D σ H => ∃ Mid : L2.St → Hp → Prop, t { D with nx := Mid } σ H ∧ ∀ σ' H', Mid σ' H' → u D σ' H'
theorem pss_cutL {X : Cx} {st : Stmt} {rest : List Stmt} {t u : TS} (h1 : PS X st t) (h2 : PSs X rest u) : PSs X (st :: rest) (tCutL t u) := by
  refine ⟨fun pins s σ H D I h => ?_⟩
  obtain ⟨Mid, hm, hu⟩ := h
  refine wpAny_execs_cons (thn (h1.run pins s σ H { D with nx := Mid } I hm) fun f s1 q => ?_)
  cases f with
  | next =>
    obtain ⟨σ', H', I', q⟩ := q
    exact h2.run pins s1 σ' H' D I' (hu σ' H' q)
  | ret v => exact q
  | brk => exact q
  | cont => exact q
theorem snoc_at {H : Hp} {D : Addr} {cs : List Int} (z : Int) : upd H D (.lst (cs.map V.int ++ [V.int z])) D = some (.lst ((cs ++ [z]).map V.int)) := by
  rw [upd_same, List.map_append]
  rfl
end Lw
/-! Lw, part D: instances, methods, what never runs, more words. -/
namespace Lw
open PySem PySem.Spec PyProof.Rows L2
/-! ### names -/
theorem Str_lit (a b : String) : (Str.ofString a = Str.ofString b) = (a = b) := by
  refine propext ⟨fun h => ?_, fun h => by rw [h]⟩
  rw [Str.ofString_eq_toList, Str.ofString_eq_toList] at h
  have h1 : (a.toList.map Char.toNat).toArray = (b.toList.map Char.toNat).toArray := congrArg Str.cps h
  have h2 : a.toList.map Char.toNat = b.toList.map Char.toNat := by simpa using h1
  have h3 : a.toList = b.toList := by
    refine List.map_inj_right (f := Char.toNat) (fun x y e => ?_) |>.mp h2
    exact Char.ext (UInt32.toNat_inj.mp e)
  exact String.toList_inj.mp h3
theorem lk_eq {α : Type} {k : Str} {v : α} {r : List (Str × α)} : List.lookup k ((k, v) :: r) = some v := by simp [List.lookup]
theorem lk_ne {α : Type} {k k' : Str} {v : α} {r : List (Str × α)} (h : ¬ k = k') : List.lookup k ((k', v) :: r) = List.lookup k r := by
  rw [List.lookup_cons]
  have : (k == k') = false := by simpa using h
  rw [this]
theorem lk_nil {α : Type} {k : Str} : List.lookup k ([] : List (Str × α)) = none := rfl
theorem putF_nil {f : Str} {v : V} : putF f v [] = [(f, v)] := rfl
theorem putF_eq {f : Str} {v x : V} {r : List (Str × V)} : putF f v ((f, x) :: r) = (f, v) :: r := if_pos rfl
theorem putF_ne {f g : Str} {v x : V} {r : List (Str × V)} (h : ¬ g = f) : putF f v ((g, x) :: r) = (g, x) :: putF f v r := if_neg h
/-! ### what never runs -/
def tNoS : TS := fun _ _ _ => False
theorem ps_no {X : Cx} {st : Stmt} : PS X st tNoS := ⟨fun _ _ _ _ _ _ h => h.elim⟩
def tNoE : TE := fun _ _ _ => False
theorem pe_no {X : Cx} {e : Expr} : PE X e tNoE := ⟨fun _ _ _ _ _ _ h => h.elim⟩
/-! ### instances -/
def Ix (C : Addr) (H : Hp) (v : V) (k : Addr → Addr → List (Str × V) → Prop) : Prop := match v with
  | .ref x => (match H x with
    | some (.ins C' dx fs) => C' = C ∧ k x dx fs
    | _ => False)
  | _ => False
theorem Ix_ins {C : Addr} {H : Hp} {x dx : Addr} {fs : List (Str × V)} {k : Addr → Addr → List (Str × V) → Prop} (h : H x = some (.ins C dx fs)) : Ix C H (.ref x) k = k x dx fs := by
  unfold Ix
  simp only [h, true_and]
theorem Ix_upd {C : Addr} {H : Hp} {x dx : Addr} {fs : List (Str × V)} {k : Addr → Addr → List (Str × V) → Prop} : Ix C (upd H x (.ins C dx fs)) (.ref x) k = k x dx fs := Ix_ins upd_same
theorem Ix_ne {C : Addr} {H : Hp} {x y : Addr} {o : HO} {k : Addr → Addr → List (Str × V) → Prop} (h : y ≠ x) : Ix C (upd H x o) (.ref y) k = Ix C H (.ref y) k := by
  unfold Ix
  simp only [upd_ne h]
theorem Ix.out {C : Addr} {H : Hp} {v : V} {k : Addr → Addr → List (Str × V) → Prop} (h : Ix C H v k) : ∃ x dx fs, v = .ref x ∧ H x = some (.ins C dx fs) ∧ k x dx fs := by
  unfold Ix at h
  split at h
  · rename_i x
    split at h
    · rename_i C' dx fs e
      obtain ⟨rfl, h⟩ := h
      exact ⟨x, dx, fs, rfl, e, h⟩
    · exact h.elim
  · exact h.elim
def tFldF (C : Addr) (ta : TE) (f : Str) : TE := fun σ H Q => ta σ H fun x H1 => Ix C H1 x fun _ _ fs => Op (fs.lookup f) fun v => Q v H1
def sFldF (C : Addr) (ta tv : TE) (f : Str) : TS := fun D σ H => tv σ H fun y H1 => ta σ H1 fun x H2 => Ix C H2 x fun a dx fs => fs.length < 1000 ∧ D.nx σ (upd H2 a (.ins C dx (putF f y fs)))
def sFldAugF (C : Addr) (ta tv : TE) (rd : V → V → Hp → VK → Prop) (f : Str) : TS := fun D σ H => ta σ H fun x H1 => Ix C H1 x fun a _ fs => Op (fs.lookup f) fun v => tv σ H1 fun y H2 => rd v y H2 fun z H3 => Ix C H3 (.ref a) fun _ dx' fs' => fs'.length < 1000 ∧ D.nx σ (upd H3 a (.ins C dx' (putF f z fs')))
section
variable {X : Cx} {C : Addr} {f : Str} {ta tv : TE} {e o value : Expr} {pos pos' tpos apos p : Pos}
theorem pe_fldF (c : Cls X.K C) (n : NoAttr X.K C f) (he : PE X e ta) (hb : attributeBase e f X.env (eval e X.env) = eval e X.env := by rfl) : PE X (.Attribute e f pos) (tFldF C ta f) := PE.imp (pe_fld (PE.up he) hb) fun σ H Q q => ⟨_, q, fun x H1 h => by
  obtain ⟨a, dx, fs, rfl, e1, h⟩ := Ix.out h
  obtain ⟨v, e2, h⟩ := Op.out h
  exact ⟨a, C, dx, fs, v, rfl, e1, c, n, e2, h⟩⟩
theorem ps_fldF (c : Cls X.K C) (n : NoAttr X.K C f) (ha : PE X o ta) (hv : PE X value tv) (hs : swapsWith value (some (.Attribute o f pos')) pos.line X.env = pure false := by rfl) : PS X (.Assign [.Attribute o f pos'] value pos) (sFldF C ta tv f) :=
  PS.imp (ps_fld (PE.up ha) (PE.up hv) hs) fun D σ H q => ⟨_, q, fun y H1 h => ⟨_, h, fun x H2 h => by
    obtain ⟨a, dx, fs, rfl, e1, h1, h⟩ := Ix.out h
    exact ⟨a, C, dx, fs, rfl, e1, c, n, h1, h⟩⟩⟩
theorem ps_fldaugF {op : Operator} {rd : V → V → Hp → VK → Prop} (c : Cls X.K C) (n : NoAttr X.K C f) (hop : InOp X op rd) (mono : ∀ x y H Q Q', (∀ v H', Q v H' → Q' v H') → rd x y H Q → rd x y H Q') (ha : PE X o ta) (hv : PE X value tv) : PS X (.AugAssign (.Attribute o f tpos) op value pos) (sFldAugF C ta tv rd f) :=
  PS.imp (ps_fldaug (PE.up ha) (PE.up hv) hop) fun D σ H q => ⟨_, q, fun x H1 h => by
    obtain ⟨a, dx, fs, rfl, e1, h⟩ := Ix.out h
    obtain ⟨v, e2, h⟩ := Op.out h
    refine ⟨a, C, dx, fs, v, rfl, e1, c, n, e2, _, h, fun y H2 h => mono _ _ _ _ _ (fun z H3 h => ?_) h⟩
    obtain ⟨a', dx', fs', e3, e4, h1, h⟩ := Ix.out h
    cases e3
    exact ⟨dx', fs', e4, h1, h⟩⟩
/-- a class's method -/
def KnM (P : Program) (w : World) (K : PySem.W.Frag) (mg : Str → Option Value) (base : Heap) (C : Addr) (m : Str) (ps : List Str) (k : Nat) (sp : Sp) : Prop :=
  ∃ f fd, Meth K C m f ∧ FnOk P w K mg base CX0 k f fd ps sp ∧ Binds K fd ps []
def tMethF (C : Addr) (m : Str) (sp : Sp) (ta : TE) (t : TA) : TE := fun σ H Q => ta σ H fun x H1 => Ix C H1 x fun _ _ fs => fs.lookup m = none ∧ t σ H1 fun vs H2 => sp (x :: vs) H2 Q E0
theorem pe_km {m : Str} {ps : List Str} {k : Nat} {sp : Sp} {e1 : Expr} {es : List Expr} {t : TA} {pl : Sem Bool} (g : KnM X.prog X.w X.K X.mg X.base C m ps k sp) (c : Cls X.K C) (hr : Room k X.A) (he : PE X o ta) (ha : PA X (e1 :: es) t)
    (hst : starEach (e1 :: es) X.env = (false, eval e1 X.env) :: starEach es X.env := by rfl) (hpl : (backTo pos (starEach es X.env)).any (·.1) = false := by rfl)
    (ht : eval (.Call (.Attribute o m apos) (e1 :: es) [] pos) X.env = (do let ov ← eval o X.env; standAt apos.atName; let (f, first) ← holding [ov] (getMethod ov m pl); callWith pos f first (backTo pos (starEach (e1 :: es) X.env)) (backToKw pos (keywordEach [] X.env))) := by rfl) :
    PE X (.Call (.Attribute o m apos) (e1 :: es) [] pos) (tMethF C m sp ta t) := by
  obtain ⟨f, fd, hm, G, b⟩ := g
  refine PE.imp (pe_meth (PE.up he) c hm G hr b .nil pass0 ha hst hpl ht) fun σ H Q q => ⟨_, q, fun x H1 h => ?_⟩
  obtain ⟨a, dx, fs, rfl, e2, h1, h⟩ := Ix.out h
  refine ⟨a, dx, fs, rfl, e2, h1, ?_⟩
  simpa only [List.append_nil] using h
theorem pe_km0 {m : Str} {ps : List Str} {k : Nat} {sp : Sp} {pl : Sem Bool} (g : KnM X.prog X.w X.K X.mg X.base C m ps k sp) (c : Cls X.K C) (hr : Room k X.A) (he : PE X o ta)
    (ht : eval (.Call (.Attribute o m apos) [] [] pos) X.env = (do let ov ← eval o X.env; standAt apos.atName; let (f, first) ← holding [ov] (getMethod ov m pl); callWith pos f first (backTo pos (starEach [] X.env)) (backToKw pos (keywordEach [] X.env))) := by rfl) :
    PE X (.Call (.Attribute o m apos) [] [] pos) (tMethF C m sp ta tNil) := by
  obtain ⟨f, fd, hm, G, b⟩ := g
  refine PE.imp (pe_meth0 (PE.up he) c hm G hr b .nil pass0 ht) fun σ H Q q => ⟨_, q, fun x H1 h => ?_⟩
  obtain ⟨a, dx, fs, rfl, e2, h1, h⟩ := Ix.out h
  exact ⟨a, dx, fs, rfl, e2, h1, h⟩
/-- len of an instance whose class has a __len__ of its own -/
def rLenI (C : Addr) (sp : Sp) : List V → Hp → VK → Prop := fun xs H Q => match xs with
  | [x] => Ix C H x fun _ _ _ => sp [x] H (fun v H1 => Nt v fun n => 0 ≤ n ∧ n < 2 ^ 63 ∧ Q (.int n) H1) E0
  | _ => False
theorem call_lenI {ps : List Str} {k : Nat} {sp : Sp} (g : KnM X.prog X.w X.K X.mg X.base C "__len__" ps k sp) (hr : Room (k + 1) X.A) : CallR X (.builtin "len") (rLenI C sp) := by
  intro pins s σ H xs us Q I r h
  obtain ⟨f, fd, hm, G, b⟩ := g
  unfold rLenI at h
  split at h
  · rename_i x
    obtain ⟨a, dx, fs, rfl, e, h⟩ := Ix.out h
    rw [Vals.ref1 r]
    obtain ⟨mA, O, _⟩ := ins_get I.hok e
    obtain ⟨od, J, _⟩ := O.look
    obtain ⟨mm, F⟩ := I.fr
    refine PySem.W.len_K F I.ok.mod.kin J hm.at_ hm.fn (wpAny_call (codeAny_mono (G.run X.A.in1 X.stack s H ⟨[.ref a], []⟩ [.ref a] [.ref a] _ E0 hr.in1 I.env0.in1 ?_ (.cons rfl .nil) h) fun q s' hq => ?_))
    · have hl : ([Value.ref a] ++ ([] : List Value)).length = ps.length := (G.len _ _ _ _ h) ▸ rfl
      have := b s [Value.ref a] I.kIn hl
      simpa only [List.append_nil] using this
    · cases q with
      | error e => exact pass0 pins σ H s e s' I hq
      | ok fl =>
        cases fl with
        | ret u =>
          obtain ⟨v, H', I', rv, hv⟩ := I.after hq
          obtain ⟨n, rfl, h0, h1, hv⟩ := Nt.out hv
          obtain ⟨t, rfl⟩ := rv
          exact ⟨⟨h0, h1⟩, .int n, H', I'.tok _, ⟨_, rfl⟩, hv⟩
        | next => exact hq.elim
        | brk => exact hq.elim
        | cont => exact hq.elim
  · exact h.elim
/-! ### more words -/
def rListK : List V → Hp → VK → Prop := fun vs H Q => match vs with
  | [v] => Dr H v fun kvs => Nw H (.lst (kvs.map fun kv => kV kv.1)) fun p H' => Q (.ref p) H'
  | _ => False
theorem call_listK (hc : X.calm = true) : CallR X (.type "list") rListK := CallR.imp (call_listD hc) fun vs H Q h => by
  unfold rListK at h
  split at h
  · obtain ⟨p, kvs, rfl, e, h⟩ := Dr.out h
    exact ⟨p, kvs, rfl, e, h⟩
  · exact h.elim
def rDictD : List V → Hp → VK → Prop := fun vs H Q => match vs with
  | [v] => Dr H v fun kvs => Nw H (.dK kvs) fun p H' => Q (.ref p) H'
  | _ => False
theorem call_dictF : CallR X (.type "dict") rDictD := CallR.imp call_dictD fun vs H Q h => by
  unfold rDictD at h
  split at h
  · obtain ⟨p, kvs, rfl, e, h⟩ := Dr.out h
    exact ⟨p, kvs, rfl, e, h⟩
  · exact h.elim
def rRevF : V → List V → Hp → VK → Prop := fun x vs H Q => match vs with
  | [] => Ls H x fun l xs => Q .non (upd H l (.lst xs.reverse))
  | _ => False
/-- len of a dict that is tracked -/
def rLenD : List V → Hp → VK → Prop := fun vs H Q => match vs with
  | [v] => Dk H v fun _ kvs => Q (.int kvs.length) H
  | _ => False
theorem call_lenDF : CallR X (.builtin "len") rLenD := CallR.imp call_lenD fun vs H Q h => by
  unfold rLenD at h
  split at h
  · obtain ⟨p, kvs, rfl, e, h⟩ := Dk.out h
    exact ⟨p, kvs, rfl, e, h⟩
  · exact h.elim
def rAllF : List V → Hp → VK → Prop := fun vs H Q => match vs with
  | [v] => Ls H v fun _ xs => ∃ bs : List Bool, xs = bs.map V.bl ∧ Q (.bl (bs.all id)) H
  | _ => False
theorem cr_allF (hc : X.calm = true) : CallR X (.builtin "all") rAllF := CallR.imp (cr_all hc) fun vs H Q h => by
  unfold rAllF at h
  split at h
  · obtain ⟨p, xs, rfl, e, bs, rfl, h⟩ := Ls.out h
    exact ⟨p, bs, rfl, SqL.of e, h⟩
  · exact h.elim
def rSortF : List V → Hp → VK → Prop := fun vs H Q => match vs with
  | [v] => Ls H v fun _ xs => ∃ ns : List Int, xs = ns.map V.int ∧ ∀ ns' : List Int, ns'.Perm ns → ns'.Pairwise (· ≤ ·) → Nw H (.lst (ns'.map V.int)) fun p H' => Q (.ref p) H'
  | _ => False
theorem cr_sortF : CallR X (.builtin "sorted") rSortF := CallR.imp cr_sortedI fun vs H Q h => by
  unfold rSortF at h
  split at h
  · obtain ⟨p, xs, rfl, e, ns, rfl, h⟩ := Ls.out h
    exact ⟨p, ns, rfl, SqL.of e, fun ns' q h1 h2 h3 => h ns' h1 h2 q h3⟩
  · exact h.elim
/-- sorted(d), its keys ints, any number of them -/
def rSortK : List V → Hp → VK → Prop := fun vs H Q => match vs with
  | [v] => Dr H v fun kvs => ∃ ks : List Int, kvs.map (·.1) = ks.map Sum.inl ∧ ∀ ns' : List Int, ns'.Perm ks → ns'.Pairwise (· ≤ ·) → Nw H (.lst (ns'.map V.int)) fun p H' => Q (.ref p) H'
  | _ => False
theorem cr_sortK (hc : X.calm = true) : CallR X (.builtin "sorted") rSortK := by
  intro pins s σ H xs us Q I r q
  unfold rSortK at q
  split at q
  · obtain ⟨a, kvs, rfl, hd, ks, hks, q⟩ := Dr.out q
    obtain ⟨u, rfl, rx⟩ := vals1 r; cases rx
    obtain ⟨z, lo, vs, rel, dd⟩ := dk_rd I.hok hd; obtain ⟨ep, hat⟩ := dd.dictAt
    have hkeys : vs.map (·.1) = ks.map Sum.inl := rel.keys ▸ hks
    have hl : vs.length = ks.length := by simpa using congrArg List.length hkeys
    have hz : vs.length ≤ sizeLine := rel.length ▸ z
    refine Calls.call_function_entry kind_sorted plain_sorted entry_sorted (args_sorted1 _) ?_
    unfold Builtin.«sorted»
    refine wpAny_bind (m := checkCount "sorted" 1 1 _) <| wpAny_pure <| wpAny_bind <| PySem.W.kdu_collect (A := X.A.in1) (PySem.W.kdl_dict (knd := mixKind X.prog X.w) (kvs := vs) (ep := ep) lo) (I.ok.hd hc) hat hz fun h' tk acc hk hacc => ?_
    have hal : acc.toList.length = ks.length := by simpa [hl] using hacc.1
    have hS : IntsAre acc.toList ks := ints_each hal fun j v e => by
      obtain ⟨k, x, e1, e2⟩ := hacc.2 j v (by simpa using e)
      have e3 : (ks.map (Sum.inl : Int → Key))[j]? = some k := by rw [← hkeys, List.getElem?_map, e1]; rfl
      rw [List.getElem?_map] at e3
      obtain ⟨y, e4, rfl⟩ := Option.map_eq_some_iff.mp e3
      rcases keyIs_shape (show keyIs (Sum.inl y) v = true from e2) with ⟨i, t, ek, ev⟩ | ⟨w1, t, ek, ev⟩
      · cases ek; exact ⟨y, t, e4, ev⟩
      · cases ek
    have J : Inv X pins σ H { s with heap := h', toks := tk } := I.kept hk
    refine wpAny_bind (wpAny_newList ?_ (by rw [hal, ← hl]; exact hz))
    have hL : (h'.push (seqObj "list" acc.toList.toArray 0)).get? h'.objs.size = some (seqObj "list" acc.toList.toArray 0) := Heap.get?_push_size h' rfl
    show wpAny _ _ _ _ _ ({ s with heap := h'.push (seqObj "list" acc.toList.toArray 0), toks := tk } : Shared)
    refine wpAny_bind (wpAny_holding (wpAny_call_entry slot_list_sort ⟨_, hL, rfl⟩ entry_list_sort (SrtO.list_sort_ord (s := ({ s with heap := h'.push (seqObj "list" acc.toList.toArray 0), toks := tk } : Shared)) SrtO.swo_int hL (by rw [hal, ← hl]; exact hz) (fun h2 => SrtO.ints_sortable hS h2) fun out h1 h2 => ⟨_, rfl, ?_⟩) (args_list_sort _)))
    obtain ⟨k1, k2, k3⟩ := SrtO.ints_out hS h1 h2
    obtain ⟨e', he'⟩ := sortedHeap_at (vs := acc.toList) (out := out.toArray) hL
    have hlen : ((out.map SrtO.iv).map V.int).length ≤ sizeLine := by rw [List.length_map, k2.length_eq, ← hl]; exact hz
    refine wpAny_pure ⟨_, rfl, .ref h'.objs.size, upd H h'.objs.size (.lst ((out.map SrtO.iv).map V.int)), J.laid (t' := tk) (fun b u e => ?_) (Nat.le_refl _) (show ObjOk X.prog X.w _ _ _ (.lst ((out.map SrtO.iv).map V.int)) from ⟨hlen, out, e', vals_of_ints k1, he'⟩), rfl, q _ k2 k3 _ (J.hok.fresh (Nat.le_refl _))⟩
    have hb := Heap.lt_size e
    rw [sortedHeap_old (Nat.ne_of_lt hb) (by rw [size_push']; exact Nat.lt_succ_of_lt hb)]; exact Heap.get?_push_of_some _ e
  · exact q.elim
end
theorem lcp_tup {K : PySem.W.Frag} {a : Addr} {xs : List V} {g : TG} {tt : TT} {te : TE} {vs : List Nat} {σ : L2.St} {H1 : Hp} {Q : VK} (Pv : Addr → Nat → Hp → Prop) (h0 : ∀ D, H1 D = none → Pv D 0 (upd H1 D (.lst [])))
    (hl : ∀ D i H, i ≤ xs.length → Pv D i H → H a = some (.tup xs))
    (hs : ∀ D i x H, H1 D = none → xs[i]? = some x → Pv D i H → g x (wipe σ vs) H fun σ2 H2 => wipe σ2 vs = wipe σ vs ∧ tt σ2 H2 fun b H3 =>
      if b = true then te σ2 H3 fun y H4 => ∃ acc, H4 D = some (.lst acc) ∧ acc.length < sizeLine ∧ Pv D (i + 1) (upd H4 D (.lst (acc ++ [y]))) else Pv D (i + 1) H3)
    (hd : ∀ D H, H1 D = none → Pv D xs.length H → Q (.ref D) H) : lcp (Itt K a) g tt te vs Q σ H1 := fun D hD => lc_tup (Pv D) (h0 D hD) (fun i H hi p => .inl (.inl (hl D i H hi p))) (fun i x H hx p => hs D i x H hD hx p) (fun H p => hd D H hD p)
end Lw
/-! Lw, part E: displays of dicts. -/
namespace Lw
open PySem PySem.Spec PyProof.Rows L2
abbrev upT (t : TE) : TE := fun σ H Q => ∃ Q0 : VK, t σ H Q0 ∧ ∀ x H1, Q0 x H1 → Q x H1
def Kvs : List (V × V) → (List (Key × V) → Prop) → Prop
  | [], k => k []
  | (x, y) :: r, k => Ky x fun kx => Kvs r fun kvs => k ((kx, y) :: kvs)
theorem Kvs.out : ∀ {ps : List (V × V)} {k : List (Key × V) → Prop}, Kvs ps k → ∃ kvs : List (Key × V), ps = kvs.map (fun kv => (kV kv.1, kv.2)) ∧ k kvs
  | [], k, h => ⟨[], rfl, h⟩
  | (x, y) :: r, k, h => by
    obtain ⟨kx, ek, h⟩ := Ky.out h
    obtain ⟨kvs, e, h⟩ := Kvs.out h
    exact ⟨(kx, y) :: kvs, by rw [e, ek]; rfl, h⟩
def PPu (X : Cx) (pos : Pos) (keys : List (Option Expr)) (values : List Expr) (trs : List (TE × TE)) : Prop := PPs X pos keys values (trs.map fun q => (upT q.1, upT q.2))
def tDispF (trs : List (TE × TE)) : TE := fun σ H Q => Nw H (.dK []) fun p H1 => tPairs trs σ H1 fun ps H2 => H2 p = some (.dK []) ∧ Kvs ps fun kvs => kvs.length ≤ 15 ∧ Q (.ref p) (upd H2 p (.dK (mergeK [] kvs)))
theorem pairs_up {σ : L2.St} : ∀ {trs : List (TE × TE)} {H : Hp} {Q Q' : List (V × V) → Hp → Prop}, (∀ ps H', Q ps H' → Q' ps H') → tPairs trs σ H Q → tPairs (trs.map fun q => (upT q.1, upT q.2)) σ H Q'
  | [], H, Q, Q', i, h => i _ _ h
  | (tk, tv) :: r, H, Q, Q', i, h => ⟨_, h, fun x H1 h => ⟨_, h, fun y H2 h => pairs_up (fun ps H3 h => i _ _ h) h⟩⟩
section
variable {X : Cx} {pos : Pos}
theorem ppu_nil : PPu X pos [] [] [] := pps_nil
theorem ppu_cons {k v : Expr} {ks : List (Option Expr)} {vs : List Expr} {tk tv : TE} {trs : List (TE × TE)} (hk : PE X k tk) (hv : PE X v tv) (hr : PPu X pos ks vs trs) : PPu X pos (some k :: ks) (v :: vs) ((tk, tv) :: trs) := pps_cons (PE.up hk) (PE.up hv) hr
theorem pe_dispF {keys : List (Option Expr)} {values : List Expr} {trs : List (TE × TE)} (h : PPu X pos keys values trs) (hall : keys.all (·.isSome) = true := by rfl) (hl : keys.length = values.length := by rfl) (h0 : keys ≠ [] := by exact fun z => nomatch z) (h15 : keys.length ≤ 15 := by decide) :
    PE X (.Dict keys values pos) (tDispF trs) := PE.imp (pe_disp h hall hl h0 h15) fun σ H Q q p hp => pairs_up (fun ps H2 h => by
      obtain ⟨e, h⟩ := h
      obtain ⟨kvs, e2, l, h⟩ := Kvs.out h
      exact ⟨e, kvs, e2, l, h⟩) (q p hp)
end
end Lw
/-! Lw, part X: own exception classes with an __init__, over any built-in error. -/
namespace Lw
open PySem PySem.Spec PyProof.Rows L2
/-! ### the classes -/
/-- own classes, then the built-in one's own row -/
def endsIn (tail : List Value) : List Value → Bool
  | .ref _ :: r => endsIn tail r
  | l => decide (l = tail)
theorem endsIn_cases {tail : List Value} : ∀ {l : List Value}, endsIn tail l = true → (∃ c r, l = .ref c :: r ∧ endsIn tail r = true) ∨ l = tail
  | [], e => .inr (of_decide_eq_true e)
  | v :: r, e => by
    cases v with
    | ref c => exact .inl ⟨c, r, rfl, e⟩
    | _ => exact .inr (of_decide_eq_true e)
/-- what is known of a built-in error -/
structure ErrB (B newId initId : String) (tail : List Value) : Prop where
  base : ExcBaseFacts B newId initId tail
  store : StoreFacts B tail "object.__setattr__" "object"
  ne : tail ≠ []
theorem endsIn_pass {B newId initId : String} {tail : List Value} (b : ErrB B newId initId tail) (self : Value) : ∀ {l : List Value}, endsIn tail l = true → refuseLoop self "__setattr__" l = pure ()
  | [], e => by
    rcases endsIn_cases e with ⟨_, _, q, _⟩ | q
    · cases q
    · exact absurd q.symm b.ne
  | v :: r, e => by
    rcases endsIn_cases e with ⟨c, r', q, h⟩ | q
    · obtain ⟨rfl, rfl⟩ := List.cons.inj q
      rw [refuseLoop_ref]
      exact endsIn_pass b self h
    · rw [q]
      exact b.store.passes self
theorem endsIn_has {tail : List Value} (X : String) : ∀ {l : List Value}, endsIn tail l = true → tail ≠ [] → l.contains (.type X) = tail.contains (.type X)
  | [], e, n => by
    rcases endsIn_cases e with ⟨_, _, q, _⟩ | q
    · cases q
    · exact absurd q.symm n
  | v :: r, e, n => by
    rcases endsIn_cases e with ⟨c, r', q, h⟩ | q
    · obtain ⟨rfl, rfl⟩ := List.cons.inj q
      rw [List.contains_cons, endsIn_has X h n]
      rfl
    · rw [q]
/-- an own class over it, with what its instances' making asks -/
structure ErrC (K : PySem.W.Frag) (C : Addr) (newId : String) (tail : List Value) : Prop where
  cls : ∃ nm q N bs bm sn sub ab col dd k0 k1 k2 k3 k5, K.lookup C = some (excClassObj nm q C N bs bm true sn sub ab col dd k0 k1 k2 k3 k5 newId) ∧ endsIn tail bm = true
  sa : PySem.W.findIn K (.ref C) "__setattr__" = some (some (.builtin "object.__setattr__"))
  exC : PySem.W.subIn K (.ref C) (.type "BaseException") = some true
  tyC : PySem.W.typeIn K (.ref C) = some (.type "type")
  kC : PySem.W.keepIn K (.ref C) = true
section
open PySem.W PySem.HandSPX Builtin Builtin.ObjectAttr
variable {prog : Program} {w : World} {A : Around} {E : Value → Shared → Prop} {R : Result → Shared → Prop} {hp : Heap} {g : Array GenState} {d : Drawn} {t : Nat} {os : OsState}
/-- self.f = v, up to the store into the instance's own dict -/
theorem err_toDict {K : PySem.W.Frag} {name : Str} {tk : Tok} {v : Value} {x C : Addr} {od : Option Addr} {oD : Option Obj} {fv : Array Value} {cd : ClassData} {B newId initId : String} {tail : List Value}
    (b : ErrB B newId initId tail) (X : K.In hp) (I : PySem.W.InstAt hp x { cls := .ref C, dict := od, data := .fields fv } C oD)
    (hcd : clsIn K C = some cd) (hm : ∃ bm, cd.mro = .ref C :: bm ∧ endsIn tail bm = true) (ha : findIn K (.ref C) name = some none)
    (hq : wpAny (model prog w) A.in1 (storeInOwnDict (.ref x) (.ref C) (.str name tk) name v false) (fun fin s' => match fin with | .done f => R (.ok f) s' | .again c' => c'.quiet = true ∧ codeAny (model prog w) A c' R s') (fun e s' => R (.error e) s') ⟨hp, g, d, t, os⟩) :
    codeAny (model prog w) A (.call (.builtin "object.__setattr__") ⟨[.ref x, .str name tk, v], []⟩) R ⟨hp, g, d, t, os⟩ := by
  have SF := F.store_object
  obtain ⟨bm, em, hbm⟩ := hm
  have ne : cd.mro.isEmpty = false := by rw [em]; rfl
  have hob : cd.mro.contains (.type "object") = true := by
    rw [em, List.contains_cons, endsIn_has "object" hbm b.ne, b.store.hasOwner]
    exact Bool.or_true _
  have sub : Looks (model prog w) hp (isInstance (.ref x) (.type "object")) true := I.type.andThen (looks_mroIn X (by unfold mroIn; rw [hcd, Option.bind_some, if_neg (by rw [ne]; decide), hob]))
  refine codeAny_call_builtin SF.slot.plain SF.entry (@check_slot (model prog w) _ _ ⟨hp, g, d, t, os⟩ "object.__setattr__" "object" "__setattr__" (.ref x) [.str name tk, v] [] _ SF.kind SF.split sub (SF.args (.ref x) (.str name tk) v) ?_)
  have hmr : Looks (model prog w) hp (mroOf (.ref C)) cd.mro := (looks_clsIn X hcd).andThen .now
  have L3 : Looks (model prog w) hp (storeTaker? none) none := .now
  rw [osa_eq, refuse_eq]
  refine wpAny_bind (wpAny_bind (I.type.at (wpAny_bind (hmr.at ?_))))
  have pass : refuseLoop (.ref x) "__setattr__" cd.mro = pure () := by
    rw [em, refuseLoop_ref]
    exact endsIn_pass b _ hbm
  rw [pass]
  refine wpAny_pure (wpAny_bind (I.type.at (wpAny_bind ((looks_findIn X ha).at (wpAny_bind (L3.at ?_))))))
  show wpAny _ _ (storeInOwnDict (.ref x) (.ref C) (.str name tk) name v false) _ _ _
  exact hq
theorem err_new {K : PySem.W.Frag} {name : Str} {tk : Tok} {v : Value} {x C : Addr} {fv : Array Value} {cd : ClassData} {B newId initId : String} {tail : List Value}
    (b : ErrB B newId initId tail) (X : K.In hp) (hx : hp.get? x = some { cls := .ref C, data := .fields fv }) (hcd : clsIn K C = some cd) (hm : ∃ bm, cd.mro = .ref C :: bm ∧ endsIn tail bm = true) (hh : cd.hasDict = true) (ha : findIn K (.ref C) name = some none)
    (hq : ∀ h' tk' dx, (∀ b o, b ≠ x → hp.get? b = some o → h'.get? b = some o) → hp.objs.size ≤ dx → dx ≠ x → h'.get? x = some { cls := .ref C, dict := some dx, data := .fields fv } →
      h'.Ns1 dx (fun y => if y = name then some v else none) → R (.ok (.ret .none)) ⟨h', g, d, tk', os⟩) :
    codeAny (model prog w) A (.call (.builtin "object.__setattr__") ⟨[.ref x, .str name tk, v], []⟩) R ⟨hp, g, d, t, os⟩ := by
  have hxs : x ≠ hp.objs.size := Nat.ne_of_lt (Heap.lt_size hx)
  have hcls : Looks (model prog w) hp (classData C) cd := looks_clsIn X hcd
  refine err_toDict (oD := none) b X ⟨hx, rfl, rfl, trivial⟩ hcd hm ha ?_
  obtain ⟨nm, bs, mro, ns, qn, hd, sn, sb, ab, col, del⟩ := cd
  dsimp only at hh
  subst hh
  unfold storeInOwnDict ownDictForStores
  repeat (first | with_reducible refine store_in_new ?_ ?_ | with_reducible refine wpAny_loadPart_at hx ?_ | with_reducible refine hcls.at ?_ | wp_step)
  · exact ⟨_, #[], _, (Heap.get?_update_ne _ _ _ _ hxs.symm).trans (Heap.get?_push_at rfl rfl), rfl, fun e he => absurd he (by simp), fun _ => rfl⟩
  · intro h' tk' hn' hs
    have hx₁ : (hp.push { cls := .type "dict", data := .dict #[] }).get? x = some { cls := .ref C, data := .fields fv } := Heap.get?_push_of_some _ hx
    refine hq h' tk' hp.objs.size (fun b o hb ho => ?_) (Nat.le_refl _) hxs.symm ?_ hn'
    · exact (hs.2 b (Nat.ne_of_lt (Heap.lt_size ho))).trans ((Heap.get?_update_ne _ _ _ _ hb).trans (Heap.get?_push_of_some _ ho))
    · exact (hs.2 x hxs).trans (Heap.get?_update_self _ hx₁ rfl)
theorem err_old {K : PySem.W.Frag} {name : Str} {tk : Tok} {v : Value} {x C dx : Addr} {fv : Array Value} {cd : ClassData} {m0 : Str → Option Value} {nl : List Str} {B newId initId : String} {tail : List Value}
    (b : ErrB B newId initId tail) (X : K.In hp) (hx : hp.get? x = some { cls := .ref C, dict := some dx, data := .fields fv }) (hns : hp.Ns1 dx m0) (hw : Within m0 nl) (hz : nl.length ≤ 1000) (hcd : clsIn K C = some cd)
    (hm : ∃ bm, cd.mro = .ref C :: bm ∧ endsIn tail bm = true) (hh : cd.hasDict = true) (ha : findIn K (.ref C) name = some none)
    (hq : ∀ h' tk', (∀ b o, b ≠ dx → hp.get? b = some o → h'.get? b = some o) → h'.Ns1 dx (fun y => if y = name then some v else m0 y) → R (.ok (.ret .none)) ⟨h', g, d, tk', os⟩) :
    codeAny (model prog w) A (.call (.builtin "object.__setattr__") ⟨[.ref x, .str name tk, v], []⟩) R ⟨hp, g, d, t, os⟩ := by
  obtain ⟨oD, esD, epD, hoD, hdD, _⟩ := hns.count hw
  have hcls : Looks (model prog w) hp (classData C) cd := looks_clsIn X hcd
  refine err_toDict (oD := some oD) b X ⟨hx, rfl, rfl, hoD⟩ hcd hm ha ?_
  obtain ⟨nm, bs, mro, ns, qn, hd, sn, sb, ab, col, del⟩ := cd
  dsimp only at hh
  subst hh
  unfold storeInOwnDict ownDictForStores
  repeat (first | with_reducible refine PySem.OEX.store_in_old hns hw hz ?_ | with_reducible refine wpAny_loadPart_at hx ?_ | with_reducible refine hcls.at ?_ | wp_step)
  intro h' tk' hn' hs
  exact hq h' tk' (fun b o hb ho => (hs.2 b hb).trans ho) hn'
end
/-! ### in the making -/
section
variable {X : Cx} {pins : List (Addr × Obj)} {σ : L2.St} {H : Hp} {s : Shared} {a C dx : Addr} {f : Str} {y : V} {u : Value} {fs : List (Str × V)} {Q : Unit → Shared → Prop} {E : Value → Shared → Prop} {A : Around} {B newId initId : String} {tail : List Value}
theorem errc_cd (T : ErrC X.K C newId tail) : ∃ cd, PySem.W.clsIn X.K C = some cd ∧ (∃ bm, cd.mro = .ref C :: bm ∧ endsIn tail bm = true) ∧ cd.hasDict = true := by
  obtain ⟨nm, q, N, bs, bm, sn, sub, ab, col, dd, k0, k1, k2, k3, k5, hC, hbm⟩ := T.cls
  refine ⟨{ name := nm, bases := bs, mro := .ref C :: bm, ns := N, qualname := q, hasDict := true, slotNames := sn, subclasses := sub, abstract := ab, collection := col, hasDel := false }, ?_, ⟨bm, rfl, hbm⟩, rfl⟩
  unfold PySem.W.clsIn
  rw [hC] <;> rfl
/-- self.f = y, the first one -/
theorem errst_new (b : ErrB B newId initId tail) (T : ErrC X.K C newId tail) (I : Inv X pins σ H s) (e : H a = some (exo a C none)) (hno : PySem.W.findIn X.K (.ref C) f = some none) (ry : RelV y u)
    (h : ∀ dx s', H dx = none → dx ≠ a → Inv X pins σ (upd (upd H dx (exd dx [(f, y)])) a (exo a C (some dx))) s' → Q () s') : wpAny (model X.prog X.w) A (setAttr (.ref a) f u) Q E s := by
  obtain ⟨cd, hcl, hm, hh⟩ := errc_cd T
  obtain ⟨t1, ho⟩ := exo_at I.hok e
  obtain ⟨hp, g, d, t, os⟩ := s
  refine PySem.W.set_plain I.kIn (ox := { cls := .ref C, dict := none, data := .fields #[.ref t1, .none, .none, .none, .bool false, .none] }) (od := none) ⟨ho, rfl, rfl, trivial⟩ T.sa ?_
  refine err_new b I.kIn ho hcl hm hh hno (fun h' tk' dx k dn dne hx hn => ?_)
  have hnd : H dx = none := I.hok.fresh dn
  have nd : ∀ {c : Addr} {o : Obj}, hp.get? c = some o → c ≠ dx := fun {c o} q => Nat.ne_of_lt (Nat.lt_of_lt_of_le (Heap.lt_size q) dn)
  have na : ∀ {c : Addr}, H c = none → c ≠ a := fun {c} n z => by
    rw [z, e] at n
    cases n
  have Un1 : Un X.fs [] H (upd (upd H dx (exd dx [(f, y)])) a (exo a C (some dx))) hp h' := {
    keep := fun c o q n _ _ => k c o (na n) q
    slot := fun c o q n _ _ => ⟨o.slots, k c o (na n) q⟩
    free := fun c o q n _ => by rw [upd_ne (na n), upd_ne (nd q)]; exact n
    there := fun c o q _ => by
      by_cases hb : c = a
      · exact ⟨_, by rw [hb]; exact hx⟩
      · exact ⟨o, k c o hb q⟩
    tups := fun c xs q => by rw [upd_ne (at_ne e q exo_tup), upd_ne (ne_of_none q hnd)]; exact q
    frzs := fun c o v q => by rw [upd_ne (at_ne e q exo_frz), upd_ne (ne_of_none q hnd)]; exact q
    tbls := fun c ps q => ⟨#[], by rw [upd_ne (at_ne e q exo_tbl), upd_ne (ne_of_none q hnd), q]; simp⟩ }
  refine h dx _ hnd dne (I.un (t' := tk') Un1 fun c o q => ?_)
  by_cases hb : c = a
  · subst hb
    rw [upd_same] at q
    cases q
    exact exo_ok hx
  · rw [upd_ne hb] at q
    by_cases hd : c = dx
    · subst hd
      rw [upd_same] at q
      cases q
      exact exd_ok hn (relO_put (fs := []) ry fun g => True.intro)
    · rw [upd_ne hd] at q
      exact (I.hok c o q).stay (fun c' v hc z => k c' v (by
          rcases hc with hc | hc
          · rw [hc]
            exact hb
          · exact at_ne e hc exo_own) z)
        (fun c' hc => by rw [upd_ne (at_ne e hc exo_own), upd_ne (ne_of_none hc hnd)]; exact hc) (fun c' xs hc => by rw [upd_ne (at_ne e hc exo_tup), upd_ne (ne_of_none hc hnd)]; exact hc)
/-- self.f = y, a further one -/
theorem errst_old (b : ErrB B newId initId tail) (T : ErrC X.K C newId tail) (I : Inv X pins σ H s) (e : H a = some (exo a C (some dx))) (ed : H dx = some (exd dx fs)) (hl : fs.length ≤ 900) (hno : PySem.W.findIn X.K (.ref C) f = some none) (ry : RelV y u)
    (h : ∀ s', Inv X pins σ (upd H dx (exd dx ((f, y) :: fs))) s' → Q () s') : wpAny (model X.prog X.w) A (setAttr (.ref a) f u) Q E s := by
  obtain ⟨cd, hcl, hm, hh⟩ := errc_cd T
  obtain ⟨t1, ho⟩ := exo_at I.hok e
  obtain ⟨mA, hns, rel⟩ := exd_at I.hok ed
  have hw := within_of rel
  obtain ⟨hp, g, d, t, os⟩ := s
  obtain ⟨oD, _, _, hoD, _, _⟩ := hns.count hw
  refine PySem.W.set_plain I.kIn (ox := { cls := .ref C, dict := some dx, data := .fields #[.ref t1, .none, .none, .none, .bool false, .none] }) (od := some oD) ⟨ho, rfl, rfl, hoD⟩ T.sa ?_
  refine err_old b I.kIn ho hns hw (by rw [List.length_map]; omega) hcl hm hh hno (fun h' tk' k hn => ?_)
  have hd : ∃ o, h'.get? dx = some o := by
    obtain ⟨o, _, _, e', _⟩ := hn
    exact ⟨o, e'⟩
  exact h _ (I.write (t' := tk') (x := dx) (e := dx) (o := exd dx ((f, y) :: fs)) (by rw [ed]; exact True.intro) (.inl rfl) k hd (exd_ok hn (relO_put ry rel)))
/-- B.__init__(self, ..): nothing of it is told -/
theorem errinit_ok {us : List Value} {Q : Value → Shared → Prop} (b : ErrB B newId initId tail) (T : ErrC X.K C newId tail) (I : Inv X pins σ H s) (e : H a = some (exo a C none)) (hl : us.length ≤ sizeLine) (h : ∀ s', Inv X pins σ H s' → Q .none s') :
    wpAny (model X.prog X.w) A (call (.builtin initId) (.ref a :: us)) Q E s := by
  obtain ⟨nm, q, N, bs, bm, sn, sub, ab, col, dd, k0, k1, k2, k3, k5, hC, hbm⟩ := T.cls
  obtain ⟨t1, ho⟩ := exo_at I.hok e
  obtain ⟨hp, g, d, t, os⟩ := s
  refine wpAny_call (PySem.HandSPX.init_base b.base (fun Y => endsIn_has Y hbm b.ne) (I.kIn _ _ hC) ho hl fun h' t2 k hx => ?_)
  have J := I.write (t' := t) (x := a) (e := a) (o := exo a C none) (by rw [e]; exact True.intro) (.inl rfl) k ⟨_, hx⟩ (exo_ok hx)
  have eu : upd H a (exo a C none) = H := by
    funext b
    by_cases hb : b = a
    · rw [hb, upd_same, e]
    · rw [upd_ne hb]
  rw [eu] at J
  exact h _ J
end
/-! ### rules -/
/-- B.__init__(self, ..), B named by itself or by an own class over it -/
def tErrI (K : PySem.W.Frag) (newId : String) (tail : List Value) (ta : TA) : TE := fun σ H Q => ta σ H fun vs H1 => ∃ (a C : Addr) (ws : List V), vs = .ref a :: ws ∧ ws.length ≤ 1000 ∧ ErrC K C newId tail ∧ H1 a = some (exo a C none) ∧ Q .non H1
/-- self.f = e -/
def tErrSt (K : PySem.W.Frag) (newId : String) (tail : List Value) (f : Str) (to te : TE) : TS := fun D σ H => te σ H fun y H1 => to σ H1 fun x H2 => ∃ a C : Addr, x = .ref a ∧ ErrC K C newId tail ∧ PySem.W.findIn K (.ref C) f = some none ∧
  ((H2 a = some (exo a C none) ∧ ∀ dx, H2 dx = none → dx ≠ a → D.nx σ (upd (upd H2 dx (exd dx [(f, y)])) a (exo a C (some dx)))) ∨
    ∃ (dx : Addr) (fs : List (Str × V)), H2 a = some (exo a C (some dx)) ∧ H2 dx = some (exd dx fs) ∧ fs.length ≤ 900 ∧ D.nx σ (upd H2 dx (exd dx ((f, y) :: fs))))
section
variable {X : Cx} {o e : Expr} {es : List Expr} {to te : TE} {ta : TA} {f : Str} {p p' p1 p2 pos : Pos} {B newId initId : String} {tail : List Value}
theorem pe_errinit {n : Str} {C0 : Addr} {pl : Sem Bool} (b : ErrB B newId initId tail) (hg : Gl X n) (hm : X.mg n = some (.ref C0)) (hr : PySem.W.readsIn X.K C0 (.type "type") = true) (hga : PySem.W.specialIn X.K (.ref C0) "__getattribute__" = some (some (.builtin "type.__getattribute__")))
    (vV : PySem.W.findCls X.K (.ref C0) (.type "type") "__init__" = some (.val (.builtin initId))) (hin : PySem.W.handedIn (.builtin initId) = true) (ha : PA X (e :: es) ta)
    (hdb : (n == ("__debug__" : Str)) = false := by decide)
    (hc : eval (.Call (.Attribute (.Name n p1) "__init__" p2) (e :: es) [] pos) X.env = (do
      let ov ← eval (.Name n p1) X.env
      standAt p2.atName
      let (f, first) ← holding [ov] (getMethod ov "__init__" pl)
      callWith pos f first (backTo pos (starEach (e :: es) X.env)) (backToKw pos (keywordEach [] X.env))) := by rfl)
    (he : starEach (e :: es) X.env = (false, eval e X.env) :: starEach es X.env := by rfl) (hpl : (backTo pos (starEach es X.env)).any (·.1) = false := by rfl) :
    PE X (.Call (.Attribute (.Name n p1) "__init__" p2) (e :: es) [] pos) (tErrI X.K newId tail ta) := by
  refine ⟨fun pins s σ H Q I h => ?_⟩
  refine PySem.W.methodCall_KW (ld_glob I hg hm ?_ hdb) hc
  refine PySem.W.method_cls I.kIn hga (PySem.W.cls_value I.kIn hr vV hin ?_)
  show wpAny _ _ (callWith pos (Value.builtin initId) [] (backTo pos (starEach (e :: es) X.env)) []) _ _ _
  refine PyProof.Rows.callWith_method1 (thn (ha.run pos pins _ σ H _ (I.tok _) h) fun us s1 ⟨vs, H1, I1, r1, a, C, ws, ev, hl, T, ea, q⟩ => ?_) he hpl
  subst ev
  cases r1 with
  | @cons _ u0 _ ur ra rw' =>
    obtain rfl : u0 = Value.ref a := ra
    have hlen : ur.length ≤ sizeLine := by
      rw [← Paired.length rw', sizeLine_eq]
      omega
    exact errinit_ok b T I1 ea hlen fun s' J => ⟨.non, H1, J, rfl, q⟩
theorem pe_errinitB {pl : Sem Bool} {n : Str} (b : ErrB B newId initId tail) (hg : Gl X n) (hm : X.mg n = none) (hbn : bootBuiltins n = some (.type B)) (hty : typeOf (.type B) = pure (.type "type")) (hst : Manifest.isStub B = false) (vV : PySem.W.findCls X.K (.type B) (.type "type") "__init__" = some (.val (.builtin initId))) (hin : PySem.W.handedIn (.builtin initId) = true) (ha : PA X (e :: es) ta)
    (hdb : (n == ("__debug__" : Str)) = false := by decide) (hnn : n ≠ "__name__" := by decide)
    (hc : eval (.Call (.Attribute (.Name n p1) "__init__" p2) (e :: es) [] pos) X.env = (do
      let ov ← eval (.Name n p1) X.env
      standAt p2.atName
      let (f, first) ← holding [ov] (getMethod ov "__init__" pl)
      callWith pos f first (backTo pos (starEach (e :: es) X.env)) (backToKw pos (keywordEach [] X.env))) := by rfl)
    (he : starEach (e :: es) X.env = (false, eval e X.env) :: starEach es X.env := by rfl) (hpl : (backTo pos (starEach es X.env)).any (·.1) = false := by rfl) :
    PE X (.Call (.Attribute (.Name n p1) "__init__" p2) (e :: es) [] pos) (tErrI X.K newId tail ta) := by
  refine ⟨fun pins s σ H Q I h => ?_⟩
  refine PySem.W.methodCall_KW (ld_blt I hg hm hbn ?_ hnn hdb) hc
  obtain ⟨m, fr⟩ := I.fr
  refine PySem.W.method_type fr I.ok.mod.kin hty hst vV hin ?_
  show wpAny _ _ (callWith pos (Value.builtin initId) [] (backTo pos (starEach (e :: es) X.env)) []) _ _ _
  refine PyProof.Rows.callWith_method1 (thn (ha.run pos pins _ σ H _ (I.tok _) h) fun us s1 ⟨vs, H1, I1, r1, a, C, ws, ev, hl, T, ea, q⟩ => ?_) he hpl
  subst ev
  cases r1 with
  | @cons _ u0 _ ur ra rw' =>
    obtain rfl : u0 = Value.ref a := ra
    have hlen : ur.length ≤ sizeLine := by
      rw [← Paired.length rw', sizeLine_eq]
      omega
    exact errinit_ok b T I1 ea hlen fun s' J => ⟨.non, H1, J, rfl, q⟩
theorem ps_errst (b : ErrB B newId initId tail) (ho : PE X o to) (he : PE X e te) (hs : swapsWith e (some (.Attribute o f p')) pos.line X.env = pure false := by rfl) : PS X (.Assign [.Attribute o f p'] e pos) (tErrSt X.K newId tail f to te) := by
  refine ⟨fun pins s σ H D I h => ?_⟩
  refine plainObj_wpAny_Assign_Attribute (thn (he.run pins s σ H _ I h) fun v s1 ⟨y, H1, I1, r1, q1⟩ => thn (ho.run pins s1 σ H1 _ I1 q1) fun u s2 ⟨x, H2, I2, r2, a, C, ex, T, hno, q⟩ => ?_) hs
  subst ex
  obtain rfl : u = Value.ref a := r2
  rcases q with ⟨ea, q⟩ | ⟨dx, fs, ea, ed, hl, q⟩
  · exact errst_new b T I2 ea hno r1 fun dx s' n ne J => ⟨σ, _, J, q dx n ne⟩
  · exact errst_old b T I2 ea ed hl hno r1 fun s' J => ⟨σ, _, J, q⟩
/-- C(e, ..), C's own __init__ keeping sp -/
theorem pmk_err {CX : CXT} {x : Str} {C fI : Addr} {k : Nat} {fd : FuncData} {ps : List Str} {sp : Sp} {ds : List Value} {dvs : List V} (b : ErrB B newId initId tail) (T : ErrC X.K C newId tail) (iC : PySem.W.findIn X.K (.ref C) "__init__" = some (some (.ref fI))) (tI : PySem.W.typeIn X.K (.ref fI) = some (.type "function"))
    (F1 : FnOk X.prog X.w X.K X.mg X.base CX k fI fd ps sp) (hr : Room (k + 1) X.A) (hb : Binds X.K fd ps ds) (hd : Vals dvs ds) (hx : Passes CX X (fun _ _ _ => False)) (hg : Gl X x) (hm : X.mg x = some (.ref C)) (ha : PA X (e :: es) ta)
    (hdb : (x == ("__debug__" : Str)) = false := by decide) (he : starEach (e :: es) X.env = (false, eval e X.env) :: starEach es X.env := by rfl) (hpl : (backTo pos (starEach es X.env)).any (·.1) = false := by rfl) :
    PMk X (.Call (.Name x p) (e :: es) [] pos) (tMkO C sp dvs ta) := by
  intro pins s σ H Q I h
  obtain ⟨nm, q, N, bs, bm, sn, sub, ab, col, dd, k0, k1, k2, k3, k5, hC, hbm⟩ := T.cls
  refine wpAny_Call_Name_kw (ld_glob I hg hm ?_ hdb)
  refine PySem.W.callWith_K (h₀ := X.base) I.ok.mod.kin T.kC (thn (ha.run pos pins s σ H _ I h) fun us s1 ⟨vs, H1, I1, r1, hz, q1⟩ => ⟨I1.kIn, ?_⟩) he hpl
  show wpAny _ _ (call (.ref C) us) _ _ _
  obtain ⟨hp, g, dr, tk, os⟩ := s1
  have hsz : hp.objs.size ≤ hp.objs.size + 1 := Nat.le_succ _
  have hn : H1 (hp.objs.size + 1) = none := I1.hok.fresh hsz
  have hq := q1 (hp.objs.size + 1) hn
  have kk : ∀ b o, hp.get? b = some o → ((hp.push (PySem.W.kdv_tup us)).push (PySem.HandSPX.excO C hp.objs.size)).get? b = some o := fun b o e => Heap.get?_push_of_some _ (Heap.get?_push_of_some _ e)
  have hget : ((hp.push (PySem.W.kdv_tup us)).push (PySem.HandSPX.excO C hp.objs.size)).get? (hp.objs.size + 1) = some (PySem.HandSPX.excO C hp.objs.size) := by heap_get
  have I2 : Inv X pins σ (upd H1 (hp.objs.size + 1) (exo (hp.objs.size + 1) C none)) ⟨(hp.push (PySem.W.kdv_tup us)).push (PySem.HandSPX.excO C hp.objs.size), g, dr, tk, os⟩ :=
    I1.laid (t' := tk) (a := hp.objs.size + 1) (o := exo (hp.objs.size + 1) C none) (h' := (hp.push (PySem.W.kdv_tup us)).push (PySem.HandSPX.excO C hp.objs.size)) kk hsz (exo_ok hget)
  have r2 : Vals (V.ref (hp.objs.size + 1) :: (vs ++ dvs)) (Value.ref (hp.objs.size + 1) :: (us ++ ds)) := .cons rfl (r1.append hd)
  have hl : (Value.ref (hp.objs.size + 1) :: us ++ ds).length = ps.length := by
    have e := r2.length
    rw [F1.len _ _ _ _ hq] at e
    exact e.symm
  have hus : us.length ≤ sizeLine := by
    rw [← Paired.length r1, sizeLine_eq]
    omega
  refine wpAny_call (PySem.HandSPX.call_own b.base (fun Y => endsIn_has Y hbm b.ne) (I1.kIn _ _ hC) (PySem.W.looks_findIn I1.kIn iC) (fun self => PySem.W.bind_fn I1.kIn self tI) hus
    (codeAny_mono (F1.run _ X.stack _ _ ⟨Value.ref (hp.objs.size + 1) :: us, []⟩ (Value.ref (hp.objs.size + 1) :: (us ++ ds)) _ _ (fun _ _ _ => False) (hr.make C us []) (I2.env0.make C us []) (hb _ (Value.ref (hp.objs.size + 1) :: us) I2.kIn hl) r2 hq) fun r s' hq' => ?_))
  cases r with
  | error er => exact hx pins σ _ _ er s' I2 hq'
  | ok fl =>
    cases fl with
    | ret u =>
      obtain ⟨v, H2, os2, bare2, un2, hok2, rv, ev, d, fs, ea, ed, hd1, q2⟩ := hq'
      subst ev
      obtain ⟨h2, g2, d2, t2, os'⟩ := s'
      exact ⟨rv, mk_end (raises_own T.exC T.tyC) I1 hsz kk un2 hok2 os2 bare2 ea ed hd1 q2⟩
    | next => exact False.elim hq'
    | brk => exact False.elim hq'
    | cont => exact False.elim hq'
end
/-! ### the built-in errors -/
theorem eb_Value : ErrB "ValueError" "ValueError.__new__" "ValueError.__init__" [.type "ValueError", .type "Exception", .type "BaseException", .type "object"] := ⟨F.excBase_ValueError, F.store_ValueError, by decide⟩
theorem eb_Index : ErrB "IndexError" "IndexError.__new__" "IndexError.__init__" [.type "IndexError", .type "LookupError", .type "Exception", .type "BaseException", .type "object"] := ⟨F.excBase_IndexError, F.store_IndexError, by decide⟩
theorem eb_Runtime : ErrB "RuntimeError" "RuntimeError.__new__" "RuntimeError.__init__" [.type "RuntimeError", .type "Exception", .type "BaseException", .type "object"] := ⟨F.excBase_RuntimeError, F.store_RuntimeError, by decide⟩
theorem eb_Overflow : ErrB "OverflowError" "OverflowError.__new__" "OverflowError.__init__" [.type "OverflowError", .type "ArithmeticError", .type "Exception", .type "BaseException", .type "object"] := ⟨F.excBase_OverflowError, F.store_OverflowError, by decide⟩
end Lw
/-! Lw, part L: lambdas without parameters as values; defs that call what they are handed. -/
namespace Lw
open PySem PySem.Spec PyProof.Rows L2 LamX
/-- the lambda's object -/
def lamO (f : Addr) (fo : Obj) : HO := .ext fun h => h.get? f = some fo
theorem lamO_at {P : Program} {w : World} {H : Hp} {h : Heap} {f : Addr} {fo : Obj} (hok : HOk P w H h) (e : H f = some (lamO f fo)) : h.get? f = some fo := by
  have x : ObjOk P w H h f (.ext fun h => h.get? f = some fo) := hok f _ e
  exact x.1
theorem lamO_ok {P : Program} {w : World} {H : Hp} {h : Heap} {f : Addr} {fo : Obj} (e : h.get? f = some fo) : ObjOk P w H h f (lamO f fo) := ⟨e, ⟨_, e⟩, fun h1 h2 z k => k _ z⟩
/-- calling what stands at f, in any state above the one at s, does as tl says -/
structure ActAt (P : Program) (w : World) (K : PySem.W.Frag) (mg : Str → Option Value) (base : Heap) (outer : List Env) (s : Shared) (H : Hp) (k : Nat) (f : Addr) (tl : XK → Hp → VK → Prop) : Prop where
  run : ∀ (A : Around) (stk : List Env) (s' : Shared) (H' : Hp) (Q : VK) (E : XK), Room k A → Env0 P w K mg base A stk s' H' → Un (frs outer) [] H H' s.heap s'.heap → ExtN H H' → tl E H' Q →
    codeAny (model P w) A (.call (.ref f) ⟨[], []⟩) (CR (L2.CX P w) stk P w H' s' Q E) s'
  fn : ∀ (s' : Shared) (H' : Hp), Un (frs outer) [] H H' s.heap s'.heap → ExtN H H' → HOk P w H' s'.heap → ∃ nm q ps body sc cl pm cv ctv, s'.heap.get? f = some (PySem.W.kla_obj nm q ps body sc cl pm cv ctv)
section
variable {X : Cx} {pins : List (Addr × Obj)} {σ : L2.St} {H : Hp} {s : Shared} {k : Nat} {f : Addr} {tl : XK → Hp → VK → Prop}
/-- what was untracked and unchanged since the entry is so for whoever is called -/
theorem un_on (hex : X.ex = []) (I : Inv X pins σ H s) {H2 : Hp} {h2 : Heap} (u : Un (frs X.stack) [] H H2 s.heap h2) : Un (frs X.outer) [] X.H_0 H2 X.s_0.heap h2 := by
  have b0 := I.base
  rw [hex] at b0
  have nS : ∀ b o, X.s_0.heap.get? b = some o → b ∉ frs X.outer → b ∉ frs X.stack := fun b o e n hm => by
    rcases List.mem_cons.mp (I.stkSub b hm) with z | z
    · have q := Nat.lt_of_lt_of_le (Heap.lt_size e) I.ok.above
      rw [z] at q
      exact Nat.lt_irrefl _ q
    · exact n z
  refine ⟨fun b o e n hb hx => ?_, fun b o e n hb hx => ?_, fun b o e n hx => ?_, fun b o e hx => ?_, fun b xs e => u.tups b xs (b0.tups b xs e), fun b o v e => u.frzs b o v (b0.frzs b o v e), fun b ps e => ?_⟩
  · exact u.keep b o (b0.keep b o e n hb hx) (b0.free b o e n hx) (nS b o e hb) hx
  · obtain ⟨sl, q⟩ := b0.slot b o e n hb hx
    obtain ⟨sl2, q2⟩ := u.any q (b0.free b o e n hx) hx
    exact ⟨sl2, q2⟩
  · obtain ⟨o', q⟩ := b0.there b o e hx
    exact u.free b o' q (b0.free b o e n hx) hx
  · obtain ⟨o', q⟩ := b0.there b o e hx
    exact u.there b o' q hx
  · obtain ⟨m1, q1⟩ := b0.tbls b ps e
    obtain ⟨m2, q2⟩ := u.tbls b _ q1
    exact ⟨m1 ++ m2, by rw [q2, Array.append_assoc]⟩
theorem ActAt.on (hex : X.ex = []) (a : ActAt X.prog X.w X.K X.mg X.base X.outer X.s_0 X.H_0 k f tl) (I : Inv X pins σ H s) (e : ExtN X.H_0 H) : ActAt X.prog X.w X.K X.mg X.base X.stack s H k f tl :=
  ⟨fun A stk s2 H2 Q E hr e0 u en h => a.run A stk s2 H2 Q E hr e0 (un_on hex I u) (e.trans en) h, fun s2 H2 u en hok => a.fn s2 H2 (un_on hex I u) (e.trans en) hok⟩
theorem ActAt.mono {P : Program} {w : World} {K : PySem.W.Frag} {mg : Str → Option Value} {base : Heap} {outer : List Env} {j : Nat} (a : ActAt P w K mg base outer s H j f tl) (h : j ≤ k) : ActAt P w K mg base outer s H k f tl :=
  ⟨fun A stk s2 H2 Q E hr => a.run A stk s2 H2 Q E (hr.mono h), a.fn⟩
/-- a(), a a name that holds such a thing -/
def tActc (P : Program) (w : World) (K : PySem.W.Frag) (mg : Str → Option Value) (base : Heap) (outer : List Env) (s0 : Shared) (H0 : Hp) (k i : Nat) (W : WX) : TE := fun σ H Q => ∃ (f : Addr) (tl : XK → Hp → VK → Prop) (E : XK) (Q0 : VK), σ[i]? = some (some (.ref f)) ∧ ActAt P w K mg base outer s0 H0 k f tl ∧ ExtN H0 H ∧ (∀ cls d H', E cls d H' → W cls d σ H') ∧ tl E H Q0 ∧ ∀ x H1, Q0 x H1 → Q x H1
theorem pe_actcall {a : Str} {i : Nat} {W : WX} {p1 p2 : Pos} (hex : X.ex = []) (tk : Takes X W) (hr : Room k X.A) (hN : X.N[i]? = some a) (hv : Vis X.env.scope a)
    (hd : (a == ("__debug__" : Str)) = false := by decide) (hcd : (a == ("__classdict__" : Str)) = false := by decide) : PE X (.Call (.Name a p1) [] [] p2) (tActc X.prog X.w X.K X.mg X.base X.outer X.s_0 X.H_0 k i W) := by
  refine ⟨fun pins s σ H Q I h => ?_⟩
  obtain ⟨f, tl, E, Q0, hs, act, en, hW, ht, up⟩ := h
  refine wpAny_Call_Name_kw (thn ((pe_var (pos := p1) (i := i) hN hv hd hcd).run pins s σ H (fun v H1 => v = .ref f ∧ H1 = H) I ⟨.ref f, hs, rfl, rfl⟩) fun u s1 ⟨v, H1, I1, r1, ev, eH⟩ => ?_)
  subst ev
  subst eH
  obtain rfl : u = Value.ref f := r1
  have un : Un (frs X.outer) [] X.H_0 H1 X.s_0.heap s1.heap := by
    have b0 := I1.base
    rw [hex] at b0
    exact b0
  obtain ⟨nm, q, ps, body, sc, cl, pm, cv, ctv, of1⟩ := act.fn s1 H1 un en I1.hok
  refine PySem.W.callWith_F0 ⟨_, _, _, _, of1⟩ ?_
  refine wpAny_call (codeAny_mono (act.run X.A X.stack s1 H1 Q0 E hr I1.env0 un en ht) fun r s' hq => ?_)
  cases r with
  | error e => exact tk _ _ (XE.of_call I1 hW hq)
  | ok fl =>
    cases fl with
    | ret u =>
      obtain ⟨v, H2, I2, r2, q2⟩ := I1.after hq
      exact ⟨v, H2, I2, r2, up _ _ q2⟩
    | next => exact False.elim hq
    | brk => exact False.elim hq
    | cont => exact False.elim hq
/-! ### the making of a lambda -/
/-- what is known of the lambda at f: called in the maker's frame's name, it does as its body says at the slots σ -/
def actX (X : Cx) (σ : L2.St) (H : Hp) (k : Nat) (f : Addr) (tl : XK → Hp → VK → Prop) : Prop := ∀ pins s, Inv X pins σ H s → ActAt X.prog X.w X.K X.mg X.base X.stack s H k f tl
theorem act_made {c' : Addr} {pm ctv : Value} {params : Arguments} {body : Expr} {scope : Scope} {t : XK → TE} (L : LamS X.env.scope scope)
    (hf : H f = some (lamO f (PySem.W.kla_obj "<lambda>" (X.env.qual ++ "<lambda>") params body scope (cloFrom X.env.cells scope.names []) pm c' ctv))) (hc : H c' = some (CodeO c' (X.env.qual ++ "<lambda>")))
    (hbind : bindArgs (PySem.W.kla_fn "<lambda>" (X.env.qual ++ "<lambda>") params body scope (cloFrom X.env.cells scope.names []) pm (.ref c') ctv) ⟨[], []⟩ = pure [])
    (hbody : ∀ (A : Around) (outer : List Env) (s : Shared) (H : Hp) (E : XK), Room k (A.deeper (lamEnv X scope s.heap.objs.size f c')) → PE (lamCx X A outer s H E scope f c') body (t E)) :
    actX X σ H (k + 1) f (fun E H' Q' => t E σ H' Q') := by
  intro pins s I
  refine ⟨fun A stk s1 HZ Q E hr e0 un en ht => ?_, fun s1 HZ un en hok => ?_⟩
  · have of1 := lamO_at e0.hok (en _ _ hf fun ps z => by cases z)
    obtain ⟨⟨oc, vs, t0, hoc, hdc, hvc⟩, _, _⟩ := e0.hok c' _ (en _ _ hc codeO_ne)
    have lim : s1.heap.NoLimit := e0.mod.nolimit.keeps fun b o e => (e0.bs b o e).1
    have dp : A.depth < recursionLimit := by have := hr.dp; omega
    refine PySem.W.kla_callFunE dp of1 rfl L.co L.gen rfl ⟨c', oc, vs, t0, rfl, hoc, hdc, hvc⟩ ?_
    rw [hbind]
    refine wpAny_pure (wpAny_newFunctionEnv (fun y hy => (L.own y hy).2) (fun y hy => absurd hy (by simp)) (fun h₁ hns hsb => ⟨lim.fresh _ hsb, ?_⟩) L.kind)
    show codeAny _ _ (.expr body (lamEnv X scope s1.heap.objs.size f c')) _ _
    have kp : ∀ b o, s1.heap.get? b = some o → h₁.get? b = some o := fun b o e => hsb.extBut b o (Nat.ne_of_lt (Heap.lt_size e)) (Heap.get?_push_of_some _ e)
    have J : Inv (lamCx X A stk s1 HZ E scope f c') [] σ HZ { s1 with heap := h₁, toks := s1.toks + ([] : List (Str × Value)).length } :=
      lam_start2 I L e0 hr.hd un hns kp
    refine PySem.W.kla_codeExpr (wpAny_mono ((hbody _ _ s1 HZ E (hr.deeper _)).run [] _ _ HZ Q J ht) (fun v s' hq => ?_) fun e s' hq => hq)
    obtain ⟨w', H', J', rv, q⟩ := hq
    exact ⟨w', H', J'.os, J'.bare, J'.base, J'.hok, rv, q⟩
  · exact ⟨_, _, _, _, _, _, _, _, _, lamO_at hok (en _ _ hf fun ps z => by cases z)⟩
/-- lambda: body, as a value -/
def tLamV (X : Cx) (k : Nat) (T : List (Addr × Str)) (t : XK → TE) : TE := fun σ H Q => Tabs T H ∧ ∀ f c' H1, ExtN H H1 → Tabs T H1 → H f = none → (∃ o, H1 f = some (lamO f o)) → (∃ q, H1 c' = some (CodeO c' q)) →
  (∀ σ2 H2, H2 f = H1 f → H2 c' = H1 c' → actX X σ2 H2 (k + 1) f (fun E H' Q' => t E σ2 H' Q')) → Q (.ref f) H1
/-- the lambda's def object comes last, so it is new -/
theorem lam_fresh {T : List (Addr × Str)} {c P : Addr} {params : Arguments} {body : Expr} {scope : Scope} {pos : Pos} {E : Value → Shared → Prop} {Q : Value → Shared → Prop} (I : Inv X pins σ H s) (TB : TabB X.base X.mg c P) (hcode : X.env.code = .ref c)
    (hm : (P, X.env.qual ++ "<lambda>") ∈ T) (hu : ∀ p ∈ T, p.1 = P → p.2 = X.env.qual ++ "<lambda>") (hT : Tabs T H) (hdef : defaultsOf params X.env = ([], [])) (hfree : ∀ y ∈ scope.names, y.2 = .free → ∃ c, X.env.cells.lookup y.1 = some c)
    (h : ∀ (f c' : Addr) (pm ctv : Value) (H1 : Hp) (s' : Shared), Inv X pins σ (upd H1 f (lamO f (PySem.W.kla_obj "<lambda>" (X.env.qual ++ "<lambda>") params body scope (cloFrom X.env.cells scope.names []) pm c' ctv))) s' → ExtN H H1 → Tabs T H1 →
      H f = none → H1 f = none → c' ≠ f → H1 c' = some (CodeO c' (X.env.qual ++ "<lambda>")) → Q (.ref f) s') :
    wpAny (model X.prog X.w) X.A (eval (.Lambda params body scope pos) X.env) Q E s := by
  obtain ⟨ps, hP, ht, ha⟩ := hT _ hm
  refine PySem.W.kla_eval hdef ?_
  have bP : s.heap.BuiltinsAt X.mg P := TB.bm.keeps I.bk
  have hP' : s.heap.get? P = some { cls := .none, data := .fields ps } := I.hok P _ hP
  cases hc : codeAmong pos ps.toList with
  | none =>
    refine PySem.W.kla_makeFunction (mg := X.mg) (c := c) (P := P) (ps := ps) (closure_ok hfree) I.ok.glob (I.mod.glob.keeps I.bk) hcode (TB.code.keeps I.bk) hP' ht hc TB.gP bP fun c' ctv h' tk hx hge hlt hrec htb => ?_
    obtain ⟨c2, oc, vs, t, e2, hoc, hd, hv⟩ := hrec
    cases e2
    have hsz : s.heap.objs.size ≤ h'.objs.size := Nat.le_trans hge (Nat.le_of_lt hlt)
    have nC : H c' = none := I.hok.fresh hge
    have I0 := inv_table (t' := tk) (more := #[rawInt pos.line, rawInt pos.col, .ref c']) (h' := h') I hP hx htb hge ⟨oc, vs, t, hoc, hd, hv⟩
    have I1 := I0.laid (t' := tk) (a := h'.objs.size) (o := lamO h'.objs.size (PySem.W.kla_obj "<lambda>" (X.env.qual ++ "<lambda>") params body scope (cloFrom X.env.cells scope.names []) ((X.mg "__name__").getD .none) c' ctv))
      (h' := h'.push (PySem.W.kla_obj "<lambda>" (X.env.qual ++ "<lambda>") params body scope (cloFrom X.env.cells scope.names []) ((X.mg "__name__").getD .none) c' ctv)) (fun b o e => Heap.get?_push_of_some _ e) (Nat.le_refl _) (lamO_ok (Heap.get?_push_size _ rfl))
    have hE : ExtN H (upd (upd H P (.tbl (ps ++ #[rawInt pos.line, rawInt pos.col, .ref c']))) c' (CodeO c' (X.env.qual ++ "<lambda>"))) := fun b o e n => by
      rw [upd_ne (ne_of_none e nC), upd_ne (fun z => n ps (Option.some.inj (e.symm.trans (by rw [z]; exact hP))))]
      exact e
    have eL : (ps ++ #[rawInt pos.line, rawInt pos.col, .ref c']).toList = ps.toList ++ [rawInt pos.line, rawInt pos.col, .ref c'] := by simp
    refine h h'.objs.size c' ((X.mg "__name__").getD .none) ctv _ _ I1 hE (fun p hp => ?_) (I.hok.fresh hsz) ?_ (Nat.ne_of_lt hlt) upd_same
    · by_cases hb : p.1 = P
      · rw [hu p hp hb, hb]
        refine ⟨_, by rw [upd_ne (ne_of_none hP nC), upd_same], by rw [eL]; exact PySem.TriplesOk_snoc _ _ _ _ ht, fun p' cv hcv => ?_⟩
        rw [eL] at hcv
        rcases among_app _ ht hcv with z | z
        · obtain ⟨c0, e1, e2⟩ := ha p' cv z
          exact ⟨c0, e1, hE _ _ e2 codeO_ne⟩
        · exact ⟨c', z, upd_same⟩
      · obtain ⟨ps', a1, a2, a3⟩ := hT p hp
        refine ⟨ps', by rw [upd_ne (ne_of_none a1 nC), upd_ne hb]; exact a1, a2, fun p' cv hcv => ?_⟩
        obtain ⟨c0, e1, e2⟩ := a3 p' cv hcv
        exact ⟨c0, e1, hE _ _ e2 codeO_ne⟩
    · have n1 : h'.objs.size ≠ c' := Nat.ne_of_gt hlt
      have n2 : h'.objs.size ≠ P := Nat.ne_of_gt (Nat.lt_of_lt_of_le (Heap.lt_size hP') hsz)
      rw [upd_ne n1, upd_ne n2]
      exact I.hok.fresh hsz
  | some cv =>
    obtain ⟨c', e, hco⟩ := ha pos cv hc
    subst e
    refine PySem.W.kla_makeFunctionHit (mg := X.mg) (c := c) (P := P) (ps := ps) (closure_ok hfree) I.ok.glob (I.mod.glob.keeps I.bk) hcode (TB.code.keeps I.bk) hP' ht hc bP fun ctv h' tk hx hsz => ?_
    have I1 := I.laid (t' := tk) (a := h'.objs.size) (o := lamO h'.objs.size (PySem.W.kla_obj "<lambda>" (X.env.qual ++ "<lambda>") params body scope (cloFrom X.env.cells scope.names []) ((X.mg "__name__").getD .none) c' ctv))
      (h' := h'.push (PySem.W.kla_obj "<lambda>" (X.env.qual ++ "<lambda>") params body scope (cloFrom X.env.cells scope.names []) ((X.mg "__name__").getD .none) c' ctv)) (fun b o e => Heap.get?_push_of_some _ (hx b o e)) hsz (lamO_ok (Heap.get?_push_size _ rfl))
    have hn := I.hok.fresh hsz
    exact h h'.objs.size c' ((X.mg "__name__").getD .none) ctv H _ I1 (ExtN.refl H) hT hn hn (ne_of_none hco hn) hco
theorem pe_lamV {T : List (Addr × Str)} {c P : Addr} {params : Arguments} {body : Expr} {scope : Scope} {t : XK → TE} {lpos : Pos} (TB : TabB X.base X.mg c P) (hcode : X.env.code = .ref c) (hmT : (P, X.env.qual ++ "<lambda>") ∈ T) (hu : ∀ p ∈ T, p.1 = P → p.2 = X.env.qual ++ "<lambda>")
    (L : LamS X.env.scope scope) (hdef : defaultsOf params X.env = ([], [])) (hbind : ∀ (q : Str) (cl : List (Str × Addr)) (pm cv ctv : Value), bindArgs (PySem.W.kla_fn "<lambda>" q params body scope cl pm cv ctv) ⟨[], []⟩ = pure [])
    (hbody : ∀ (A : Around) (outer : List Env) (s : Shared) (H : Hp) (E : XK) (f c' : Addr), Room k (A.deeper (lamEnv X scope s.heap.objs.size f c')) → PE (lamCx X A outer s H E scope f c') body (t E)) :
    PE X (.Lambda params body scope lpos) (tLamV X k T t) := by
  refine ⟨fun pins s σ H Q I h => ?_⟩
  obtain ⟨hT, h⟩ := h
  refine lam_fresh I TB hcode hmT hu hT hdef (L.has I.ok) fun f c' pm' ctv H1 s' I1 eN T1 hf0 hf1 hne hco => ?_
  have nf : ∀ b o, H1 b = some o → b ≠ f := fun b o e => ne_of_none e hf1
  refine ⟨.ref f, _, I1, rfl, h f c' _ (fun b o e n => ?_) (T1.ext fun b o e => ?_) hf0 ⟨_, upd_same⟩ ⟨X.env.qual ++ "<lambda>", ?_⟩ fun σ2 H2 e1 e2 => act_made L (e1.trans upd_same) ?_ (hbind _ _ _ _ _) fun A outer s H E hr => hbody A outer s H E f c' hr⟩
  · have q := eN b o e n
    rw [upd_ne (nf b o q)]
    exact q
  · rw [upd_ne (nf b o e)]
    exact e
  · rw [upd_ne hne]
    exact hco
  · rw [e2, upd_ne hne]
    exact hco
end
/-! ### defs that are handed such a thing -/
/-- a promise that tells of what is handed in: act f tl says that calling f does as tl says -/
abbrev SpA := (Addr → (XK → Hp → VK → Prop) → Prop) → List V → Hp → VK → Prop
structure FnAct (P : Program) (w : World) (K : PySem.W.Frag) (mg : Str → Option Value) (base : Heap) (k ka : Nat) (f : Addr) (fd : FuncData) (ps : List Str) (sp : SpA) : Prop where
  len : ∀ a vs H Q, sp a vs H Q → vs.length = ps.length
  mono : ∀ (a b : Addr → (XK → Hp → VK → Prop) → Prop) vs H Q, (∀ f tl, a f tl → b f tl) → sp a vs H Q → sp b vs H Q
  run : ∀ (A : Around) (outer : List Env) (s : Shared) (H : Hp) (args : Args) (us : List Value) (vs : List V) (Q : VK), Room k A → Env0 P w K mg base A outer s H → BindsTo s fd args (ps.zip us) → Vals vs us →
    sp (fun f tl => ActAt P w K mg base outer s H ka f tl) vs H Q → codeAny (model P w) A (.call (.ref f) args) (CR CX0 outer P w H s Q E0) s
def KnA (P : Program) (w : World) (K : PySem.W.Frag) (mg : Str → Option Value) (base : Heap) (x : Str) (ps : List Str) (k ka : Nat) (sp : SpA) : Prop :=
  ∃ f fd, FnAct P w K mg base k ka f fd ps sp ∧ mg x = some (.ref f) ∧ PySem.W.keepIn K (.ref f) = true ∧ Binds K fd ps []
section
variable {P : Program} {w : World} {K : PySem.W.Frag} {mg : Str → Option Value} {base : Heap}
theorem knA_of {x : Str} {st : Stmt} {N ps : List Str} {k ka : Nat} {sp : SpA} (F : ∃ f fd, FunD K x x (defArgs st) (defBody st) (defScope st) [] [] f fd ∧ mg x = some (.ref f)) (S : FnScope N ps (defScope st)) (len : ∀ a vs H Q, sp a vs H Q → vs.length = ps.length)
    (mono : ∀ (a b : Addr → (XK → Hp → VK → Prop) → Prop) vs H Q, (∀ f tl, a f tl → b f tl) → sp a vs H Q → sp b vs H Q)
    (hb : ∀ (kV doc pm : Value) (an : Option Addr) (cdv ct : Value) (us : List Value), us.length = ps.length → bindArgs (PySem.W.fnOf x x (defArgs st) (defBody st) (defScope st) .none kV doc pm an cdv ct) ⟨us, []⟩ = pure (ps.zip us))
    (hbody : ∀ (f : Addr) (cdv : Value) (A : Around) (outer : List Env) (s : Shared) (H : Hp) (vs : List V) (Q : VK), Room k (A.deeper (envOfC x (defScope st) s.heap.objs.size f cdv)) → sp (fun f tl => ActAt P w K mg base outer s H ka f tl) vs H Q →
      ∃ t, PSs (cxOf CX0 P w K mg base N x (defScope st) f cdv A outer s H E0).nox (defBody st) t ∧ t { nx := fun _ H' => Q .non H', rt := Q } (start N vs) H) : KnA P w K mg base x ps (k + 1) ka sp := by
  obtain ⟨f, fd, F, m⟩ := F
  obtain ⟨oc, od, dV, kV, doc, pm, an, cdv, ct, osl, e, lk, hcd, _, _⟩ := id F.ex
  subst e
  refine ⟨f, _, ⟨len, mono, fun A outer s H args us vs Q hr e0 hbi r hsp => run_ofS lk hcd S hr e0 hbi r (len _ _ _ _ hsp) fun hr' => ?_⟩, m, F.kp, F.bindsN hb⟩
  obtain ⟨t, h, q⟩ := hbody f cdv A outer s H vs Q hr' hsp
  exact ⟨t, h.nox, q⟩
end
def tCallA (X : Cx) (ka : Nat) (sp : SpA) (t : TA) : TE := fun σ H Q => t σ H fun vs H1 => sp (actX X σ H1 ka) vs H1 Q
theorem pe_knA {X : Cx} {x : Str} {ps : List Str} {k ka : Nat} {sp : SpA} {p pos : Pos} {e : Expr} {es : List Expr} {t : TA} (c : KnA X.prog X.w X.K X.mg X.base x ps k ka sp) (hr : Room k X.A) (hg : Gl X x)
    (ha : PA X (e :: es) t) (hdb : (x == ("__debug__" : Str)) = false := by decide) (he : starEach (e :: es) X.env = (false, eval e X.env) :: starEach es X.env := by rfl) (hpl : (backTo pos (starEach es X.env)).any (·.1) = false := by rfl) :
    PE X (.Call (.Name x p) (e :: es) [] pos) (tCallA X ka sp t) := by
  obtain ⟨f, fd, G, hm, hk, hb⟩ := c
  refine ⟨fun pins s σ H Q I h => ?_⟩
  refine wpAny_Call_Name_kw (ld_glob I hg hm ?_ hdb)
  refine PySem.W.callWith_K (h₀ := X.base) I.ok.mod.kin hk (thn (ha.run pos pins s σ H _ I h) fun us s1 ⟨vs, H1, I1, r, q⟩ => ⟨I1.kIn, ?_⟩) he hpl
  have hl : (us ++ []).length = ps.length := by
    rw [List.append_nil, ← r.length]
    exact G.len _ _ _ _ q
  refine wpAny_call (codeAny_mono (G.run X.A X.stack s1 H1 ⟨us, []⟩ (us ++ []) vs Q hr I1.env0 (hb s1 us I1.kIn hl) (by rw [List.append_nil]; exact r) (G.mono _ _ _ _ _ (fun f tl a => a pins s1 I1) q)) fun q s' hq => ?_)
  cases q with
  | error e => exact pass0 pins σ H1 s1 e s' I1 hq
  | ok fl =>
    cases fl with
    | ret u => exact I1.after hq
    | next => exact hq.elim
    | brk => exact hq.elim
    | cont => exact hq.elim
theorem actX_on {X : Cx} {σ : L2.St} {H : Hp} {ka : Nat} {f : Addr} {tl : XK → Hp → VK → Prop} (hex : X.ex = []) (a : ActAt X.prog X.w X.K X.mg X.base X.outer X.s_0 X.H_0 ka f tl) (e : ExtN X.H_0 H) : actX X σ H ka f tl := fun _ _ I => a.on hex I e
end Lw
/-! Lw, part T: several except clauses with names; the caught exception stands in the heap, tracked. -/
namespace Lw
open PySem PySem.Spec PyProof.Rows L2
/-- at a: an exception of this class, its dict at d -/
def exq (a : Addr) (cls : Value) (d : Option Addr) : HO := .ext fun h => ∃ oe, h.get? a = some oe ∧ Zc cls d oe ∧ ∃ vs, oe.data = .fields vs
theorem exq_at {P : Program} {w : World} {H : Hp} {h : Heap} {a : Addr} {cls : Value} {d : Option Addr} (hok : HOk P w H h) (e : H a = some (exq a cls d)) : ∃ oe, h.get? a = some oe ∧ Zc cls d oe ∧ ∃ vs, oe.data = .fields vs := by
  have x : ObjOk P w H h a (.ext fun h => ∃ oe, h.get? a = some oe ∧ Zc cls d oe ∧ ∃ vs, oe.data = .fields vs) := hok a _ e
  exact x.1
section
variable {X : Cx} {pins : List (Addr × Obj)} {σ : L2.St} {H : Hp} {s : Shared}
/-- an untracked record that came since the def's entry is tracked from now on -/
theorem track {a : Addr} {o : HO} (I : Inv X pins σ H s) (na : H a = none) (h0 : X.s_0.heap.get? a = none) (nL : a ≠ X.env.locals) (nC : ∀ y c, X.env.cells.lookup y = some c → c ≠ a) (nP : ∀ p ∈ X.pn ++ pins, p.1 ≠ a)
    (ok : ObjOk X.prog X.w (upd H a o) s.heap a o) : Inv X pins σ (upd H a o) s := by
  have nE : ∀ b u, X.H_0 b = some u → H b = some u ∨ True := fun _ _ _ => .inr trivial
  refine ⟨I.ok, I.os, I.bare, ⟨I.base.keep, I.base.slot, fun b ob e n hx => ?_, I.base.there, fun b xs e => ?_, fun b ob u e => ?_, fun b ps e => ?_⟩, I.loc, I.cell, ?_, fun y c e => ?_, fun p hp => ?_, fun b u e => ?_, I.len⟩
  · rw [upd_ne (fun z => by rw [z, h0] at e; cases e)]
    exact I.base.free b ob e n hx
  · have q := I.base.tups b xs e
    rw [upd_ne (ne_of_none q na)]
    exact q
  · have q := I.base.frzs b ob u e
    rw [upd_ne (ne_of_none q na)]
    exact q
  · obtain ⟨more, q⟩ := I.base.tbls b ps e
    exact ⟨more, by rw [upd_ne (ne_of_none q na)]; exact q⟩
  · rw [upd_ne (Ne.symm nL)]
    exact I.free
  · rw [upd_ne (nC y c e)]
    exact I.freeC y c e
  · obtain ⟨e1, e2, e3, e4, e5⟩ := I.pin p hp
    exact ⟨e1, by rw [upd_ne (nP p hp)]; exact e2, e3, e4, e5⟩
  · by_cases hb : b = a
    · rw [hb] at e ⊢
      rw [upd_same] at e
      cases e
      exact ok
    · rw [upd_ne hb] at e
      exact (I.hok b u e).stay (fun c v _ q => q) (fun c q => by rw [upd_ne (ne_of_none q na)]; exact q) fun c xs q => by rw [upd_ne (ne_of_none q na)]; exact q
end
/-- where the suite's slot is given up -/
def ends1 (i : Nat) (D : Ends) : Ends := { nx := fun σ' H' => D.nx (σ'.set i none) H', rt := D.rt, bk := fun σ' H' => D.bk (σ'.set i none) H', ct := fun σ' H' => D.ct (σ'.set i none) H' }
/-- one clause: its class, its slot, its suite -/
structure Cl where
  cls : Value
  slot : Nat
  ts : Addr → Value → Option Addr → TS
/-- what the clauses wish of the body's exception, one after the other -/
def wCls (K : PySem.W.Frag) (Wout : WX) (D : Ends) : List Cl → WX
  | [] => Wout
  | c :: r => fun cls d σ H => ∃ b, PySem.W.exmOne K cls c.cls = some b ∧ (b = true → ∀ a, H a = none → c.ts a cls d (ends1 c.slot D) (σ.set c.slot (some (.ref a))) (upd H a (exq a cls d))) ∧ (b = false → wCls K Wout D r cls d σ H)
/-- a suite's context -/
abbrev sCx (X : Cx) (a : Addr) : Cx := { X with A := X.A.mark (some (.ref a)), calm := false, xe := fun _ _ => False }
inductive ClOk (X : Cx) : List ExceptHandler → List Cl → Prop
  | nil : ClOk X [] []
  | cons {x n : Str} {c : Cl} {b₀ : Stmt} {suite : List Stmt} {np pos' : Pos} {hds : List ExceptHandler} {l : List Cl} (hc : Names X x c.cls) (hi : X.N[c.slot]? = some n) (hln : X.env.kindOf n = some .local)
      (hsu : ∀ (a : Addr) (cls : Value) (d : Option Addr) (pn : List (Addr × Obj)), PSs { sCx X a with pn := pn } (b₀ :: suite) (c.ts a cls d)) (r : ClOk X hds l) :
      ClOk X (.ExceptHandler (some (.Name x np)) (some n) (b₀ :: suite) pos' :: hds) (c :: l)
section
variable {X : Cx} {body : List Stmt} {h₀ : ExceptHandler} {hds : List ExceptHandler} {l : List Cl} {pos : Pos} {tb : WX → TS} {Wout : WX}
theorem ok_sCx (ok : X.Ok) (a : Addr) (pn : List (Addr × Obj)) : ({ sCx X a with pn := pn } : Cx).Ok :=
  ⟨ok.mod, ok.kind, ok.glob, ok.blt, ok.above, ok.inj, ok.has, ok.cab, (fun z => absurd (show false = true from z) Bool.false_ne_true), ok.frames, ok.stk, ok.exf, ok.bs, ok.bsz, ok.noex, ok.exfs, ok.funs, ok.frf⟩
theorem inv_sCx {pins : List (Addr × Obj)} {σ : L2.St} {H : Hp} {s : Shared} (I : Inv X pins σ H s) (a : Addr) : Inv { sCx X a with pn := X.pn ++ pins } [] σ H s :=
  ⟨ok_sCx I.ok a _, I.os, I.bare, I.base, I.loc, I.cell, I.free, I.freeC, fun p hp => I.pin p (by rw [List.append_nil] at hp; exact hp), I.hok, I.len⟩
theorem inv_ofS {pins pn' : List (Addr × Obj)} {σ : L2.St} {H : Hp} {s : Shared} {a : Addr} (I : Inv { sCx X a with pn := X.pn ++ pins } pn' σ H s) (ok : X.Ok) : Inv X pins σ H s :=
  ⟨ok, I.os, I.bare, I.base, I.loc, I.cell, I.free, I.freeC, fun p hp => I.pin p (List.mem_append_left _ hp), I.hok, I.len⟩
theorem ps_try_cls (hs : X.stack = X.env :: X.outer) (hf : X.env.frame = some X.env.locals) (hN : X.N.Nodup) (hex : X.ex = []) (tk : Takes X Wout)
    (hb : ∀ (W : WX) (pn : List (Addr × Obj)) (xe : Value → Shared → Prop), Takes (X.tr pn xe) W → PassesOwn (model X.prog X.w) X.A X.env xe → PSs (X.tr pn xe) body (tb W))
    (hh : ClOk X (h₀ :: hds) l) : PS X (.Try body (h₀ :: hds) [] [] pos) (fun D σ H => tb (wCls X.K Wout D l) D σ H) := by
  refine ⟨fun pins s σ H D I h => ?_⟩
  have ok := I.ok
  have hfr : X.A.frames = some (X.env :: X.outer) := by rw [ok.frames, hs]
  refine wpAny_Try_except ?_
  refine wpAny_mono ((hb (wCls X.K Wout D l) (X.pn ++ pins) (fun e s₁ => wpAny (model X.prog X.w) X.A (noteFrame e X.env) (fun _ s₂ => wpAny (model X.prog X.w) X.A (setFlight e none) (fun _ s₃ =>
    wpAny (model X.prog X.w) X.A (handleBy e X.env (h₀ :: hds)) (SP X pins D) X.xe s₃) X.xe s₂) X.xe s₁) (fun u s' xx => ?_) PassesOwn.looking).run [] s σ H D (I.toTry _) h) (fun f s1 hsp => ?_) (fun e s1 he => he)
  · obtain ⟨a, B, sI, pins', σ', H', cls, d, rfl, J', nb, up, sky, na, os, ag, w⟩ := xx
    have J : Inv X pins σ' H' sI := J'.ofTry ok
    have sky' : Sky B (X.env :: X.outer) a (Zc cls d) X.env.locals s'.heap := by rw [← hs]; exact sky
    show wpAny (model X.prog X.w) X.A (noteFrame (.ref a) X.env) _ _ _
    refine Sky.land Zc.steady hfr hf sky' fun h3 fl3 up3 => ?_
    have J3 : Inv X pins σ' H' { s' with heap := h3 } := J.landed nb fl3.1 (up.trans up3) os ag
    obtain ⟨oe3, vs3, he3, hz3, hd3⟩ := fl3.there
    have nfr : a ∉ frs (X.env :: X.outer) := fun hm => by
      obtain ⟨_, o', e', hnf⟩ := fl3.2.2.1.mem hm
      rw [he3] at e'
      cases e'
      exact hnf _ hd3
    have nL : a ≠ X.env.locals := fun z => nfr (List.mem_filterMap.mpr ⟨X.env, List.mem_cons_self, by rw [hf, z]⟩)
    have nI : sI.heap.get? a = none := by
      cases q : sI.heap.get? a with
      | none => rfl
      | some o =>
        have z := nb a o q (by rw [hs]; exact nfr)
        rw [fl3.2.1] at z
        cases z
    have n0 : X.s_0.heap.get? a = none := by
      cases q : X.s_0.heap.get? a with
      | none => rfl
      | some o =>
        obtain ⟨o', e'⟩ := J.base.there a o q (by rw [hex]; simp)
        rw [nI] at e'
        cases e'
    have nC : ∀ y c, X.env.cells.lookup y = some c → c ≠ a := fun y c e z => by
      obtain ⟨v, o, ho, _⟩ := J.cell y c e
      rw [z, nI] at ho
      cases ho
    have nP : ∀ p ∈ X.pn ++ pins, p.1 ≠ a := fun p hp z => by
      have q := (J.pin p hp).1
      rw [z, nI] at q
      cases q
    have S3 := inv_sCx J3 a
    have go : ∀ {hds' : List ExceptHandler} {l' : List Cl}, ClOk X hds' l' → wCls X.K Wout D l' cls d σ' H' →
        wpAny (model X.prog X.w) X.A (handleBy (.ref a) X.env hds') (SP X pins D) X.xe { s' with heap := h3 } := by
      intro hds' l' hk
      induction hk with
      | nil =>
        intro w
        refine wpAny_handleBy_nil ?_
        obtain ⟨k1, k2, k3, oe, vs, T, oT, ts', he, hz, hd, h1, hr⟩ := id fl3
        unfold PySem.passOn
        refine wpAny_bind (wpAny_field he hd h1 ?_)
        rw [if_neg (show ¬ ((Value.ref T == Value.none) = true) from by simp)]
        have fin : wpAny (model X.prog X.w) X.A (setFlight (.ref a) X.env.frame) (fun _ s4 => wpAny (model X.prog X.w) X.A (throw (.ref a) : Sem Flow) (SP X pins D) X.xe s4) X.xe { s' with heap := h3 } := by
          rw [hf]
          refine HandSPX.setFlight_upZ fl3 fun h4 hh4 up4 => wpAny_throw (tk _ _ ?_)
          exact ⟨a, B, sI, pins, σ', H', cls, d, rfl, J, nb, (up.trans up3).trans up4, .inr (.inr (by rw [hs]; exact hh4)), na, os, ag, w⟩
        first
          | exact wpAny_bind (wpAny_pure (wpAny_bind fin))
          | exact wpAny_bind fin
      | @cons x n c b₀ suite np pos' hds2 l2 hc hi hln hsu r ih =>
        intro w
        obtain ⟨b, hb1, hyes, hno⟩ := w
        refine wpAny_handleBy_cons (codeAny_handlers_test ?_) (by intro q; cases q)
        have LT : PySem.W.Looks (model X.prog X.w) h3 (typeOf (.ref a)) cls := fun A Q E s k q => wpAny_typeOf_ref (k _ _ he3) (by rw [hz3.1]; exact q)
        have LM := PySem.W.exm_one (M := model X.prog X.w) (J3.kIn) LT hb1
        have test : ∀ {Q : Value → Shared → Prop} {E : Value → Shared → Prop}, Q c.cls { s' with heap := h3 } → wpAny (model X.prog X.w) (X.A.mark (some (.ref a))) (eval (.Name x np) X.env) Q E { s' with heap := h3 } := fun {Q E} q => by
          obtain ⟨hg, hdbg, hm | ⟨hm, hv, hnn⟩⟩ := hc
          · exact ld_glob (X := { sCx X a with pn := X.pn ++ pins }) S3 hg hm q hdbg
          · exact ld_blt (X := { sCx X a with pn := X.pn ++ pins }) S3 hg hm hv q hnn hdbg
        refine test (LM.here ?_)
        cases b with
        | true =>
          refine codeAny_handlers_suite_as ?_
          refine HandSPX.lands_againZ fl3 fun h4 fl4 up4 => ?_
          have J4 : Inv X pins σ' H' { s' with heap := h4 } := J.landed nb fl4.1 ((up.trans up3).trans up4) os ag
          obtain ⟨oe4, vs4, he4, hz4, hd4⟩ := fl4.there
          have S4 := inv_sCx (track (o := exq a cls d) J4 na n0 nL nC nP ⟨⟨oe4, he4, hz4, vs4, hd4⟩, ⟨oe4, he4⟩, fun h1 h2 z k => by
            obtain ⟨o, e1, e2⟩ := z
            exact ⟨o, k _ e1, e2⟩⟩) a
          refine store_ok (X := { sCx X a with pn := X.pn ++ pins }) (v := .ref a) S4 hN hi (.inl hln) rfl (fun s5 S5 => ?_) (.inr hln)
          refine wpAny_mono ((hsu a cls d (X.pn ++ pins)).run [] s5 _ _ _ S5 (hyes rfl a na)) (fun f s6 hsp => ?_) (fun _ _ z => False.elim z)
          have end_ : ∀ {σ6 : L2.St} {H6 : Hp} {Q : Shared → Prop}, Inv { sCx X a with pn := X.pn ++ pins } [] σ6 H6 s6 → (∀ s7, Inv X pins (σ6.set c.slot none) H6 s7 → Q s7) →
              wpAny (model X.prog X.w) X.A (do bindName X.env n .none; unbindBehindTheSuite X.env n pos') (fun _ s7 => Q s7) X.xe s6 := fun {σ6 H6 Q} S6 hq => gone_ok (inv_ofS S6 ok) hN hi hln hq
          cases f with
          | next =>
            obtain ⟨σ6, H6, S6, q6⟩ := hsp
            exact end_ S6 fun s7 J7 => ⟨_, _, J7, q6⟩
          | brk =>
            obtain ⟨σ6, H6, S6, q6⟩ := hsp
            exact end_ S6 fun s7 J7 => ⟨_, _, J7, q6⟩
          | cont =>
            obtain ⟨σ6, H6, S6, q6⟩ := hsp
            exact end_ S6 fun s7 J7 => ⟨_, _, J7, q6⟩
          | ret u =>
            obtain ⟨v6, σ6, H6, S6, r6, q6⟩ := hsp
            exact end_ S6 fun s7 J7 => ⟨_, _, _, J7, r6, q6⟩
        | false =>
          show wpAny _ X.A (handleBy (.ref a) X.env hds2) _ _ _
          exact ih (hno rfl)
    exact go hh w
  · cases f with
    | next =>
      obtain ⟨σ', H', J', q⟩ := hsp
      exact wpAny_execs_nil ⟨σ', H', J'.ofTry ok, q⟩
    | brk =>
      obtain ⟨σ', H', J', q⟩ := hsp
      exact ⟨σ', H', J'.ofTry ok, q⟩
    | cont =>
      obtain ⟨σ', H', J', q⟩ := hsp
      exact ⟨σ', H', J'.ofTry ok, q⟩
    | ret u =>
      obtain ⟨v, σ', H', J', r, q⟩ := hsp
      exact ⟨v, σ', H', J'.ofTry ok, r, q⟩
end
/-! ### the caught exception's fields, its class -/
/-- e.f, e a caught exception -/
def tXqf (K : PySem.W.Frag) (te : TE) (f : Str) : TE := fun σ H Q => te σ H fun x H1 => ∃ a C dd fs v, x = .ref a ∧ H1 a = some (exq a (.ref C) (some dd)) ∧ XfC K C ∧ PySem.W.findIn K (.ref C) f = some none ∧ H1 dd = some (.xd fs) ∧ fs.lookup f = some v ∧ Q v H1
theorem pe_xqf {X : Cx} {e : Expr} {te : TE} {pos : Pos} {n : Str} (he : PE X e te) (hb : attributeBase e n X.env (eval e X.env) = eval e X.env := by rfl) : PE X (.Attribute e n pos) (tXqf X.K te n) := by
  refine ⟨fun pins s σ H Q I h => ?_⟩
  refine attr_of hb (thn (he.run pins s σ H _ I h) fun u s1 hh => ?_)
  obtain ⟨x, H1, I1, rx, a, C, dd, fs, v, ex, ea, T, hno, ed, l, q⟩ := hh
  subst ex
  obtain rfl : u = Value.ref a := rx
  obtain ⟨oe, ha, hz, vs, hd⟩ := exq_at I1.hok ea
  have hx : ObjOk X.prog X.w H1 s1.heap dd (.xd fs) := I1.hok dd _ ed
  obtain ⟨mA, hns, hr⟩ := hx
  obtain ⟨od, ho, hl⟩ := lookIn_ns hns
  obtain ⟨u, hu, ru⟩ := RelO.some_of (v := v) (o := mA n) (by rw [← l]; exact hr n)
  have J : PySem.W.InstAt s1.heap a oe C (some od) := ⟨ha, hz.1, by unfold PySem.W.notCls; rw [hd] <;> rfl, by rw [hz.2]; exact ho⟩
  exact HandSPX.exc_get I1.kIn J T.ga T.gg T.exC (PySem.W.findObj_own T.hdC hno rfl (by rw [hl, hu])) (handed_of ru) ⟨v, H1, I1.tok _, ru, q⟩
end Lw
/-! Lw, part Y: defs and methods that may raise. -/
namespace Lw
open PySem PySem.Spec PyProof.Rows L2 LamX
/-- a module's name stands for a def that keeps sp; what it raises, sp tells -/
def KnX (P : Program) (w : World) (K : PySem.W.Frag) (mg : Str → Option Value) (base : Heap) (x : Str) (ps : List Str) (k : Nat) (sp : Sp) : Prop :=
  ∃ f fd, FnOk P w K mg base (L2.CX P w) k f fd ps sp ∧ mg x = some (.ref f) ∧ PySem.W.keepIn K (.ref f) = true ∧ Binds K fd ps []
def KnMX (P : Program) (w : World) (K : PySem.W.Frag) (mg : Str → Option Value) (base : Heap) (C : Addr) (m : Str) (ps : List Str) (k : Nat) (sp : Sp) : Prop :=
  ∃ f fd, Meth K C m f ∧ FnOk P w K mg base (L2.CX P w) k f fd ps sp ∧ Binds K fd ps []
section
variable {P : Program} {w : World} {K : PySem.W.Frag} {mg : Str → Option Value} {base : Heap} {C : Addr}
theorem knX_of {x : Str} {st : Stmt} {N ps : List Str} {k : Nat} {sp : Sp} (F : ∃ f fd, FunD K x x (defArgs st) (defBody st) (defScope st) [] [] f fd ∧ mg x = some (.ref f)) (S : FnScope N ps (defScope st)) (len : ∀ vs H Q E, sp vs H Q E → vs.length = ps.length)
    (hb : ∀ (kV doc pm : Value) (an : Option Addr) (cdv ct : Value) (us : List Value), us.length = ps.length → bindArgs (PySem.W.fnOf x x (defArgs st) (defBody st) (defScope st) .none kV doc pm an cdv ct) ⟨us, []⟩ = pure (ps.zip us))
    (hbody : ∀ (f : Addr) (cdv : Value) (A : Around) (outer : List Env) (s : Shared) (H : Hp) (vs : List V) (Q : VK) (E : XK), Room k (A.deeper (envOfC x (defScope st) s.heap.objs.size f cdv)) → Takes (cxOf (L2.CX P w) P w K mg base N x (defScope st) f cdv A outer s H E) (fun cls d _ H' => E cls d H') → sp vs H Q E →
      ∃ t, PSs (cxOf (L2.CX P w) P w K mg base N x (defScope st) f cdv A outer s H E) (defBody st) t ∧ t { nx := fun _ H' => Q .non H', rt := Q } (start N vs) H) : KnX P w K mg base x ps (k + 1) sp := by
  obtain ⟨f, fd, F, m⟩ := F
  exact ⟨f, fd, F.ok S len (fun cdv A outer s H vs Q E hr h => hbody f cdv A outer s H vs Q E hr (takes_of rfl rfl rfl rfl) h), m, F.kp, F.bindsN hb⟩
theorem knmX_of {m qual : Str} {st : Stmt} {N ps : List Str} {k : Nat} {sp : Sp} (F : ∃ f fd, FunD K m qual (defArgs st) (defBody st) (defScope st) [] [] f fd ∧ Meth K C m f) (S : FnScope N ps (defScope st)) (len : ∀ vs H Q E, sp vs H Q E → vs.length = ps.length)
    (hb : ∀ (kV doc pm : Value) (an : Option Addr) (cdv ct : Value) (us : List Value), us.length = ps.length → bindArgs (PySem.W.fnOf m qual (defArgs st) (defBody st) (defScope st) .none kV doc pm an cdv ct) ⟨us, []⟩ = pure (ps.zip us))
    (hbody : ∀ (f : Addr) (cdv : Value) (A : Around) (outer : List Env) (s : Shared) (H : Hp) (vs : List V) (Q : VK) (E : XK), Room k (A.deeper (envOfC qual (defScope st) s.heap.objs.size f cdv)) → Takes (cxOf (L2.CX P w) P w K mg base N qual (defScope st) f cdv A outer s H E) (fun cls d _ H' => E cls d H') → sp vs H Q E →
      ∃ t, PSs (cxOf (L2.CX P w) P w K mg base N qual (defScope st) f cdv A outer s H E) (defBody st) t ∧ t { nx := fun _ H' => Q .non H', rt := Q } (start N vs) H) : KnMX P w K mg base C m ps (k + 1) sp := by
  obtain ⟨f, fd, F, mt⟩ := F
  exact ⟨f, fd, mt, F.ok S len (fun cdv A outer s H vs Q E hr h => hbody f cdv A outer s H vs Q E hr (takes_of rfl rfl rfl rfl) h), F.bindsN hb⟩
end
/-- what is raised is wished for at the caller's slots -/
def tKx (sp : Sp) (W : WX) (t : TA) : TE := fun σ H Q => t σ H fun vs H1 => sp vs H1 Q fun cls d H' => W cls d σ H'
section
variable {X : Cx} {W : WX} {p pos apos : Pos} {e o : Expr} {es : List Expr} {ta : TE} {t : TA} {k : Nat} {sp : Sp} {ps : List Str}
theorem run_knX {f : Addr} {fd : FuncData} {pins : List (Addr × Obj)} {σ : L2.St} {H : Hp} {s : Shared} {Q : VK} {us : List Value} {vs : List V} (F : FnOk X.prog X.w X.K X.mg X.base (L2.CX X.prog X.w) k f fd ps sp) (hr : Room k X.A) (hb : Binds X.K fd ps []) (tk : Takes X W)
    (I : Inv X pins σ H s) (r : Vals vs us) (h : sp vs H Q fun cls d H' => W cls d σ H') : wpAny (model X.prog X.w) X.A (call (.ref f) us) (EP X pins σ Q) X.xe s := by
  have hl : us.length = ps.length := by rw [← r.length]; exact F.len _ _ _ _ h
  have b := hb s us I.kIn (by rw [List.append_nil]; exact hl)
  rw [List.append_nil] at b
  refine wpAny_call (codeAny_mono (F.run X.A X.stack s H ⟨us, []⟩ us vs Q _ hr I.env0 b r h) fun r s' hq => ?_)
  cases r with
  | error e => exact tk _ _ (XE.of_call I (fun _ _ _ z => z) hq)
  | ok fl =>
    cases fl with
    | ret u => exact I.after hq
    | next => exact False.elim hq
    | brk => exact False.elim hq
    | cont => exact False.elim hq
theorem pe_knX {x : Str} (c : KnX X.prog X.w X.K X.mg X.base x ps k sp) (hr : Room k X.A) (hg : Gl X x) (tk : Takes X W)
    (ha : PA X (e :: es) t) (hdb : (x == ("__debug__" : Str)) = false := by decide) (he : starEach (e :: es) X.env = (false, eval e X.env) :: starEach es X.env := by rfl) (hpl : (backTo pos (starEach es X.env)).any (·.1) = false := by rfl) :
    PE X (.Call (.Name x p) (e :: es) [] pos) (tKx sp W t) := by
  obtain ⟨f, fd, G, m, kp, b⟩ := c
  refine ⟨fun pins s σ H Q I h => ?_⟩
  refine wpAny_Call_Name_kw (ld_glob I hg m ?_ hdb)
  refine PySem.W.callWith_K (h₀ := X.base) I.ok.mod.kin kp (thn (ha.run pos pins s σ H _ I h) fun us s1 ⟨vs, H1, I1, r, q⟩ => ⟨I1.kIn, ?_⟩) he hpl
  exact run_knX G hr b tk I1 r q
/-- o.m(..), o an instance of the class at C -/
def tMethX (C : Addr) (m : Str) (sp : Sp) (W : WX) (ta : TE) (t : TA) : TE := fun σ H Q => ta σ H fun x H1 => Ix C H1 x fun _ _ fs => fs.lookup m = none ∧ t σ H1 fun vs H2 => sp (x :: vs) H2 Q fun cls d H' => W cls d σ H'
theorem pe_kmX {m : Str} {C : Addr} {pl : Sem Bool} (g : KnMX X.prog X.w X.K X.mg X.base C m ps k sp) (c : Cls X.K C) (hr : Room k X.A) (tk : Takes X W) (he : PE X o ta) (ha : PA X (e :: es) t)
    (hst : starEach (e :: es) X.env = (false, eval e X.env) :: starEach es X.env := by rfl) (hpl : (backTo pos (starEach es X.env)).any (·.1) = false := by rfl)
    (ht : eval (.Call (.Attribute o m apos) (e :: es) [] pos) X.env = (do let ov ← eval o X.env; standAt apos.atName; let (f, first) ← holding [ov] (getMethod ov m pl); callWith pos f first (backTo pos (starEach (e :: es) X.env)) (backToKw pos (keywordEach [] X.env))) := by rfl) :
    PE X (.Call (.Attribute o m apos) (e :: es) [] pos) (tMethX C m sp W ta t) := by
  obtain ⟨f, fd, hm, G, b⟩ := g
  refine ⟨fun pins s σ H Q I h => ?_⟩
  refine PySem.W.methodCall_KW (pl := pl) (thn (he.run pins s σ H _ I h) fun u s1 ⟨x, H1, I1, rx, q⟩ => ?_) ht
  obtain ⟨a, dx, fs, ex, ea, l, q⟩ := Ix.out q
  subst ex
  obtain rfl : u = Value.ref a := rx
  refine getmeth_ok I1 ea c hm l ?_
  refine PySem.W.callWith_K (first := [.ref a]) (h₀ := X.base) I.ok.mod.kin hm.kp (thn (ha.run pos pins s1 σ H1 _ I1 q) fun us s2 ⟨vs, H2, I2, r, q2⟩ => ⟨I2.kIn, ?_⟩) hst hpl
  exact run_knX (us := .ref a :: us) (vs := .ref a :: vs) G hr b tk I2 (.cons rfl r) q2
end
/-! ### isinstance of a caught exception -/
section
open PySem.W PySem.Calls
variable {prog : Program} {w : World} {A : Around} {E : Value → Shared → Prop} {s : Shared} {K : Frag} {x D : Addr} {ox : Obj} {od : Option Obj}
theorem find_data {C : Addr} {name : Str} {a g : Value} (hc : (clsIn K C).isSome = true) (ha : findIn K (.ref C) name = some (some a)) (hg : specialIn K a "__get__" = some (some g)) (ht : takesIn K a = some true) : findObj K C od name = some (.bind g a) := by
  obtain ⟨cd, hc⟩ := Option.isSome_iff_exists.mp hc
  unfold findObj
  rw [hc, Option.bind_some, ha, Option.bind_some]
  simp [hg, ht]
theorem exc_class {Q : Option Value → Shared → Prop} (T : ExcC K D) (X : K.In s.heap) (I : InstAt s.heap x ox D od) (h : Q (some (.ref D)) { s with toks := s.toks + 1 }) : wpAny (model prog w) A (getAttr? (.ref x) "__class__") Q E s := by
  have hf : findObj K D od "__class__" = some (.bind (.builtin "getset_descriptor.__get__") (.builtin "object.__class__")) := find_data (by obtain ⟨cd, hc, _⟩ := any_some T.hd; rw [hc]; rfl) T.ha T.hn T.ht
  obtain ⟨hp, g, d, t, os⟩ := s
  have L0 := I.type (M := model prog w)
  have L1 := looks_findIn (M := model prog w) X T.hg
  have L2 := looks_findIn (M := model prog w) X T.hk
  have L3 := looks_find (M := model prog w) X I hf
  have sub : Looks (model prog w) hp (isInstance (.ref x) (.type "BaseException")) true := L0.andThen (looks_subIn X T.hs)
  have hx0 : (false && onTheHeap (Value.builtin "BaseException.__getattribute__")) = false := rfl
  have hx2 : (Value.builtin "BaseException.__getattribute__" == Value.builtin "object.__getattribute__") = false := by decide +kernel
  have hx1 : (onTheHeap (Value.ref D) && Value.builtin "BaseException.__getattribute__" == Value.builtin "object.__getattribute__") = false := by rw [hx2]; rfl
  unfold getAttr? getAttrBy? getAttrBy
  refine wpAny_bind (wpAny_mkText (wpAny_bind (wpAny_attempt (wpAny_holding (wpAny_bind (L0.at (wpAny_bind (L1.at ?_))))))))
  show wpAny _ _ (if (onTheHeap (Value.ref D) && Value.builtin "BaseException.__getattribute__" == Value.builtin "object.__getattribute__") = true then _ else _) _ _ _
  rw [hx1, if_neg Bool.false_ne_true]
  unfold getAttrByItsOwn hookBefore
  refine wpAny_bind ?_
  rw [if_pos (show onTheHeap (Value.ref D) = true from rfl)]
  refine L2.at ?_
  refine wpAny_bind (wpAny_attempt (wpAny_holding ?_))
  unfold callGetattribute
  rw [hx0, if_neg Bool.false_ne_true]
  unfold boundAndCalled
  rw [PySem.F.excAttr_ValueError.ga.bind (.ref x)]
  refine wpAny_bind (wpAny_pure ?_)
  show wpAny _ _ (call (.builtin "BaseException.__getattribute__") [.ref x, .str "__class__" t]) _ _ _
  refine wpAny_call (codeAny_call_builtin PySem.F.excAttr_ValueError.ga.plain PySem.F.entry_bexc_ga ?_)
  refine @check_slot (model prog w) _ _ ⟨hp, g, d, t + 1, os⟩ "BaseException.__getattribute__" "BaseException" "__getattribute__" (.ref x) [.str "__class__" t] [] _ (by decide +kernel) (by decide +kernel) sub (PySem.F.args_bexc_ga (.ref x) (.str "__class__" t)) ?_
  unfold Builtin.«object.__getattribute__»
  refine wpAny_bind (wpAny_of_eq (a := ((Value.ref x : Value), [Value.str "__class__" t])) (by first | rfl | (simp only [slotArgs]; rfl)) ?_)
  refine wpAny_bind (wpAny_pure (wpAny_bind (L0.at (wpAny_bind (L3.at ?_)))))
  show wpAny _ _ (holding [Value.builtin "object.__class__"] (call (.builtin "getset_descriptor.__get__") [.builtin "object.__class__", .ref x, .ref D]) >>= ret) _ _ _
  refine wpAny_bind (wpAny_holding (wpAny_call (class_get (s := ⟨hp, g, d, t + 1, os⟩) (ox := ox) (od := od) X I T.hm ?_)))
  refine wpAny_pure ?_
  show wpAny _ _ (handedOut (.ref D)) _ _ _
  rw [handedOut_of (v := .ref D) rfl]
  first
    | exact wpAny_pure (wpAny_pure h)
    | exact wpAny_pure h
    | exact wpAny_pure (wpAny_bind (wpAny_pure (wpAny_pure h)))
theorem kitx_err (T : ExcC K D) : KitX K (.ref x) (.ref D) (fun h => ∃ od, InstAt h x ox D od) where
  ty := fun _ _ _ ⟨_, I⟩ => I.type
  it := fun _ _ X _ => by
    obtain ⟨cdD, hcD, _⟩ := any_some T.hd
    unfold clsIn at hcD
    split at hcD
    · rename_i c' d' cd' sl' ho
      intro A' Q' E' s' k q
      unfold isType loadHead
      exact wpAny_bind (wpAny_loadPart (k _ _ (X _ _ ho)) (wpAny_pure q))
    · cases hcD
  ne := fun h tp dd its n sl X htp => by
    obtain ⟨cdD, hcD, _⟩ := any_some T.hd
    refine Bool.eq_false_iff.mpr fun q => ?_
    have e : D = tp := Value.ref.inj (beq_iff_eq.mp q)
    subst e
    unfold clsIn at hcD
    split at hcD
    · rename_i c' d' cd' sl' ho
      have z := (X _ _ ho).symm.trans htp
      cases z
    · cases hcD
  ca := fun X ⟨_, I⟩ k => exc_class T X I k
end
/-- isinstance(e, c), e a caught exception -/
def rIsQ (K : PySem.W.Frag) : List V → Hp → VK → Prop := fun xs H Q => ∃ (a D : Addr) (d : Option Addr) (fs : List (Str × V)) (c : V) (cv : Value) (b : Bool), xs = [.ref a, c] ∧ H a = some (exq a (.ref D) d) ∧ (∀ dd, d = some dd → H dd = some (.xd fs)) ∧ ExcC K D ∧ (∀ u, RelV c u → u = cv) ∧ PySem.W.kitOne K (.ref D) cv = some b ∧ Q (.bl b) H
theorem call_isQ {X : Cx} : CallR X (.builtin "isinstance") (rIsQ X.K) := by
  intro pins s σ H xs us Q I r h
  obtain ⟨a, D, d, fs, c, cv, b, rfl, ea, ed, T, hcv, e, q⟩ := h
  cases r with
  | cons rx rr =>
    cases rr with
    | cons rt rr =>
      cases rr
      cases rx
      have ec := hcv _ rt
      subst ec
      obtain ⟨oe, hget, hz, vs, hv⟩ := exq_at I.hok ea
      have J : ∃ od, PySem.W.InstAt s.heap a oe D od := by
        cases d with
        | none => exact ⟨none, hget, hz.1, by unfold PySem.W.notCls; rw [hv] <;> rfl, by rw [hz.2]; trivial⟩
        | some dd =>
          have hx : ObjOk X.prog X.w H s.heap dd (.xd fs) := I.hok dd _ (ed dd rfl)
          obtain ⟨mA, hns, _⟩ := hx
          obtain ⟨od, ho, _⟩ := lookIn_ns hns
          exact ⟨some od, hget, hz.1, by unfold PySem.W.notCls; rw [hv] <;> rfl, by rw [hz.2]; exact ho⟩
      exact PySem.W.kia_one (kitx_err T) I.kIn J e (fun z => nomatch z) fun tk => ⟨.bl b, H, I.kept (t' := tk) fun _ _ z => z, rfl, q⟩
/-- in a lambda's body -/
theorem takes_lam {X : Cx} {A : Around} {outer : List Env} {s : Shared} {H : Hp} {E : XK} {scope : Scope} {f c' : Addr} : Takes (lamCx X A outer s H E scope f c') (fun cls d _ H' => E cls d H') := takes_of rfl rfl rfl rfl
end Lw
/-! Lw, part Z: classes of errors as facts, their making in short form. -/
namespace Lw
open PySem PySem.Spec PyProof.Rows L2 LamX
theorem passesF {X : Cx} : Passes (L2.CX X.prog X.w) X (fun _ _ _ => False) := fun pins σ H s e s' I c => by
  obtain ⟨_, _, _, _, _, _, _, _, _, _, _, _, z⟩ := c
  exact z.elim
/-- C's own __init__ hands self to its base's and stores what it got under these names -/
def spEI (K : PySem.W.Frag) (newId : String) (tail : List Value) (ns : List Str) : Sp := fun vs H Q _ => ∃ (a C : Addr) (ws : List V), vs = .ref a :: ws ∧ ws.length = ns.length ∧ ErrC K C newId tail ∧ (∀ f ∈ ns, PySem.W.findIn K (.ref C) f = some none) ∧ H a = some (exo a C none) ∧
  ∀ d, H d = none → d ≠ a → Q .non (upd (upd H d (exd d (ns.zip ws).reverse)) a (exo a C (some d)))
theorem upd_del {H : Hp} {a d : Addr} {o1 o2 o3 o4 : HO} (ha : H a = none) (n : d ≠ a) : upd (del (upd (upd (upd H a o1) d o2) a o3) a) d o4 = upd H d o4 := by
  funext b
  by_cases h1 : b = d
  · rw [h1, upd_same, upd_same]
  · rw [upd_ne h1, upd_ne h1]
    by_cases h2 : b = a
    · rw [h2, del_same, ha]
    · rw [del_ne h2, upd_ne h2, upd_ne h1, upd_ne h2]
/-- C(e, ..): an error with these fields -/
def tMkF (C : Addr) (ns : List Str) (ta : TA) : L2.St → Hp → XK → Prop := fun σ H Q => ta σ H fun vs H1 => vs.length = ns.length ∧ ∀ d, H1 d = none → Q (.ref C) (some d) (upd H1 d (.xd (ns.zip vs).reverse))
/-- an own error with an own __init__ -/
structure ErrK (P : Program) (w : World) (K : PySem.W.Frag) (mg : Str → Option Value) (base : Heap) (x : Str) (C : Addr) (ns : List Str) (newId initId : String) (tail : List Value) (B : String) : Prop where
  eb : ErrB B newId initId tail
  ec : ErrC K C newId tail
  few : ns.length ≤ 900
  fi : ∃ (f : Addr) (fd : FuncData), PySem.W.findIn K (.ref C) "__init__" = some (some (.ref f)) ∧ PySem.W.typeIn K (.ref f) = some (.type "function") ∧ FnOk P w K mg base (L2.CX P w) 2 f fd ("self" :: ns) (spEI K newId tail ns) ∧ Binds K fd ("self" :: ns) []
  no : ∀ f ∈ ns, PySem.W.findIn K (.ref C) f = some none
  m : mg x = some (.ref C)
theorem PA.up {X : Cx} {es : List Expr} {t : TA} (h : PA X es t) : PA X es (fun σ H Q => ∃ Q0 : List V → Hp → Prop, t σ H Q0 ∧ ∀ xs H1, Q0 xs H1 → Q xs H1) :=
  ⟨fun pos pins s σ H Q I ⟨Q0, q, w⟩ => thn (h.run pos pins s σ H Q0 I q) fun u s1 ⟨v, H1, I1, r, z⟩ => ⟨v, H1, I1, r, w _ _ z⟩⟩
theorem pmk_fs {X : Cx} {x : Str} {C : Addr} {ns : List Str} {newId initId : String} {tail : List Value} {Bn : String} {e : Expr} {es : List Expr} {ta : TA} {p pos : Pos} (T : ErrK X.prog X.w X.K X.mg X.base x C ns newId initId tail Bn) (hr : Room 3 X.A) (hg : Gl X x) (ha : PA X (e :: es) ta)
    (hdb : (x == ("__debug__" : Str)) = false := by decide) (he : starEach (e :: es) X.env = (false, eval e X.env) :: starEach es X.env := by rfl) (hpl : (backTo pos (starEach es X.env)).any (·.1) = false := by rfl) : PMk X (.Call (.Name x p) (e :: es) [] pos) (tMkF C ns ta) := by
  obtain ⟨f, fd, iC, tI, F1, hb⟩ := T.fi
  have few := T.few
  have key := pmk_err (pos := pos) (p := p) T.eb T.ec iC tI F1 hr hb .nil passesF hg T.m (ha := PA.up ha) hdb he hpl
  intro pins s σ H Q I h
  refine key pins s σ H Q I ⟨_, h, fun vs H1 q => ?_⟩
  obtain ⟨hl, q⟩ := q
  refine ⟨by omega, fun a ha => ?_⟩
  rw [List.append_nil]
  refine ⟨a, C, vs, rfl, hl, T.ec, T.no, upd_same, fun d hd hne => ⟨rfl, d, (ns.zip vs).reverse, upd_same, ?_, ?_, ?_⟩⟩
  · rw [upd_ne hne, upd_same]
  · rw [upd_ne hne] at hd
    exact hd
  · rw [upd_del ha hne]
    refine q d ?_
    rw [upd_ne hne] at hd
    exact hd
/-! ### as Bools of what the written part says -/
def errCB (K : PySem.W.Frag) (C : Addr) (newId : String) (tail : List Value) : Bool := (match K.lookup C with
  | some ⟨.type "type", _, .cls cd, sl⟩ => (match cd.mro, sl.toList with
    | .ref C' :: bm, [_, _, _, _, some (.builtin n), _] => decide (C' = C) && (decide (n = newId) && (!cd.hasDel && (cd.hasDict && endsIn tail bm)))
    | _, _ => false)
  | _ => false) && (decide (PySem.W.findIn K (.ref C) "__setattr__" = some (some (.builtin "object.__setattr__"))) && (decide (PySem.W.subIn K (.ref C) (.type "BaseException") = some true) && (decide (PySem.W.typeIn K (.ref C) = some (.type "type")) && PySem.W.keepIn K (.ref C))))
theorem errCB_ok {K : PySem.W.Frag} {C : Addr} {newId : String} {tail : List Value} (h : errCB K C newId tail = true) : ErrC K C newId tail := by
  obtain ⟨h1, h⟩ := Bool.and_eq_true_iff.mp h
  obtain ⟨h2, h⟩ := Bool.and_eq_true_iff.mp h
  obtain ⟨h3, h⟩ := Bool.and_eq_true_iff.mp h
  obtain ⟨h4, h5⟩ := Bool.and_eq_true_iff.mp h
  refine ⟨?_, of_decide_eq_true h2, of_decide_eq_true h3, of_decide_eq_true h4, h5⟩
  split at h1
  · rename_i dd cd sl ho
    split at h1
    · rename_i C' bm k0 k1 k2 k3 n k5 hm hs
      obtain ⟨a1, h1⟩ := Bool.and_eq_true_iff.mp h1
      obtain ⟨a2, h1⟩ := Bool.and_eq_true_iff.mp h1
      obtain ⟨a3, h1⟩ := Bool.and_eq_true_iff.mp h1
      obtain ⟨a4, a5⟩ := Bool.and_eq_true_iff.mp h1
      have e1 := of_decide_eq_true a1
      have e2 := of_decide_eq_true a2
      have e3 : cd.hasDel = false := by simpa using a3
      obtain ⟨nm, bs, mro, ns, qn, hd, sn, sub, ab, col, del⟩ := cd
      dsimp only at hm e3 a4
      subst hm e3 a4 e1 e2
      have hsl : sl = #[k0, k1, k2, k3, some (.builtin n), k5] := by
        obtain ⟨l⟩ := sl
        simp only at hs
        rw [hs]
      subst hsl
      exact ⟨nm, qn, ns, bs, bm, sn, sub, ab, col, dd, k0, k1, k2, k3, k5, ho, a5⟩
    · cases h1
  · cases h1
/-- what is asked of a caught exception of this class -/
def excCB (K : PySem.W.Frag) (D : Addr) : Bool := decide (PySem.W.findIn K (.ref D) "__getattribute__" = some (some (.builtin "BaseException.__getattribute__"))) && (decide (PySem.W.findIn K (.ref D) "__getattr__" = some none) && (decide (PySem.W.subIn K (.ref D) (.type "BaseException") = some true) && (PySem.W.hasDictIn K D &&
  (decide (PySem.W.findIn K (.ref D) "__class__" = some (some (.builtin "object.__class__"))) && (decide (PySem.W.specialIn K (.builtin "object.__class__") "__get__" = some (some (.builtin "getset_descriptor.__get__"))) && (decide (PySem.W.takesIn K (.builtin "object.__class__") = some true) && decide (PySem.W.mroIn K D (.type "object") = some true)))))))
theorem excCB_ok {K : PySem.W.Frag} {D : Addr} (h : excCB K D = true) : ExcC K D ∧ XfC K D := by
  obtain ⟨h1, h⟩ := Bool.and_eq_true_iff.mp h
  obtain ⟨h2, h⟩ := Bool.and_eq_true_iff.mp h
  obtain ⟨h3, h⟩ := Bool.and_eq_true_iff.mp h
  obtain ⟨h4, h⟩ := Bool.and_eq_true_iff.mp h
  obtain ⟨h5, h⟩ := Bool.and_eq_true_iff.mp h
  obtain ⟨h6, h⟩ := Bool.and_eq_true_iff.mp h
  obtain ⟨h7, h8⟩ := Bool.and_eq_true_iff.mp h
  exact ⟨⟨of_decide_eq_true h1, of_decide_eq_true h2, of_decide_eq_true h3, h4, of_decide_eq_true h5, of_decide_eq_true h6, of_decide_eq_true h7, of_decide_eq_true h8⟩, ⟨of_decide_eq_true h1, of_decide_eq_true h2, of_decide_eq_true h3, h4⟩⟩
/-- C.__init__ is the built-in one's -/
def initB (K : PySem.W.Frag) (C : Addr) (initId : String) : Bool := PySem.W.readsIn K C (.type "type") && (decide (PySem.W.specialIn K (.ref C) "__getattribute__" = some (some (.builtin "type.__getattribute__"))) && (match PySem.W.findCls K (.ref C) (.type "type") "__init__" with
  | some (.val (.builtin n)) => decide (n = initId)
  | _ => false))
theorem initB_ok {K : PySem.W.Frag} {C : Addr} {initId : String} (h : initB K C initId = true) : PySem.W.readsIn K C (.type "type") = true ∧ PySem.W.specialIn K (.ref C) "__getattribute__" = some (some (.builtin "type.__getattribute__")) ∧ PySem.W.findCls K (.ref C) (.type "type") "__init__" = some (.val (.builtin initId)) := by
  obtain ⟨h1, h⟩ := Bool.and_eq_true_iff.mp h
  obtain ⟨h2, h3⟩ := Bool.and_eq_true_iff.mp h
  refine ⟨h1, of_decide_eq_true h2, ?_⟩
  split at h3
  · rename_i n e
    rw [e, of_decide_eq_true h3]
  · cases h3
/-- C's own __init__ is the def at f -/
def ownInitB (K : PySem.W.Frag) (C f : Addr) (ns : List Str) : Bool := decide (PySem.W.findIn K (.ref C) "__init__" = some (some (.ref f))) && (decide (PySem.W.typeIn K (.ref f) = some (.type "function")) && ns.all fun n => decide (PySem.W.findIn K (.ref C) n = some none))
theorem ownInitB_ok {K : PySem.W.Frag} {C f : Addr} {ns : List Str} (h : ownInitB K C f ns = true) : PySem.W.findIn K (.ref C) "__init__" = some (some (.ref f)) ∧ PySem.W.typeIn K (.ref f) = some (.type "function") ∧ ∀ n ∈ ns, PySem.W.findIn K (.ref C) n = some none := by
  obtain ⟨h1, h⟩ := Bool.and_eq_true_iff.mp h
  obtain ⟨h2, h3⟩ := Bool.and_eq_true_iff.mp h
  exact ⟨of_decide_eq_true h1, of_decide_eq_true h2, fun n hn => of_decide_eq_true (List.all_eq_true.mp h3 n hn)⟩
theorem hin_Value : PySem.W.handedIn (.builtin "ValueError.__init__") = true := by decide +kernel
theorem hin_Index : PySem.W.handedIn (.builtin "IndexError.__init__") = true := by decide +kernel
theorem hin_Runtime : PySem.W.handedIn (.builtin "RuntimeError.__init__") = true := by decide +kernel
theorem hin_Overflow : PySem.W.handedIn (.builtin "OverflowError.__init__") = true := by decide +kernel
theorem ty_Index : typeOf (.type "IndexError") = pure (.type "type") := by kernel_rfl
theorem ty_Runtime : typeOf (.type "RuntimeError") = pure (.type "type") := by kernel_rfl
theorem ty_Overflow : typeOf (.type "OverflowError") = pure (.type "type") := by kernel_rfl
theorem fc_Index (K : PySem.W.Frag) : PySem.W.findCls K (.type "IndexError") (.type "type") "__init__" = some (.val (.builtin "IndexError.__init__")) := by kernel_rfl
theorem fc_Runtime (K : PySem.W.Frag) : PySem.W.findCls K (.type "RuntimeError") (.type "type") "__init__" = some (.val (.builtin "RuntimeError.__init__")) := by kernel_rfl
theorem fc_Overflow (K : PySem.W.Frag) : PySem.W.findCls K (.type "OverflowError") (.type "type") "__init__" = some (.val (.builtin "OverflowError.__init__")) := by kernel_rfl
end Lw
/-! Lw, part H: the Hook with tables over any list of addresses; the interpreter's own statics are among them. -/
namespace Lw
open PySem PySem.Spec PyProof.Rows L2 LamX He
abbrev AsF : Type := (Addr → Option Obj) → List Addr
/-- what the names reach in n steps, and the statics -/
def asS (n : Nat) : AsF := fun g => He.asD g n ++ [cStatics]
def obsW (as : AsF) (fa : List Fa) (fn : List DefD) (ts : List Tab) (tf : List Defn) (ex : PySem.W.Frag → Bool) (g : Addr → Option Obj) : AlX :=
  (obsT fa fn ts (frT g (as g)), ex (frT g (as g)) && tabsB g tf (frT g (as g)))
theorem saysW_of {as : AsF} {fa : List Fa} {fn : List DefD} {ts : List Tab} {tf : List Defn} {ex : PySem.W.Frag → Bool} {w : World} {h : Heap} (e : obsW as fa fn ts tf ex h.get? = valX fn ts w) : SaysX fa fn ts tf ex w h (frT h.get? (as h.get?)) := by
  have e2 : (ex (frT h.get? (as h.get?)) && tabsB h.get? tf (frT h.get? (as h.get?))) = true := congrArg (fun z : AlX => z.2) e
  obtain ⟨h1, h2⟩ := Bool.and_eq_true_iff.mp e2
  have at_ : ∀ p ∈ tf, PySem.W.codeHdIn (frT h.get? (as h.get?)) (cT (frT h.get? (as h.get?)) p).1 (cT (frT h.get? (as h.get?)) p).2 = true ∧ ∃ o, h.get? (cT (frT h.get? (as h.get?)) p).2 = some o ∧ emptyTab o = true := fun p hp => by
    obtain ⟨a, b⟩ := Bool.and_eq_true_iff.mp (List.all_eq_true.mp h2 p hp)
    refine ⟨a, ?_⟩
    split at b
    · rename_i o q
      exact ⟨o, q, b⟩
    · cases b
  refine ⟨congrArg (fun z : AlX => z.1) e, h1, fun p hp => (at_ p hp).1, fun p hp => ?_, fun p hp => ?_⟩
  · obtain ⟨_, o, q, z⟩ := at_ p hp
    exact frT_none q z
  · obtain ⟨_, o, q, z⟩ := at_ p hp
    rw [q, emptyTab_eq z]
def hookW (as : AsF) (fa : List Fa) (fn : List DefD) (ts : List Tab) (tf : List Defn) (ex : PySem.W.Frag → Bool) : PySem.W.Hook where
  α := AlX
  obs := fun s => obsW as fa fn ts tf ex s.heap.get?
  val := fun w => valX fn ts w
  says := fun w h => ∃ K : PySem.W.Frag, K.In h ∧ SaysX fa fn ts tf ex w h K
  of := fun _ _ e => ⟨_, frT_in, saysW_of e⟩
  keeps := fun _ _ _ ⟨K, hK, c⟩ k => ⟨K, PySem.W.Frag.In.keeps hK k, ⟨c.t, c.more, c.hd, c.out, fun p hp => k _ _ (c.empty p hp)⟩⟩
theorem obsW_eq {as : AsF} {fa : List Fa} {fn : List DefD} {ts : List Tab} {tf : List Defn} {ex : PySem.W.Frag → Bool} {g : Addr → Option Obj} {s : Shared} (h : ∀ a, g a = s.heap.get? a) : obsW as fa fn ts tf ex g = (hookW as fa fn ts tf ex).obs s := by
  have e : g = s.heap.get? := funext h
  rw [e]
  rfl
end Lw
namespace K32
open PySem PySem.Spec PyProof.Rows L2 Lw
/-! ### the text by places -/
def topS (i : Nat) : Stmt := PySem.Challenge.pw_fewestsent_k32_stores_refuse.main.body.getD i (.Pass ⟨0, 0, 0, 0⟩)
abbrev sIsWhole : Stmt := topS 7
abbrev sDivisor : Stmt := topS 8
abbrev sIsNumber : Stmt := topS 9
abbrev sIsWorth : Stmt := topS 10
abbrev sIsFrom : Stmt := topS 15
abbrev sLookSizes : Stmt := topS 16
abbrev sBlocks : Stmt := topS 17
abbrev sWhole : Stmt := topS 19
abbrev sSame : Stmt := topS 20
abbrev sPool : Stmt := topS 21
abbrev sTake : Stmt := topS 22
abbrev sOne : Stmt := topS 23
abbrev sMzStore : Stmt := topS 24
abbrev sMzAsked : Stmt := topS 25
abbrev sMzWritten : Stmt := topS 26
abbrev sMzShown : Stmt := topS 27
abbrev sSrHeard : Stmt := topS 28
abbrev sSrMade : Stmt := topS 29
abbrev sSrShown : Stmt := topS 30
abbrev sSrDoors : Stmt := topS 31
abbrev sSrCells : Stmt := topS 32
abbrev sLaw : Stmt := topS 33
abbrev sNlInit : Stmt := inClass (topS 4) 0
abbrev sNcInit : Stmt := inClass (topS 5) 0
abbrev sInit : Stmt := inClass (topS 17) 0
abbrev sSizes : Stmt := inClass (topS 17) 1
abbrev sLookCell : Stmt := inClass (topS 17) 2
abbrev sFetch : Stmt := inClass (topS 17) 3
abbrev sPutAway : Stmt := inClass (topS 17) 4
abbrev sWrite : Stmt := inClass (topS 17) 5
abbrev sRead : Stmt := inClass (topS 17) 6
abbrev sSeen : Stmt := inClass (topS 17) 7
abbrev sFlush : Stmt := inClass (topS 17) 8
abbrev sWithin : Stmt := inClass (topS 17) 9
abbrev sWritten : Stmt := inClass (topS 17) 10
abbrev sCounts : Stmt := inClass (topS 17) 11
abbrev sWorths : Stmt := inClass (topS 17) 12
abbrev sLen : Stmt := inClass (topS 17) 14
local macro_rules | `(tactic| walk_at "ev") => `(tactic| simp only [cxOf, rIsiF, Tz_non, Tz_bl, Tz_int, Tz_str, Cl7_int, Cl7_bool, Cl7_str, Cl7_list, Cl7_tuple, Cl7_dict, T7.isa, iListF, iTupF, cpow12, cpow60, tFor_eq, tLc_eq, iRng1, iRng2, wipe, Cx.nox, Cx.wish, tSeq, tIfS, tTest, tOp, tVar, tC, tRet, tRetN, tCB, tCons, tNil, tB, tNot, tAnd, tOr, tAndV, tOrV, tNotV, tIf, rEq, rNe, scal_ii, scal_bb, scal_ss, scal_nn, scal_si, scal_is, scal_in, scal_ni, Bool.or_true, Bool.true_or, Bool.or_false, Bool.false_or, Bool.and_true, Bool.true_and, Bool.and_false, Bool.false_and, rI, rI0, rU, tUn, t2I, tAsg, gName, tPar, tDrop, tLst, tTup, tCall, tNext, tBreak, tCont, tAug, rAdd, gTup, gTupF, gCons, gNil, gSub, rIxF, rLenF, rSetF, rAppF, rExtF, rPop0, rRemF, rInF, rDUpd, Nt_int, Op_some, Ky_int, Ky_str,
  List.map_cons, List.map_nil, List.cons_append, List.nil_append, List.append_nil, List.getElem?_cons_zero, List.getElem?_cons_succ, List.set_cons_zero, List.set_cons_succ, List.length_cons, List.length_nil, Option.some.injEq, exists_eq_left', exists_eq_left, exists_eq_right, V.int.injEq, V.ref.injEq, V.bl.injEq, V.str.injEq, V.ty.injEq, List.cons.injEq, and_true, true_and, and_assoc, reduceCtorEq, decide_eq_true_eq, decide_true, decide_false, if_true, if_false, ite_true, ite_false, Bool.false_eq_true, false_and, and_false, exists_false, exists_const, or_false, false_or, Bool.not_eq_true', decide_eq_false_iff_not, List.replicate_succ, List.replicate_zero, Nat.reduceSub, Nat.reduceAdd, Int.reducePow, Int.reduceNeg, exists_and_left, exists_and_right, atI_0, atI_1, atI_2, ixN_0, ixN_1, ixN_2, L2.start, upd_upd, Sq_upd, Sq_updT, Tp_upd, Ls_upd, Dk_upd, Int.reduceLT, Int.reduceLE, Nat.reduceLT, Nat.reduceLeDiff, forall_eq', forall_eq, id, Int.zero_add, Bool.not_true, Bool.not_false, not_true_eq_false, not_false_eq_true, ne_eq])
/-! ### short words of our own -/
/-- a def without defaults that stands in the module under its name -/
def Def1 (K : PySem.W.Frag) (mg : Str → Option Value) (x : Str) (st : Stmt) : Prop :=
  ∃ f fd, FunD K x x (defArgs st) (defBody st) (defScope st) [] [] f fd ∧ mg x = some (.ref f)
/-- a module's name stands for a def that keeps the promise sp -/
def Kn (P : Program) (w : World) (K : PySem.W.Frag) (mg : Str → Option Value) (base : Heap) (x : Str) (ps : List Str) (k : Nat) (sp : Sp) : Prop :=
  ∃ f fd, FnOk P w K mg base CX0 k f fd ps sp ∧ mg x = some (.ref f) ∧ PySem.W.keepIn K (.ref f) = true ∧ Binds K fd ps []
section
variable {P : Program} {w : World} {K : PySem.W.Frag} {mg : Str → Option Value} {base : Heap}
theorem Kn.imp {x : Str} {ps : List Str} {k : Nat} {sp sp' : Sp} (c : Kn P w K mg base x ps k sp) (h : ∀ vs H Q E, sp' vs H Q E → sp vs H Q E) : Kn P w K mg base x ps k sp' := by
  obtain ⟨f, fd, G, r⟩ := c
  exact ⟨f, fd, G.imp h, r⟩
theorem Kn.mono {x : Str} {ps : List Str} {j k : Nat} {sp : Sp} (c : Kn P w K mg base x ps j sp) (h : j ≤ k) : Kn P w K mg base x ps k sp := by
  obtain ⟨f, fd, G, r⟩ := c
  exact ⟨f, fd, G.mono h, r⟩
theorem kn_of {x : Str} {st : Stmt} {N ps : List Str} {k : Nat} {sp : Sp} (F : Def1 K mg x st) (S : FnScope N ps (defScope st)) (len : ∀ vs H Q E, sp vs H Q E → vs.length = ps.length)
    (hb : ∀ (kV doc pm : Value) (an : Option Addr) (cdv ct : Value) (us : List Value), us.length = ps.length → bindArgs (PySem.W.fnOf x x (defArgs st) (defBody st) (defScope st) .none kV doc pm an cdv ct) ⟨us, []⟩ = pure (ps.zip us))
    (hbody : ∀ (f : Addr) (cdv : Value) (A : Around) (outer : List Env) (s : Shared) (H : Hp) (vs : List V) (Q : VK) (E : XK), Room k (A.deeper (envOfC x (defScope st) s.heap.objs.size f cdv)) → sp vs H Q E →
      ∃ t, PSs (cxOf CX0 P w K mg base N x (defScope st) f cdv A outer s H E).nox (defBody st) t ∧ t { nx := fun _ H' => Q .non H', rt := Q } (start N vs) H) : Kn P w K mg base x ps (k + 1) sp := by
  obtain ⟨f, fd, F, m⟩ := F
  refine ⟨f, fd, F.ok S len (fun cdv A outer s H vs Q E hr hsp => ?_), m, F.kp, F.bindsN hb⟩
  obtain ⟨t, h, q⟩ := hbody f cdv A outer s H vs Q E hr hsp
  exact ⟨t, h.nox, q⟩
end
theorem pe_kn {X : Cx} {x : Str} {ps : List Str} {k : Nat} {sp : Sp} {p pos : Pos} {e : Expr} {es : List Expr} {t : TA} (c : Kn X.prog X.w X.K X.mg X.base x ps k sp) (hr : Room k X.A) (hg : Gl X x)
    (ha : PA X (e :: es) t) (hdb : (x == ("__debug__" : Str)) = false := by decide) (he : starEach (e :: es) X.env = (false, eval e X.env) :: starEach es X.env := by rfl) (hpl : (backTo pos (starEach es X.env)).any (·.1) = false := by rfl) :
    PE X (.Call (.Name x p) (e :: es) [] pos) (tCall sp [] E0 t) := by
  obtain ⟨f, fd, G, m, kp, b⟩ := c
  exact pe_call G hr hg m kp b .nil pass0 ha hdb he hpl
theorem pe_kn0 {X : Cx} {x : Str} {ps : List Str} {k : Nat} {sp : Sp} {p pos : Pos} (c : Kn X.prog X.w X.K X.mg X.base x ps k sp) (hr : Room k X.A) (hg : Gl X x)
    (hdb : (x == ("__debug__" : Str)) = false := by decide) : PE X (.Call (.Name x p) [] [] pos) (tCall sp [] E0 tNil) := by
  obtain ⟨f, fd, G, m, kp, b⟩ := c
  exact pe_call0 G hr hg m kp b .nil pass0 hdb
/-- the built-ins' names stand for themselves -/
structure Bt (mg : Str → Option Value) : Prop where
  len : mg "len" = none
  int : mg "int" = none
  isinstance : mg "isinstance" = none
  bool : mg "bool" = none
  str : mg "str" = none
  tuple : mg "tuple" = none
  list : mg "list" = none
  range : mg "range" = none
  max : mg "max" = none
  min : mg "min" = none
  set : mg "set" = none
section
variable {P : Program} {w : World} {K : PySem.W.Frag} {mg : Str → Option Value} {base : Heap}
/-! ### _law_yq_is_whole -/
def spWhole : Sp := fun vs H Q _ => match vs with
  | [v] => Tz H v fun t => Q (.bl (decide (t = .int))) H
  | _ => False
theorem scWhole : FnScope ["thing"] ["thing"] (defScope sWhole) := ⟨rfl, rfl, rfl, by decide +kernel, rfl, by decide +kernel, by decide +kernel⟩
theorem ok_whole (F : Def1 K mg "_law_yq_is_whole" sWhole) (T : Bt mg) : Kn P w K mg base "_law_yq_is_whole" ["thing"] 1 spWhole := by
  refine kn_of F scWhole (fun vs H Q E h => ?_) (fun _ _ _ _ _ _ us hl => match us, hl with | [_], _ => rfl) (fun f cdv A outer s H vs Q E hr h => ?_)
  · unfold spWhole at h
    split at h
    · rfl
    · exact h.elim
  · unfold spWhole at h
    split at h
    · rename_i v
      refine ⟨_, (pss_one (ps_ret (pe_and (pe_callB call_isiF (by rfl) T.isinstance (by decide +kernel) (pa_cons (pv 0) (pa_cons (pe_bltn (v := .ty "int") (by rfl) T.int (by decide +kernel) rfl) pa_nil))) (pe_one (pe_not (pe_callB call_isiF (by rfl) T.isinstance (by decide +kernel) (pa_cons (pv 0) (pa_cons (pe_bltn (v := .ty "bool") (by rfl) T.bool (by decide +kernel) rfl) pa_nil)))))))), ?_⟩
      walk_at "ev"
      unfold Tz at h ⊢
      split at h <;> (try split at h) <;> (try exact h.elim) <;> walk_at "ev" <;> first | exact h | (simp only [*]; exact h)
    · exact h.elim
/-! ### _law_yq_same -/
def spSame : Nat → Sp
  | 0 => fun _ _ _ _ => False
  | n + 1 => fun vs H Q _ => ∃ v u d, vs = [v, u] ∧ Dq H v d ∧ Dq H u d ∧ okd n d = true ∧ Q (.bl true) H
theorem scSame : FnScope ["heard_one", "owed", "at"] ["heard_one", "owed"] (defScope sSame) := ⟨rfl, rfl, rfl, by decide +kernel, rfl, by decide +kernel, by decide +kernel⟩
theorem ok_same (F : Def1 K mg "_law_yq_same" sSame) (T : Bt mg) (c_yq_is_whole : Kn P w K mg base "_law_yq_is_whole" ["thing"] 1 spWhole) : ∀ n, Kn P w K mg base "_law_yq_same" ["heard_one", "owed"] (n + 2) (spSame n)
  | 0 => by
    refine kn_of F scSame (fun vs H Q E h => h.elim) (fun _ _ _ _ _ _ us hl => match us, hl with | [_, _], _ => rfl) (fun f cdv A outer s H vs Q E hr h => h.elim)
  | n + 1 => by
    have c_yq_same := ok_same F T c_yq_is_whole n
    refine kn_of F scSame (fun vs H Q E h => ?_) (fun _ _ _ _ _ _ us hl => match us, hl with | [_, _], _ => rfl) (fun f cdv A outer s H vs Q E hr h => ?_)
    · obtain ⟨v, u, d, rfl, _⟩ := h
      rfl
    · obtain ⟨v, u, d, rfl, hv, hu, hd, q⟩ := h
      refine ⟨_, (pss_cons (ps_if (pt_cmpR op_isN (pv 1) pe_non (nomark _)) (pss_one (ps_ret (pe_cmpR op_isN (pv 0) pe_non (nomark _)))) pss_nil)
      (pss_cons (ps_if (pt_val (pe_callB call_isiF (by rfl) T.isinstance (by decide +kernel) (pa_cons (pv 1) (pa_cons (pe_bltn (v := .ty "bool") (by rfl) T.bool (by decide +kernel) rfl) pa_nil)))) (pss_one (ps_ret (pe_ifExp (pt_val (pv 1)) (pe_cmpR op_is_bl (pv 0) pe_bl (nomark _)) (pe_cmpR op_is_bl (pv 0) pe_bl (nomark _))))) pss_nil)
      (pss_cons (ps_if (pt_val (pe_callB call_isiF (by rfl) T.isinstance (by decide +kernel) (pa_cons (pv 1) (pa_cons (pe_bltn (v := .ty "int") (by rfl) T.int (by decide +kernel) rfl) pa_nil)))) (pss_one (ps_ret (pe_and (pe_kn c_yq_is_whole (hr.mono (by omega)) (by rfl) (pa_cons (pv 0) pa_nil)) (pe_one (pe_cmpR op_eq (pv 0) (pv 1) (nomark _)))))) pss_nil)
      (pss_cons (ps_if (pt_val (pe_callB call_isiF (by rfl) T.isinstance (by decide +kernel) (pa_cons (pv 1) (pa_cons (pe_bltn (v := .ty "str") (by rfl) T.str (by decide +kernel) rfl) pa_nil)))) (pss_one (ps_ret (pe_and (pe_callB call_isiF (by rfl) T.isinstance (by decide +kernel) (pa_cons (pv 0) (pa_cons (pe_bltn (v := .ty "str") (by rfl) T.str (by decide +kernel) rfl) pa_nil))) (pe_one (pe_cmpR op_eq (pv 0) (pv 1) (nomark _)))))) pss_nil)
      (pss_cons (ps_if (PW.pt (pw_and (pt_not (pt_val (pe_callB call_isiF (by rfl) T.isinstance (by decide +kernel) (pa_cons (pv 1) (pa_cons (pe_bltn (v := .ty "tuple") (by rfl) T.tuple (by decide +kernel) rfl) pa_nil))))) (pw_and1 (pt_not (pt_val (pe_callB call_isiF (by rfl) T.isinstance (by decide +kernel) (pa_cons (pv 1) (pa_cons (pe_bltn (v := .ty "list") (by rfl) T.list (by decide +kernel) rfl) pa_nil)))))))) (pss_one (ps_ret (pe_callTy call_bool1 (by rfl) T.bool (by decide +kernel) (pa_cons (pe_cmpR op_eq (pv 0) (pv 1) (nomark _)) pa_nil)))) pss_nil)
      (pss_cons (ps_if (pt_cmpR op_ne (pe_callB call_isiF (by rfl) T.isinstance (by decide +kernel) (pa_cons (pv 1) (pa_cons (pe_bltn (v := .ty "tuple") (by rfl) T.tuple (by decide +kernel) rfl) pa_nil))) (pe_callB call_isiF (by rfl) T.isinstance (by decide +kernel) (pa_cons (pv 0) (pa_cons (pe_bltn (v := .ty "tuple") (by rfl) T.tuple (by decide +kernel) rfl) pa_nil))) (nomark _)) (pss_one (ps_ret pe_bl)) pss_nil)
      (pss_cons (ps_if (pt_cmpR op_ne (pe_callB call_isiF (by rfl) T.isinstance (by decide +kernel) (pa_cons (pv 1) (pa_cons (pe_bltn (v := .ty "list") (by rfl) T.list (by decide +kernel) rfl) pa_nil))) (pe_callB call_isiF (by rfl) T.isinstance (by decide +kernel) (pa_cons (pv 0) (pa_cons (pe_bltn (v := .ty "list") (by rfl) T.list (by decide +kernel) rfl) pa_nil))) (nomark _)) (pss_one (ps_ret pe_bl)) pss_nil)
      (pss_cons (ps_if (pt_cmpR op_ne (pe_callB call_lenF (by rfl) T.len (by decide +kernel) (pa_cons (pv 0) pa_nil)) (pe_callB call_lenF (by rfl) T.len (by decide +kernel) (pa_cons (pv 1) pa_nil)) (nomark _)) (pss_one (ps_ret pe_bl)) pss_nil)
      (pss_cons (ps_for PassesOwn.never rfl (pi_range1 (by rfl) T.range (pa_cons (pe_callB call_lenF (by rfl) T.len (by decide +kernel) (pa_cons (pv 1) pa_nil)) pa_nil)) (pg_name (i := 2) scSame.nd rfl (Or.inl rfl)) (pss_one (ps_if (pt_not (pt_val (pe_kn c_yq_same (hr.mono (by omega)) (by rfl) (pa_cons (pe_ix ix_f (pv 0) (pv 2) (fun _ _ => rfl)) (pa_cons (pe_ix ix_f (pv 1) (pv 2) (fun _ _ => rfl)) pa_nil))))) (pss_one (ps_ret pe_bl)) pss_nil)))
      (pss_one (ps_ret pe_bl))))))))))), ?_⟩
      cases hu with
      | non => cases hv; walk_at "ev"; exact q
      | bl b => cases hv; walk_at "ev"; cases b <;> (walk_at "ev"; exact q)
      | int i =>
        cases hv
        walk_at "ev"
        simp only [spWhole]
        walk_at "ev"
        exact q
      | str x => cases hv; walk_at "ev"; exact q
      | @lst a xs ds ha hs =>
        cases hv with
        | @lst b ys es hb ht =>
          walk_at "ev"
          simp only [Tz_lst ha, Tz_lst hb, Sq_lst ha, Sq_lst hb]
          walk_at "ev"
          have el : ys.length = xs.length := (dqAll_len ht).trans (dqAll_len hs).symm
          cases n with
          | zero => cases hd
          | succ m =>
          obtain ⟨hd1, hd2⟩ := okd_l (n := m) hd
          have el2 := dqAll_len hs
          rw [if_neg (by rw [el]; simp)]
          refine ⟨by omega, by omega, lp_range (fun i σ H' => H' = H ∧ ∃ x, σ = [some (.ref b), some (.ref a), x]) ⟨rfl, _, rfl⟩ ?_ ?_⟩
          · rintro i σ H' hi ⟨rfl, x, rfl⟩
            have hi2 : i < ds.length := by omega
            obtain ⟨vx, e1, q1⟩ := dqAll_get hs (List.getElem?_eq_getElem hi2)
            obtain ⟨vy, e2, q2⟩ := dqAll_get ht (List.getElem?_eq_getElem hi2)
            walk_at "ev"
            simp only [Sq_lst ha, Sq_lst hb, Nt_int, atI_natE, e1, e2, Op_some]
            refine ⟨vy, vx, _, rfl, q2, q1, hd2 i _ (List.getElem?_eq_getElem hi2), ?_⟩
            walk_at "ev"
            exact ⟨_, rfl⟩
          · rintro σ H' ⟨rfl, x, rfl⟩
            exact q
      | @tup a xs ds ha hs =>
        cases hv with
        | @tup b ys es hb ht =>
          walk_at "ev"
          simp only [Tz_tup ha, Tz_tup hb, Sq_tup ha, Sq_tup hb]
          walk_at "ev"
          have el : ys.length = xs.length := (dqAll_len ht).trans (dqAll_len hs).symm
          cases n with
          | zero => cases hd
          | succ m =>
          obtain ⟨hd1, hd2⟩ := okd_l (n := m) hd
          have el2 := dqAll_len hs
          rw [if_neg (by rw [el]; simp)]
          refine ⟨by omega, by omega, lp_range (fun i σ H' => H' = H ∧ ∃ x, σ = [some (.ref b), some (.ref a), x]) ⟨rfl, _, rfl⟩ ?_ ?_⟩
          · rintro i σ H' hi ⟨rfl, x, rfl⟩
            have hi2 : i < ds.length := by omega
            obtain ⟨vx, e1, q1⟩ := dqAll_get hs (List.getElem?_eq_getElem hi2)
            obtain ⟨vy, e2, q2⟩ := dqAll_get ht (List.getElem?_eq_getElem hi2)
            walk_at "ev"
            simp only [Sq_tup ha, Sq_tup hb, Nt_int, atI_natE, e1, e2, Op_some]
            refine ⟨vy, vx, _, rfl, q2, q1, hd2 i _ (List.getElem?_eq_getElem hi2), ?_⟩
            walk_at "ev"
            exact ⟨_, rfl⟩
          · rintro σ H' ⟨rfl, x, rfl⟩
            exact q
/-! ### the jar -/
def JarB (d s c : Int) : Prop := 0 ≤ d ∧ d < 10 ^ 121 ∧ 0 ≤ s ∧ s < 2147483647
def jarL (d s c : Int) : List V := [.int d, .int s, .int c]
/-- the jar stands at j -/
def JarAt (H : Hp) (j : Addr) : Prop := ∃ d s c, H j = some (.lst (jarL d s c)) ∧ JarB d s c
/-- the jar at j has been drawn from; all else is as it was -/
def JarTo (j : Addr) (H H' : Hp) : Prop := ∃ d s c, H' = upd H j (.lst (jarL d s c)) ∧ JarB d s c
def spTake : Sp := fun vs H Q _ => ∃ (j : Addr) (m : Int), vs = [.ref j, .int m] ∧ JarAt H j ∧ 1 ≤ m ∧ m < 1073741824 ∧ ∀ r H', 0 ≤ r → r < m → JarTo j H H' → Q (.int r) H'
theorem scTake : FnScope ["jar", "many", "made"] ["jar", "many"] (defScope sTake) := ⟨rfl, rfl, rfl, by decide +kernel, rfl, by decide +kernel, by decide +kernel⟩
theorem ok_take (F : Def1 K mg "_law_take" sTake) (T : Bt mg) : Kn P w K mg base "_law_take" ["jar", "many"] 1 spTake := by
  refine kn_of F scTake (fun vs H Q E h => ?_) (fun _ _ _ _ _ _ us hl => match us, hl with | [_, _], _ => rfl) (fun f cdv A outer s H vs Q E hr h => ?_)
  · obtain ⟨j, m, rfl, _⟩ := h
    rfl
  · obtain ⟨j, m, rfl, ⟨d, t, c, hj, hb⟩, h1, h2, q⟩ := h
    obtain ⟨b1, b2, b3, b4⟩ := id hb
    refine ⟨_, (pss_cons (ps_if (pt_cmpR op_gt (pe_ix ix_f (pv 0) pe_int (fun _ _ => rfl)) pe_int (nomark _)) (pss_cons (ps_set (i := 2) scTake.nd rfl (Or.inl rfl) (pe_op op_mod (pe_callTy call_int1 (by rfl) T.int (by decide +kernel) (pa_cons (pe_ix ix_f (pv 0) pe_int (fun _ _ => rfl)) pa_nil)) (pv 1)))
      (pss_cons (ps_asg (pe_op op_fdivW (pe_ix ix_f (pv 0) pe_int (fun _ _ => rfl)) (pv 1)) (pg_sub (pv 0) pe_int set_f))
      (pss_one (ps_ret (pv 2))))) pss_nil)
      (pss_cons (ps_asg (pe_op op_add (pe_ix ix_f (pv 0) pe_int (fun _ _ => rfl)) pe_int) (pg_sub (pv 0) pe_int set_f))
      (pss_cons (ps_asg (pe_op op_mod (pe_callTy call_int1 (by rfl) T.int (by decide +kernel) (pa_cons (pe_op op_add (pe_op op_add (pe_op op_mul (pe_ix ix_f (pv 0) pe_int (fun _ _ => rfl)) pe_int) (pe_op op_mul pe_int (pe_ix ix_f (pv 0) pe_int (fun _ _ => rfl)))) pe_int) pa_nil)) pe_int) (pg_sub (pv 0) pe_int set_f))
      (pss_one (ps_ret (pe_op op_mod (pe_callTy call_int1 (by rfl) T.int (by decide +kernel) (pa_cons (pe_op op_fdivW (pe_op op_mod (pe_callTy call_int1 (by rfl) T.int (by decide +kernel) (pa_cons (pe_op op_mul (pe_ix ix_f (pv 0) pe_int (fun _ _ => rfl)) (pe_ix ix_f (pv 0) pe_int (fun _ _ => rfl))) pa_nil)) pe_int) pe_int) pa_nil)) (pv 1))))))), ?_⟩
    walk_at "ev"
    simp only [Sq_lst hj, Ls_lst hj, jarL]
    walk_at "ev"
    have m0 : 0 < m := by omega
    refine ite2 (fun hd => ?_) (fun hd => ?_)
    · refine ⟨m0, ⟨m0, ?_⟩, q _ _ (Int.emod_nonneg _ (by omega)) (Int.emod_lt_of_pos _ m0) ⟨d / m, t, c, rfl, Int.ediv_nonneg b1 (by omega), ?_, b3, b4⟩⟩
      · exact Nat.lt_of_lt_of_le (PySem.Flt.log2_lt_of (k := 30) (by decide) (by omega)) (by decide)
      · exact Int.lt_of_le_of_lt (Int.ediv_le_self _ b1) b2
    · have e1 : 0 ≤ (t * 39373 + 7919 * (c + 1) + 7) % 2147483647 := Int.emod_nonneg _ (by decide)
      have e2 : (t * 39373 + 7919 * (c + 1) + 7) % 2147483647 < 2147483647 := Int.emod_lt_of_pos _ (by decide)
      have e3 : 0 ≤ (t * 39373 + 7919 * (c + 1) + 7) % 2147483647 * ((t * 39373 + 7919 * (c + 1) + 7) % 2147483647) % 2147483629 / 32 := Int.ediv_nonneg (Int.emod_nonneg _ (by decide)) (by decide)
      refine ⟨.inr (by decide), .inl (by decide), .inl ⟨by omega, by omega⟩, ⟨by decide, by decide⟩, m0, ?_⟩
      exact q _ _ (Int.emod_nonneg _ (by omega)) (Int.emod_lt_of_pos _ m0) ⟨d, _, c + 1, rfl, b1, b2, e1, e2⟩
/-! ### _law_one -/
def spOne (K : PySem.W.Frag) : Sp := fun vs H Q _ => ∃ (j a : Addr) (xs : List V), vs = [.ref j, .ref a] ∧ JarAt H j ∧ a ≠ j ∧ H a = some (.lst xs) ∧ xs ≠ [] ∧ xs.length < 1000 ∧ ∀ (i : Nat) (v : V) H', xs[i]? = some v → JarTo j H H' → Q v H'
theorem scOne : FnScope ["jar", "things"] ["jar", "things"] (defScope sOne) := ⟨rfl, rfl, rfl, by decide +kernel, rfl, by decide +kernel, by decide +kernel⟩
theorem ok_one (F : Def1 K mg "_law_one" sOne) (T : Bt mg) (c_take : Kn P w K mg base "_law_take" ["jar", "many"] 1 spTake) : Kn P w K mg base "_law_one" ["jar", "things"] 2 (spOne K) := by
  refine kn_of F scOne (fun vs H Q E h => ?_) (fun _ _ _ _ _ _ us hl => match us, hl with | [_, _], _ => rfl) (fun f cdv A outer s H vs Q E hr h => ?_)
  · obtain ⟨j, m, xs, rfl, _⟩ := h
    rfl
  · obtain ⟨j, a, xs, rfl, hj, ne, ha, h0, hl, q⟩ := h
    have hlen : 0 < xs.length := List.length_pos_iff.mpr h0
    refine ⟨_, (pss_one (ps_ret (pe_ix ix_f (pv 1) (pe_kn c_take (hr.mono (by decide)) (by rfl) (pa_cons (pv 0) (pa_cons (pe_callB call_lenF (by rfl) T.len (by decide +kernel) (pa_cons (pv 1) pa_nil)) pa_nil))) (fun _ _ => rfl)))), ?_⟩
    walk_at "ev"
    simp only [Sq_lst ha]
    refine ⟨j, xs.length, rfl, hj, by omega, by omega, fun r H' r0 r1 hto => ?_⟩
    obtain ⟨d, t, c, rfl, hb⟩ := hto
    obtain ⟨i, rfl⟩ : ∃ i : Nat, r = (i : Int) := ⟨r.toNat, by omega⟩
    have hi : i < xs.length := by omega
    rw [Sq_ne ne, Sq_lst ha, Nt_int, atI_natE, List.getElem?_eq_getElem hi, Op_some]
    exact q i _ _ (List.getElem?_eq_getElem hi) ⟨d, t, c, rfl, hb⟩
/-! ### _law_pool -/
def spPool (K : PySem.W.Frag) : Sp := fun vs H Q _ => ∃ (a : Addr) (ns : List Int), vs = [.ref a] ∧ SqL K H a (ns.map V.int) ∧ ns.length ≤ 63 ∧ ∀ H' p d t, Same H H' → H p = none → H' p = some (.lst (jarL d t 0)) → JarB d t 0 → Q (.ref p) H'
theorem scPool : FnScope ["script", "digits", "stirred", "at", "cell"] ["script"] (defScope sPool) := ⟨rfl, rfl, rfl, by decide +kernel, rfl, by decide +kernel, by decide +kernel⟩
theorem ok_pool (F : Def1 K mg "_law_pool" sPool) (T : Bt mg) : Kn P w K mg base "_law_pool" ["script"] 1 (spPool K) := by
  refine kn_of F scPool (fun vs H Q E h => ?_) (fun _ _ _ _ _ _ us hl => match us, hl with | [_], _ => rfl) (fun f cdv A outer s H vs Q E hr h => ?_)
  · obtain ⟨a, ns, rfl, _⟩ := h
    rfl
  · obtain ⟨a, ns, rfl, hS, hl, q⟩ := h
    refine ⟨_, (pss_cons (ps_asg (pe_tup (pa_cons pe_int (pa_cons pe_int pa_nil))) (pg_tupF 2 (by rfl) (pgs_cons (pg_name (i := 1) scPool.nd rfl (Or.inl rfl)) (pgs_cons (pg_name (i := 2) scPool.nd rfl (Or.inl rfl)) pgs_nil))))
      (pss_cons (ps_for PassesOwn.never rfl (pi_range1 (by rfl) T.range (pa_cons (pe_callB call_len_seq (by rfl) T.len (by decide +kernel) (pa_cons (pv 0) pa_nil)) pa_nil)) (pg_name (i := 3) scPool.nd rfl (Or.inl rfl)) (pss_cons (ps_set (i := 4) scPool.nd rfl (Or.inl rfl) (pe_callTy call_int1 (by rfl) T.int (by decide +kernel) (pa_cons (pe_callB (call_max2 rfl) (by rfl) T.max (by decide +kernel) (pa_cons (pe_ix ix_list (pv 0) (pv 3) (fun _ _ => rfl)) (pa_cons (pe_op op_sub (pe_un un_neg pe_int) (pe_ix ix_list (pv 0) (pv 3) (fun _ _ => rfl))) pa_nil))) pa_nil)))
      (pss_cons (ps_set (i := 2) scPool.nd rfl (Or.inl rfl) (pe_op op_mod (pe_callTy call_int1 (by rfl) T.int (by decide +kernel) (pa_cons (pe_op op_add (pe_op op_add (pe_op op_mul (pv 2) pe_int) (pe_op op_mod (pv 4) pe_int)) pe_int) pa_nil)) pe_int))
      (pss_one (ps_set (i := 1) scPool.nd rfl (Or.inl rfl) (pe_ifExp (PW.pt (pw_and (pt_cmpR op_ge (pv 4) (pe_op op_pow pe_int pe_int) (nomark _)) (pw_and1 (pt_cmpR op_lt (pv 1) (pe_op op_pow pe_int pe_int) (nomark _))))) (pe_callTy call_int1 (by rfl) T.int (by decide +kernel) (pa_cons (pe_op op_add (pe_op op_mulW (pv 1) (pe_op op_pow pe_int pe_int)) (pe_op op_mod (pv 4) (pe_op op_pow pe_int pe_int))) pa_nil)) (pv 1)))))))
      (pss_one (ps_ret (pe_lst (pa_cons (pv 1) (pa_cons (pv 2) (pa_cons pe_int pa_nil)))))))), ?_⟩
    walk_at "ev"
    refine ⟨by decide, fun p0 hp0 => ?_⟩
    generalize hH1 : upd H p0 _ = H1
    obtain ⟨s1, e1, n1, k1⟩ := newf hp0 hH1
    have hS1 := s1.seq hS
    refine ⟨_, .inl hS1, ?_, ?_, ?_⟩
    · omega
    · rw [List.length_map]
      omega
    · refine lp_range (fun i σ H' => H' = H1 ∧ ∃ d t x y, JarB d t 0 ∧ σ = [some (.ref a), some (.int d), some (.int t), x, y]) ?_ ?_ ?_
      · exact ⟨rfl, 0, 7, _, _, ⟨by decide, by decide, by decide, by decide⟩, rfl⟩
      · rintro i σ H' hi ⟨rfl, d, t, x, y, ⟨b1, b2, b3, b4⟩, rfl⟩
        have hi' : i < ns.length := by
          rw [List.length_map] at hi
          omega
        have hg : atI (ns.map V.int) ((i : Nat) : Int) = some (V.int ns[i]) := by
          rw [atI_natE, List.getElem?_map, List.getElem?_eq_getElem hi']
          rfl
        unfold rIxL
        walk_at "ev"
        have t1 : ∀ z : Int, 0 ≤ z % 2147483647 ∧ z % 2147483647 < 2147483647 := fun z => ⟨Int.emod_nonneg _ (by decide), Int.emod_lt_of_pos _ (by decide)⟩
        refine ⟨_, hS1, _, hg, _, hS1, _, hg, _, rfl, _, rfl, .inl ⟨by omega, by omega⟩, ?_⟩
        refine ite2 (fun _ => ite2 (fun h60 => ?_) (fun _ => ?_)) (fun _ => ?_)
        · have h60 : d < 10 ^ 60 := h60
          have r1 := Int.emod_nonneg (if -1 - ns[i] > ns[i] then -1 - ns[i] else ns[i]) (show (10 ^ Int.toNat 60 : Int) ≠ 0 by decide)
          have r2 := Int.emod_lt_of_pos (if -1 - ns[i] > ns[i] then -1 - ns[i] else ns[i]) (show (0 : Int) < 10 ^ Int.toNat 60 by decide)
          have r2 : _ < (10 ^ 60 : Int) := r2
          refine ⟨wide_mul (a := 201) (b := 200) (by omega) (by decide) (by decide) (by decide) (by decide), by decide, _, _, ⟨?_, ?_, (t1 _).1, (t1 _).2⟩, rfl, rfl, _, rfl⟩
          · show 0 ≤ d * 10 ^ 60 + _
            omega
          · show d * 10 ^ 60 + _ < _
            omega
        · exact ⟨_, _, ⟨b1, b2, (t1 _).1, (t1 _).2⟩, rfl, rfl, _, rfl⟩
        · exact ⟨_, _, ⟨b1, b2, (t1 _).1, (t1 _).2⟩, rfl, rfl, _, rfl⟩
      · rintro σ H' ⟨rfl, d, t, x, y, hb, rfl⟩
        walk_at "ev"
        refine ⟨by decide, fun p hp => ?_⟩
        generalize hH2 : upd H' p _ = H2
        obtain ⟨s2, e2, n2, k2⟩ := newf hp hH2
        exact q _ _ _ _ (s1.trans s2) (s1.free hp) e2 hb
end
end K32
namespace K32
open PySem PySem.Spec PyProof.Rows L2 Lw
/-! ### the line and what is turned -/
def addT (T : List Int) (k : Int) : List Int := if k ∈ T then T else T ++ [k]
theorem mem_addT {T : List Int} {k j : Int} : j ∈ addT T k ↔ j ∈ T ∨ j = k := by
  unfold addT
  split
  · exact ⟨.inl, fun h => h.elim id fun e => by rw [e]; assumption⟩
  · simp
theorem nodup_addT {ks : List Int} {k : Int} (h : ks.Nodup) : (addT ks k).Nodup := by
  unfold addT
  split
  · exact h
  · rename_i hk
    rw [List.nodup_append]
    exact ⟨h, by simp, fun a ha b hb => by
      rw [List.mem_singleton.mp hb]
      exact fun z => hk (by rw [← z]; exact ha)⟩
abbrev Fst := List Int × List Int × Int × Int
/-- all but k -/
def wo (l : List Int) (k : Int) : List Int := l.filter fun j => decide (j ≠ k)
theorem mem_wo {l : List Int} {k j : Int} : j ∈ wo l k ↔ j ∈ l ∧ j ≠ k := by
  unfold wo
  rw [List.mem_filter, decide_eq_true_eq]
theorem wo_nd {l : List Int} (h : l.Nodup) (k : Int) : (wo l k).Nodup := h.filter _
theorem wo_len (l : List Int) (k : Int) : (wo l k).length ≤ l.length := List.length_filter_le ..
theorem wo_not {l : List Int} {k : Int} (h : k ∉ l) : wo l k = l := List.filter_eq_self.mpr fun j hj => decide_eq_true (show j ≠ k from fun z => h (by rw [← z]; exact hj))
theorem wo_head {y : Int} {l : List Int} (h : (y :: l).Nodup) : wo (y :: l) y = l := by
  unfold wo
  rw [List.filter_cons, if_neg (by simp)]
  exact wo_not (List.nodup_cons.mp h).1
theorem wo_erase {l : List Int} (h : l.Nodup) (k : Int) : l.erase k = wo l k := by
  rw [h.erase_eq_filter]
  unfold wo
  refine List.filter_congr fun j _ => ?_
  by_cases e : j = k <;> simp [e]
theorem wo_lt {l : List Int} {k : Int} (h : k ∈ l) : (wo l k).length < l.length := by
  unfold wo
  exact List.length_filter_lt_length_iff_exists.mpr ⟨k, h, by simp⟩
/-- a block is put away -/
def away (s : Fst) (y : Int) : Fst := (wo s.1 y, wo s.2.1 y, s.2.2.1, s.2.2.2 + if y ∈ s.2.1 then 1 else 0)
def fl (m : Nat) (s : Fst) (k : Int) : Fst :=
  if k ∈ s.1 then (wo s.1 k, s.2.1, s.2.2.1, s.2.2.2)
  else if s.1.length = m then ((away s (s.1.headD 0)).1, (away s (s.1.headD 0)).2.1, s.2.2.1 + 1, (away s (s.1.headD 0)).2.2.2)
  else (s.1, s.2.1, s.2.2.1 + 1, s.2.2.2)
/-- k is asked for -/
def ask (m : Nat) (s : Fst) (k : Int) : Fst := ((fl m s k).1 ++ [k], (fl m s k).2.1, (fl m s k).2.2.1, (fl m s k).2.2.2)
def wrt (m : Nat) (s : Fst) (k : Int) : Fst := ((ask m s k).1, addT (ask m s k).2.1 k, (ask m s k).2.2.1, (ask m s k).2.2.2)
/-! ### the dicts -/
def tkv (T : List Int) : List (Key × V) := T.map fun k => (Sum.inl k, V.bl true)
theorem tkv_val (T : List Int) (k : Int) : valV (tkv T) (.inl k) = if k ∈ T then some (.bl true) else none := by
  induction T with
  | nil => rfl
  | cons j T ih =>
    show valV ((Sum.inl j, V.bl true) :: tkv T) (.inl k) = _
    by_cases e : j = k
    · subst e
      rw [valV_pos rfl, if_pos (List.mem_cons_self ..)]
    · have e2 : ¬ k = j := fun z => e z.symm
      rw [valV_neg (fun z => e (Sum.inl.inj z)), ih]
      simp only [List.mem_cons, e2, false_or]
theorem tkv_put (T : List Int) (k : Int) : putK (tkv T) (.inl k) (.bl true) = tkv (addT T k) := by
  unfold putK addT
  rw [valV_any, tkv_val]
  by_cases h : k ∈ T
  · rw [if_pos h, if_pos h]
    simp only [Option.isSome_some, if_true, tkv, List.map_map]
    refine List.map_congr_left fun j _ => ?_
    show (if (Sum.inl j : Key) = Sum.inl k then ((Sum.inl j : Key), V.bl true) else (Sum.inl j, V.bl true)) = _
    split <;> rfl
  · rw [if_neg h, if_neg h]
    simp [tkv]
theorem tkv_drop (T : List Int) (k : Int) : dropK (tkv T) (.inl k) = tkv (wo T k) := by
  unfold dropK tkv wo
  rw [List.filter_map]
  congr 1
  refine List.filter_congr fun j _ => ?_
  simp [Function.comp_def]
theorem tkv_len (T : List Int) : (tkv T).length = T.length := List.length_map ..
/-- blocks and where their cells lie -/
def ikv (da : Int → Addr) (L : List Int) : List (Key × V) := L.map fun k => (Sum.inl k, V.ref (da k))
theorem ikv_val (da : Int → Addr) (L : List Int) (k : Int) : valV (ikv da L) (.inl k) = if k ∈ L then some (.ref (da k)) else none := by
  induction L with
  | nil => rfl
  | cons j L ih =>
    show valV ((Sum.inl j, V.ref (da j)) :: ikv da L) (.inl k) = _
    by_cases e : j = k
    · subst e
      rw [valV_pos rfl, if_pos (List.mem_cons_self ..)]
    · have e2 : ¬ k = j := fun z => e z.symm
      rw [valV_neg (fun z => e (Sum.inl.inj z)), ih]
      simp only [List.mem_cons, e2, false_or]
theorem ikv_new {da : Int → Addr} {L : List Int} {k : Int} {d : Addr} (h : k ∉ L) : putK (ikv da L) (.inl k) (.ref d) = ikv (fun j => if j = k then d else da j) (L ++ [k]) := by
  rw [putK_new _ (by rw [ikv_val, if_neg h])]
  unfold ikv
  rw [List.map_append]
  congr 1
  · refine List.map_congr_left fun j hj => ?_
    have : j ≠ k := fun z => h (by rw [← z]; exact hj)
    simp only [if_neg this]
  · simp
theorem ikv_same {da : Int → Addr} {L : List Int} {k : Int} (h : k ∉ L) : putK (ikv da L) (.inl k) (.ref (da k)) = ikv da (L ++ [k]) := by
  rw [putK_new _ (by rw [ikv_val, if_neg h])]
  unfold ikv
  rw [List.map_append]
  rfl
theorem ikv_drop (da : Int → Addr) (L : List Int) (k : Int) : dropK (ikv da L) (.inl k) = ikv da (wo L k) := by
  unfold dropK ikv wo
  rw [List.filter_map]
  congr 1
  refine List.filter_congr fun j _ => ?_
  simp [Function.comp_def]
theorem ikv_len (da : Int → Addr) (L : List Int) : (ikv da L).length = L.length := List.length_map ..
theorem ikv_keys (da : Int → Addr) (L : List Int) : (ikv da L).map (fun kv => kV kv.1) = L.map V.int := by
  unfold ikv
  rw [List.map_map]
  rfl
/-! ### regions -/
/-- all outside of R is kept -/
def Fr (R : Addr → Prop) (H H' : Hp) : Prop := ∀ a o, ¬ R a → H a = some o → H' a = some o
theorem Fr.refl (R : Addr → Prop) (H : Hp) : Fr R H H := fun _ _ _ h => h
theorem Fr.of {R : Addr → Prop} {H H' : Hp} (s : Same H H') : Fr R H H' := fun a o _ h => s a o h
theorem Fr.trans {R : Addr → Prop} {H H1 H2 : Hp} (a : Fr R H H1) (b : Fr R H1 H2) : Fr R H H2 := fun c o n h => b c o n (a c o n h)
theorem Fr.mono {R R' : Addr → Prop} {H H' : Hp} (a : Fr R H H') (h : ∀ b, R b → R' b) : Fr R' H H' := fun c o n e => a c o (fun z => n (h c z)) e
/-- no tuple -/
def NT : HO → Prop
  | .tup _ => False
  | .tbl _ => False
  | .ext _ => False
  | _ => True
def Rg (R : Addr → Prop) (H : Hp) : Prop := ∀ a, R a → ∃ o, H a = some o ∧ NT o
/-- a tuple stays -/
theorem Fr.tup {R : Addr → Prop} {H H' : Hp} (f : Fr R H H') (g : Rg R H) {a : Addr} {xs : List V} (h : H a = some (.tup xs)) : H' a = some (.tup xs) := f a _ (fun z => by
  obtain ⟨o, e, n⟩ := g a z
  rw [h] at e
  cases e
  exact n) h
/-! ### a store -/
def fsB (sz bl wi : Nat) (O I Tn : Addr) (f p : Int) : List (Str × V) := [("cells_many", .int sz), ("block_size", .int bl), ("within_most", .int wi), ("outside", .ref O), ("inside", .ref I), ("turned", .ref Tn), ("fetched_many", .int f), ("put_many", .int p)]
structure G where
  x : Addr
  O : Addr
  I : Addr
  Tn : Addr
  da : Int → Addr
  oa : Int → Option Addr
  s : Fst
  kp : List V
  N : Nat
  R : Addr → Prop
/-- a dict of a block's cells that holds what kp holds -/
def Cells (sz bl N : Nat) (kp : List V) (H : Hp) (b : Int) (d : Addr) : Prop := ∃ kv, H d = some (.dK kv) ∧ kv.length ≤ N ∧ ∀ a : Nat, a < sz → (a : Int) / (bl : Int) = b → (valV kv (.inl (a : Int))).getD .non = kp.getD a .non
theorem Cells.same {sz bl N : Nat} {kp : List V} {H H' : Hp} {b : Int} {d : Addr} (c : Cells sz bl N kp H b d) (h : H' d = H d) : Cells sz bl N kp H' b d := by
  obtain ⟨kv, e, r⟩ := c
  exact ⟨kv, h ▸ e, r⟩
theorem Cells.up {sz bl N N' : Nat} {kp : List V} {H : Hp} {b : Int} {d : Addr} (c : Cells sz bl N kp H b d) (h : N ≤ N') : Cells sz bl N' kp H b d := by
  obtain ⟨kv, e, l, r⟩ := c
  exact ⟨kv, e, Nat.le_trans l h, r⟩
def OutB (sz bl N : Nat) (kp : List V) (H : Hp) (b : Int) : Option Addr → Prop
  | some d => Cells sz bl N kp H b d
  | none => ∀ a : Nat, a < sz → (a : Int) / (bl : Int) = b → kp.getD a .non = .non
structure BlAt (C : Addr) (sz bl wi : Nat) (g : G) (D : Int → Prop) (H : Hp) : Prop where
  x : ∃ dx, H g.x = some (.ins C dx (fsB sz bl wi g.O g.I g.Tn g.s.2.2.1 g.s.2.2.2))
  O : ∃ okv, H g.O = some (.dK okv) ∧ okv.length ≤ 65 * g.N ∧ ∀ b, valV okv (.inl b) = (g.oa b).map V.ref
  I : H g.I = some (.dK (ikv g.da g.s.1))
  Tn : H g.Tn = some (.dK (tkv g.s.2.1))
  nd : g.s.1.Nodup
  nT : g.s.2.1.Nodup
  sub : ∀ b ∈ g.s.2.1, b ∈ g.s.1
  lw : g.s.1.length ≤ wi
  ne1 : g.O ≠ g.I
  ne2 : g.O ≠ g.Tn
  ne3 : g.I ≠ g.Tn
  da1 : ∀ b ∈ g.s.1, g.da b ≠ g.O ∧ g.da b ≠ g.I ∧ g.da b ≠ g.Tn
  oa1 : ∀ b d, g.oa b = some d → d ≠ g.O ∧ d ≠ g.I ∧ d ≠ g.Tn
  inj : ∀ b ∈ g.s.1, ∀ c ∈ g.s.1, g.da b = g.da c → b = c
  dis : ∀ b ∈ g.s.1, ∀ c d, g.oa c = some d → g.da b ≠ d
  ins : ∀ b ∈ g.s.1, Cells sz bl g.N g.kp H b (g.da b)
  out : ∀ b, (b ∈ g.s.1 → ¬ D b) → OutB sz bl g.N g.kp H b (g.oa b)
  od : ∀ b d, g.oa b = some d → ∃ kv, H d = some (.dK kv) ∧ kv.length ≤ g.N
  kl : g.kp.length = sz
  rx : g.R g.x
  rO : g.R g.O
  rI : g.R g.I
  rT : g.R g.Tn
  rd : ∀ b ∈ g.s.1, g.R (g.da b)
  ro : ∀ b d, g.oa b = some d → g.R d
  rg : Rg g.R H
section
variable {C : Addr} {sz bl wi : Nat} {g : G} {D : Int → Prop} {H H' : Hp}
/-- x is no dict -/
theorem BlAt.nx (h : BlAt C sz bl wi g D H) {a : Addr} {kv : List (Key × V)} (e : H a = some (.dK kv)) : a ≠ g.x := fun z => by
  obtain ⟨dx, e2⟩ := h.x
  rw [z, e2] at e
  cases e
/-- what is kept is as it was -/
theorem BlAt.frame (h : BlAt C sz bl wi g D H) (k : ∀ a o, g.R a → H a = some o → H' a = some o) : BlAt C sz bl wi g D H' := by
  have cs : ∀ {b d}, g.R d → Cells sz bl g.N g.kp H b d → Cells sz bl g.N g.kp H' b d := fun hr ⟨kv, e, r⟩ => ⟨kv, k _ _ hr e, r⟩
  obtain ⟨dx, ex⟩ := h.x
  obtain ⟨okv, eO, rO⟩ := h.O
  refine { h with x := ⟨dx, k _ _ h.rx ex⟩, O := ⟨okv, k _ _ h.rO eO, rO⟩, I := k _ _ h.rI h.I, Tn := k _ _ h.rT h.Tn, ins := fun b hb => cs (h.rd b hb) (h.ins b hb), out := fun b hb => ?_, od := fun b d e => ?_, rg := fun a ha => ?_ }
  · have := h.out b hb
    cases e : g.oa b with
    | none =>
      rw [e] at this
      exact this
    | some d =>
      rw [e] at this
      exact cs (h.ro b d e) this
  · obtain ⟨kv, e1, e2⟩ := h.od b d e
    exact ⟨kv, k _ _ (h.ro b d e) e1, e2⟩
  · obtain ⟨o, e, n⟩ := h.rg a ha
    exact ⟨o, k _ _ ha e, n⟩
theorem BlAt.fr {R : Addr → Prop} (h : BlAt C sz bl wi g D H) (f : Fr R H H') (d : ∀ a, g.R a → ¬ R a) : BlAt C sz bl wi g D H' := h.frame fun a o ha e => f a o (d a ha) e
theorem BlAt.same (h : BlAt C sz bl wi g D H) (s : Same H H') : BlAt C sz bl wi g D H' := h.frame fun a o _ e => s a o e
theorem BlAt.weak (h : BlAt C sz bl wi g D H) {D' : Int → Prop} (i : ∀ b, D b → D' b) : BlAt C sz bl wi g D' H := { h with out := fun b hb => h.out b fun m z => hb m (i b z) }
theorem BlAt.upN (h : BlAt C sz bl wi g D H) {N : Nat} (hN : g.N ≤ N) : BlAt C sz bl wi { g with N := N } D H := by
  obtain ⟨okv, eO, l, r⟩ := h.O
  refine { h with O := ⟨okv, eO, by show okv.length ≤ 65 * N; omega, r⟩, ins := fun b hb => (h.ins b hb).up hN, out := fun b hb => ?_, od := fun b d e => ?_ }
  · have := h.out b hb
    show OutB sz bl N g.kp H b (g.oa b)
    cases e : g.oa b with
    | none =>
      rw [e] at this
      exact this
    | some d =>
      rw [e] at this
      exact Cells.up this hN
  · obtain ⟨kv, e1, e2⟩ := h.od b d e
    exact ⟨kv, e1, Nat.le_trans e2 hN⟩
theorem rg_of {R : Addr → Prop} (h : Rg R H) (k : ∀ a, R a → H' a = H a ∨ ∃ o, H' a = some o ∧ NT o) : Rg R H' := fun a ha => by
  rcases k a ha with e | e
  · rw [e]
    exact h a ha
  · exact e
/-- a block is put away -/
theorem BlAt.away (h : BlAt C sz bl wi g (· ∈ g.s.2.1) H) {y : Int} (hy : y ∈ g.s.1) {okv : List (Key × V)} (eO : H g.O = some (.dK okv)) (hI : H' g.I = some (.dK (ikv g.da (wo g.s.1 y)))) (hT : H' g.Tn = some (.dK (tkv (wo g.s.2.1 y))))
    (hx : ∃ dx, H' g.x = some (.ins C dx (fsB sz bl wi g.O g.I g.Tn g.s.2.2.1 (K32.away g.s y).2.2.2))) (hO : H' g.O = some (.dK (if y ∈ g.s.2.1 then putK okv (.inl y) (.ref (g.da y)) else okv)))
    (ho : ∀ a, a ≠ g.I → a ≠ g.Tn → a ≠ g.x → a ≠ g.O → H' a = H a) :
    BlAt C sz bl wi { g with oa := if y ∈ g.s.2.1 then (fun b => if b = y then some (g.da y) else g.oa b) else g.oa, s := K32.away g.s y, N := g.N + 1 } (· ∈ (K32.away g.s y).2.1) H' := by
  have hd : ∀ b ∈ g.s.1, H' (g.da b) = H (g.da b) := fun b hb => by
    obtain ⟨n1, n2, n3⟩ := h.da1 b hb
    obtain ⟨kv, e, _⟩ := h.ins b hb
    exact ho _ n2 n3 (h.nx e) n1
  have hod : ∀ b d, g.oa b = some d → H' d = H d := fun b d e => by
    obtain ⟨n1, n2, n3⟩ := h.oa1 b d e
    obtain ⟨kv, e2, _⟩ := h.od b d e
    exact ho _ n2 n3 (h.nx e2) n1
  obtain ⟨okv', eO', lO, rO⟩ := h.O
  rw [eO] at eO'
  cases eO'
  have oN : ∀ b d, (if y ∈ g.s.2.1 then (fun b => if b = y then some (g.da y) else g.oa b) else g.oa) b = some d → (b = y ∧ y ∈ g.s.2.1 ∧ d = g.da y) ∨ (g.oa b = some d ∧ (y ∈ g.s.2.1 → b ≠ y)) := fun b d e => by
    by_cases hT : y ∈ g.s.2.1
    · rw [if_pos hT] at e
      by_cases eb : b = y
      · simp only [eb, if_true, Option.some.injEq] at e
        exact .inl ⟨eb, hT, e.symm⟩
      · simp only [eb, if_false] at e
        exact .inr ⟨e, fun _ => eb⟩
    · rw [if_neg hT] at e
      exact .inr ⟨e, fun z => absurd z hT⟩
  refine { x := hx, O := ⟨_, hO, ?_, fun b => ?_⟩, I := hI, Tn := hT, nd := wo_nd h.nd y, nT := wo_nd h.nT y, sub := fun b hb => ?_, lw := Nat.le_trans (wo_len _ _) h.lw, ne1 := h.ne1, ne2 := h.ne2, ne3 := h.ne3, da1 := fun b hb => h.da1 b (mem_wo.mp hb).1, oa1 := fun b d e => ?_, inj := fun b hb c hc => h.inj b (mem_wo.mp hb).1 c (mem_wo.mp hc).1, dis := fun b hb c d e => ?_, ins := fun b hb => ?_, out := fun b hb => ?_, od := fun b d e => ?_, kl := h.kl, rx := h.rx, rO := h.rO, rI := h.rI, rT := h.rT, rd := fun b hb => h.rd b (mem_wo.mp hb).1, ro := fun b d e => ?_, rg := ?_ }
  · show _ ≤ 65 * (g.N + 1)
    split
    · have := length_putK okv (.inl y) (.ref (g.da y))
      omega
    · omega
  · show valV _ _ = Option.map V.ref ((if y ∈ g.s.2.1 then (fun b => if b = y then some (g.da y) else g.oa b) else g.oa) b)
    by_cases hT : y ∈ g.s.2.1
    · rw [if_pos hT, if_pos hT, valV_put]
      by_cases eb : b = y
      · subst eb
        simp
      · rw [if_neg (fun z => eb (Sum.inl.inj z)), rO]
        simp only [eb, if_false]
    · rw [if_neg hT, if_neg hT, rO]
  · obtain ⟨h1, h2⟩ := mem_wo.mp hb
    exact mem_wo.mpr ⟨h.sub b h1, h2⟩
  · rcases oN b d e with ⟨_, _, rfl⟩ | ⟨e2, _⟩
    · exact h.da1 y hy
    · exact h.oa1 b d e2
  · obtain ⟨h1, h2⟩ := mem_wo.mp hb
    rcases oN c d e with ⟨_, _, rfl⟩ | ⟨e2, _⟩
    · exact fun z => h2 (h.inj b h1 y hy z)
    · exact h.dis b h1 c d e2
  · have h1 := (mem_wo.mp hb).1
    exact ((h.ins b h1).same (hd b h1)).up (Nat.le_succ _)
  · show OutB sz bl (g.N + 1) g.kp H' b ((if y ∈ g.s.2.1 then (fun b => if b = y then some (g.da y) else g.oa b) else g.oa) b)
    have old : (b ∈ g.s.1 → ¬ b ∈ g.s.2.1) → OutB sz bl (g.N + 1) g.kp H' b (g.oa b) := fun hb2 => by
      have := h.out b hb2
      cases e : g.oa b with
      | none =>
        rw [e] at this
        exact this
      | some d =>
        rw [e] at this
        exact (Cells.same this (hod b d e)).up (Nat.le_succ _)
    by_cases hT : y ∈ g.s.2.1
    · rw [if_pos hT]
      by_cases eb : b = y
      · subst eb
        simp only [if_true]
        exact ((h.ins b hy).same (hd b hy)).up (Nat.le_succ _)
      · simp only [eb, if_false]
        exact old fun m z => hb (mem_wo.mpr ⟨m, eb⟩) (mem_wo.mpr ⟨z, eb⟩)
    · rw [if_neg hT]
      refine old fun m z => ?_
      have eb : b ≠ y := fun e => hT (by rw [← e]; exact z)
      exact hb (mem_wo.mpr ⟨m, eb⟩) (mem_wo.mpr ⟨z, eb⟩)
  · rcases oN b d e with ⟨_, _, rfl⟩ | ⟨e2, _⟩
    · obtain ⟨kv, e3, l, _⟩ := h.ins y hy
      exact ⟨kv, by rw [hd y hy]; exact e3, Nat.le_succ_of_le l⟩
    · obtain ⟨kv, e3, l⟩ := h.od b d e2
      exact ⟨kv, by rw [hod b d e2]; exact e3, Nat.le_succ_of_le l⟩
  · rcases oN b d e with ⟨_, _, rfl⟩ | ⟨e2, _⟩
    · exact h.rd y hy
    · exact h.ro b d e2
  · refine rg_of h.rg fun a ha => ?_
    by_cases n1 : a = g.I
    · exact .inr ⟨.dK _, by rw [n1]; exact hI, trivial⟩
    · by_cases n2 : a = g.Tn
      · exact .inr ⟨.dK _, by rw [n2]; exact hT, trivial⟩
      · by_cases n3 : a = g.x
        · obtain ⟨dx, e⟩ := hx
          exact .inr ⟨.ins C dx _, by rw [n3]; exact e, trivial⟩
        · by_cases n4 : a = g.O
          · exact .inr ⟨.dK _, by rw [n4]; exact hO, trivial⟩
          · exact .inl (ho a n1 n2 n3 n4)
/-- a block that lies within is asked for -/
theorem BlAt.hit (h : BlAt C sz bl wi g (· ∈ g.s.2.1) H) {b : Int} (hb : b ∈ g.s.1) (hI : H' g.I = some (.dK (ikv g.da (wo g.s.1 b ++ [b])))) (ho : ∀ a, a ≠ g.I → H' a = H a) :
    BlAt C sz bl wi { g with s := ask wi g.s b } (· ∈ (ask wi g.s b).2.1) H' := by
  have ea : ask wi g.s b = (wo g.s.1 b ++ [b], g.s.2.1, g.s.2.2.1, g.s.2.2.2) := by
    unfold ask fl
    rw [if_pos hb]
  rw [ea]
  have mL : ∀ j, j ∈ wo g.s.1 b ++ [b] ↔ j ∈ g.s.1 := fun j => by
    rw [List.mem_append, mem_wo, List.mem_singleton]
    by_cases e : j = b
    · subst e
      simp [hb]
    · simp [e]
  obtain ⟨dx, ex⟩ := h.x
  obtain ⟨okv, eO, rO⟩ := h.O
  have hc : ∀ {b d}, d ≠ g.I → Cells sz bl g.N g.kp H b d → Cells sz bl g.N g.kp H' b d := fun n c => c.same (ho _ n)
  refine { x := ⟨dx, by rw [ho _ (h.nx h.I).symm]; exact ex⟩, O := ⟨okv, by rw [ho _ h.ne1]; exact eO, rO⟩, I := hI, Tn := by rw [ho _ h.ne3.symm]; exact h.Tn, nd := ?_, nT := h.nT, sub := fun j hj => (mL j).mpr (h.sub j hj), lw := ?_, ne1 := h.ne1, ne2 := h.ne2, ne3 := h.ne3, da1 := fun j hj => h.da1 j ((mL j).mp hj), oa1 := h.oa1, inj := fun j hj c hc => h.inj j ((mL j).mp hj) c ((mL c).mp hc), dis := fun j hj => h.dis j ((mL j).mp hj), ins := fun j hj => hc (h.da1 j ((mL j).mp hj)).2.1 (h.ins j ((mL j).mp hj)), out := fun j hj => ?_, od := fun j d e => ?_, kl := h.kl, rx := h.rx, rO := h.rO, rI := h.rI, rT := h.rT, rd := fun j hj => h.rd j ((mL j).mp hj), ro := h.ro, rg := rg_of h.rg fun a ha => ?_ }
  · show (wo g.s.1 b ++ [b]).Nodup
    rw [List.nodup_append]
    exact ⟨wo_nd h.nd b, by simp, fun a ha c hc => by
      rw [List.mem_singleton.mp hc]
      exact (mem_wo.mp ha).2⟩
  · show (wo g.s.1 b ++ [b]).length ≤ wi
    rw [List.length_append, List.length_singleton]
    have := wo_lt hb
    have := h.lw
    omega
  · have := h.out j fun m z => hj ((mL j).mpr m) z
    show OutB sz bl g.N g.kp H' j (g.oa j)
    cases e : g.oa j with
    | none =>
      rw [e] at this
      exact this
    | some d =>
      rw [e] at this
      exact hc (h.oa1 j d e).2.1 this
  · obtain ⟨kv, e1, l⟩ := h.od j d e
    exact ⟨kv, by rw [ho _ (h.oa1 j d e).2.1]; exact e1, l⟩
  · by_cases n : a = g.I
    · exact .inr ⟨.dK _, by rw [n]; exact hI, trivial⟩
    · exact .inl (ho a n)
/-- a block comes within -/
theorem BlAt.come (h : BlAt C sz bl wi g (· ∈ g.s.2.1) H) {b : Int} (hb : b ∉ g.s.1) (hl : g.s.1.length < wi) {d : Addr} {kv : List (Key × V)} (hd0 : H d = none) (hkv : match g.oa b with | some d0 => H d0 = some (.dK kv) | none => kv = [])
    (hd : H' d = some (.dK kv)) (hI : H' g.I = some (.dK (ikv (fun j => if j = b then d else g.da j) (g.s.1 ++ [b])))) (hx : ∃ dx, H' g.x = some (.ins C dx (fsB sz bl wi g.O g.I g.Tn (g.s.2.2.1 + 1) g.s.2.2.2)))
    (ho : ∀ a o, H a = some o → a ≠ g.I → a ≠ g.x → H' a = some o) :
    BlAt C sz bl wi { g with da := fun j => if j = b then d else g.da j, s := (g.s.1 ++ [b], g.s.2.1, g.s.2.2.1 + 1, g.s.2.2.2), R := fun a => g.R a ∨ a = d } (· ∈ g.s.2.1) H' := by
  obtain ⟨okv, eO, lO, rO⟩ := h.O
  have nd : ∀ a o, H a = some o → a ≠ d := fun a o e z => by
    rw [z, hd0] at e
    cases e
  have cs : ∀ {j a}, a ≠ g.I → Cells sz bl g.N g.kp H j a → Cells sz bl g.N g.kp H' j a := fun n ⟨kv, e, r⟩ => ⟨kv, ho _ _ e n (h.nx e), r⟩
  have mL : ∀ j, j ∈ g.s.1 ++ [b] ↔ j ∈ g.s.1 ∨ j = b := fun j => by rw [List.mem_append, List.mem_singleton]
  have dN : ∀ j ∈ g.s.1, (if j = b then d else g.da j) = g.da j := fun j hj => if_neg fun z => hb (by rw [← z]; exact hj)
  have ocell : ∀ j, (j ∈ g.s.1 → ¬ j ∈ g.s.2.1) → OutB sz bl g.N g.kp H' j (g.oa j) := fun j hj => by
    have := h.out j hj
    cases e : g.oa j with
    | none =>
      rw [e] at this
      exact this
    | some d0 =>
      rw [e] at this
      exact cs (h.oa1 j d0 e).2.1 this
  refine { x := hx, O := ⟨okv, ho _ _ eO h.ne1 (h.nx eO), lO, rO⟩, I := hI, Tn := ho _ _ h.Tn h.ne3.symm (h.nx h.Tn), nd := ?_, nT := h.nT, sub := fun j hj => (mL j).mpr (.inl (h.sub j hj)), lw := ?_, ne1 := h.ne1, ne2 := h.ne2, ne3 := h.ne3, da1 := fun j hj => ?_, oa1 := h.oa1, inj := fun j hj c hc e => ?_, dis := fun j hj c d0 e => ?_, ins := fun j hj => ?_, out := fun j hj => ocell j fun m => hj ((mL j).mpr (.inl m)), od := fun j d0 e => ?_, kl := h.kl, rx := .inl h.rx, rO := .inl h.rO, rI := .inl h.rI, rT := .inl h.rT, rd := fun j hj => ?_, ro := fun j d0 e => .inl (h.ro j d0 e), rg := fun a ha => ?_ }
  · show (g.s.1 ++ [b]).Nodup
    rw [List.nodup_append]
    exact ⟨h.nd, by simp, fun a ha c hc => by
      rw [List.mem_singleton.mp hc]
      exact fun z => hb (by rw [← z]; exact ha)⟩
  · show (g.s.1 ++ [b]).length ≤ wi
    rw [List.length_append, List.length_singleton]
    omega
  · show (if j = b then d else g.da j) ≠ g.O ∧ (if j = b then d else g.da j) ≠ g.I ∧ (if j = b then d else g.da j) ≠ g.Tn
    rcases (mL j).mp hj with m | rfl
    · rw [dN j m]
      exact h.da1 j m
    · rw [if_pos rfl]
      exact ⟨(nd _ _ eO).symm, (nd _ _ h.I).symm, (nd _ _ h.Tn).symm⟩
  · have e : (if j = b then d else g.da j) = (if c = b then d else g.da c) := e
    rcases (mL j).mp hj with m | rfl
    · rcases (mL c).mp hc with m2 | rfl
      · rw [dN j m, dN c m2] at e
        exact h.inj j m c m2 e
      · rw [dN j m, if_pos rfl] at e
        obtain ⟨kv2, e2, _⟩ := h.ins j m
        exact absurd e (nd _ _ e2)
    · rcases (mL c).mp hc with m2 | rfl
      · rw [dN c m2, if_pos rfl] at e
        obtain ⟨kv2, e2, _⟩ := h.ins c m2
        exact absurd e.symm (nd _ _ e2)
      · rfl
  · show (if j = b then d else g.da j) ≠ d0
    rcases (mL j).mp hj with m | rfl
    · rw [dN j m]
      exact h.dis j m c d0 e
    · rw [if_pos rfl]
      obtain ⟨kv2, e2, _⟩ := h.od c d0 e
      exact (nd _ _ e2).symm
  · show Cells sz bl g.N g.kp H' j (if j = b then d else g.da j)
    rcases (mL j).mp hj with m | rfl
    · rw [dN j m]
      exact cs (h.da1 j m).2.1 (h.ins j m)
    · rw [if_pos rfl]
      have := h.out j fun m => absurd m hb
      cases e : g.oa j with
      | none =>
        rw [e] at this hkv
        subst hkv
        exact ⟨[], hd, Nat.zero_le _, fun a h1 h2 => (this a h1 h2).symm⟩
      | some d0 =>
        rw [e] at this hkv
        obtain ⟨kv2, e2, r⟩ := this
        have e3 : kv2 = kv := by
          rw [hkv] at e2
          cases e2
          rfl
        subst e3
        exact ⟨kv2, hd, r⟩
  · obtain ⟨kv2, e1, l⟩ := h.od j d0 e
    exact ⟨kv2, ho _ _ e1 (h.oa1 j d0 e).2.1 (h.nx e1), l⟩
  · show g.R (if j = b then d else g.da j) ∨ (if j = b then d else g.da j) = d
    rcases (mL j).mp hj with m | rfl
    · rw [dN j m]
      exact .inl (h.rd j m)
    · rw [if_pos rfl]
      exact .inr rfl
  · rcases ha with ha | rfl
    · obtain ⟨o, e, n⟩ := h.rg a ha
      by_cases n1 : a = g.I
      · exact ⟨.dK _, by rw [n1]; exact hI, trivial⟩
      · by_cases n2 : a = g.x
        · obtain ⟨dx, ex⟩ := hx
          exact ⟨.ins C dx _, by rw [n2]; exact ex, trivial⟩
        · exact ⟨o, ho a o e n1 n2, n⟩
    · exact ⟨.dK _, hd, trivial⟩
/-- a worth is put into a block within -/
theorem BlAt.put (h : BlAt C sz bl wi g D H) {b : Int} (hb : b ∈ g.s.1) {a : Nat} (ha : a < sz) (hab : (a : Int) / (bl : Int) = b) {kv : List (Key × V)} {v : V} (e : H (g.da b) = some (.dK kv)) (hd : H' (g.da b) = some (.dK (putK kv (.inl (a : Int)) v))) (ho : ∀ c, c ≠ g.da b → H' c = H c) :
    BlAt C sz bl wi { g with kp := g.kp.set a v, N := g.N + 1 } (fun j => D j ∨ j = b) H' := by
  obtain ⟨n1, n2, n3⟩ := h.da1 b hb
  obtain ⟨dx, ex⟩ := h.x
  obtain ⟨okv, eO, lO, rO⟩ := h.O
  have hkp : ∀ c : Nat, (c : Int) / (bl : Int) ≠ b → (g.kp.set a v).getD c .non = g.kp.getD c .non := fun c hc => by
    have : a ≠ c := fun z => hc (by rw [← z]; exact hab)
    rw [List.getD_eq_getElem?_getD, List.getD_eq_getElem?_getD, List.getElem?_set_ne this]
  have cs : ∀ {j d}, j ≠ b → d ≠ g.da b → Cells sz bl g.N g.kp H j d → Cells sz bl (g.N + 1) (g.kp.set a v) H' j d := fun nj n ⟨kv, e, l, r⟩ => ⟨kv, by rw [ho _ n]; exact e, Nat.le_succ_of_le l, fun c h1 h2 => by rw [hkp c (by rw [h2]; exact nj)]; exact r c h1 h2⟩
  refine { x := ⟨dx, by rw [ho _ (h.nx e).symm]; exact ex⟩, O := ⟨okv, by rw [ho _ n1.symm]; exact eO, by show okv.length ≤ 65 * (g.N + 1); omega, rO⟩, I := by rw [ho _ n2.symm]; exact h.I, Tn := by rw [ho _ n3.symm]; exact h.Tn, nd := h.nd, nT := h.nT, sub := h.sub, lw := h.lw, ne1 := h.ne1, ne2 := h.ne2, ne3 := h.ne3, da1 := h.da1, oa1 := h.oa1, inj := h.inj, dis := h.dis, ins := fun j hj => ?_, out := fun j hj => ?_, od := fun j d e2 => ?_, kl := by rw [← h.kl]; exact List.length_set, rx := h.rx, rO := h.rO, rI := h.rI, rT := h.rT, rd := h.rd, ro := h.ro, rg := rg_of h.rg fun c hc => ?_ }
  · show Cells sz bl (g.N + 1) (g.kp.set a v) H' j (g.da j)
    by_cases ej : j = b
    · subst ej
      obtain ⟨kv2, e2, l, r⟩ := h.ins j hb
      rw [e] at e2
      cases e2
      refine ⟨_, hd, ?_, fun c h1 h2 => ?_⟩
      · have := length_putK kv (.inl (a : Int)) v
        omega
      · rw [valV_put]
        by_cases ec : c = a
        · subst ec
          rw [if_pos rfl, List.getD_eq_getElem?_getD, List.getElem?_set_self (by rw [h.kl]; exact h1)]
        · rw [if_neg (fun z => ec (by have := Sum.inl.inj z; omega)), r c h1 h2, List.getD_eq_getElem?_getD, List.getD_eq_getElem?_getD, List.getElem?_set_ne (fun z => ec z.symm)]
    · exact cs ej (fun z => ej (h.inj j hj b hb z)) (h.ins j hj)
  · show OutB sz bl (g.N + 1) (g.kp.set a v) H' j (g.oa j)
    have ej : j ≠ b := fun z => hj (by rw [z]; exact hb) (.inr z)
    have := h.out j fun m z => hj m (.inl z)
    cases e2 : g.oa j with
    | none =>
      rw [e2] at this
      exact fun c h1 h2 => by rw [hkp c (by rw [h2]; exact ej)]; exact this c h1 h2
    | some d =>
      rw [e2] at this
      exact cs ej (fun z => h.dis b hb j d e2 z.symm) this
  · obtain ⟨kv2, e3, l⟩ := h.od j d e2
    exact ⟨kv2, by rw [ho _ (fun z => h.dis b hb j d e2 z.symm)]; exact e3, Nat.le_succ_of_le l⟩
  · by_cases n : c = g.da b
    · exact .inr ⟨.dK _, by rw [n]; exact hd, trivial⟩
    · exact .inl (ho c n)
/-- a block is turned -/
theorem BlAt.turn (h : BlAt C sz bl wi g D H) {b : Int} (hb : b ∈ g.s.1) (hD : ∀ j, D j → j ∈ g.s.2.1 ∨ j = b) (hT : H' g.Tn = some (.dK (tkv (addT g.s.2.1 b)))) (ho : ∀ c, c ≠ g.Tn → H' c = H c) :
    BlAt C sz bl wi { g with s := (g.s.1, addT g.s.2.1 b, g.s.2.2.1, g.s.2.2.2) } (· ∈ addT g.s.2.1 b) H' := by
  obtain ⟨dx, ex⟩ := h.x
  obtain ⟨okv, eO, rO⟩ := h.O
  have cs : ∀ {j d}, d ≠ g.Tn → Cells sz bl g.N g.kp H j d → Cells sz bl g.N g.kp H' j d := fun n c => c.same (ho _ n)
  refine { x := ⟨dx, by rw [ho _ (h.nx h.Tn).symm]; exact ex⟩, O := ⟨okv, by rw [ho _ h.ne2]; exact eO, rO⟩, I := by rw [ho _ h.ne3]; exact h.I, Tn := hT, nd := h.nd, nT := nodup_addT h.nT, sub := fun j hj => ?_, lw := h.lw, ne1 := h.ne1, ne2 := h.ne2, ne3 := h.ne3, da1 := h.da1, oa1 := h.oa1, inj := h.inj, dis := h.dis, ins := fun j hj => cs (h.da1 j hj).2.2 (h.ins j hj), out := fun j hj => ?_, od := fun j d e2 => ?_, kl := h.kl, rx := h.rx, rO := h.rO, rI := h.rI, rT := h.rT, rd := h.rd, ro := h.ro, rg := rg_of h.rg fun c hc => ?_ }
  · rcases mem_addT.mp hj with m | rfl
    · exact h.sub j m
    · exact hb
  · show OutB sz bl g.N g.kp H' j (g.oa j)
    have := h.out j fun m z => hj m (mem_addT.mpr (hD j z))
    cases e2 : g.oa j with
    | none =>
      rw [e2] at this
      exact this
    | some d =>
      rw [e2] at this
      exact cs (h.oa1 j d e2).2.2 this
  · obtain ⟨kv2, e3, l⟩ := h.od j d e2
    exact ⟨kv2, by rw [ho _ (h.oa1 j d e2).2.2]; exact e3, l⟩
  · by_cases n : c = g.Tn
    · exact .inr ⟨.dK _, by rw [n]; exact hT, trivial⟩
    · exact .inl (ho c n)
end
end K32
namespace K32
open PySem PySem.Spec PyProof.Rows L2 Lw
local macro_rules | `(tactic| walk_at "ev") => `(tactic| simp only [cxOf, tNoS, tFldF, sFldF, sFldAugF, tMethF, Ix_upd, lk_eq, lk_ne, lk_nil, putF_nil, putF_eq, putF_ne, Str_lit, String.reduceEq, fsB, rListK, rDictD, rRevF, rLenD, rAllF, rSortF, rSortK, rLenI, tChain, Int.reduceMul, tPar3, tCallN, iKeysF, tLockE, tDisp1F, mergeK_one, tYes, iRng3, ex_ints, ex_any, tML, tML0, tMD, tTupN, tLstN, tDNewN, rSlL2, rCatF, rRepF, tRevF, rListF, rMaxF, tDGetF, tDGet1F, tDGet2F, tDPop1F, tDPop2F, sDPutF, tLenSetF, tSl, tPart, tNoPart, ipI, rIsiF, Tz_non, Tz_bl, Tz_int, Tz_str, Cl7_int, Cl7_bool, Cl7_str, Cl7_list, Cl7_tuple, Cl7_dict, T7.isa, iListF, iTupF, cpow12, cpow60, tFor_eq, tLc_eq, iRng1, iRng2, wipe, Cx.nox, Cx.wish, tSeq, tIfS, tTest, tOp, tVar, tC, tRet, tRetN, tCB, tCons, tNil, tB, tNot, tAnd, tOr, tAndV, tOrV, tNotV, tIf, rEq, rNe, scal_ii, scal_bb, scal_ss, scal_nn, scal_si, scal_is, scal_in, scal_ni, Bool.or_true, Bool.true_or, Bool.or_false, Bool.false_or, Bool.and_true, Bool.true_and, Bool.and_false, Bool.false_and, rI, rI0, rU, tUn, t2I, tAsg, gName, tPar, tDrop, tLst, tTup, tCall, tNext, tBreak, tCont, tAug, rAdd, gTup, gTupF, gCons, gNil, gSub, rIxF, rLenF, rSetF, rAppF, rExtF, rPop0, rRemF, rInF, rDUpd, Nt_int, Op_some, Ky_int, Ky_str,
  List.map_cons, List.map_nil, List.cons_append, List.nil_append, List.append_nil, List.getElem?_cons_zero, List.getElem?_cons_succ, List.set_cons_zero, List.set_cons_succ, List.length_cons, List.length_nil, Option.some.injEq, exists_eq_left', exists_eq_left, exists_eq_right, V.int.injEq, V.ref.injEq, V.bl.injEq, V.str.injEq, V.ty.injEq, List.cons.injEq, and_true, true_and, and_assoc, reduceCtorEq, decide_eq_true_eq, decide_true, decide_false, if_true, if_false, ite_true, ite_false, Bool.false_eq_true, false_and, and_false, exists_false, exists_const, or_false, false_or, Bool.not_eq_true', decide_eq_false_iff_not, List.replicate_succ, List.replicate_zero, Nat.reduceSub, Nat.reduceAdd, Int.reducePow, Int.reduceNeg, exists_and_left, exists_and_right, atI_0, atI_1, atI_2, ixN_0, ixN_1, ixN_2, L2.start, upd_upd, Sq_upd, Sq_updT, Tp_upd, Ls_upd, Dk_upd, Int.reduceLT, Int.reduceLE, Nat.reduceLT, Nat.reduceLeDiff, forall_eq', forall_eq, id, Int.zero_add, Bool.not_true, Bool.not_false, not_true_eq_false, not_false_eq_true, ne_eq])
theorem pe_gint {X : Cx} {x : Str} {p : Pos} {i : Int} (hg : Gl X x) (h : ∃ t, X.mg x = some (.int i t)) (hd : (x == ("__debug__" : Str)) = false := by decide) : PE X (.Name x p) (tC (.int i)) := by
  obtain ⟨t, e⟩ := h
  exact pe_glob hg e ⟨t, rfl⟩ hd
theorem ip_add_mono : ∀ x y H (Q Q' : VK), (∀ v H', Q v H' → Q' v H') → rAdd x y H Q → rAdd x y H Q' := fun x y H Q Q' h r => by
  obtain ⟨i, j, e1, e2, q⟩ := r
  exact ⟨i, j, e1, e2, h _ _ q⟩
/-- what the module holds -/
structure Tb (K : PySem.W.Frag) (mg : Str → Option Value) (C : Addr) : Prop extends Bt mg where
  cl : Cls K C
  n_cells_many : NoAttr K C "cells_many"
  n_block_size : NoAttr K C "block_size"
  n_within_most : NoAttr K C "within_most"
  n_outside : NoAttr K C "outside"
  n_inside : NoAttr K C "inside"
  n_turned : NoAttr K C "turned"
  n_fetched_many : NoAttr K C "fetched_many"
  n_put_many : NoAttr K C "put_many"
  dict : mg "dict" = none
  abs : mg "abs" = none
  all : mg "all" = none
  sorted : mg "sorted" = none
  g_MOST_CELLS : ∃ t, mg "MOST_CELLS" = some (.int 20000 t)
  g_MOST_BLOCK : ∃ t, mg "MOST_BLOCK" = some (.int 64 t)
  g_MOST_WITHIN : ∃ t, mg "MOST_WITHIN" = some (.int 64 t)
/-- a def of the class -/
def DefM (K : PySem.W.Frag) (C : Addr) (m qual : Str) (st : Stmt) : Prop := ∃ f fd, FunD K m qual (defArgs st) (defBody st) (defScope st) [] [] f fd ∧ Meth K C m f
theorem gcd_step (c d : Int) : Int.gcd d (c % d) = Int.gcd c d := by
  rw [Int.emod_def, Int.mul_comm d, Int.gcd_sub_mul_right_right, Int.gcd_comm]
section
variable {P : Program} {w : World} {K : PySem.W.Frag} {mg : Str → Option Value} {base : Heap} {C : Addr}
theorem KnM.imp {m : Str} {ps : List Str} {k : Nat} {sp sp' : Sp} (c : KnM P w K mg base C m ps k sp) (h : ∀ vs H Q E, sp' vs H Q E → sp vs H Q E) : KnM P w K mg base C m ps k sp' := by
  obtain ⟨f, fd, r, G, b⟩ := c
  exact ⟨f, fd, r, G.imp h, b⟩
theorem knm_of {m qual : Str} {st : Stmt} {N ps : List Str} {k : Nat} {sp : Sp} (F : DefM K C m qual st) (S : FnScope N ps (defScope st)) (len : ∀ vs H Q E, sp vs H Q E → vs.length = ps.length)
    (hb : ∀ (kV doc pm : Value) (an : Option Addr) (cdv ct : Value) (us : List Value), us.length = ps.length → bindArgs (PySem.W.fnOf m qual (defArgs st) (defBody st) (defScope st) .none kV doc pm an cdv ct) ⟨us, []⟩ = pure (ps.zip us))
    (hbody : ∀ (f : Addr) (cdv : Value) (A : Around) (outer : List Env) (s : Shared) (H : Hp) (vs : List V) (Q : VK) (E : XK), Room k (A.deeper (envOfC qual (defScope st) s.heap.objs.size f cdv)) → sp vs H Q E →
      ∃ t, PSs (cxOf CX0 P w K mg base N qual (defScope st) f cdv A outer s H E).nox (defBody st) t ∧ t { nx := fun _ H' => Q .non H', rt := Q } (start N vs) H) : KnM P w K mg base C m ps (k + 1) sp := by
  obtain ⟨f, fd, F, mt⟩ := F
  refine ⟨f, fd, mt, F.ok S len (fun cdv A outer s H vs Q E hr hsp => ?_), F.bindsN hb⟩
  obtain ⟨t, h, q⟩ := hbody f cdv A outer s H vs Q E hr hsp
  exact ⟨t, h.nox, q⟩

theorem scIsWhole : FnScope ["thing"] ["thing"] (defScope sIsWhole) := ⟨rfl, rfl, rfl, by decide +kernel, rfl, by decide +kernel, by decide +kernel⟩
theorem ok_is_whole (F : Def1 K mg "is_whole" sIsWhole) (T : Tb K mg C) : Kn P w K mg base "is_whole" ["thing"] 1 spWhole := by
  refine kn_of F scIsWhole (fun vs H Q E h => ?_) (fun _ _ _ _ _ _ us hl => match us, hl with | [_], _ => rfl) (fun f cdv A outer s H vs Q E hr h => ?_)
  · unfold spWhole at h
    split at h
    · rfl
    · exact h.elim
  · unfold spWhole at h
    split at h
    · rename_i v
      refine ⟨_, (pss_one (ps_ret (pe_and (pe_callB call_isiF (by rfl) T.isinstance (by decide +kernel) (pa_cons (pv 0) (pa_cons (pe_bltn (v := .ty "int") (by rfl) T.int (by decide +kernel) rfl) pa_nil))) (pe_one (pe_not (pe_callB call_isiF (by rfl) T.isinstance (by decide +kernel) (pa_cons (pv 0) (pa_cons (pe_bltn (v := .ty "bool") (by rfl) T.bool (by decide +kernel) rfl) pa_nil)))))))), ?_⟩
      walk_at "ev"
      unfold Tz at h ⊢
      split at h <;> (try split at h) <;> (try exact h.elim) <;> walk_at "ev" <;> first | exact h | (simp only [*]; exact h)
    · exact h.elim
def spDiv : Sp := fun vs H Q _ => ∃ a b : Int, vs = [.int a, .int b] ∧ 0 ≤ b ∧ Q (.int (Int.gcd a b : Nat)) H
theorem scDivisor : FnScope ["one", "other"] ["one", "other"] (defScope sDivisor) := ⟨rfl, rfl, rfl, by decide +kernel, rfl, by decide +kernel, by decide +kernel⟩
theorem ok_divisor_of (F : Def1 K mg "divisor_of" sDivisor) (T : Tb K mg C) : Kn P w K mg base "divisor_of" ["one", "other"] 1 spDiv := by
  refine kn_of F scDivisor (fun vs H Q E h => ?_) (fun _ _ _ _ _ _ us hl => match us, hl with | [_, _], _ => rfl) (fun f cdv A outer s H vs Q E hr h => ?_)
  · obtain ⟨a, b, rfl, _⟩ := h
    rfl
  · obtain ⟨a, b, rfl, hb, q⟩ := h
    refine ⟨_, (pss_cons (ps_while PassesOwn.never (pt_cmpR op_ne (pv 1) pe_int (nomark _)) (pss_one (ps_par (i := 0) (j := 1) (by rfl) scDivisor.nd rfl rfl (by decide) rfl rfl (pa_cons (pv 1) (pa_cons (pe_op op_mod (pv 0) (pv 1)) pa_nil)) (by rfl))))
      (pss_one (ps_ret (pe_callB call_abs (by rfl) T.abs (by decide +kernel) (pa_cons (pv 0) pa_nil))))), ?_⟩
    walk_at "ev"
    refine ⟨fun m σ H' => H' = H ∧ ∃ c d : Int, 0 ≤ d ∧ d.toNat = m ∧ Int.gcd c d = Int.gcd a b ∧ σ = [some (.int c), some (.int d)], ⟨b.toNat, rfl, a, b, hb, rfl, rfl, rfl⟩, ?_⟩
    rintro m σ H' ⟨rfl, c, d, hd, hm, hg, rfl⟩
    walk_at "ev"
    by_cases h0 : d = 0
    · subst h0
      simp only [not_true_eq_false, if_false]
      rw [← hg, Int.gcd_zero_right] at q
      have : (if c < 0 then -c else c) = ((c.natAbs : Nat) : Int) := by
        split <;> omega
      rw [this]
      exact q
    · rw [if_pos h0]
      have hd2 : 0 < d := by omega
      have m0 := Int.emod_nonneg c h0
      have m1 := Int.emod_lt_of_pos c hd2
      refine ⟨fun σ' H'' => H'' = H' ∧ ∃ c d : Int, 0 ≤ d ∧ d.toNat < m ∧ Int.gcd c d = Int.gcd a b ∧ σ' = [some (.int c), some (.int d)], ?_, ?_⟩
      · rintro σ' H'' ⟨rfl, c, d, h1, h2, h3, rfl⟩
        exact ⟨_, h2, rfl, c, d, h1, rfl, h3, rfl⟩
      · refine ⟨hd2, rfl, d, c % d, m0, by omega, ?_, rfl⟩
        rw [← hg]
        exact gcd_step c d
def Num2 (H : Hp) (v : V) : Prop := ∃ t a b, v = .ref t ∧ H t = some (.tup [.int a, .int b]) ∧ 1 ≤ b ∧ Int.gcd a b = 1
def spIsNumber : Sp := fun vs H Q _ => ∃ v, vs = [v] ∧ Num2 H v ∧ ∀ H', Same H H' → Q (.bl true) H'
theorem scIsNumber : FnScope ["thing", "top", "bottom", "one"] ["thing"] (defScope sIsNumber) := ⟨rfl, rfl, rfl, by decide +kernel, rfl, by decide +kernel, by decide +kernel⟩
theorem ok_is_number (F : Def1 K mg "is_number" sIsNumber) (T : Tb K mg C) (c_is_whole : Kn P w K mg base "is_whole" ["thing"] 1 spWhole) (c_divisor_of : Kn P w K mg base "divisor_of" ["one", "other"] 1 spDiv) : Kn P w K mg base "is_number" ["thing"] 2 spIsNumber := by
  refine kn_of F scIsNumber (fun vs H Q E h => ?_) (fun _ _ _ _ _ _ us hl => match us, hl with | [_], _ => rfl) (fun f cdv A outer s H vs Q E hr h => ?_)
  · obtain ⟨v, rfl, _⟩ := h
    rfl
  · obtain ⟨v, rfl, ⟨t, a, b, rfl, ht, hb, hg⟩, q⟩ := h
    refine ⟨_, (pss_cons (ps_if (PW.pt (pw_or (pt_not (pt_val (pe_callB call_isiF (by rfl) T.isinstance (by decide +kernel) (pa_cons (pv 0) (pa_cons (pe_bltn (v := .ty "tuple") (by rfl) T.tuple (by decide +kernel) rfl) pa_nil))))) (pw_or (pt_cmpR op_ne (pe_callB call_lenF (by rfl) T.len (by decide +kernel) (pa_cons (pv 0) pa_nil)) pe_int (nomark _)) (pw_or1 (pt_not (pt_val (pe_callB (cr_allF rfl) (by rfl) T.all (by decide +kernel) (pa_cons (pe_lc (own := [("one", 3)]) (by rfl) scIsNumber.nd (pi_tupF (pv 0)) (blkOk_by (N := ["thing", "top", "bottom", "one"]) (sc := defScope sIsNumber) (by decide +kernel)) (fun _ _ _ _ _ => (pg_name (i := 3) scIsNumber.nd rfl (Or.inl rfl))) (fun _ _ _ _ _ => pts_nil) (fun _ _ _ _ _ => (pe_kn c_is_whole (hr.mono (by decide)) (by rfl) (pa_cons (pv 3) pa_nil)))) pa_nil)))))))) (pss_one (ps_ret pe_bl)) pss_nil)
      (pss_cons (ps_asg (pv 0) (pg_tupF 2 (by rfl) (pgs_cons (pg_name (i := 1) scIsNumber.nd rfl (Or.inl rfl)) (pgs_cons (pg_name (i := 2) scIsNumber.nd rfl (Or.inl rfl)) pgs_nil))))
      (pss_one (ps_ret (pe_and (pe_cmpR op_ge (pv 2) pe_int (nomark _)) (pe_one (pe_cmpR op_eq (pe_kn c_divisor_of (hr.mono (by decide)) (by rfl) (pa_cons (pv 1) (pa_cons (pv 2) pa_nil))) pe_int (nomark _)))))))), ?_⟩
    walk_at "ev"
    simp only [Tz_tup ht, Sq_tup ht, Tp_tup ht]
    walk_at "ev"
    rw [if_neg (by decide)]
    refine lcp_tup (xs := [.int a, .int b]) (fun D i H' => Same H H' ∧ H' D = some (.lst ((List.replicate i true).map V.bl))) ?_ ?_ ?_ ?_
    · exact fun D hD => ⟨(newf hD rfl).1, upd_same⟩
    · exact fun D i H' _ ⟨sm, _⟩ => sm _ _ ht
    · rintro D i x H' hD hx ⟨sm, e⟩
      have hi : i < 2 := (List.getElem?_eq_some_iff.mp hx).1
      obtain ⟨n, rfl⟩ : ∃ n, x = V.int n := by
        match i, hi with
        | 0, _ => exact ⟨a, (Option.some.inj hx).symm⟩
        | 1, _ => exact ⟨b, (Option.some.inj hx).symm⟩
      walk_at "ev"
      simp only [spWhole, Tz_int, decide_true]
      refine ⟨_, e, by rw [List.length_map, List.length_replicate]; exact Nat.lt_trans hi (by decide), same_chg sm fun b o h => ne_of_none h hD, ?_⟩
      rw [upd_same, List.map_replicate]
      exact congrArg (fun z => some (HO.lst z)) (List.replicate_succ'.symm.trans List.replicate_succ)
    · rintro D H' hD ⟨sm, e⟩
      simp only [Ls_lst e]
      refine ⟨_, rfl, ?_⟩
      rw [if_neg (by simp)]
      simp only [Tp_tup (sm _ _ ht)]
      walk_at "ev"
      rw [if_pos hb]
      refine ⟨a, b, rfl, by omega, ?_⟩
      rw [hg]
      exact ⟨rfl, q _ sm⟩
def spIsWorth : Sp := fun vs H Q _ => ∃ v, vs = [v] ∧ ((∃ b, v = .bl b) ∨ Num2 H v) ∧ ∀ H', Same H H' → Q (.bl true) H'
theorem scIsWorth : FnScope ["thing"] ["thing"] (defScope sIsWorth) := ⟨rfl, rfl, rfl, by decide +kernel, rfl, by decide +kernel, by decide +kernel⟩
theorem ok_is_worth (F : Def1 K mg "is_worth" sIsWorth) (T : Tb K mg C) (c_is_number : Kn P w K mg base "is_number" ["thing"] 2 spIsNumber) : Kn P w K mg base "is_worth" ["thing"] 3 spIsWorth := by
  refine kn_of F scIsWorth (fun vs H Q E h => ?_) (fun _ _ _ _ _ _ us hl => match us, hl with | [_], _ => rfl) (fun f cdv A outer s H vs Q E hr h => ?_)
  · obtain ⟨v, rfl, _⟩ := h
    rfl
  · obtain ⟨v, rfl, hv, q⟩ := h
    refine ⟨_, (pss_one (ps_ret (pe_or (pe_callB call_isiF (by rfl) T.isinstance (by decide +kernel) (pa_cons (pv 0) (pa_cons (pe_bltn (v := .ty "bool") (by rfl) T.bool (by decide +kernel) rfl) pa_nil))) (pe_one (pe_kn c_is_number (hr.mono (by decide)) (by rfl) (pa_cons (pv 0) pa_nil)))))), ?_⟩
    rcases hv with ⟨b, rfl⟩ | hn
    · walk_at "ev"
      exact q _ fun _ _ h => h
    · obtain ⟨t, a, b, rfl, ht, hb, hg⟩ := id hn
      walk_at "ev"
      simp only [Tz_tup ht]
      walk_at "ev"
      exact ⟨_, rfl, hn, q⟩
def spIsFrom : Sp := fun vs H Q _ => ∃ a l h : Int, vs = [.int a, .int l, .int h] ∧ Q (.bl (decide (l ≤ a ∧ a ≤ h))) H
theorem scIsFrom : FnScope ["thing", "low", "high"] ["thing", "low", "high"] (defScope sIsFrom) := ⟨rfl, rfl, rfl, by decide +kernel, rfl, by decide +kernel, by decide +kernel⟩
theorem ok_is_from (F : Def1 K mg "is_from" sIsFrom) (T : Tb K mg C) (c_is_whole : Kn P w K mg base "is_whole" ["thing"] 1 spWhole) : Kn P w K mg base "is_from" ["thing", "low", "high"] 2 spIsFrom := by
  refine kn_of F scIsFrom (fun vs H Q E h => ?_) (fun _ _ _ _ _ _ us hl => match us, hl with | [_, _, _], _ => rfl) (fun f cdv A outer s H vs Q E hr h => ?_)
  · obtain ⟨a, l, h, rfl, _⟩ := h
    rfl
  · obtain ⟨a, l, h, rfl, q⟩ := h
    refine ⟨_, (pss_one (ps_ret (pe_and (pe_kn c_is_whole (hr.mono (by decide)) (by rfl) (pa_cons (pv 0) pa_nil)) (pe_one (pe_chain op_le op_le (pv 1) (pv 0) (pv 2)))))), ?_⟩
    walk_at "ev"
    simp only [spWhole, Tz_int, decide_true]
    refine ⟨true, rfl, ?_⟩
    rw [if_pos rfl]
    by_cases h1 : l ≤ a
    · rw [if_pos h1]
      rw [show decide (l ≤ a ∧ a ≤ h) = decide (a ≤ h) from decide_eq_decide.mpr ⟨fun z => z.2, fun z => ⟨h1, z⟩⟩] at q
      exact q
    · rw [if_neg h1]
      rw [decide_eq_false (show ¬ (l ≤ a ∧ a ≤ h) from fun z => h1 z.1)] at q
      exact q
def spLookSizes : Sp := fun vs H Q _ => ∃ a b c : Int, vs = [.int a, .int b, .int c] ∧ 0 ≤ a ∧ a ≤ 20000 ∧ 1 ≤ b ∧ b ≤ 64 ∧ 1 ≤ c ∧ c ≤ 64 ∧ Q .non H
theorem scLookSizes : FnScope ["size", "block", "within"] ["size", "block", "within"] (defScope sLookSizes) := ⟨rfl, rfl, rfl, by decide +kernel, rfl, by decide +kernel, by decide +kernel⟩
theorem ok_look_at_sizes (F : Def1 K mg "look_at_sizes" sLookSizes) (T : Tb K mg C) (c_is_from : Kn P w K mg base "is_from" ["thing", "low", "high"] 2 spIsFrom) : Kn P w K mg base "look_at_sizes" ["size", "block", "within"] 3 spLookSizes := by
  refine kn_of F scLookSizes (fun vs H Q E h => ?_) (fun _ _ _ _ _ _ us hl => match us, hl with | [_, _, _], _ => rfl) (fun f cdv A outer s H vs Q E hr h => ?_)
  · obtain ⟨a, b, c, rfl, _⟩ := h
    rfl
  · obtain ⟨a, b, c, rfl, h1, h2, h3, h4, h5, h6, q⟩ := h
    refine ⟨_, (pss_cons (ps_if (pt_not (pt_val (pe_kn c_is_from (hr.mono (by decide)) (by rfl) (pa_cons (pv 0) (pa_cons pe_int (pa_cons (pe_gint (by rfl) T.g_MOST_CELLS) pa_nil)))))) (pss_one ps_no) pss_nil)
      (pss_cons (ps_if (pt_not (pt_val (pe_kn c_is_from (hr.mono (by decide)) (by rfl) (pa_cons (pv 1) (pa_cons pe_int (pa_cons (pe_gint (by rfl) T.g_MOST_BLOCK) pa_nil)))))) (pss_one ps_no) pss_nil)
      (pss_one (ps_if (pt_not (pt_val (pe_kn c_is_from (hr.mono (by decide)) (by rfl) (pa_cons (pv 2) (pa_cons pe_int (pa_cons (pe_gint (by rfl) T.g_MOST_WITHIN) pa_nil)))))) (pss_one ps_no) pss_nil)))), ?_⟩
    walk_at "ev"
    refine ⟨a, 0, 20000, rfl, _, rfl, ?_⟩
    rw [if_neg (by simp [h1, h2])]
    refine ⟨b, 1, 64, rfl, _, rfl, ?_⟩
    rw [if_neg (by simp [h3, h4])]
    refine ⟨c, 1, 64, rfl, _, rfl, ?_⟩
    rw [if_neg (by simp [h5, h6])]
    exact q
/-- behind a store's telling nothing is changed -/
def spSizes (C : Addr) : Sp := fun vs H Q _ => ∃ (g : G) (sz bl wi : Nat) (D : Int → Prop), vs = [.ref g.x] ∧ BlAt C sz bl wi g D H ∧ ∀ p H', Same H H' → H' p = some (.tup [.int sz, .int bl, .int wi]) → Q (.ref p) H'
theorem scSizes : FnScope ["self"] ["self"] (defScope sSizes) := ⟨rfl, rfl, rfl, by decide +kernel, rfl, by decide +kernel, by decide +kernel⟩
theorem ok_sizes (F : DefM K C "sizes" "Blocks.sizes" sSizes) (T : Tb K mg C) : KnM P w K mg base C "sizes" ["self"] 1 (spSizes C) := by
  refine knm_of F scSizes (fun vs H Q E h => ?_) (fun _ _ _ _ _ _ us hl => match us, hl with | [_], _ => rfl) (fun f cdv A outer s H vs Q E hr h => ?_)
  · obtain ⟨g, sz, bl, wi, D, rfl, _⟩ := h
    rfl
  · obtain ⟨g, sz, bl, wi, D, rfl, B, q⟩ := h
    obtain ⟨dx, ex⟩ := B.x
    refine ⟨_, (pss_one (ps_ret (pe_tupN (pa_cons (pe_fldF T.cl T.n_cells_many (pv 0)) (pa_cons (pe_fldF T.cl T.n_block_size (pv 0)) (pa_cons (pe_fldF T.cl T.n_within_most (pv 0)) pa_nil)))))), ?_⟩
    walk_at "ev"
    simp only [Ix_ins ex]
    walk_at "ev"
    exact ⟨by decide, Nw.intro fun p H1 c1 => q p H1 c1.same c1.it⟩
def spLookCell (C : Addr) : Sp := fun vs H Q _ => ∃ (g : G) (sz bl wi : Nat) (D : Int → Prop) (a : Nat), vs = [.ref g.x, .int (a : Int)] ∧ BlAt C sz bl wi g D H ∧ a < sz ∧ Q .non H
theorem scLookCell : FnScope ["self", "at"] ["self", "at"] (defScope sLookCell) := ⟨rfl, rfl, rfl, by decide +kernel, rfl, by decide +kernel, by decide +kernel⟩
theorem ok_look_at_cell (F : DefM K C "look_at_cell" "Blocks.look_at_cell" sLookCell) (T : Tb K mg C) (c_is_from : Kn P w K mg base "is_from" ["thing", "low", "high"] 2 spIsFrom) : KnM P w K mg base C "look_at_cell" ["self", "at"] 3 (spLookCell C) := by
  refine knm_of F scLookCell (fun vs H Q E h => ?_) (fun _ _ _ _ _ _ us hl => match us, hl with | [_, _], _ => rfl) (fun f cdv A outer s H vs Q E hr h => ?_)
  · obtain ⟨g, sz, bl, wi, D, a, rfl, _⟩ := h
    rfl
  · obtain ⟨g, sz, bl, wi, D, a, rfl, B, ha, q⟩ := h
    obtain ⟨dx, ex⟩ := B.x
    refine ⟨_, (pss_one (ps_if (pt_not (pt_val (pe_kn c_is_from (hr.mono (by decide)) (by rfl) (pa_cons (pv 1) (pa_cons pe_int (pa_cons (pe_op op_sub (pe_fldF T.cl T.n_cells_many (pv 0)) pe_int) pa_nil)))))) (pss_one ps_no) pss_nil)), ?_⟩
    walk_at "ev"
    simp only [Ix_ins ex]
    walk_at "ev"
    refine ⟨a, 0, (sz : Int) - 1, rfl, _, rfl, ?_⟩
    rw [if_neg (by simp; omega)]
    exact q
end
end K32
namespace K32
open PySem PySem.Spec PyProof.Rows L2 Lw
local macro_rules | `(tactic| walk_at "ev") => `(tactic| simp only [cxOf, tNoS, tFldF, sFldF, sFldAugF, tMethF, Ix_upd, lk_eq, lk_ne, lk_nil, putF_nil, putF_eq, putF_ne, Str_lit, String.reduceEq, fsB, rListK, rDictD, rRevF, rLenD, rAllF, rSortF, rSortK, rLenI, tChain, Int.reduceMul, tPar3, tCallN, iKeysF, tLockE, tDisp1F, mergeK_one, tYes, iRng3, ex_ints, ex_any, tML, tML0, tMD, tTupN, tLstN, tDNewN, rSlL2, rCatF, rRepF, tRevF, rListF, rMaxF, tDGetF, tDGet1F, tDGet2F, tDPop1F, tDPop2F, sDPutF, tLenSetF, tSl, tPart, tNoPart, ipI, rIsiF, Tz_non, Tz_bl, Tz_int, Tz_str, Cl7_int, Cl7_bool, Cl7_str, Cl7_list, Cl7_tuple, Cl7_dict, T7.isa, iListF, iTupF, cpow12, cpow60, tFor_eq, tLc_eq, iRng1, iRng2, wipe, Cx.nox, Cx.wish, tSeq, tIfS, tTest, tOp, tVar, tC, tRet, tRetN, tCB, tCons, tNil, tB, tNot, tAnd, tOr, tAndV, tOrV, tNotV, tIf, rEq, rNe, scal_ii, scal_bb, scal_ss, scal_nn, scal_si, scal_is, scal_in, scal_ni, Bool.or_true, Bool.true_or, Bool.or_false, Bool.false_or, Bool.and_true, Bool.true_and, Bool.and_false, Bool.false_and, rI, rI0, rU, tUn, t2I, tAsg, gName, tPar, tDrop, tLst, tTup, tCall, tNext, tBreak, tCont, tAug, rAdd, gTup, gTupF, gCons, gNil, gSub, rIxF, rLenF, rSetF, rAppF, rExtF, rPop0, rRemF, rInF, rDUpd, Nt_int, Op_some, Ky_int, Ky_str,
  List.map_cons, List.map_nil, List.cons_append, List.nil_append, List.append_nil, List.getElem?_cons_zero, List.getElem?_cons_succ, List.set_cons_zero, List.set_cons_succ, List.length_cons, List.length_nil, Option.some.injEq, exists_eq_left', exists_eq_left, exists_eq_right, V.int.injEq, V.ref.injEq, V.bl.injEq, V.str.injEq, V.ty.injEq, List.cons.injEq, and_true, true_and, and_assoc, reduceCtorEq, decide_eq_true_eq, decide_true, decide_false, if_true, if_false, ite_true, ite_false, Bool.false_eq_true, false_and, and_false, exists_false, exists_const, or_false, false_or, Bool.not_eq_true', decide_eq_false_iff_not, List.replicate_succ, List.replicate_zero, Nat.reduceSub, Nat.reduceAdd, Int.reducePow, Int.reduceNeg, exists_and_left, exists_and_right, atI_0, atI_1, atI_2, ixN_0, ixN_1, ixN_2, L2.start, upd_upd, Sq_upd, Sq_updT, Tp_upd, Ls_upd, Dk_upd, Int.reduceLT, Int.reduceLE, Nat.reduceLT, Nat.reduceLeDiff, forall_eq', forall_eq, id, Int.zero_add, Bool.not_true, Bool.not_false, not_true_eq_false, not_false_eq_true, ne_eq])
section
variable {P : Program} {w : World} {K : PySem.W.Frag} {mg : Str → Option Value} {base : Heap} {C : Addr}
def spPutAway (C : Addr) : Sp := fun vs H Q _ => ∃ (g : G) (sz bl wi : Nat) (y : Int), vs = [.ref g.x, .int y] ∧ BlAt C sz bl wi g (· ∈ g.s.2.1) H ∧ y ∈ g.s.1 ∧ g.N ≤ 10000 ∧ wi ≤ 64 ∧
  ∀ g' H', BlAt C sz bl wi g' (· ∈ g'.s.2.1) H' → g'.x = g.x → g'.s = away g.s y → g'.kp = g.kp → g'.N = g.N + 1 → g'.R = g.R → Fr g.R H H' → Q .non H'
theorem scPutAway : FnScope ["self", "block", "cells"] ["self", "block"] (defScope sPutAway) := ⟨rfl, rfl, rfl, by decide +kernel, rfl, by decide +kernel, by decide +kernel⟩
theorem ok_put_away (F : DefM K C "put_away" "Blocks.put_away" sPutAway) (T : Tb K mg C) : KnM P w K mg base C "put_away" ["self", "block"] 1 (spPutAway C) := by
  refine knm_of F scPutAway (fun vs H Q E h => ?_) (fun _ _ _ _ _ _ us hl => match us, hl with | [_, _], _ => rfl) (fun f cdv A outer s H vs Q E hr h => ?_)
  · obtain ⟨g, sz, bl, wi, y, rfl, _⟩ := h
    rfl
  · obtain ⟨g, sz, bl, wi, y, rfl, B, hy, hN, hw, q⟩ := h
    obtain ⟨dx, ex⟩ := B.x
    obtain ⟨okv, eO, lO, vO⟩ := B.O
    refine ⟨_, (pss_cons (ps_set (i := 2) scPutAway.nd rfl (Or.inl rfl) (pe_dpop1F (pe_fldF T.cl T.n_inside (pv 0)) (pv 1) ⟨rfl, rfl, rfl, rfl⟩))
      (pss_one (ps_if (pt_cmp (pc_dinF (hu_of hr) (pv 1) (pe_fldF T.cl T.n_turned (pv 0)))) (pss_cons (ps_expr (pe_dpop1F (pe_fldF T.cl T.n_turned (pv 0)) (pv 1) ⟨rfl, rfl, rfl, rfl⟩))
      (pss_cons (ps_fldaugF T.cl T.n_put_many ip_add ip_add_mono (pv 0) pe_int)
      (pss_one (ps_dputF (hu_of hr) (pe_fldF T.cl T.n_outside (pv 0)) (pv 1) (pv 2) rfl)))) pss_nil))), ?_⟩
    walk_at "ev"
    simp only [Ix_ins ex]
    walk_at "ev"
    simp only [Dk_dK B.I, ikv_val, if_pos hy]
    walk_at "ev"
    have nIx : g.I ≠ g.x := B.nx B.I
    have nTx : g.Tn ≠ g.x := B.nx B.Tn
    have nOx : g.O ≠ g.x := B.nx eO
    rw [ikv_drop]
    generalize hH1 : upd H g.I (HO.dK (ikv g.da (wo g.s.1 y))) = H1
    obtain ⟨i1, o1⟩ := chgf hH1
    have ex1 : H1 g.x = some (.ins C dx (fsB sz bl wi g.O g.I g.Tn g.s.2.2.1 g.s.2.2.2)) := by rw [o1 _ nIx.symm]; exact ex
    have eT1 : H1 g.Tn = some (.dK (tkv g.s.2.1)) := by rw [o1 _ B.ne3.symm]; exact B.Tn
    have eO1 : H1 g.O = some (.dK okv) := by rw [o1 _ B.ne1]; exact eO
    simp only [Ix_ins ex1]
    walk_at "ev"
    simp only [Dr_dK eT1, Dk_dK eT1, tkv_val]
    by_cases hT : y ∈ g.s.2.1
    · simp only [if_pos hT, Option.isSome_some, if_true]
      walk_at "ev"
      rw [tkv_drop]
      generalize hH2 : upd H1 g.Tn (HO.dK (tkv (wo g.s.2.1 y))) = H2
      obtain ⟨i2, o2⟩ := chgf hH2
      have ex2 : H2 g.x = some (.ins C dx (fsB sz bl wi g.O g.I g.Tn g.s.2.2.1 g.s.2.2.2)) := by rw [o2 _ nTx.symm]; exact ex1
      simp only [Ix_ins ex2]
      walk_at "ev"
      generalize hH3 : upd H2 g.x (HO.ins C dx _) = H3
      obtain ⟨i3, o3⟩ := chgf hH3
      have eO3 : H3 g.O = some (.dK okv) := by rw [o3 _ nOx, o2 _ B.ne2]; exact eO1
      simp only [Dk_dK eO3]
      have big : (10000000 : Nat) < sizeLine := by decide
      refine ⟨by omega, ?_⟩
      generalize hH4 : upd H3 g.O _ = H4
      obtain ⟨i4, o4⟩ := chgf hH4
      have e4 : ∀ a, a ≠ g.I → a ≠ g.Tn → a ≠ g.x → a ≠ g.O → H4 a = H a := fun a n1 n2 n3 n4 => by rw [o4 a n4, o3 a n3, o2 a n2, o1 a n1]
      have Ba := B.away (H' := H4) hy eO (by rw [o4 _ B.ne1.symm, o3 _ nIx, o2 _ B.ne3]; exact i1) (by rw [o4 _ B.ne2.symm, o3 _ nTx]; exact i2) ⟨dx, by rw [o4 _ nOx.symm, i3]; unfold away; rw [if_pos hT]; rfl⟩ (by rw [if_pos hT]; exact i4) e4
      refine q _ H4 Ba rfl rfl rfl rfl rfl fun a o na ea => ?_
      rw [e4 a (fun z => na (by rw [z]; exact B.rI)) (fun z => na (by rw [z]; exact B.rT)) (fun z => na (by rw [z]; exact B.rx)) (fun z => na (by rw [z]; exact B.rO))]
      exact ea
    · simp only [if_neg hT, Option.isSome_none]
      walk_at "ev"
      have e4 : ∀ a, a ≠ g.I → a ≠ g.Tn → a ≠ g.x → a ≠ g.O → H1 a = H a := fun a n1 _ _ _ => o1 a n1
      have Ba := B.away (H' := H1) hy eO i1 (by rw [wo_not hT]; exact eT1) ⟨dx, by rw [ex1]; unfold away; rw [if_neg hT, Int.add_zero]⟩ (by rw [if_neg hT]; exact eO1) e4
      refine q _ H1 Ba rfl rfl rfl rfl rfl fun a o na ea => ?_
      rw [o1 a (fun z => na (by rw [z]; exact B.rI))]
      exact ea
def spFetch (C : Addr) : Sp := fun vs H Q _ => ∃ (g : G) (sz bl wi : Nat) (b : Int), vs = [.ref g.x, .int b] ∧ BlAt C sz bl wi g (· ∈ g.s.2.1) H ∧ g.N ≤ 10000 ∧ 1 ≤ wi ∧ wi ≤ 64 ∧
  ∀ g' H', BlAt C sz bl wi g' (· ∈ g'.s.2.1) H' → g'.x = g.x → g'.s = ask wi g.s b → g'.kp = g.kp → g'.N ≤ g.N + 1 → (∀ a, g'.R a → g.R a ∨ H a = none) → (∀ a, g.R a → g'.R a) → Fr g.R H H' → Q (.ref (g'.da b)) H'
theorem scFetch : FnScope ["self", "block"] ["self", "block"] (defScope sFetch) := ⟨rfl, rfl, rfl, by decide +kernel, rfl, by decide +kernel, by decide +kernel⟩
theorem ok_fetch (F : DefM K C "fetch" "Blocks.fetch" sFetch) (T : Tb K mg C) (m_put_away : KnM P w K mg base C "put_away" ["self", "block"] 1 (spPutAway C)) : KnM P w K mg base C "fetch" ["self", "block"] 2 (spFetch C) := by
  refine knm_of F scFetch (fun vs H Q E h => ?_) (fun _ _ _ _ _ _ us hl => match us, hl with | [_, _], _ => rfl) (fun f cdv A outer s H vs Q E hr h => ?_)
  · obtain ⟨g, sz, bl, wi, b, rfl, _⟩ := h
    rfl
  · obtain ⟨g, sz, bl, wi, b, rfl, B, hN, hw1, hw, q⟩ := h
    obtain ⟨dx, ex⟩ := B.x
    refine ⟨_, (pss_cons (ps_if (pt_cmp (pc_dinF (hu_of hr) (pv 1) (pe_fldF T.cl T.n_inside (pv 0)))) (pss_cons (ps_dputF (hu_of hr) (pe_fldF T.cl T.n_inside (pv 0)) (pv 1) (pe_dpop1F (pe_fldF T.cl T.n_inside (pv 0)) (pv 1) ⟨rfl, rfl, rfl, rfl⟩) rfl)
      (pss_one (ps_ret (pe_dgetF (hu_of hr) (pe_fldF T.cl T.n_inside (pv 0)) (pv 1) (fun _ _ => rfl))))) pss_nil)
      (pss_cutL (ps_if (pt_cmpR op_eq (pe_callB call_lenDF (by rfl) T.len (by decide +kernel) (pa_cons (pe_fldF T.cl T.n_inside (pv 0)) pa_nil)) (pe_fldF T.cl T.n_within_most (pv 0)) (nomark _)) (pss_one (ps_expr (pe_km m_put_away T.cl (hr.mono (by decide)) (pv 0) (pa_cons (pe_ix ix_f (pe_callTy (call_listK rfl) (by rfl) T.list (by decide +kernel) (pa_cons (pe_fldF T.cl T.n_inside (pv 0)) pa_nil)) pe_int (fun _ _ => rfl)) pa_nil)))) pss_nil)
      (pss_cons (ps_fldaugF T.cl T.n_fetched_many ip_add ip_add_mono (pv 0) pe_int)
      (pss_cons (ps_dputF (hu_of hr) (pe_fldF T.cl T.n_inside (pv 0)) (pv 1) (pe_callTy call_dictF (by rfl) T.dict (by decide +kernel) (pa_cons (pe_dget2F (hu_of hr) (pe_fldF T.cl T.n_outside (pv 0)) (pv 1) pe_dnewN ⟨rfl, rfl, rfl, rfl⟩) pa_nil)) rfl)
      (pss_one (ps_ret (pe_dgetF (hu_of hr) (pe_fldF T.cl T.n_inside (pv 0)) (pv 1) (fun _ _ => rfl)))))))), ?_⟩
    walk_at "ev"
    have nIx : g.I ≠ g.x := B.nx B.I
    have big : (10000000 : Nat) < sizeLine := by decide
    have lL := B.lw
    simp only [Ix_ins ex]
    walk_at "ev"
    simp only [Dr_dK B.I, ikv_val]
    by_cases hb : b ∈ g.s.1
    · simp only [if_pos hb, Option.isSome_some, if_true]
      simp only [Dk_dK B.I, ikv_val, if_pos hb]
      walk_at "ev"
      rw [ikv_drop]
      generalize hH1 : upd H g.I (HO.dK (ikv g.da (wo g.s.1 b))) = H1
      obtain ⟨i1, o1⟩ := chgf hH1
      have ex1 : H1 g.x = some (.ins C dx (fsB sz bl wi g.O g.I g.Tn g.s.2.2.1 g.s.2.2.2)) := by rw [o1 _ nIx.symm]; exact ex
      simp only [Ix_ins ex1]
      walk_at "ev"
      simp only [Dk_dK i1]
      rw [ikv_same (fun z => (mem_wo.mp z).2 rfl)]
      refine ⟨by rw [ikv_len]; have := wo_len g.s.1 b; omega, ?_⟩
      generalize hH2 : upd H1 g.I _ = H2
      obtain ⟨i2, o2⟩ := chgf hH2
      have e2 : ∀ a, a ≠ g.I → H2 a = H a := fun a n => by rw [o2 a n, o1 a n]
      have ex2 : H2 g.x = some (.ins C dx (fsB sz bl wi g.O g.I g.Tn g.s.2.2.1 g.s.2.2.2)) := by rw [o2 _ nIx.symm]; exact ex1
      simp only [Ix_ins ex2]
      walk_at "ev"
      simp only [Dr_dK i2, ikv_val, if_pos (show b ∈ wo g.s.1 b ++ [b] by simp)]
      walk_at "ev"
      refine q { g with s := ask wi g.s b } H2 (B.hit hb i2 e2) rfl rfl rfl (Nat.le_succ _) (fun a h => .inl h) (fun a h => h) fun a o na ea => ?_
      rw [e2 a (fun z => na (by rw [z]; exact B.rI))]
      exact ea
    · simp only [if_neg hb, Option.isSome_none]
      walk_at "ev"
      refine ⟨fun σ' H' => σ' = [some (.ref g.x), some (.int b)] ∧ ∃ g' : G, BlAt C sz bl wi g' (· ∈ g'.s.2.1) H' ∧ g'.x = g.x ∧ b ∉ g'.s.1 ∧ g'.s.1.length < wi ∧ g'.kp = g.kp ∧ g'.N ≤ g.N + 1 ∧ g'.R = g.R ∧ Fr g.R H H' ∧ (∀ a o, H a = some o → ∃ o', H' a = some o') ∧ (g'.s.1 ++ [b], g'.s.2.1, g'.s.2.2.1 + 1, g'.s.2.2.2) = ask wi g.s b, ?_, ?_⟩
      · walk_at "ev"
        simp only [Ix_ins ex]
        walk_at "ev"
        simp only [Dk_dK B.I, ikv_len]
        by_cases he : g.s.1.length = wi
        · rw [if_pos (by rw [he])]
          simp only [Dr_dK B.I, ikv_keys]
          refine Nw.intro fun lt H1 c1 => ?_
          simp only [Sq_lst c1.it]
          obtain ⟨y, r, ey⟩ : ∃ y r, g.s.1 = y :: r := by
            cases z : g.s.1 with
            | nil => rw [z] at he; simp at he; omega
            | cons y r => exact ⟨y, r, rfl⟩
          rw [ey]
          walk_at "ev"
          have hy : y ∈ g.s.1 := by rw [ey]; exact List.mem_cons_self ..
          have B1 := B.same c1.same
          refine ⟨g, sz, bl, wi, y, rfl, B1, hy, hN, hw, fun g' H' B' hx hs hk hN' hR f => ?_⟩
          have eaw : ask wi g.s b = (g'.s.1 ++ [b], g'.s.2.1, g.s.2.2.1 + 1, g'.s.2.2.2) := by
            unfold ask fl
            rw [if_neg hb, if_pos he, hs, ey]
            rfl
          refine ⟨g', B', hx, fun z => hb ?_, ?_, hk, Nat.le_of_eq hN', hR, (Fr.of c1.same).trans f, fun a o e => ?_, ?_⟩
          · rw [hs] at z
            exact (mem_wo.mp z).1
          · rw [hs]
            show (wo g.s.1 y).length < wi
            have := wo_lt hy
            omega
          · by_cases ra : g.R a
            · obtain ⟨o', e', _⟩ := B'.rg a (by rw [hR]; exact ra)
              exact ⟨o', e'⟩
            · exact ⟨o, f a o ra (c1.same _ _ e)⟩
          · rw [eaw]
            show (g'.s.1 ++ [b], g'.s.2.1, g'.s.2.2.1 + 1, g'.s.2.2.2) = _
            rw [hs]
            rfl
        · rw [if_neg (fun z => he (by omega))]
          refine ⟨g, B, rfl, hb, by omega, rfl, Nat.le_succ _, rfl, Fr.refl _ _, fun a o e => ⟨o, e⟩, ?_⟩
          unfold ask fl
          rw [if_neg hb, if_neg he]
      · rintro σ' H' ⟨rfl, g1, B1, hx1, hb1, hl1, hk1, hN1, hR1, f1, all1, ha1⟩
        obtain ⟨dx1, ex1⟩ := B1.x
        obtain ⟨okv, eO, lO, vO⟩ := B1.O
        have nIx1 : g1.I ≠ g1.x := B1.nx B1.I
        rw [← hx1] at q ⊢
        walk_at "ev"
        simp only [Ix_ins ex1]
        walk_at "ev"
        generalize hH2 : upd H' g1.x (HO.ins C dx1 _) = H2
        obtain ⟨i2, o2⟩ := chgf hH2
        have eO2 : H2 g1.O = some (.dK okv) := by rw [o2 _ (B1.nx eO)]; exact eO
        simp only [Dr_dK eO2]
        refine Nw.intro fun p3 H3 c3 => ?_
        simp only [Dr_dK (c3.same _ _ eO2), vO]
        obtain ⟨d0, kv, ev, e3, hkv⟩ : ∃ d0 kv, (Option.map V.ref (g1.oa b)).getD (V.ref p3) = .ref d0 ∧ H3 d0 = some (.dK kv) ∧ (match g1.oa b with | some d => H' d = some (.dK kv) | none => kv = []) := by
          cases e : g1.oa b with
          | none => exact ⟨p3, [], rfl, c3.it, rfl⟩
          | some d =>
            obtain ⟨kv, e4, _⟩ := B1.od b d e
            exact ⟨d, kv, rfl, c3.same _ _ (by rw [o2 _ (B1.nx e4)]; exact e4), e4⟩
        rw [ev]
        simp only [Dr_dK e3]
        refine Nw.intro fun d H4 c4 => ?_
        have ex4 := c4.same _ _ (c3.same _ _ i2)
        have eI4 : H4 g1.I = some (.dK (ikv g1.da g1.s.1)) := c4.same _ _ (c3.same _ _ (by rw [o2 _ nIx1]; exact B1.I))
        simp only [Ix_ins ex4]
        walk_at "ev"
        simp only [Dk_dK eI4]
        rw [ikv_new hb1]
        refine ⟨by rw [ikv_len]; omega, ?_⟩
        generalize hH5 : upd H4 g1.I (HO.dK _) = H5
        obtain ⟨i5, o5⟩ := chgf hH5
        have ex5 : H5 g1.x = some _ := (o5 _ nIx1.symm).trans ex4
        simp only [Ix_ins ex5]
        walk_at "ev"
        simp only [Dr_dK i5, ikv_val, if_pos (show b ∈ g1.s.1 ++ [b] by simp)]
        walk_at "ev"
        have old : ∀ a o, H' a = some o → a ≠ g1.x → H4 a = some o := fun a o e n => c4.same _ _ (c3.same _ _ (by rw [o2 _ n]; exact e))
        have dnew : H' d = none := by
          cases z : H' d with
          | none => rfl
          | some o =>
            by_cases n : d = g1.x
            · have := c4.new
              rw [n, c3.same _ _ i2] at this
              cases this
            · have := c4.new
              rw [c3.same _ _ (by rw [o2 _ n]; exact z)] at this
              cases this
        have nI : d ≠ g1.I := fun z => by
          rw [z, B1.I] at dnew
          cases dnew
        have Bf := B1.come (H' := H5) hb1 hl1 dnew hkv (by rw [o5 _ nI]; exact c4.it) i5 ⟨dx1, ex5⟩ (fun a o e n1 n2 => by rw [o5 _ n1]; exact old a o e n2)
        have hq := q _ H5 Bf rfl ha1 hk1 hN1 (fun a ha => ?_) (fun a ha => .inl (by rw [hR1]; exact ha)) (fun a o na ea => ?_)
        · simpa using hq
        · rcases ha with ha | rfl
          · exact .inl (by rw [← hR1]; exact ha)
          · refine .inr ?_
            cases z : H a with
            | none => rfl
            | some o =>
              obtain ⟨o', e'⟩ := all1 a o z
              rw [dnew] at e'
              cases e'
        · have h1 := f1 a o na ea
          rw [o5 _ (fun z => na (by rw [z, ← hR1]; exact B1.rI))]
          exact old a o h1 (fun z => na (by rw [z, ← hR1]; exact B1.rx))
end
end K32
namespace K32
open PySem PySem.Spec PyProof.Rows L2 Lw
local macro_rules | `(tactic| walk_at "ev") => `(tactic| simp only [cxOf, tNoS, tFldF, sFldF, sFldAugF, tMethF, Ix_upd, lk_eq, lk_ne, lk_nil, putF_nil, putF_eq, putF_ne, Str_lit, String.reduceEq, fsB, rListK, rDictD, rRevF, rLenD, rAllF, rSortF, rSortK, rLenI, tChain, Int.reduceMul, tPar3, tCallN, iKeysF, tLockE, tDisp1F, mergeK_one, tYes, iRng3, ex_ints, ex_any, tML, tML0, tMD, tTupN, tLstN, tDNewN, rSlL2, rCatF, rRepF, tRevF, rListF, rMaxF, tDGetF, tDGet1F, tDGet2F, tDPop1F, tDPop2F, sDPutF, tLenSetF, tSl, tPart, tNoPart, ipI, rIsiF, Tz_non, Tz_bl, Tz_int, Tz_str, Cl7_int, Cl7_bool, Cl7_str, Cl7_list, Cl7_tuple, Cl7_dict, T7.isa, iListF, iTupF, cpow12, cpow60, tFor_eq, tLc_eq, iRng1, iRng2, wipe, Cx.nox, Cx.wish, tSeq, tIfS, tTest, tOp, tVar, tC, tRet, tRetN, tCB, tCons, tNil, tB, tNot, tAnd, tOr, tAndV, tOrV, tNotV, tIf, rEq, rNe, scal_ii, scal_bb, scal_ss, scal_nn, scal_si, scal_is, scal_in, scal_ni, Bool.or_true, Bool.true_or, Bool.or_false, Bool.false_or, Bool.and_true, Bool.true_and, Bool.and_false, Bool.false_and, rI, rI0, rU, tUn, t2I, tAsg, gName, tPar, tDrop, tLst, tTup, tCall, tNext, tBreak, tCont, tAug, rAdd, gTup, gTupF, gCons, gNil, gSub, rIxF, rLenF, rSetF, rAppF, rExtF, rPop0, rRemF, rInF, rDUpd, Nt_int, Op_some, Ky_int, Ky_str,
  List.map_cons, List.map_nil, List.cons_append, List.nil_append, List.append_nil, List.getElem?_cons_zero, List.getElem?_cons_succ, List.set_cons_zero, List.set_cons_succ, List.length_cons, List.length_nil, Option.some.injEq, exists_eq_left', exists_eq_left, exists_eq_right, V.int.injEq, V.ref.injEq, V.bl.injEq, V.str.injEq, V.ty.injEq, List.cons.injEq, and_true, true_and, and_assoc, reduceCtorEq, decide_eq_true_eq, decide_true, decide_false, if_true, if_false, ite_true, ite_false, Bool.false_eq_true, false_and, and_false, exists_false, exists_const, or_false, false_or, Bool.not_eq_true', decide_eq_false_iff_not, List.replicate_succ, List.replicate_zero, Nat.reduceSub, Nat.reduceAdd, Int.reducePow, Int.reduceNeg, exists_and_left, exists_and_right, atI_0, atI_1, atI_2, ixN_0, ixN_1, ixN_2, L2.start, upd_upd, Sq_upd, Sq_updT, Tp_upd, Ls_upd, Dk_upd, Int.reduceLT, Int.reduceLE, Nat.reduceLT, Nat.reduceLeDiff, forall_eq', forall_eq, id, Int.zero_add, Bool.not_true, Bool.not_false, not_true_eq_false, not_false_eq_true, ne_eq])
section
variable {P : Program} {w : World} {K : PySem.W.Frag} {mg : Str → Option Value} {base : Heap} {C : Addr}
theorem ask_mem (m : Nat) (s : Fst) (k : Int) : k ∈ (ask m s k).1 := by
  show k ∈ (fl m s k).1 ++ [k]
  simp
theorem nd_len {T L : List Int} (h : T.Nodup) (s : ∀ b ∈ T, b ∈ L) : T.length ≤ L.length := by
  exact h.length_le_of_subset s
theorem wo_len_mem {l : List Int} {k : Int} (h : l.Nodup) (hk : k ∈ l) : (wo l k).length + 1 = l.length := by
  rw [← wo_erase h, List.length_erase_of_mem hk]
  have := List.length_pos_of_mem hk
  omega
theorem Fr.up {R R' : Addr → Prop} {H H1 H2 : Hp} (f : Fr R H H1) (g : Fr R' H1 H2) (h : ∀ a, R' a → R a ∨ H a = none) : Fr R H H2 := fun a o n e => g a o (fun z => by
  rcases h a z with y | y
  · exact n y
  · rw [y] at e
    cases e) (f a o n e)
theorem new_same {R R' : Addr → Prop} {H H1 : Hp} (s : Same H H1) (h : ∀ a, R' a → R a ∨ H1 a = none) : ∀ a, R' a → R a ∨ H a = none := fun a ha => by
  rcases h a ha with z | z
  · exact .inl z
  · exact .inr (s.free z)
def Wt (H : Hp) (v : V) : Prop := v = .non ∨ (∃ b, v = .bl b) ∨ Num2 H v
theorem Num2.same {H H' : Hp} {v : V} (h : Num2 H v) (s : Same H H') : Num2 H' v := by
  obtain ⟨t, a, b, e, ht, r⟩ := h
  exact ⟨t, a, b, e, s _ _ ht, r⟩
def spWrite (C : Addr) : Sp := fun vs H Q _ => ∃ (g : G) (sz bl wi a : Nat) (v : V), vs = [.ref g.x, .int (a : Int), v] ∧ BlAt C sz bl wi g (· ∈ g.s.2.1) H ∧ a < sz ∧ sz ≤ 20000 ∧ Wt H v ∧ g.N ≤ 9000 ∧ 1 ≤ bl ∧ bl ≤ 64 ∧ 1 ≤ wi ∧ wi ≤ 64 ∧
  ∀ g' H', BlAt C sz bl wi g' (· ∈ g'.s.2.1) H' → g'.x = g.x → g'.s = wrt wi g.s ((a : Int) / (bl : Int)) → g'.kp = g.kp.set a v → g'.N ≤ g.N + 2 → (∀ a, g'.R a → g.R a ∨ H a = none) → (∀ a, g.R a → g'.R a) → Fr g.R H H' → Q .non H'
theorem scWrite : FnScope ["self", "at", "worth", "block"] ["self", "at", "worth"] (defScope sWrite) := ⟨rfl, rfl, rfl, by decide +kernel, rfl, by decide +kernel, by decide +kernel⟩
theorem ok_write (F : DefM K C "write" "Blocks.write" sWrite) (T : Tb K mg C) (m_look_at_cell : KnM P w K mg base C "look_at_cell" ["self", "at"] 3 (spLookCell C)) (m_fetch : KnM P w K mg base C "fetch" ["self", "block"] 2 (spFetch C)) (c_is_worth : Kn P w K mg base "is_worth" ["thing"] 3 spIsWorth) : KnM P w K mg base C "write" ["self", "at", "worth"] 4 (spWrite C) := by
  refine knm_of F scWrite (fun vs H Q E h => ?_) (fun _ _ _ _ _ _ us hl => match us, hl with | [_, _, _], _ => rfl) (fun f cdv A outer s H vs Q E hr h => ?_)
  · obtain ⟨g, sz, bl, wi, a, v, rfl, _⟩ := h
    rfl
  · obtain ⟨g, sz, bl, wi, a, v, rfl, B, ha, hsz, hv, hN, hb1, hb2, hw1, hw2, q⟩ := h
    obtain ⟨dx, ex⟩ := B.x
    refine ⟨_, (pss_cons (ps_expr (pe_km m_look_at_cell T.cl (hr.mono (by decide)) (pv 0) (pa_cons (pv 1) pa_nil)))
      (pss_cutL (ps_if (PW.pt (pw_and (pt_cmpR op_notN (pv 2) pe_non (nomark _)) (pw_and1 (pt_not (pt_val (pe_kn c_is_worth (hr.mono (by decide)) (by rfl) (pa_cons (pv 2) pa_nil))))))) (pss_one ps_no) pss_nil)
      (pss_cons (ps_set (i := 3) scWrite.nd rfl (Or.inl rfl) (pe_op op_fdivW (pv 1) (pe_fldF T.cl T.n_block_size (pv 0))))
      (pss_cons (ps_dputF (hu_of hr) (pe_km m_fetch T.cl (hr.mono (by decide)) (pv 0) (pa_cons (pv 3) pa_nil)) (pv 1) (pv 2) rfl)
      (pss_one (ps_dputF (hu_of hr) (pe_fldF T.cl T.n_turned (pv 0)) (pv 3) pe_bl rfl)))))), ?_⟩
    walk_at "ev"
    simp only [Ix_ins ex]
    walk_at "ev"
    refine ⟨g, sz, bl, wi, _, a, rfl, B, ha, ?_⟩
    have big : (10000000 : Nat) < sizeLine := by decide
    refine ⟨fun σ' H' => σ' = [some (.ref g.x), some (.int a), some v, none] ∧ Same H H', ?_, ?_⟩
    · walk_at "ev"
      have s0 : Same H H := fun _ _ h => h
      rcases hv with rfl | hv
      · rw [if_neg (by simp)]
        exact s0
      · rw [if_pos (by rcases hv with ⟨b, rfl⟩ | ⟨t, x, y, rfl, _⟩ <;> simp)]
        refine ⟨v, rfl, hv, fun H1 s1 => ⟨true, rfl, ?_⟩⟩
        rw [if_neg (by decide)]
        exact s1
    · rintro σ' H1 ⟨rfl, s1⟩
      walk_at "ev"
      simp only [Ix_ins (s1 _ _ ex)]
      walk_at "ev"
      refine ⟨⟨by omega, Nat.lt_of_lt_of_le (PySem.Flt.log2_lt_of (k := 30) (by decide) (by omega)) (by decide)⟩, ?_⟩
      refine ⟨g, sz, bl, wi, _, rfl, B.same s1, by omega, hw1, hw2, fun g2 H2 B2 hx2 hs2 hk2 hN2 hR2 hR2' f2 => ?_⟩
      generalize hblk : (a : Int) / (bl : Int) = blk at *
      have hbm : blk ∈ g2.s.1 := by rw [hs2]; exact ask_mem wi g.s blk
      obtain ⟨kv, e2, l2, _⟩ := B2.ins blk hbm
      obtain ⟨dx2, ex2⟩ := B2.x
      simp only [Dk_dK e2]
      refine ⟨by omega, ?_⟩
      generalize hH3 : upd H2 (g2.da blk) (HO.dK (putK kv (Sum.inl ↑a) v)) = H3
      obtain ⟨i3, o3⟩ := chgf hH3
      have B3 := B2.put (H' := H3) hbm ha hblk (v := v) e2 i3 o3
      obtain ⟨dx3, ex3⟩ := B3.x
      rw [hx2] at ex3
      simp only [Ix_ins ex3]
      walk_at "ev"
      simp only [Dk_dK B3.Tn, tkv_put]
      have lT : g2.s.2.1.length ≤ wi := Nat.le_trans (nd_len B2.nT B2.sub) B2.lw
      refine ⟨by rw [tkv_len]; omega, ?_⟩
      generalize hH4 : upd H3 g2.Tn (HO.dK _) = H4
      obtain ⟨i4, o4⟩ := chgf hH4
      have B4 := B3.turn (H' := H4) hbm (fun j hj => hj) i4 o4
      refine q _ H4 B4 hx2 ?_ (by rw [hk2]) (by show g2.N + 1 ≤ g.N + 2; omega) (fun c hc => ?_) hR2' (fun c o nc ec => ?_)
      · show (g2.s.1, addT g2.s.2.1 blk, g2.s.2.2.1, g2.s.2.2.2) = _
        rw [hs2]
        rfl
      · rcases hR2 c hc with z | z
        · exact .inl z
        · refine .inr ?_
          cases y : H c with
          | none => rfl
          | some o =>
            rw [s1 _ _ y] at z
            cases z
      · have e5 := f2 c o nc (s1 _ _ ec)
        have old : ∀ z, g2.R z → c ≠ z := fun z rz hz => by
          rcases hR2 z rz with y | y
          · exact nc (by rw [hz]; exact y)
          · rw [hz] at ec
            rw [s1 _ _ ec] at y
            cases y
        rw [o4 c (old _ B2.rT), o3 c (old _ (B2.rd blk hbm))]
        exact e5
def spRead (C : Addr) : Sp := fun vs H Q _ => ∃ (g : G) (sz bl wi a : Nat), vs = [.ref g.x, .int (a : Int)] ∧ BlAt C sz bl wi g (· ∈ g.s.2.1) H ∧ a < sz ∧ sz ≤ 20000 ∧ g.N ≤ 9000 ∧ 1 ≤ bl ∧ bl ≤ 64 ∧ 1 ≤ wi ∧ wi ≤ 64 ∧
  ∀ g' H', BlAt C sz bl wi g' (· ∈ g'.s.2.1) H' → g'.x = g.x → g'.s = ask wi g.s ((a : Int) / (bl : Int)) → g'.kp = g.kp → g'.N ≤ g.N + 2 → (∀ a, g'.R a → g.R a ∨ H a = none) → (∀ a, g.R a → g'.R a) → Fr g.R H H' → Q (g.kp.getD a .non) H'
theorem scRead : FnScope ["self", "at"] ["self", "at"] (defScope sRead) := ⟨rfl, rfl, rfl, by decide +kernel, rfl, by decide +kernel, by decide +kernel⟩
theorem ok_read (F : DefM K C "read" "Blocks.read" sRead) (T : Tb K mg C) (m_look_at_cell : KnM P w K mg base C "look_at_cell" ["self", "at"] 3 (spLookCell C)) (m_fetch : KnM P w K mg base C "fetch" ["self", "block"] 2 (spFetch C)) : KnM P w K mg base C "read" ["self", "at"] 4 (spRead C) := by
  refine knm_of F scRead (fun vs H Q E h => ?_) (fun _ _ _ _ _ _ us hl => match us, hl with | [_, _], _ => rfl) (fun f cdv A outer s H vs Q E hr h => ?_)
  · obtain ⟨g, sz, bl, wi, a, rfl, _⟩ := h
    rfl
  · obtain ⟨g, sz, bl, wi, a, rfl, B, ha, hsz, hN, hb1, hb2, hw1, hw2, q⟩ := h
    obtain ⟨dx, ex⟩ := B.x
    refine ⟨_, (pss_cons (ps_expr (pe_km m_look_at_cell T.cl (hr.mono (by decide)) (pv 0) (pa_cons (pv 1) pa_nil)))
      (pss_one (ps_ret (pe_dget1F (hu_of hr) (pe_km m_fetch T.cl (hr.mono (by decide)) (pv 0) (pa_cons (pe_op op_fdivW (pv 1) (pe_fldF T.cl T.n_block_size (pv 0))) pa_nil)) (pv 1) ⟨rfl, rfl, rfl, rfl⟩)))), ?_⟩
    walk_at "ev"
    simp only [Ix_ins ex]
    walk_at "ev"
    refine ⟨g, sz, bl, wi, _, a, rfl, B, ha, ?_⟩
    simp only [Ix_ins ex]
    walk_at "ev"
    refine ⟨⟨by omega, Nat.lt_of_lt_of_le (PySem.Flt.log2_lt_of (k := 30) (by decide) (by omega)) (by decide)⟩, ?_⟩
    refine ⟨g, sz, bl, wi, _, rfl, B, by omega, hw1, hw2, fun g2 H2 B2 hx2 hs2 hk2 hN2 hR2 hR2' f2 => ?_⟩
    have hbm : (a : Int) / (bl : Int) ∈ g2.s.1 := by rw [hs2]; exact ask_mem wi g.s _
    obtain ⟨kv, e2, l2, v2⟩ := B2.ins _ hbm
    simp only [Dr_dK e2]
    rw [v2 a ha rfl, hk2]
    exact q g2 H2 B2 hx2 hs2 hk2 (by omega) hR2 hR2' f2
def spSeen (C : Addr) : Sp := fun vs H Q _ => ∃ (g : G) (sz bl wi a : Nat), vs = [.ref g.x, .int (a : Int)] ∧ BlAt C sz bl wi g (· ∈ g.s.2.1) H ∧ a < sz ∧ sz ≤ 20000 ∧ 1 ≤ bl ∧ bl ≤ 64 ∧ ∀ H', Same H H' → Q (g.kp.getD a .non) H'
theorem scSeen : FnScope ["self", "at", "block", "some"] ["self", "at"] (defScope sSeen) := ⟨rfl, rfl, rfl, by decide +kernel, rfl, by decide +kernel, by decide +kernel⟩
theorem ok_seen (F : DefM K C "seen" "Blocks.seen" sSeen) (T : Tb K mg C) (m_look_at_cell : KnM P w K mg base C "look_at_cell" ["self", "at"] 3 (spLookCell C)) : KnM P w K mg base C "seen" ["self", "at"] 4 (spSeen C) := by
  refine knm_of F scSeen (fun vs H Q E h => ?_) (fun _ _ _ _ _ _ us hl => match us, hl with | [_, _], _ => rfl) (fun f cdv A outer s H vs Q E hr h => ?_)
  · obtain ⟨g, sz, bl, wi, a, rfl, _⟩ := h
    rfl
  · obtain ⟨g, sz, bl, wi, a, rfl, B, ha, hsz, hb1, hb2, q⟩ := h
    obtain ⟨dx, ex⟩ := B.x
    obtain ⟨okv, eO, lO, vO⟩ := B.O
    refine ⟨_, (pss_cons (ps_expr (pe_km m_look_at_cell T.cl (hr.mono (by decide)) (pv 0) (pa_cons (pv 1) pa_nil)))
      (pss_cons (ps_set (i := 2) scSeen.nd rfl (Or.inl rfl) (pe_op op_fdivW (pv 1) (pe_fldF T.cl T.n_block_size (pv 0))))
      (pss_cons (ps_set (i := 3) scSeen.nd rfl (Or.inl rfl) (pe_ifExp (pt_cmp (pc_dinF (hu_of hr) (pv 2) (pe_fldF T.cl T.n_inside (pv 0)))) (pe_dgetF (hu_of hr) (pe_fldF T.cl T.n_inside (pv 0)) (pv 2) (fun _ _ => rfl)) (pe_dget2F (hu_of hr) (pe_fldF T.cl T.n_outside (pv 0)) (pv 2) pe_dnewN ⟨rfl, rfl, rfl, rfl⟩)))
      (pss_one (ps_ret (pe_dget1F (hu_of hr) (pv 3) (pv 1) ⟨rfl, rfl, rfl, rfl⟩)))))), ?_⟩
    walk_at "ev"
    simp only [Ix_ins ex]
    walk_at "ev"
    refine ⟨g, sz, bl, wi, _, a, rfl, B, ha, ?_⟩
    simp only [Ix_ins ex]
    walk_at "ev"
    refine ⟨⟨by omega, Nat.lt_of_lt_of_le (PySem.Flt.log2_lt_of (k := 30) (by decide) (by omega)) (by decide)⟩, ?_⟩
    generalize hblk : (a : Int) / (bl : Int) = blk at *
    simp only [Dr_dK B.I, ikv_val]
    by_cases hb : blk ∈ g.s.1
    · obtain ⟨kv, e2, l2, v2⟩ := B.ins blk hb
      simp only [if_pos hb, Option.isSome_some, if_true, Op_some, Dr_dK e2]
      rw [v2 a ha hblk]
      exact q _ fun _ _ h => h
    · simp only [if_neg hb, Option.isSome_none]
      walk_at "ev"
      simp only [Dr_dK eO, vO]
      refine Nw.intro fun p H1 c1 => ?_
      simp only [Dr_dK (c1.same _ _ eO), vO]
      have ho := B.out blk fun m => absurd m hb
      cases e : g.oa blk with
      | none =>
        rw [e] at ho
        simp only [Option.map_none, Option.getD_none, Dr_dK c1.it]
        have := ho a ha hblk
        rw [this] at q
        exact q _ c1.same
      | some d =>
        rw [e] at ho
        obtain ⟨kv, e2, l2, v2⟩ := ho
        simp only [Option.map_some, Option.getD_some, Dr_dK (c1.same _ _ e2)]
        rw [v2 a ha hblk]
        exact q _ c1.same
def spFlush (C : Addr) : Sp := fun vs H Q _ => ∃ (g : G) (sz bl wi : Nat), vs = [.ref g.x] ∧ BlAt C sz bl wi g (· ∈ g.s.2.1) H ∧ g.N ≤ 9000 ∧ wi ≤ 64 ∧
  ∀ g' H', BlAt C sz bl wi g' (· ∈ g'.s.2.1) H' → g'.x = g.x → g'.s = ([], [], g.s.2.2.1, g.s.2.2.2 + (g.s.2.1.length : Nat)) → g'.kp = g.kp → g'.N ≤ g.N + 64 → g'.R = g.R → Fr g.R H H' → Q (.int (g.s.2.1.length : Nat)) H'
theorem scFlush : FnScope ["self", "ahead", "block"] ["self"] (defScope sFlush) := ⟨rfl, rfl, rfl, by decide +kernel, rfl, by decide +kernel, by decide +kernel⟩
theorem ok_flush (F : DefM K C "flush" "Blocks.flush" sFlush) (T : Tb K mg C) (m_put_away : KnM P w K mg base C "put_away" ["self", "block"] 1 (spPutAway C)) : KnM P w K mg base C "flush" ["self"] 2 (spFlush C) := by
  refine knm_of F scFlush (fun vs H Q E h => ?_) (fun _ _ _ _ _ _ us hl => match us, hl with | [_], _ => rfl) (fun f cdv A outer s H vs Q E hr h => ?_)
  · obtain ⟨g, sz, bl, wi, rfl, _⟩ := h
    rfl
  · obtain ⟨g, sz, bl, wi, rfl, B, hN, hw, q⟩ := h
    obtain ⟨dx, ex⟩ := B.x
    refine ⟨_, (pss_cons (ps_set (i := 1) scFlush.nd rfl (Or.inl rfl) (pe_fldF T.cl T.n_put_many (pv 0)))
      (pss_cons (ps_for PassesOwn.never rfl (pi_listF (pe_callTy (call_listK rfl) (by rfl) T.list (by decide +kernel) (pa_cons (pe_fldF T.cl T.n_inside (pv 0)) pa_nil))) (pg_name (i := 2) scFlush.nd rfl (Or.inl rfl)) (pss_one (ps_expr (pe_km m_put_away T.cl (hr.mono (by decide)) (pv 0) (pa_cons (pv 2) pa_nil)))))
      (pss_one (ps_ret (pe_op op_sub (pe_fldF T.cl T.n_put_many (pv 0)) (pv 1)))))), ?_⟩
    walk_at "ev"
    simp only [Ix_ins ex]
    walk_at "ev"
    simp only [Dr_dK B.I, ikv_keys]
    refine Nw.intro fun lt H1 c1 => ?_
    simp only [Ls_lst c1.it]
    have lL := B.lw
    have nlt : ¬ g.R lt := fun z => by
      obtain ⟨o, e, _⟩ := B.rg lt z
      rw [c1.new] at e
      cases e
    refine lp_list (xs := g.s.1.map V.int) (fun i σ H' => H' lt = some (.lst (g.s.1.map V.int)) ∧ ∃ (g' : G) (x2 : Option V), BlAt C sz bl wi g' (· ∈ g'.s.2.1) H' ∧ g'.x = g.x ∧ g'.s.1 = g.s.1.drop i ∧ g'.s.2.2.1 = g.s.2.2.1 ∧ g'.s.2.2.2 + (g'.s.2.1.length : Nat) = g.s.2.2.2 + (g.s.2.1.length : Nat) ∧ g'.kp = g.kp ∧ g'.N = g.N + i ∧ g'.R = g.R ∧ Fr g.R H H' ∧
      σ = [some (.ref g.x), some (.int g.s.2.2.2), x2]) ?_ ?_ ?_ ?_
    · exact ⟨c1.it, g, _, B.same c1.same, rfl, rfl, rfl, rfl, rfl, rfl, rfl, Fr.of c1.same, rfl⟩
    · exact fun i σ H' _ h => h.1
    · rintro i x σ H' hx ⟨hlt, g1, x2, B1, hx1, hs1, hf1, hp1, hk1, hN1, hR1, f1, rfl⟩
      have hi : i < g.s.1.length := by
        have := (List.getElem?_eq_some_iff.mp hx).1
        rw [List.length_map] at this
        exact this
      have exi : x = .int g.s.1[i] := by
        rw [List.getElem?_map, List.getElem?_eq_getElem hi] at hx
        exact (Option.some.inj hx).symm
      subst exi
      have hd : g1.s.1 = g.s.1[i] :: g.s.1.drop (i + 1) := by rw [hs1]; exact List.drop_eq_getElem_cons hi
      have hy : g.s.1[i] ∈ g1.s.1 := by rw [hd]; exact List.mem_cons_self ..
      obtain ⟨dx1, ex1⟩ := B1.x
      rw [hx1] at ex1
      walk_at "ev"
      simp only [Ix_ins ex1]
      walk_at "ev"
      refine ⟨g1, sz, bl, wi, _, by rw [hx1], B1, hy, by omega, hw, fun g2 H2 B2 hx2 hs2 hk2 hN2 hR2 f2 => ?_⟩
      refine ⟨f2 lt _ (by rw [hR1]; exact nlt) hlt, g2, B2, hx2.trans hx1, ?_, ?_, ?_, hk2.trans hk1, by omega, hR2.trans hR1, f1.trans (by rw [hR1] at f2; exact f2)⟩
      · rw [hs2]
        have nd := B1.nd
        rw [hd] at nd
        show wo g1.s.1 _ = _
        rw [hd, wo_head nd]
      · rw [hs2]
        exact hf1
      · rw [hs2]
        show g1.s.2.2.2 + (if g.s.1[i] ∈ g1.s.2.1 then 1 else 0) + ((wo g1.s.2.1 g.s.1[i]).length : Nat) = _
        by_cases hT : g.s.1[i] ∈ g1.s.2.1
        · rw [if_pos hT]
          have := wo_len_mem B1.nT hT
          omega
        · rw [if_neg hT, wo_not hT]
          omega
    · rintro σ H' ⟨hlt, g1, x2, B1, hx1, hs1, hf1, hp1, hk1, hN1, hR1, f1, rfl⟩
      rw [List.length_map] at hs1 hN1
      rw [List.drop_length] at hs1
      have hT : g1.s.2.1 = [] := by
        cases z : g1.s.2.1 with
        | nil => rfl
        | cons y r =>
          have := B1.sub y (by rw [z]; exact List.mem_cons_self ..)
          rw [hs1] at this
          cases this
      obtain ⟨dx1, ex1⟩ := B1.x
      rw [hx1] at ex1
      walk_at "ev"
      simp only [Ix_ins ex1]
      walk_at "ev"
      rw [hT] at hp1
      have hp2 : g1.s.2.2.2 = g.s.2.2.2 + (g.s.2.1.length : Nat) := by simpa using hp1
      rw [hp2, show g.s.2.2.2 + ((g.s.2.1.length : Nat) : Int) - g.s.2.2.2 = (g.s.2.1.length : Nat) by omega]
      refine q g1 H' B1 hx1 ?_ hk1 (by omega) hR1 f1
      rw [show g1.s = (g1.s.1, g1.s.2.1, g1.s.2.2.1, g1.s.2.2.2) from rfl, hs1, hT, hf1, hp2]
end
end K32
namespace K32
open PySem PySem.Spec PyProof.Rows L2 Lw
local macro_rules | `(tactic| walk_at "ev") => `(tactic| simp only [cxOf, tNoS, tFldF, sFldF, sFldAugF, tMethF, Ix_upd, lk_eq, lk_ne, lk_nil, putF_nil, putF_eq, putF_ne, Str_lit, String.reduceEq, fsB, rListK, rDictD, rRevF, rLenD, rAllF, rSortF, rSortK, rLenI, tChain, Int.reduceMul, tPar3, tCallN, iKeysF, tLockE, tDisp1F, mergeK_one, tYes, iRng3, ex_ints, ex_any, tML, tML0, tMD, tTupN, tLstN, tDNewN, rSlL2, rCatF, rRepF, tRevF, rListF, rMaxF, tDGetF, tDGet1F, tDGet2F, tDPop1F, tDPop2F, sDPutF, tLenSetF, tSl, tPart, tNoPart, ipI, rIsiF, Tz_non, Tz_bl, Tz_int, Tz_str, Cl7_int, Cl7_bool, Cl7_str, Cl7_list, Cl7_tuple, Cl7_dict, T7.isa, iListF, iTupF, cpow12, cpow60, tFor_eq, tLc_eq, iRng1, iRng2, wipe, Cx.nox, Cx.wish, tSeq, tIfS, tTest, tOp, tVar, tC, tRet, tRetN, tCB, tCons, tNil, tB, tNot, tAnd, tOr, tAndV, tOrV, tNotV, tIf, rEq, rNe, scal_ii, scal_bb, scal_ss, scal_nn, scal_si, scal_is, scal_in, scal_ni, Bool.or_true, Bool.true_or, Bool.or_false, Bool.false_or, Bool.and_true, Bool.true_and, Bool.and_false, Bool.false_and, rI, rI0, rU, tUn, t2I, tAsg, gName, tPar, tDrop, tLst, tTup, tCall, tNext, tBreak, tCont, tAug, rAdd, gTup, gTupF, gCons, gNil, gSub, rIxF, rLenF, rSetF, rAppF, rExtF, rPop0, rRemF, rInF, rDUpd, Nt_int, Op_some, Ky_int, Ky_str,
  List.map_cons, List.map_nil, List.cons_append, List.nil_append, List.append_nil, List.getElem?_cons_zero, List.getElem?_cons_succ, List.set_cons_zero, List.set_cons_succ, List.length_cons, List.length_nil, Option.some.injEq, exists_eq_left', exists_eq_left, exists_eq_right, V.int.injEq, V.ref.injEq, V.bl.injEq, V.str.injEq, V.ty.injEq, List.cons.injEq, and_true, true_and, and_assoc, reduceCtorEq, decide_eq_true_eq, decide_true, decide_false, if_true, if_false, ite_true, ite_false, Bool.false_eq_true, false_and, and_false, exists_false, exists_const, or_false, false_or, Bool.not_eq_true', decide_eq_false_iff_not, List.replicate_succ, List.replicate_zero, Nat.reduceSub, Nat.reduceAdd, Int.reducePow, Int.reduceNeg, exists_and_left, exists_and_right, atI_0, atI_1, atI_2, ixN_0, ixN_1, ixN_2, L2.start, upd_upd, Sq_upd, Sq_updT, Tp_upd, Ls_upd, Dk_upd, Int.reduceLT, Int.reduceLE, Nat.reduceLT, Nat.reduceLeDiff, forall_eq', forall_eq, id, Int.zero_add, Bool.not_true, Bool.not_false, not_true_eq_false, not_false_eq_true, ne_eq])
theorem nox_of {X : Cx} {body : List Stmt} {D : Ends} {σ : L2.St} {H : Hp} (h : ∃ t, PSs X.nox body t ∧ t D σ H) : ∃ t, PSs X body t ∧ t D σ H := by
  obtain ⟨t, h1, h2⟩ := h
  exact ⟨t, h1.nox, h2⟩
section
variable {P : Program} {w : World} {K : PySem.W.Frag} {mg : Str → Option Value} {base : Heap} {C : Addr}
def spWithin (C : Addr) : Sp := fun vs H Q _ => ∃ (g : G) (sz bl wi : Nat), vs = [.ref g.x] ∧ BlAt C sz bl wi g (· ∈ g.s.2.1) H ∧ ∀ p H', Same H H' → H p = none → H' p = some (.lst (g.s.1.map V.int)) → Q (.ref p) H'
theorem scWithin : FnScope ["self"] ["self"] (defScope sWithin) := ⟨rfl, rfl, rfl, by decide +kernel, rfl, by decide +kernel, by decide +kernel⟩
theorem ok_within (F : DefM K C "within" "Blocks.within" sWithin) (T : Tb K mg C) : KnM P w K mg base C "within" ["self"] 1 (spWithin C) := by
  refine knm_of F scWithin (fun vs H Q E h => ?_) (fun _ _ _ _ _ _ us hl => match us, hl with | [_], _ => rfl) (fun f cdv A outer s H vs Q E hr h => ?_)
  · obtain ⟨g, sz, bl, wi, rfl, _⟩ := h
    rfl
  · obtain ⟨g, sz, bl, wi, rfl, B, q⟩ := h
    obtain ⟨dx, ex⟩ := B.x
    refine ⟨_, (pss_one (ps_ret (pe_callTy (call_listK rfl) (by rfl) T.list (by decide +kernel) (pa_cons (pe_fldF T.cl T.n_inside (pv 0)) pa_nil)))), ?_⟩
    walk_at "ev"
    simp only [Ix_ins ex]
    walk_at "ev"
    simp only [Dr_dK B.I, ikv_keys]
    exact Nw.intro fun p H1 c1 => q p H1 c1.same c1.new c1.it
def spWritten (C : Addr) : Sp := fun vs H Q _ => ∃ (g : G) (sz bl wi : Nat), vs = [.ref g.x] ∧ BlAt C sz bl wi g (· ∈ g.s.2.1) H ∧ ∀ ns p H', Same H H' → H p = none → List.Perm ns g.s.2.1 → ns.Pairwise (· ≤ ·) → H' p = some (.lst (ns.map V.int)) → Q (.ref p) H'
theorem scWritten : FnScope ["self"] ["self"] (defScope sWritten) := ⟨rfl, rfl, rfl, by decide +kernel, rfl, by decide +kernel, by decide +kernel⟩
theorem ok_written (F : DefM K C "written" "Blocks.written" sWritten) (T : Tb K mg C) : KnM P w K mg base C "written" ["self"] 1 (spWritten C) := by
  refine knm_of F scWritten (fun vs H Q E h => ?_) (fun _ _ _ _ _ _ us hl => match us, hl with | [_], _ => rfl) (fun f cdv A outer s H vs Q E hr h => ?_)
  · obtain ⟨g, sz, bl, wi, rfl, _⟩ := h
    rfl
  · obtain ⟨g, sz, bl, wi, rfl, B, q⟩ := h
    obtain ⟨dx, ex⟩ := B.x
    refine ⟨_, (pss_one (ps_ret (pe_callB (cr_sortK rfl) (by rfl) T.sorted (by decide +kernel) (pa_cons (pe_fldF T.cl T.n_turned (pv 0)) pa_nil)))), ?_⟩
    walk_at "ev"
    simp only [Ix_ins ex]
    walk_at "ev"
    simp only [Dr_dK B.Tn]
    refine ⟨g.s.2.1, by unfold tkv; rw [List.map_map]; rfl, fun ns h1 h2 => Nw.intro fun p H1 c1 => q ns p H1 c1.same c1.new h1 h2 c1.it⟩
def spCounts (C : Addr) : Sp := fun vs H Q _ => ∃ (g : G) (sz bl wi : Nat), vs = [.ref g.x] ∧ BlAt C sz bl wi g (· ∈ g.s.2.1) H ∧ ∀ p H', Same H H' → H' p = some (.tup [.int g.s.2.2.1, .int g.s.2.2.2]) → Q (.ref p) H'
theorem scCounts : FnScope ["self"] ["self"] (defScope sCounts) := ⟨rfl, rfl, rfl, by decide +kernel, rfl, by decide +kernel, by decide +kernel⟩
theorem ok_counts (F : DefM K C "counts" "Blocks.counts" sCounts) (T : Tb K mg C) : KnM P w K mg base C "counts" ["self"] 1 (spCounts C) := by
  refine knm_of F scCounts (fun vs H Q E h => ?_) (fun _ _ _ _ _ _ us hl => match us, hl with | [_], _ => rfl) (fun f cdv A outer s H vs Q E hr h => ?_)
  · obtain ⟨g, sz, bl, wi, rfl, _⟩ := h
    rfl
  · obtain ⟨g, sz, bl, wi, rfl, B, q⟩ := h
    obtain ⟨dx, ex⟩ := B.x
    refine ⟨_, (pss_one (ps_ret (pe_tupN (pa_cons (pe_fldF T.cl T.n_fetched_many (pv 0)) (pa_cons (pe_fldF T.cl T.n_put_many (pv 0)) pa_nil))))), ?_⟩
    walk_at "ev"
    simp only [Ix_ins ex]
    walk_at "ev"
    exact ⟨by decide, Nw.intro fun p H1 c1 => q p H1 c1.same c1.it⟩
def spLen (C : Addr) : Sp := fun vs H Q _ => ∃ (g : G) (sz bl wi : Nat), vs = [.ref g.x] ∧ BlAt C sz bl wi g (· ∈ g.s.2.1) H ∧ Q (.int (g.s.1.length : Nat)) H
theorem scLen : FnScope ["self"] ["self"] (defScope sLen) := ⟨rfl, rfl, rfl, by decide +kernel, rfl, by decide +kernel, by decide +kernel⟩
theorem ok_len (F : DefM K C "__len__" "Blocks.__len__" sLen) (T : Tb K mg C) : KnM P w K mg base C "__len__" ["self"] 1 (spLen C) := by
  refine knm_of F scLen (fun vs H Q E h => ?_) (fun _ _ _ _ _ _ us hl => match us, hl with | [_], _ => rfl) (fun f cdv A outer s H vs Q E hr h => ?_)
  · obtain ⟨g, sz, bl, wi, rfl, _⟩ := h
    rfl
  · obtain ⟨g, sz, bl, wi, rfl, B, q⟩ := h
    obtain ⟨dx, ex⟩ := B.x
    refine ⟨_, (pss_one (ps_ret (pe_callB call_lenDF (by rfl) T.len (by decide +kernel) (pa_cons (pe_fldF T.cl T.n_inside (pv 0)) pa_nil)))), ?_⟩
    walk_at "ev"
    simp only [Ix_ins ex]
    walk_at "ev"
    simp only [Dk_dK B.I, ikv_len]
    exact q
def spWorths (C : Addr) : Sp := fun vs H Q _ => ∃ (g : G) (sz bl wi : Nat), vs = [.ref g.x] ∧ BlAt C sz bl wi g (· ∈ g.s.2.1) H ∧ sz ≤ 20000 ∧ 1 ≤ bl ∧ bl ≤ 64 ∧ ∀ p H', Same H H' → H p = none → H' p = some (.lst g.kp) → Q (.ref p) H'
theorem scWorths : FnScope ["self", "at"] ["self"] (defScope sWorths) := ⟨rfl, rfl, rfl, by decide +kernel, rfl, by decide +kernel, by decide +kernel⟩
theorem ok_worths (F : DefM K C "worths" "Blocks.worths" sWorths) (T : Tb K mg C) (m_seen : KnM P w K mg base C "seen" ["self", "at"] 4 (spSeen C)) : KnM P w K mg base C "worths" ["self"] 5 (spWorths C) := by
  refine knm_of F scWorths (fun vs H Q E h => ?_) (fun _ _ _ _ _ _ us hl => match us, hl with | [_], _ => rfl) (fun f cdv A outer s H vs Q E hr h => ?_)
  · obtain ⟨g, sz, bl, wi, rfl, _⟩ := h
    rfl
  · obtain ⟨g, sz, bl, wi, rfl, B, hsz, hb1, hb2, q⟩ := h
    obtain ⟨dx, ex⟩ := B.x
    refine ⟨_, (pss_one (ps_ret (pe_lc (own := [("at", 1)]) (by rfl) scWorths.nd (pi_range1 (by rfl) T.range (pa_cons (pe_fldF T.cl T.n_cells_many (pv 0)) pa_nil)) (blkOk_by (N := ["self", "at"]) (sc := defScope sWorths) (by decide +kernel)) (fun _ _ _ _ _ => (pg_name (i := 1) scWorths.nd rfl (Or.inl rfl))) (fun _ _ _ _ _ => pts_nil) (fun _ _ _ _ _ => (pe_km m_seen T.cl (hr.mono (by decide)) (pv 0) (pa_cons (pv 1) pa_nil)))))), ?_⟩
    walk_at "ev"
    simp only [Ix_ins ex]
    walk_at "ev"
    have big : (10000000 : Nat) < sizeLine := by decide
    refine ⟨by omega, by omega, ?_⟩
    refine lcp_range (fun D i H' => Same H H' ∧ H' D = some (.lst (g.kp.take i))) ?_ ?_ ?_
    · exact fun D hD => ⟨(newf hD rfl).1, upd_same⟩
    · rintro D i H' hD hi ⟨sm, e⟩
      have hi2 : i < sz := by omega
      walk_at "ev"
      simp only [Ix_ins (sm _ _ ex)]
      walk_at "ev"
      refine ⟨g, sz, bl, wi, i, rfl, B.same sm, hi2, hsz, hb1, hb2, fun H2 s2 => ?_⟩
      have hk := B.kl
      refine ⟨_, s2 _ _ e, by rw [List.length_take]; omega, same_chg (sm.trans s2) fun b o h => ne_of_none h hD, ?_⟩
      rw [upd_same, List.take_add_one, List.getElem?_eq_getElem (show i < g.kp.length by omega), List.getD_eq_getElem?_getD, List.getElem?_eq_getElem (show i < g.kp.length by omega)]
      rfl
    · rintro D H' hD ⟨sm, e⟩
      refine q D H' sm hD ?_
      rw [e, show (((sz : Nat) : Int)).toNat = sz from rfl, List.take_of_length_le (Nat.le_of_eq B.kl)]
def spInit (C : Addr) : Sp := fun vs H Q _ => ∃ (x dx : Addr) (sz bl wi : Nat), vs = [.ref x, .int sz, .int bl, .int wi] ∧ H x = some (.ins C dx []) ∧ sz ≤ 20000 ∧ 1 ≤ bl ∧ bl ≤ 64 ∧ 1 ≤ wi ∧ wi ≤ 64 ∧
  ∀ g' H', BlAt C sz bl wi g' (· ∈ g'.s.2.1) H' → g'.x = x → g'.s = ([], [], 0, 0) → g'.kp = List.replicate sz .non → g'.N = 0 → (∀ a, g'.R a → a = x ∨ H a = none) → (∀ a o, a ≠ x → H a = some o → H' a = some o) → Q .non H'
theorem scInit : FnScope ["self", "size", "block", "within"] ["self", "size", "block", "within"] (defScope sInit) := ⟨rfl, rfl, rfl, by decide +kernel, rfl, by decide +kernel, by decide +kernel⟩
theorem ok_init {f : Addr} {fd : FuncData} {kws : List (Str × V)} (F : FunD K "__init__" "Blocks.__init__" (defArgs sInit) (defBody sInit) (defScope sInit) [] kws f fd) (T : Tb K mg C) (c_look_at_sizes : Kn P w K mg base "look_at_sizes" ["size", "block", "within"] 3 spLookSizes) :
    FnOk P w K mg base CX0 4 f fd ["self", "size", "block", "within"] (spInit C) := by
  refine F.ok scInit (fun vs H Q E h => ?_) (fun cdv A outer s H vs Q E hr h => ?_)
  · obtain ⟨x, dx, sz, bl, wi, rfl, _⟩ := h
    rfl
  · refine nox_of ?_
    obtain ⟨x, dx, sz, bl, wi, rfl, ex, hsz, h1, h2, h3, h4, q⟩ := h
    refine ⟨_, (pss_cons (ps_expr (pe_kn c_look_at_sizes (hr.mono (by decide)) (by rfl) (pa_cons (pv 1) (pa_cons (pv 2) (pa_cons (pv 3) pa_nil)))))
      (pss_cons (ps_fldF T.cl T.n_cells_many (pv 0) (pv 1))
      (pss_cons (ps_fldF T.cl T.n_block_size (pv 0) (pv 2))
      (pss_cons (ps_fldF T.cl T.n_within_most (pv 0) (pv 3))
      (pss_cons (ps_fldF T.cl T.n_outside (pv 0) pe_dnewN)
      (pss_cons (ps_fldF T.cl T.n_inside (pv 0) pe_dnewN)
      (pss_cons (ps_fldF T.cl T.n_turned (pv 0) pe_dnewN)
      (pss_cons (ps_fldF T.cl T.n_fetched_many (pv 0) pe_int)
      (pss_one (ps_fldF T.cl T.n_put_many (pv 0) pe_int)))))))))), ?_⟩
    walk_at "ev"
    refine ⟨sz, bl, wi, rfl, by omega, by omega, by omega, by omega, by omega, by omega, ?_⟩
    simp only [Ix_ins ex]
    walk_at "ev"
    generalize hH1 : upd H x (HO.ins C dx _) = H1
    obtain ⟨i1, o1⟩ := chgf hH1
    refine Nw.intro fun O H2 c2 => ?_
    have nxO : x ≠ O := c2.off _ _ i1
    simp only [Ix_ins (c2.same _ _ i1)]
    walk_at "ev"
    generalize hH3 : upd H2 x (HO.ins C dx _) = H3
    obtain ⟨i3, o3⟩ := chgf hH3
    refine Nw.intro fun I H4 c4 => ?_
    have nxI : x ≠ I := c4.off _ _ i3
    have eO3 : H3 O = some (.dK []) := by rw [o3 _ nxO.symm]; exact c2.it
    have nOI : O ≠ I := c4.off _ _ eO3
    simp only [Ix_ins (c4.same _ _ i3)]
    walk_at "ev"
    generalize hH5 : upd H4 x (HO.ins C dx _) = H5
    obtain ⟨i5, o5⟩ := chgf hH5
    refine Nw.intro fun Tn H6 c6 => ?_
    have nxT : x ≠ Tn := c6.off _ _ i5
    have eO5 : H5 O = some (.dK []) := by rw [o5 _ nxO.symm]; exact c4.same _ _ eO3
    have eI5 : H5 I = some (.dK []) := by rw [o5 _ nxI.symm]; exact c4.it
    have nOT : O ≠ Tn := c6.off _ _ eO5
    have nIT : I ≠ Tn := c6.off _ _ eI5
    simp only [Ix_ins (c6.same _ _ i5)]
    walk_at "ev"
    generalize hH7 : upd H6 x (HO.ins C dx _) = H7
    obtain ⟨i7, o7⟩ := chgf hH7
    have eO7 : H7 O = some (.dK []) := by rw [o7 _ nxO.symm]; exact c6.same _ _ eO5
    have eI7 : H7 I = some (.dK []) := by rw [o7 _ nxI.symm]; exact c6.same _ _ eI5
    have eT7 : H7 Tn = some (.dK []) := by rw [o7 _ nxT.symm]; exact c6.it
    have keep : ∀ a o, a ≠ x → H a = some o → H7 a = some o := fun a o n e => by
      rw [o7 _ n]
      refine c6.same _ _ ?_
      rw [o5 _ n]
      refine c4.same _ _ ?_
      rw [o3 _ n]
      refine c2.same _ _ ?_
      rw [o1 _ n]
      exact e
    have old : ∀ a o, a ≠ x → H a = some o → a ≠ O ∧ a ≠ I ∧ a ≠ Tn := fun a o n e => by
      have e1 : H1 a = some o := by rw [o1 _ n]; exact e
      have e3 : H3 a = some o := by rw [o3 _ n]; exact c2.same _ _ e1
      have e5 : H5 a = some o := by rw [o5 _ n]; exact c4.same _ _ e3
      exact ⟨c2.off _ _ e1, c4.off _ _ e3, c6.off _ _ e5⟩
    refine q { x := x, O := O, I := I, Tn := Tn, da := fun _ => 0, oa := fun _ => none, s := ([], [], 0, 0), kp := List.replicate sz .non, N := 0, R := fun a => a = x ∨ a = O ∨ a = I ∨ a = Tn } H7 ?_ rfl rfl rfl rfl (fun a ha => ?_) keep
    · refine { x := ⟨dx, i7⟩, O := ⟨[], eO7, Nat.zero_le _, fun b => rfl⟩, I := eI7, Tn := eT7, nd := List.nodup_nil, nT := List.nodup_nil, sub := fun b hb => hb, lw := Nat.zero_le _, ne1 := nOI, ne2 := nOT, ne3 := nIT, da1 := fun b hb => (by cases hb), oa1 := fun b d e => (by cases e), inj := fun b hb => (by cases hb), dis := fun b hb => (by cases hb), ins := fun b hb => (by cases hb), out := fun b _ => ?_, od := fun b d e => (by cases e), kl := List.length_replicate, rx := .inl rfl, rO := .inr (.inl rfl), rI := .inr (.inr (.inl rfl)), rT := .inr (.inr (.inr rfl)), rd := fun b hb => (by cases hb), ro := fun b d e => (by cases e), rg := ?_ }
      · intro a ha _
        show (List.replicate sz V.non).getD a .non = .non
        rw [List.getD_eq_getElem?_getD, List.getElem?_replicate]
        split <;> rfl
      · rintro a (rfl | rfl | rfl | rfl)
        · exact ⟨_, i7, trivial⟩
        · exact ⟨_, eO7, trivial⟩
        · exact ⟨_, eI7, trivial⟩
        · exact ⟨_, eT7, trivial⟩
    · by_cases n : a = x
      · exact .inl n
      · refine .inr ?_
        cases z : H a with
        | none => rfl
        | some o =>
          obtain ⟨n1, n2, n3⟩ := old a o n z
          rcases ha with y | y | y | y
          · exact absurd y n
          · exact absurd y n1
          · exact absurd y n2
          · exact absurd y n3
end
end K32
namespace K32
open PySem PySem.Spec PyProof.Rows L2 Lw
/-! ### the law's own store -/
def okv (tz l fr kp : Addr) (f p : Int) : List (Key × V) := [(.inr "sizes", .ref tz), (.inr "line", .ref l), (.inr "fresh", .ref fr), (.inr "kept", .ref kp), (.inr "fetched", .int f), (.inr "put", .int p)]
section
variable {tz l fr kp l2 : Addr} {f p q : Int}
theorem okv_sizes : valV (okv tz l fr kp f p) (.inr "sizes") = some (.ref tz) := by rfl
theorem okv_line : valV (okv tz l fr kp f p) (.inr "line") = some (.ref l) := by rfl
theorem okv_fresh : valV (okv tz l fr kp f p) (.inr "fresh") = some (.ref fr) := by rfl
theorem okv_kept : valV (okv tz l fr kp f p) (.inr "kept") = some (.ref kp) := by rfl
theorem okv_fetched : valV (okv tz l fr kp f p) (.inr "fetched") = some (.int f) := by rfl
theorem okv_put : valV (okv tz l fr kp f p) (.inr "put") = some (.int p) := by rfl
theorem okv_put_ : putK (okv tz l fr kp f p) (.inr "put") (.int q) = okv tz l fr kp f q := by rfl
theorem okv_fetched_ : putK (okv tz l fr kp f p) (.inr "fetched") (.int q) = okv tz l fr kp q p := by rfl
theorem okv_fresh_ : putK (okv tz l fr kp f p) (.inr "fresh") (.ref l2) = okv tz l l2 kp f p := by rfl
theorem okv_line_ : putK (okv tz l fr kp f p) (.inr "line") (.ref l2) = okv tz l2 fr kp f p := by rfl
theorem okv_m : mergeK [] [(.inr "sizes", .ref tz), (.inr "line", .ref l), (.inr "fresh", .ref fr), (.inr "kept", .ref kp), (.inr "fetched", .int f), (.inr "put", .int p)] = okv tz l fr kp f p := by rfl
theorem okv_m3 {l3 : Addr} : mergeK (okv tz l fr kp f p) (mergeK [] [(.inr "line", .ref l2), (.inr "fresh", .ref l3), (.inr "put", .int q)]) = okv tz l2 l3 kp f q := by rfl
theorem m3_len {l3 : Addr} : (mergeK [] [((.inr "line" : Key), V.ref l2), (.inr "fresh", .ref l3), (.inr "put", .int q)]).length = 3 := by rfl
theorem okv_len : (okv tz l fr kp f p).length = 6 := rfl
end
structure Ow where
  x : Addr
  tz : Addr
  l : Addr
  fr : Addr
  kp : Addr
  s : Fst
  kq : List V
  R : Addr → Prop
abbrev nE : Int → Prop := fun _ => False
structure OwnAt (E : Int → Prop) (sz bl wi : Nat) (o : Ow) (H : Hp) : Prop where
  x : H o.x = some (.dK (okv o.tz o.l o.fr o.kp o.s.2.2.1 o.s.2.2.2))
  tz : H o.tz = some (.tup [.int sz, .int bl, .int wi])
  l : H o.l = some (.lst (o.s.1.map V.int))
  fr : H o.fr = some (.lst (o.s.2.1.map V.int))
  kp : H o.kp = some (.lst o.kq)
  nd : o.s.1.Nodup
  nF : o.s.2.1.Nodup
  sub : ∀ b ∈ o.s.2.1, b ∈ o.s.1 ∨ E b
  lw : o.s.1.length ≤ wi
  kl : o.kq.length = sz
  ne1 : o.l ≠ o.fr
  ne2 : o.l ≠ o.kp
  ne3 : o.fr ≠ o.kp
  rx : o.R o.x
  rl : o.R o.l
  rf : o.R o.fr
  rk : o.R o.kp
  rg : Rg o.R H
theorem OwnAt.frame {E : Int → Prop} {sz bl wi : Nat} {o : Ow} {H H' : Hp} (h : OwnAt E sz bl wi o H) (k : ∀ a u, o.R a → H a = some u → H' a = some u) (ht : H' o.tz = H o.tz) : OwnAt E sz bl wi o H' := by
  have rgk : Rg o.R H' := fun a ha => by
    obtain ⟨u, e, n⟩ := h.rg a ha
    exact ⟨u, k a u ha e, n⟩
  exact { h with x := k _ _ h.rx h.x, tz := by rw [ht]; exact h.tz, l := k _ _ h.rl h.l, fr := k _ _ h.rf h.fr, kp := k _ _ h.rk h.kp, rg := rgk }
theorem OwnAt.same {E : Int → Prop} {sz bl wi : Nat} {o : Ow} {H H' : Hp} (h : OwnAt E sz bl wi o H) (s : Same H H') : OwnAt E sz bl wi o H' := h.frame (fun a u _ e => s a u e) (by rw [s _ _ h.tz, h.tz])
theorem OwnAt.fr_ {E : Int → Prop} {sz bl wi : Nat} {o : Ow} {H H' : Hp} {R : Addr → Prop} (h : OwnAt E sz bl wi o H) (f : Fr R H H') (g : Rg R H) (d : ∀ a, o.R a → ¬ R a) : OwnAt E sz bl wi o H' := h.frame (fun a u ha e => f a u (d a ha) e) (by rw [f.tup g h.tz, h.tz])
local macro_rules | `(tactic| walk_at "ev") => `(tactic| simp only [cxOf, tDispF, tPairs, Kvs, okv_sizes, okv_line, okv_fresh, okv_kept, okv_fetched, okv_put, okv_fresh_, okv_line_, okv_fetched_, okv_put_, tNoS, tFldF, sFldF, sFldAugF, tMethF, Ix_upd, lk_eq, lk_ne, lk_nil, putF_nil, putF_eq, putF_ne, Str_lit, String.reduceEq, fsB, rListK, rDictD, rRevF, rLenD, rAllF, rSortF, rSortK, rLenI, tChain, Int.reduceMul, tPar3, tCallN, iKeysF, tLockE, tDisp1F, mergeK_one, tYes, iRng3, ex_ints, ex_any, tML, tML0, tMD, tTupN, tLstN, tDNewN, rSlL2, rCatF, rRepF, tRevF, rListF, rMaxF, tDGetF, tDGet1F, tDGet2F, tDPop1F, tDPop2F, sDPutF, tLenSetF, tSl, tPart, tNoPart, ipI, rIsiF, Tz_non, Tz_bl, Tz_int, Tz_str, Cl7_int, Cl7_bool, Cl7_str, Cl7_list, Cl7_tuple, Cl7_dict, T7.isa, iListF, iTupF, cpow12, cpow60, tFor_eq, tLc_eq, iRng1, iRng2, wipe, Cx.nox, Cx.wish, tSeq, tIfS, tTest, tOp, tVar, tC, tRet, tRetN, tCB, tCons, tNil, tB, tNot, tAnd, tOr, tAndV, tOrV, tNotV, tIf, rEq, rNe, scal_ii, scal_bb, scal_ss, scal_nn, scal_si, scal_is, scal_in, scal_ni, Bool.or_true, Bool.true_or, Bool.or_false, Bool.false_or, Bool.and_true, Bool.true_and, Bool.and_false, Bool.false_and, rI, rI0, rU, tUn, t2I, tAsg, gName, tPar, tDrop, tLst, tTup, tCall, tNext, tBreak, tCont, tAug, rAdd, gTup, gTupF, gCons, gNil, gSub, rIxF, rLenF, rSetF, rAppF, rExtF, rPop0, rRemF, rInF, rDUpd, Nt_int, Op_some, Ky_int, Ky_str,
  List.map_cons, List.map_nil, List.cons_append, List.nil_append, List.append_nil, List.getElem?_cons_zero, List.getElem?_cons_succ, List.set_cons_zero, List.set_cons_succ, List.length_cons, List.length_nil, Option.some.injEq, exists_eq_left', exists_eq_left, exists_eq_right, V.int.injEq, V.ref.injEq, V.bl.injEq, V.str.injEq, V.ty.injEq, List.cons.injEq, and_true, true_and, and_assoc, reduceCtorEq, decide_eq_true_eq, decide_true, decide_false, if_true, if_false, ite_true, ite_false, Bool.false_eq_true, false_and, and_false, exists_false, exists_const, or_false, false_or, Bool.not_eq_true', decide_eq_false_iff_not, List.replicate_succ, List.replicate_zero, Nat.reduceSub, Nat.reduceAdd, Int.reducePow, Int.reduceNeg, exists_and_left, exists_and_right, atI_0, atI_1, atI_2, ixN_0, ixN_1, ixN_2, L2.start, upd_upd, Sq_upd, Sq_updT, Tp_upd, Ls_upd, Dk_upd, Int.reduceLT, Int.reduceLE, Nat.reduceLT, Nat.reduceLeDiff, forall_eq', forall_eq, id, Int.zero_add, Bool.not_true, Bool.not_false, not_true_eq_false, not_false_eq_true, ne_eq])
theorem wo_take {l : List Int} {i : Nat} (h : i < l.length) (y : Int) : wo (l.take (i + 1)) y = wo (l.take i) y ++ if l[i] = y then [] else [l[i]] := by
  unfold wo
  rw [List.take_add_one, List.getElem?_eq_getElem h, List.filter_append]
  congr 1
  show [l[i]].filter _ = _
  rw [List.filter_cons]
  by_cases e : l[i] = y
  · rw [if_pos e, if_neg (by simpa using e)]
    rfl
  · rw [if_neg e, if_pos (by simpa using e)]
    rfl
theorem ixN_nat {n a : Nat} (h : a < n) : ixN n (a : Int) = some a := by
  rw [ixN_natE, if_pos h]
def owrt (m : Nat) (s : Fst) (k : Int) : Fst := ((ask m s k).1, wo (ask m s k).2.1 k ++ [k], (ask m s k).2.2.1, (ask m s k).2.2.2)
/-- one cell of it -/
theorem OwnAt.cell {E : Int → Prop} {sz bl wi : Nat} {o : Ow} {H H' : Hp} (h : OwnAt E sz bl wi o H) {a : Nat} {v : V} (hk : H' o.kp = some (.lst (o.kq.set a v))) (keep : ∀ c, c ≠ o.kp → H' c = H c) : OwnAt E sz bl wi { o with kq := o.kq.set a v } H' := by
  have n1 : o.x ≠ o.kp := fun z => by
    have := h.x
    rw [z, h.kp] at this
    cases this
  have n2 : o.tz ≠ o.kp := fun z => by
    have := h.tz
    rw [z, h.kp] at this
    cases this
  refine { x := by rw [keep _ n1]; exact h.x, tz := by rw [keep _ n2]; exact h.tz, l := by rw [keep _ h.ne2]; exact h.l, fr := by rw [keep _ h.ne3]; exact h.fr, kp := hk, nd := h.nd, nF := h.nF, sub := h.sub, lw := h.lw, kl := by rw [← h.kl]; exact List.length_set, ne1 := h.ne1, ne2 := h.ne2, ne3 := h.ne3, rx := h.rx, rl := h.rl, rf := h.rf, rk := h.rk, rg := rg_of h.rg fun c hc => ?_ }
  by_cases n : c = o.kp
  · exact .inr ⟨.lst _, by rw [n]; exact hk, trivial⟩
  · exact .inl (keep c n)
/-- one step of it -/
theorem OwnAt.step {E : Int → Prop} {sz bl wi : Nat} {o : Ow} {H H' : Hp} (h : OwnAt E sz bl wi o H) {fr' : Addr} {L F : List Int} {f p : Int} (hx : H' o.x = some (.dK (okv o.tz o.l fr' o.kp f p))) (hl : H' o.l = some (.lst (L.map V.int))) (hf : H' fr' = some (.lst (F.map V.int)))
    (nf : fr' = o.fr ∨ H fr' = none) (keep : ∀ a u, a ≠ o.x → a ≠ o.l → a ≠ fr' → H a = some u → H' a = some u) (nd : L.Nodup) (nF : F.Nodup) {E' : Int → Prop} (sub : ∀ b ∈ F, b ∈ L ∨ E' b) (lw : L.length ≤ wi) :
    OwnAt E' sz bl wi { o with fr := fr', s := (L, F, f, p), R := fun a => o.R a ∨ a = fr' } H' := by
  have ne : ∀ {a u}, H a = some u → a ≠ o.fr → a ≠ fr' := fun e n z => by
    rcases nf with y | y
    · exact n (z.trans y)
    · rw [z, y] at e
      cases e
  have nx : ∀ {a xs}, H a = some (.lst xs) → a ≠ o.x := fun e z => by
    rw [z, h.x] at e
    cases e
  have ntx : o.tz ≠ o.x := fun z => by
    have := h.tz
    rw [z, h.x] at this
    cases this
  have ntl : o.tz ≠ o.l := fun z => by
    have := h.tz
    rw [z, h.l] at this
    cases this
  have ntf : o.tz ≠ o.fr := fun z => by
    have := h.tz
    rw [z, h.fr] at this
    cases this
  refine { x := hx, tz := keep _ _ ntx ntl (ne h.tz ntf) h.tz, l := hl, fr := hf, kp := keep _ _ (nx h.kp) h.ne2.symm (ne h.kp h.ne3.symm) h.kp, nd := nd, nF := nF, sub := sub, lw := lw, kl := h.kl, ne1 := ne h.l h.ne1, ne2 := h.ne2, ne3 := (ne h.kp h.ne3.symm).symm, rx := .inl h.rx, rl := .inl h.rl, rf := .inr rfl, rk := .inl h.rk, rg := fun a ha => ?_ }
  by_cases n1 : a = o.x
  · exact ⟨.dK _, by rw [n1]; exact hx, trivial⟩
  · by_cases n2 : a = o.l
    · exact ⟨.lst _, by rw [n2]; exact hl, trivial⟩
    · by_cases n3 : a = fr'
      · exact ⟨.lst _, by rw [n3]; exact hf, trivial⟩
      · rcases ha with ha | ha
        · obtain ⟨u, e, n⟩ := h.rg a ha
          exact ⟨u, keep a u n1 n2 n3 e, n⟩
        · exact absurd ha n3
section
variable {P : Program} {w : World} {K : PySem.W.Frag} {mg : Str → Option Value} {base : Heap} {C : Addr}
def spMzStore : Sp := fun vs H Q _ => ∃ sz bl wi : Nat, vs = [.int sz, .int bl, .int wi] ∧ sz ≤ 20000 ∧ ∀ o H', OwnAt nE sz bl wi o H' → o.s = ([], [], 0, 0) → o.kq = List.replicate sz .non → (∀ a, o.R a → H a = none) → Same H H' → Q (.ref o.x) H'
theorem scMzStore : FnScope ["size", "width", "most_in"] ["size", "width", "most_in"] (defScope sMzStore) := ⟨rfl, rfl, rfl, by decide +kernel, rfl, by decide +kernel, by decide +kernel⟩
theorem ok__law_mz_store (F : Def1 K mg "_law_mz_store" sMzStore) (T : Tb K mg C) : Kn P w K mg base "_law_mz_store" ["size", "width", "most_in"] 1 spMzStore := by
  refine kn_of F scMzStore (fun vs H Q E h => ?_) (fun _ _ _ _ _ _ us hl => match us, hl with | [_, _, _], _ => rfl) (fun f cdv A outer s H vs Q E hr h => ?_)
  · obtain ⟨sz, bl, wi, rfl, _⟩ := h
    rfl
  · obtain ⟨sz, bl, wi, rfl, hsz, q⟩ := h
    refine ⟨_, (pss_one (ps_ret (pe_dispF (ppu_cons pe_str (pe_tupN (pa_cons (pv 0) (pa_cons (pv 1) (pa_cons (pv 2) pa_nil)))) (ppu_cons pe_str (pe_lstN pa_nil) (ppu_cons pe_str (pe_lstN pa_nil) (ppu_cons pe_str (pe_op op_repF (pe_lstN (pa_cons pe_non pa_nil)) (pv 0)) (ppu_cons pe_str pe_int (ppu_cons pe_str pe_int ppu_nil))))))))), ?_⟩
    walk_at "ev"
    refine Nw.intro fun x H1 c1 => ⟨by decide, Nw.intro fun tz H2 c2 => ⟨Nat.zero_le _, Nw.intro fun l H3 c3 => ⟨Nat.zero_le _, Nw.intro fun fr H4 c4 => ⟨by decide, Nw.intro fun u5 H5 c5 => ?_⟩⟩⟩⟩
    simp only [Ls_lst c5.it]
    have big : (10000000 : Nat) < sizeLine := by decide
    have e1 : (List.replicate (((sz : Nat) : Int)).toNat [V.non]).flatten = List.replicate sz V.non := by
      rw [show (((sz : Nat) : Int)).toNat = sz from rfl]
      exact List.flatten_replicate_singleton
    rw [e1, show (((sz : Nat) : Int)).toNat = sz from rfl]
    refine ⟨by omega, by omega, by rw [List.length_singleton]; omega, Nw.intro fun kp H6 c6 => ⟨?_, ?_⟩⟩
    · exact c6.same _ _ (c5.same _ _ (c4.same _ _ (c3.same _ _ (c2.same _ _ c1.it))))
    · rw [okv_m]
      have el := c6.same _ _ (c5.same _ _ (c4.same _ _ c3.it))
      have ef := c6.same _ _ (c5.same _ _ c4.it)
      have et := c6.same _ _ (c5.same _ _ (c4.same _ _ (c3.same _ _ c2.it)))
      have ex := c6.same _ _ (c5.same _ _ (c4.same _ _ (c3.same _ _ (c2.same _ _ c1.it))))
      have nxl : l ≠ x := fun z => by
        rw [z, ex] at el
        cases el
      have nxf : fr ≠ x := fun z => by
        rw [z, ex] at ef
        cases ef
      have nxt : tz ≠ x := fun z => by
        rw [z, ex] at et
        cases et
      have nxk : kp ≠ x := fun z => by
        have := c6.it
        rw [z, ex] at this
        cases this
      have sm : Same H H6 := c1.same.trans (c2.same.trans (c3.same.trans (c4.same.trans (c5.same.trans c6.same))))
      have sall : Same H (upd H6 x (.dK (okv tz l fr kp 0 0))) := same_chg sm fun b o e => c1.off _ _ e
      have s2 : Same H H2 := c1.same.trans c2.same
      have s3 : Same H H3 := s2.trans c3.same
      have s5 : Same H H5 := s3.trans (c4.same.trans c5.same)
      refine q { x := x, tz := tz, l := l, fr := fr, kp := kp, s := ([], [], 0, 0), kq := List.replicate sz V.non, R := fun a => a = x ∨ a = l ∨ a = fr ∨ a = kp } _ ?_ rfl rfl (fun a ha => ?_) sall
      · refine { x := upd_same, tz := by rw [upd_ne nxt]; exact et, l := by rw [upd_ne nxl]; exact el, fr := by rw [upd_ne nxf]; exact ef, kp := by rw [upd_ne nxk]; exact c6.it, nd := List.nodup_nil, nF := List.nodup_nil, sub := fun b hb => .inl hb, lw := Nat.zero_le _, kl := List.length_replicate, ne1 := c4.off _ _ c3.it, ne2 := c6.off _ _ (c5.same _ _ (c4.same _ _ c3.it)), ne3 := c6.off _ _ (c5.same _ _ c4.it), rx := .inl rfl, rl := .inr (.inl rfl), rf := .inr (.inr (.inl rfl)), rk := .inr (.inr (.inr rfl)), rg := ?_ }
        rintro a (rfl | rfl | rfl | rfl)
        · exact ⟨_, upd_same, trivial⟩
        · exact ⟨_, (upd_ne nxl).trans el, trivial⟩
        · exact ⟨_, (upd_ne nxf).trans ef, trivial⟩
        · exact ⟨_, (upd_ne nxk).trans c6.it, trivial⟩
      · rcases ha with rfl | rfl | rfl | rfl
        · exact c1.new
        · exact s2.free c3.new
        · exact s3.free c4.new
        · exact s5.free c6.new
def spMzAsked : Sp := fun vs H Q _ => ∃ (o : Ow) (sz bl wi a : Nat), vs = [.ref o.x, .int (a : Int)] ∧ OwnAt nE sz bl wi o H ∧ a < sz ∧ sz ≤ 20000 ∧ 1 ≤ bl ∧ bl ≤ 64 ∧ 1 ≤ wi ∧ wi ≤ 64 ∧
  ∀ o' H', OwnAt nE sz bl wi o' H' → o'.x = o.x → o'.s = ask wi o.s ((a : Int) / (bl : Int)) → o'.kq = o.kq → (∀ a, o'.R a → o.R a ∨ H a = none) → (∀ a, o.R a → o'.R a) → Fr o.R H H' → Q .non H'
theorem scMzAsked : FnScope ["store", "at", "size", "width", "most_in", "block", "gone", "one"] ["store", "at"] (defScope sMzAsked) := ⟨rfl, rfl, rfl, by decide +kernel, rfl, by decide +kernel, by decide +kernel⟩
theorem ok__law_mz_asked (F : Def1 K mg "_law_mz_asked" sMzAsked) (T : Tb K mg C) : Kn P w K mg base "_law_mz_asked" ["store", "at"] 1 spMzAsked := by
  refine kn_of F scMzAsked (fun vs H Q E h => ?_) (fun _ _ _ _ _ _ us hl => match us, hl with | [_, _], _ => rfl) (fun f cdv A outer s H vs Q E hr h => ?_)
  · obtain ⟨o, sz, bl, wi, a, rfl, _⟩ := h
    rfl
  · obtain ⟨o, sz, bl, wi, a, rfl, B, ha, hsz, hb1, hb2, hw1, hw2, q⟩ := h
    refine ⟨_, (pss_cons (ps_asg (pe_dgetF (hu_of hr) (pv 0) pe_str (fun _ _ => rfl)) (pg_tupF 3 (by rfl) (pgs_cons (pg_name (i := 2) scMzAsked.nd rfl (Or.inl rfl)) (pgs_cons (pg_name (i := 3) scMzAsked.nd rfl (Or.inl rfl)) (pgs_cons (pg_name (i := 4) scMzAsked.nd rfl (Or.inl rfl)) pgs_nil)))))
      (pss_cons (ps_set (i := 5) scMzAsked.nd rfl (Or.inl rfl) (pe_op op_fdivW (pv 1) (pv 3)))
      (pss_cutL (ps_if (pt_cmpR op_inF (pv 5) (pe_dgetF (hu_of hr) (pv 0) pe_str (fun _ _ => rfl)) (by rfl)) (pss_one (ps_expr (pe_mL PySem.F.slot_list_remove PySem.F.type_list_remove mt_remF (pe_dgetF (hu_of hr) (pv 0) pe_str (fun _ _ => rfl)) (pa_cons (pv 5) pa_nil)))) (pss_cutL (ps_if (pt_cmpR op_eq (pe_callB call_lenF (by rfl) T.len (by decide +kernel) (pa_cons (pe_dgetF (hu_of hr) (pv 0) pe_str (fun _ _ => rfl)) pa_nil)) (pv 4) (nomark _)) (pss_cons (ps_set (i := 6) scMzAsked.nd rfl (Or.inr rfl) (pe_mL PySem.F.slot_list_pop PySem.F.type_list_pop mt_pop0 (pe_dgetF (hu_of hr) (pv 0) pe_str (fun _ _ => rfl)) (pa_cons pe_int pa_nil)))
      (pss_cons (ps_dputF (hu_of hr) (pv 0) pe_str (pe_op op_add (pe_dgetF (hu_of hr) (pv 0) pe_str (fun _ _ => rfl)) (pe_callTy call_int1 (by rfl) T.int (by decide +kernel) (pa_cons (pe_cmpR op_inF (pv 6) (pe_dgetF (hu_of hr) (pv 0) pe_str (fun _ _ => rfl)) (by rfl)) pa_nil))) rfl)
      (pss_one (ps_dputF (hu_of hr) (pv 0) pe_str (pe_lc (own := [("one", 7)]) (by rfl) scMzAsked.nd (pi_listF (pe_dgetF (hu_of hr) (pv 0) pe_str (fun _ _ => rfl))) (blkOk_by (N := ["store", "at", "size", "width", "most_in", "block", "gone", "one"]) (sc := defScope sMzAsked) (by decide +kernel)) (fun _ _ _ _ _ => (pg_name (i := 7) scMzAsked.nd rfl (Or.inl rfl))) (fun _ _ _ _ _ => (pts_one (pt_cmpR op_ne (pv 7) (pv 6) (nomark _)))) (fun _ _ _ _ _ => (pv 7))) rfl)))) pss_nil)
      (pss_one (ps_dputF (hu_of hr) (pv 0) pe_str (pe_op op_add (pe_dgetF (hu_of hr) (pv 0) pe_str (fun _ _ => rfl)) pe_int) rfl))))
      (pss_one (ps_expr (pe_mL PySem.F.slot_list_append PySem.F.type_list_append mt_app (pe_dgetF (hu_of hr) (pv 0) pe_str (fun _ _ => rfl)) (pa_cons (pv 5) pa_nil))))))), ?_⟩
    have big : (10000000 : Nat) < sizeLine := by decide
    have lL := B.lw
    walk_at "ev"
    simp only [Dr_dK B.x]
    walk_at "ev"
    simp only [Tp_tup B.tz]
    walk_at "ev"
    refine ⟨⟨by omega, Nat.lt_of_lt_of_le (PySem.Flt.log2_lt_of (k := 30) (by decide) (by omega)) (by decide)⟩, ?_⟩
    generalize (a : Int) / (bl : Int) = k at *
    have nlx : o.l ≠ o.x := fun z => by
      have := B.l
      rw [z, B.x] at this
      cases this
    have nfx : o.fr ≠ o.x := fun z => by
      have := B.fr
      rw [z, B.x] at this
      cases this
    refine ⟨fun σ' H' => ∃ (o' : Ow) (x6 x7 : Option V), OwnAt (· = k) sz bl wi o' H' ∧ o'.x = o.x ∧ k ∉ o'.s.1 ∧ o'.s.1.length < wi ∧ (o'.s.1, o'.s.2.1, o'.s.2.2.1, o'.s.2.2.2) = fl wi o.s k ∧ o'.kq = o.kq ∧ (∀ a, o'.R a → o.R a ∨ H a = none) ∧ (∀ a, o.R a → o'.R a) ∧ Fr o.R H H' ∧
      σ' = [some (.ref o.x), some (.int a), some (.int sz), some (.int bl), some (.int wi), some (.int k), x6, x7], ?_, ?_⟩
    · walk_at "ev"
      simp only [Dr_dK B.x]
      walk_at "ev"
      simp only [Sq_lst B.l]
      refine ⟨o.s.1, rfl, ?_⟩
      by_cases hk : k ∈ o.s.1
      · rw [if_pos hk]
        simp only [Ls_lst B.l]
        refine ⟨o.s.1, rfl, hk, ?_⟩
        rw [wo_erase B.nd]
        generalize hH1 : upd H o.l _ = H1
        obtain ⟨i1, o1⟩ := chgf hH1
        have st := B.step (H' := H1) (fr' := o.fr) (L := wo o.s.1 k) (F := o.s.2.1) (E' := fun x => x = k) (by rw [o1 _ nlx.symm]; exact B.x) i1 (by rw [o1 _ B.ne1.symm]; exact B.fr) (.inl rfl) (fun a u _ n _ e => by rw [o1 _ n]; exact e) (wo_nd B.nd k) B.nF ?_ ?_
        · refine ⟨_, st, rfl, fun z => (mem_wo.mp z).2 rfl, ?_, ?_, rfl, fun a ha => ?_, fun a ha => .inl ha, fun a u na ea => ?_⟩
          · show (wo o.s.1 k).length < wi
            have := wo_lt hk
            omega
          · unfold fl
            rw [if_pos hk]
          · rcases ha with ha | rfl
            · exact .inl ha
            · exact .inl B.rf
          · rw [o1 _ (fun z => na (by rw [z]; exact B.rl))]
            exact ea
        · intro b hb
          rcases B.sub b hb with m | m
          · by_cases e : b = k
            · exact .inr e
            · exact .inl (mem_wo.mpr ⟨m, e⟩)
          · exact m.elim
        · have := wo_len o.s.1 k
          omega
      · rw [if_neg hk]
        refine ⟨fun σ' H' => ∃ (o' : Ow) (x6 x7 : Option V), OwnAt nE sz bl wi o' H' ∧ o'.x = o.x ∧ k ∉ o'.s.1 ∧ o'.s.1.length < wi ∧ (o'.s.1, o'.s.2.1, o'.s.2.2.1 + 1, o'.s.2.2.2) = fl wi o.s k ∧ o'.kq = o.kq ∧ (∀ a, o'.R a → o.R a ∨ H a = none) ∧ (∀ a, o.R a → o'.R a) ∧ Fr o.R H H' ∧
          σ' = [some (.ref o.x), some (.int a), some (.int sz), some (.int bl), some (.int wi), some (.int k), x6, x7], ?_, ?_⟩
        · walk_at "ev"
          simp only [Dr_dK B.x]
          walk_at "ev"
          simp only [Sq_lst B.l, List.length_map]
          by_cases he : o.s.1.length = wi
          · rw [if_pos (by rw [he])]
            obtain ⟨y, r, ey⟩ : ∃ y r, o.s.1 = y :: r := by
              cases z : o.s.1 with
              | nil => rw [z] at he; simp at he; omega
              | cons y r => exact ⟨y, r, rfl⟩
            have el := B.l
            rw [ey] at el
            simp only [Ls_lst el, List.map_cons]
            generalize hH1 : upd H o.l _ = H1
            obtain ⟨i1, o1⟩ := chgf hH1
            have ex1 : H1 o.x = some (.dK (okv o.tz o.l o.fr o.kp o.s.2.2.1 o.s.2.2.2)) := by rw [o1 _ nlx.symm]; exact B.x
            have ef1 : H1 o.fr = some (.lst (o.s.2.1.map V.int)) := by rw [o1 _ B.ne1.symm]; exact B.fr
            simp only [Dr_dK ex1]
            walk_at "ev"
            simp only [Sq_lst ef1]
            refine ⟨o.s.2.1, rfl, ?_⟩
            simp only [Dk_dK ex1, okv_put_, okv_len]
            refine ⟨by omega, ?_⟩
            generalize hH2 : upd H1 o.x _ = H2
            obtain ⟨i2, o2⟩ := chgf hH2
            have ef2 : H2 o.fr = some (.lst (o.s.2.1.map V.int)) := by rw [o2 _ nfx]; exact ef1
            simp only [Dr_dK i2]
            walk_at "ev"
            simp only [Ls_lst ef2]
            have lF : o.s.2.1.length ≤ wi := by
              have := B.nF.length_le_of_subset (l₂ := o.s.1) fun b hb => (B.sub b hb).elim id fun z => z.elim
              omega
            refine lcp_list (xs := o.s.2.1.map V.int) (fun D i H' => Same H2 H' ∧ H' D = some (.lst ((wo (o.s.2.1.take i) y).map V.int))) ?_ ?_ ?_ ?_
            · exact fun D hD => ⟨(newf hD rfl).1, upd_same⟩
            · exact fun D i H' _ ⟨sm, _⟩ => sm _ _ ef2
            · rintro D i x H' hD hx ⟨sm, e⟩
              have hi : i < o.s.2.1.length := by
                have := (List.getElem?_eq_some_iff.mp hx).1
                rw [List.length_map] at this
                exact this
              have exi : x = .int o.s.2.1[i] := by
                rw [List.getElem?_map, List.getElem?_eq_getElem hi] at hx
                exact (Option.some.inj hx).symm
              subst exi
              walk_at "ev"
              rw [wo_take hi]
              by_cases eq : o.s.2.1[i] = y
              · rw [if_neg (by simpa using eq), if_pos eq, List.append_nil]
                exact ⟨sm, e⟩
              · rw [if_pos (by simpa using eq), if_neg eq]
                refine ⟨_, e, ?_, same_chg sm fun b u h => ne_of_none h hD, ?_⟩
                · rw [List.length_map]
                  have h1 := wo_len (o.s.2.1.take i) y
                  rw [List.length_take] at h1
                  omega
                · rw [upd_same, List.map_append]
                  rfl
            · rintro D H3 hD ⟨sm, e⟩
              rw [List.length_map, List.take_length] at e
              have ex3 := sm _ _ i2
              simp only [Dk_dK ex3, okv_fresh_, okv_len]
              refine ⟨by omega, ?_⟩
              generalize hH4 : upd H3 o.x _ = H4
              obtain ⟨i4, o4⟩ := chgf hH4
              have hDx : D ≠ o.x := fun z => by
                rw [z, ex3] at e
                cases e
              have hD0 : H D = none := by
                cases z : H D with
                | none => rfl
                | some u =>
                  by_cases n1 : D = o.l
                  · rw [n1, o2 _ nlx, i1] at hD
                    cases hD
                  · rw [o2 _ hDx, o1 _ n1, z] at hD
                    cases hD
              have ndy : (y :: r).Nodup := by rw [← ey]; exact B.nd
              have st := B.step (H' := H4) (fr' := D) (L := r) (F := wo o.s.2.1 y) (f := o.s.2.2.1) (p := o.s.2.2.2 + if y ∈ o.s.2.1 then 1 else 0) (E' := nE) i4 (by rw [o4 _ nlx]; refine sm _ _ ?_; rw [o2 _ nlx]; exact i1) (by rw [o4 _ hDx]; exact e) (.inr hD0) (fun a u n1 n2 n3 eu => by rw [o4 _ n1]; refine sm _ _ ?_; rw [o2 _ n1, o1 _ n2]; exact eu) (List.nodup_cons.mp ndy).2 (wo_nd B.nF y) ?_ ?_
              · refine ⟨_, st, rfl, ?_, ?_, ?_, rfl, fun a ha => ?_, fun a ha => .inl ha, fun a u na ea => ?_⟩
                · exact fun z => hk (by rw [ey]; exact List.mem_cons_of_mem _ z)
                · show r.length < wi
                  rw [ey, List.length_cons] at he
                  omega
                · unfold fl
                  rw [if_neg hk, if_pos he, ey]
                  unfold away
                  rw [ey]
                  show _ = (wo (y :: r) y, _, _, _)
                  rw [wo_head ndy]
                  rfl
                · rcases ha with ha | rfl
                  · exact .inl ha
                  · exact .inr hD0
                · rw [o4 _ (fun z => na (by rw [z]; exact B.rx))]
                  refine sm _ _ ?_
                  rw [o2 _ (fun z => na (by rw [z]; exact B.rx)), o1 _ (fun z => na (by rw [z]; exact B.rl))]
                  exact ea
              · intro b hb
                obtain ⟨m1, m2⟩ := mem_wo.mp hb
                rcases B.sub b m1 with m | m
                · rw [ey] at m
                  rcases List.mem_cons.mp m with z | z
                  · exact absurd z m2
                  · exact .inl z
                · exact m.elim
              · rw [ey, List.length_cons] at he
                omega
          · rw [if_neg (fun z => he (by omega))]
            refine ⟨o, B, rfl, hk, by omega, ?_, rfl, fun a ha => .inl ha, fun a ha => ha, Fr.refl _ _⟩
            unfold fl
            rw [if_neg hk, if_neg he]
        · rintro σ' H1 ⟨o1, x6, x7, B1, hx1, hk1, hl1, hs1, hq1, hR1, hR1', f1, rfl⟩
          walk_at "ev"
          rw [← hx1]
          simp only [Dr_dK B1.x]
          walk_at "ev"
          simp only [Dk_dK B1.x, okv_fetched_, okv_len]
          refine ⟨by omega, ?_⟩
          generalize hH2 : upd H1 o1.x _ = H2
          obtain ⟨i2, c2⟩ := chgf hH2
          have nlx1 : o1.l ≠ o1.x := fun z => by
            have := B1.l
            rw [z, B1.x] at this
            cases this
          have nfx1 : o1.fr ≠ o1.x := fun z => by
            have := B1.fr
            rw [z, B1.x] at this
            cases this
          have st := B1.step (H' := H2) (fr' := o1.fr) (L := o1.s.1) (F := o1.s.2.1) (f := o1.s.2.2.1 + 1) (p := o1.s.2.2.2) (E' := fun x => x = k) i2 (by rw [c2 _ nlx1]; exact B1.l) (by rw [c2 _ nfx1]; exact B1.fr) (.inl rfl) (fun a u n _ _ e => by rw [c2 _ n]; exact e) B1.nd B1.nF (fun b hb => (B1.sub b hb).imp id fun z => z.elim) B1.lw
          refine ⟨_, st, rfl, hk1, hl1, hs1, hq1, fun a ha => ?_, fun a ha => .inl (hR1' a ha), fun a u na ea => ?_⟩
          · rcases ha with ha | rfl
            · exact hR1 a ha
            · exact hR1 _ B1.rf
          · rw [c2 _ (fun z => ?_)]
            · exact f1 a u na ea
            · rcases hR1 _ B1.rx with y | y
              · exact na (by rw [z]; exact y)
              · rw [← z, ea] at y
                cases y
    · rintro σ' H1 ⟨o1, x6, x7, B1, hx1, hk1, hl1, hs1, hq1, hR1, hR1', f1, rfl⟩
      walk_at "ev"
      rw [← hx1]
      simp only [Dr_dK B1.x]
      walk_at "ev"
      simp only [Ls_lst B1.l]
      refine ⟨by rw [List.length_map]; omega, ?_⟩
      generalize hH2 : upd H1 o1.l _ = H2
      obtain ⟨i2, c2⟩ := chgf hH2
      have nlx1 : o1.l ≠ o1.x := fun z => by
        have := B1.l
        rw [z, B1.x] at this
        cases this
      have st := B1.step (H' := H2) (fr' := o1.fr) (L := o1.s.1 ++ [k]) (F := o1.s.2.1) (E' := nE) (by rw [c2 _ nlx1.symm]; exact B1.x) (by rw [i2, List.map_append]; rfl) (by rw [c2 _ B1.ne1.symm]; exact B1.fr) (.inl rfl) (fun a u _ n _ e => by rw [c2 _ n]; exact e) ?_ B1.nF ?_ ?_
      · refine q _ H2 st hx1 ?_ hq1 (fun a ha => ?_) (fun a ha => .inl (hR1' a ha)) (fun a u na ea => ?_)
        · unfold ask
          rw [← hs1]
        · rcases ha with ha | rfl
          · exact hR1 a ha
          · exact hR1 _ B1.rf
        · rw [c2 _ (fun z => ?_)]
          · exact f1 a u na ea
          · rcases hR1 _ B1.rl with y | y
            · exact na (by rw [z]; exact y)
            · rw [← z, ea] at y
              cases y
      · rw [List.nodup_append]
        exact ⟨B1.nd, by simp, fun a ha c hc => by
          rw [List.mem_singleton.mp hc]
          exact fun z => hk1 (by rw [← z]; exact ha)⟩
      · intro b hb
        rw [List.mem_append, List.mem_singleton]
        exact .inl (B1.sub b hb)
      · rw [List.length_append, List.length_singleton]
        omega
def spMzWritten : Sp := fun vs H Q _ => ∃ (o : Ow) (sz bl wi a : Nat) (v : V), vs = [.ref o.x, .int (a : Int), v] ∧ OwnAt nE sz bl wi o H ∧ a < sz ∧ sz ≤ 20000 ∧ 1 ≤ bl ∧ bl ≤ 64 ∧ 1 ≤ wi ∧ wi ≤ 64 ∧
  ∀ o' H', OwnAt nE sz bl wi o' H' → o'.x = o.x → o'.s = owrt wi o.s ((a : Int) / (bl : Int)) → o'.kq = o.kq.set a v → (∀ a, o'.R a → o.R a ∨ H a = none) → (∀ a, o.R a → o'.R a) → Fr o.R H H' → Q .non H'
theorem scMzWritten : FnScope ["store", "at", "worth", "block", "one"] ["store", "at", "worth"] (defScope sMzWritten) := ⟨rfl, rfl, rfl, by decide +kernel, rfl, by decide +kernel, by decide +kernel⟩
theorem ok__law_mz_written (F : Def1 K mg "_law_mz_written" sMzWritten) (T : Tb K mg C) (c_mz_asked : Kn P w K mg base "_law_mz_asked" ["store", "at"] 1 spMzAsked) : Kn P w K mg base "_law_mz_written" ["store", "at", "worth"] 2 spMzWritten := by
  refine kn_of F scMzWritten (fun vs H Q E h => ?_) (fun _ _ _ _ _ _ us hl => match us, hl with | [_, _, _], _ => rfl) (fun f cdv A outer s H vs Q E hr h => ?_)
  · obtain ⟨o, sz, bl, wi, a, v, rfl, _⟩ := h
    rfl
  · obtain ⟨o, sz, bl, wi, a, v, rfl, B, ha, hsz, hb1, hb2, hw1, hw2, q⟩ := h
    refine ⟨_, (pss_cons (ps_expr (pe_kn c_mz_asked (hr.mono (by decide)) (by rfl) (pa_cons (pv 0) (pa_cons (pv 1) pa_nil))))
      (pss_cons (ps_set (i := 3) scMzWritten.nd rfl (Or.inr rfl) (pe_op op_fdivW (pv 1) (pe_ix ix_f (pe_dgetF (hu_of hr) (pv 0) pe_str (fun _ _ => rfl)) pe_int (fun _ _ => rfl))))
      (pss_cons (ps_dputF (hu_of hr) (pv 0) pe_str (pe_op op_catF (pe_lc (own := [("one", 4)]) (by rfl) scMzWritten.nd (pi_listF (pe_dgetF (hu_of hr) (pv 0) pe_str (fun _ _ => rfl))) (blkOk_by (N := ["store", "at", "worth", "block", "one"]) (sc := defScope sMzWritten) (by decide +kernel)) (fun _ _ _ _ _ => (pg_name (i := 4) scMzWritten.nd rfl (Or.inl rfl))) (fun _ _ _ _ _ => (pts_one (pt_cmpR op_ne (pv 4) (pv 3) (nomark _)))) (fun _ _ _ _ _ => (pv 4))) (pe_lstN (pa_cons (pv 3) pa_nil))) rfl)
      (pss_one (ps_asg (pv 2) (pg_sub (pe_dgetF (hu_of hr) (pv 0) pe_str (fun _ _ => rfl)) (pv 1) set_f)))))), ?_⟩
    have big : (10000000 : Nat) < sizeLine := by decide
    walk_at "ev"
    refine ⟨o, sz, bl, wi, a, rfl, B, ha, hsz, hb1, hb2, hw1, hw2, fun o1 H1 B1 hx1 hs1 hq1 hR1 hR1' f1 => ?_⟩
    rw [← hx1]
    simp only [Dr_dK B1.x]
    walk_at "ev"
    simp only [Sq_tup B1.tz]
    walk_at "ev"
    refine ⟨⟨by omega, Nat.lt_of_lt_of_le (PySem.Flt.log2_lt_of (k := 30) (by decide) (by omega)) (by decide)⟩, ?_⟩
    generalize (a : Int) / (bl : Int) = k at *
    have lF : o1.s.2.1.length ≤ wi := by
      have h1 := B1.nF.length_le_of_subset (l₂ := o1.s.1) fun b hb => (B1.sub b hb).elim id fun z => z.elim
      have h2 := B1.lw
      omega
    simp only [Ls_lst B1.fr]
    refine lcp_list (xs := o1.s.2.1.map V.int) (fun D i H' => Same H1 H' ∧ H' D = some (.lst ((wo (o1.s.2.1.take i) k).map V.int))) ?_ ?_ ?_ ?_
    · exact fun D hD => ⟨(newf hD rfl).1, upd_same⟩
    · exact fun D i H' _ ⟨sm, _⟩ => sm _ _ B1.fr
    · rintro D i x H' hD hx ⟨sm, e⟩
      have hi : i < o1.s.2.1.length := by
        have := (List.getElem?_eq_some_iff.mp hx).1
        rw [List.length_map] at this
        exact this
      have exi : x = .int o1.s.2.1[i] := by
        rw [List.getElem?_map, List.getElem?_eq_getElem hi] at hx
        exact (Option.some.inj hx).symm
      subst exi
      walk_at "ev"
      rw [wo_take hi]
      by_cases eq : o1.s.2.1[i] = k
      · rw [if_neg (by simpa using eq), if_pos eq, List.append_nil]
        exact ⟨sm, e⟩
      · rw [if_pos (by simpa using eq), if_neg eq]
        refine ⟨_, e, ?_, same_chg sm fun b u h => ne_of_none h hD, ?_⟩
        · rw [List.length_map]
          have h1 := wo_len (o1.s.2.1.take i) k
          rw [List.length_take] at h1
          omega
        · rw [upd_same, List.map_append]
          rfl
    · rintro D H3 hD ⟨sm, e⟩
      rw [List.length_map, List.take_length] at e
      refine ⟨by decide, Nw.intro fun u4 H4 c4 => ?_⟩
      simp only [Ls_lst (c4.same _ _ e), Ls_lst c4.it]
      have h1 := wo_len o1.s.2.1 k
      refine ⟨by rw [List.length_map, List.length_singleton]; omega, Nw.intro fun fr H5 c5 => ?_⟩
      have s5 : Same H1 H5 := sm.trans (c4.same.trans c5.same)
      have hfr0 : H1 fr = none := (sm.trans c4.same).free c5.new
      simp only [Dk_dK (s5 _ _ B1.x), okv_fresh_, okv_len]
      refine ⟨by omega, ?_⟩
      generalize hH6 : upd H5 o1.x _ = H6
      obtain ⟨i6, o6⟩ := chgf hH6
      have nfx : fr ≠ o1.x := fun z => by
        rw [z, B1.x] at hfr0
        cases hfr0
      have nlx : o1.l ≠ o1.x := fun z => by
        have := B1.l
        rw [z, B1.x] at this
        cases this
      have nkx : o1.kp ≠ o1.x := fun z => by
        have := B1.kp
        rw [z, B1.x] at this
        cases this
      have mk : k ∈ o1.s.1 := by rw [hs1]; exact ask_mem wi o.s k
      have st := B1.step (H' := H6) (fr' := fr) (L := o1.s.1) (F := wo o1.s.2.1 k ++ [k]) (f := o1.s.2.2.1) (p := o1.s.2.2.2) (E' := nE) i6 (by rw [o6 _ nlx]; exact s5 _ _ B1.l) (by rw [o6 _ nfx, c5.it, List.map_append]; rfl) (.inr hfr0) (fun a u n1 _ _ eu => by rw [o6 _ n1]; exact s5 _ _ eu) B1.nd ?_ ?_ B1.lw
      · simp only [Dr_dK i6]
        walk_at "ev"
        have ek6 : H6 o1.kp = some (.lst o1.kq) := by rw [o6 _ nkx]; exact s5 _ _ B1.kp
        simp only [Ls_lst ek6]
        rw [ixN_nat (by rw [B1.kl]; exact ha)]
        simp only [Op_some]
        generalize hH7 : upd H6 o1.kp _ = H7
        obtain ⟨i7, o7⟩ := chgf hH7
        have sc := st.cell (H' := H7) (a := a) (v := v) i7 o7
        refine q _ H7 sc hx1 ?_ (by rw [hq1]) (fun c hc => ?_) (fun c hc => .inl (hR1' c hc)) (fun c u nc ec => ?_)
        · show (o1.s.1, wo o1.s.2.1 k ++ [k], o1.s.2.2.1, o1.s.2.2.2) = _
          rw [hs1]
          rfl
        · rcases hc with hc | rfl
          · exact hR1 c hc
          · refine .inr ?_
            cases z : H c with
            | none => rfl
            | some u =>
              by_cases ro : o.R c
              · obtain ⟨u2, e2, _⟩ := B1.rg c (hR1' c ro)
                rw [hfr0] at e2
                cases e2
              · rw [f1 c u ro z] at hfr0
                cases hfr0
        · have old : ∀ z, o1.R z → c ≠ z := fun z rz hz => by
            rcases hR1 z rz with y | y
            · exact nc (by rw [hz]; exact y)
            · rw [hz] at ec
              rw [ec] at y
              cases y
          rw [o7 c (old _ B1.rk), o6 c (old _ B1.rx)]
          exact s5 _ _ (f1 c u nc ec)
      · rw [List.nodup_append]
        exact ⟨wo_nd B1.nF k, by simp, fun a ha c hc => by
          rw [List.mem_singleton.mp hc]
          exact (mem_wo.mp ha).2⟩
      · intro b hb
        rcases List.mem_append.mp hb with m | m
        · exact B1.sub b (mem_wo.mp m).1
        · exact .inl (by rw [List.mem_singleton.mp m]; exact mk)
/-- what a store shows of itself -/
def ShownAt (H : Hp) (p : Addr) (L ns : List Int) (f q : Int) (sz bl wi : Nat) (kp : List V) : Prop := ∃ a b c d e, H p = some (.lst [.ref a, .ref b, .ref c, .ref d, .ref e, .int (L.length : Nat)]) ∧ H a = some (.lst (L.map V.int)) ∧ H b = some (.lst (ns.map V.int)) ∧
  H c = some (.tup [.int f, .int q]) ∧ H d = some (.tup [.int sz, .int bl, .int wi]) ∧ H e = some (.lst kp)
/-- its lists and tuples are new, or tuples that stood -/
def NewAt (H H' : Hp) (p : Addr) : Prop := ∃ xs, H' p = some (.lst xs) ∧ ∀ a, V.ref a ∈ xs → H a = none ∨ ∃ us, H a = some (.tup us)
def spMzShown : Sp := fun vs H Q _ => ∃ (o : Ow) (sz bl wi : Nat), vs = [.ref o.x] ∧ OwnAt nE sz bl wi o H ∧
  ∀ p ns H', Same H H' → List.Perm ns o.s.2.1 → ns.Pairwise (· ≤ ·) → ShownAt H' p o.s.1 ns o.s.2.2.1 o.s.2.2.2 sz bl wi o.kq → NewAt H H' p → Q (.ref p) H'
theorem scMzShown : FnScope ["store", "made"] ["store"] (defScope sMzShown) := ⟨rfl, rfl, rfl, by decide +kernel, rfl, by decide +kernel, by decide +kernel⟩
theorem ok__law_mz_store_shown (F : Def1 K mg "_law_mz_store_shown" sMzShown) (T : Tb K mg C) : Kn P w K mg base "_law_mz_store_shown" ["store"] 1 spMzShown := by
  refine kn_of F scMzShown (fun vs H Q E h => ?_) (fun _ _ _ _ _ _ us hl => match us, hl with | [_], _ => rfl) (fun f cdv A outer s H vs Q E hr h => ?_)
  · obtain ⟨o, sz, bl, wi, rfl, _⟩ := h
    rfl
  · obtain ⟨o, sz, bl, wi, rfl, B, q⟩ := h
    refine ⟨_, (pss_cons (ps_set (i := 1) scMzShown.nd rfl (Or.inl rfl) (pe_lstN (pa_cons (pe_callTy call_listF (by rfl) T.list (by decide +kernel) (pa_cons (pe_dgetF (hu_of hr) (pv 0) pe_str (fun _ _ => rfl)) pa_nil)) (pa_cons (pe_callB cr_sortF (by rfl) T.sorted (by decide +kernel) (pa_cons (pe_dgetF (hu_of hr) (pv 0) pe_str (fun _ _ => rfl)) pa_nil)) (pa_cons (pe_tupN (pa_cons (pe_dgetF (hu_of hr) (pv 0) pe_str (fun _ _ => rfl)) (pa_cons (pe_dgetF (hu_of hr) (pv 0) pe_str (fun _ _ => rfl)) pa_nil))) (pa_cons (pe_dgetF (hu_of hr) (pv 0) pe_str (fun _ _ => rfl)) pa_nil))))))
      (pss_one (ps_ret (pe_op op_catF (pv 1) (pe_lstN (pa_cons (pe_callTy call_listF (by rfl) T.list (by decide +kernel) (pa_cons (pe_dgetF (hu_of hr) (pv 0) pe_str (fun _ _ => rfl)) pa_nil)) (pa_cons (pe_callB call_lenF (by rfl) T.len (by decide +kernel) (pa_cons (pe_dgetF (hu_of hr) (pv 0) pe_str (fun _ _ => rfl)) pa_nil)) pa_nil))))))), ?_⟩
    walk_at "ev"
    simp only [Dr_dK B.x]
    walk_at "ev"
    simp only [Sq_lst B.l]
    refine Nw.intro fun a H1 c1 => ?_
    simp only [Dr_dK (c1.same _ _ B.x)]
    walk_at "ev"
    simp only [Ls_lst (c1.same _ _ B.fr)]
    refine ⟨o.s.2.1, rfl, fun ns h1 h2 => Nw.intro fun b H2 c2 => ?_⟩
    have s2 := c1.same.trans c2.same
    simp only [Dr_dK (s2 _ _ B.x)]
    walk_at "ev"
    refine ⟨by decide, Nw.intro fun c H3 c3 => ?_⟩
    have s3 := s2.trans c3.same
    simp only [Dr_dK (s3 _ _ B.x)]
    walk_at "ev"
    refine ⟨by decide, Nw.intro fun p4 H4 c4 => ?_⟩
    have s4 := s3.trans c4.same
    simp only [Dr_dK (s4 _ _ B.x)]
    walk_at "ev"
    simp only [Sq_lst (s4 _ _ B.kp)]
    refine Nw.intro fun e H5 c5 => ?_
    have s5 := s4.trans c5.same
    simp only [Dr_dK (s5 _ _ B.x)]
    walk_at "ev"
    simp only [Sq_lst (s5 _ _ B.l), List.length_map]
    refine ⟨by decide, Nw.intro fun p6 H6 c6 => ?_⟩
    simp only [Ls_lst (c6.same _ _ (c5.same _ _ c4.it)), Ls_lst c6.it]
    refine ⟨by show 6 ≤ sizeLine; decide, Nw.intro fun p7 H7 c7 => ?_⟩
    have t3 := c4.same.trans (c5.same.trans (c6.same.trans c7.same))
    have t2 := c3.same.trans t3
    have t1 := c2.same.trans t2
    exact q p7 ns H7 (c1.same.trans t1) h1 h2 ⟨a, b, c, o.tz, e, c7.it, t1 _ _ c1.it, t2 _ _ c2.it, t3 _ _ c3.it, (c1.same.trans t1) _ _ B.tz, c7.same _ _ (c6.same _ _ c5.it)⟩ ⟨_, c7.it, fun a' ha => by
      simp only [List.cons_append, List.nil_append, List.mem_cons, V.ref.injEq, reduceCtorEq, List.not_mem_nil, or_false] at ha
      rcases ha with rfl | rfl | rfl | rfl | rfl
      · exact .inl c1.new
      · exact .inl (c1.same.free c2.new)
      · exact .inl (s2.free c3.new)
      · exact .inr ⟨_, B.tz⟩
      · exact .inl (s4.free c5.new)⟩
end
end K32
namespace K32
open PySem PySem.Spec PyProof.Rows L2 Lw
/-! ### worths as data -/
theorem wt_dq {H : Hp} {v : V} (h : Wt H v) : ∃ d, Dq H v d ∧ okd 1 d = true := by
  rcases h with rfl | ⟨b, rfl⟩ | ⟨t, a, b, rfl, ht, _⟩
  · exact ⟨_, .non, rfl⟩
  · exact ⟨_, .bl b, rfl⟩
  · exact ⟨_, .tup ht (.cons (.int a) (.cons (.int b) .nil)), rfl⟩
theorem wts_dq {H : Hp} : ∀ {vs : List V}, (∀ v ∈ vs, Wt H v) → ∃ ds, DqAll H vs ds ∧ ds.all (okd 1) = true ∧ ds.length = vs.length
  | [], _ => ⟨[], .nil, rfl, rfl⟩
  | v :: vs, h => by
    obtain ⟨d, h1, h2⟩ := wt_dq (h v (List.mem_cons_self ..))
    obtain ⟨ds, h3, h4, h5⟩ := wts_dq fun u hu => h u (List.mem_cons_of_mem _ hu)
    exact ⟨d :: ds, .cons h1 h3, by rw [List.all_cons, h2, h4]; rfl, by rw [List.length_cons, List.length_cons, h5]⟩
/-- the same worth on both sides -/
def Wq (H : Hp) (x y : V) : Prop := (x = .non ∧ y = .non) ∨ (∃ b, x = .bl b ∧ y = .bl b) ∨ ∃ t u a b, x = .ref t ∧ y = .ref u ∧ H t = some (.tup [.int a, .int b]) ∧ H u = some (.tup [.int a, .int b])
theorem Wq.map {H H' : Hp} {x y : V} (h : Wq H x y) (k : ∀ t xs, H t = some (.tup xs) → H' t = some (.tup xs)) : Wq H' x y := by
  rcases h with h | h | ⟨t, u, a, b, e1, e2, h1, h2⟩
  · exact .inl h
  · exact .inr (.inl h)
  · exact .inr (.inr ⟨t, u, a, b, e1, e2, k _ _ h1, k _ _ h2⟩)
theorem wq_dq {H : Hp} {x y : V} (h : Wq H x y) : ∃ d, Dq H x d ∧ Dq H y d ∧ okd 1 d = true := by
  rcases h with ⟨rfl, rfl⟩ | ⟨b, rfl, rfl⟩ | ⟨t, u, a, b, rfl, rfl, h1, h2⟩
  · exact ⟨_, .non, .non, rfl⟩
  · exact ⟨_, .bl b, .bl b, rfl⟩
  · exact ⟨_, .tup h1 (.cons (.int a) (.cons (.int b) .nil)), .tup h2 (.cons (.int a) (.cons (.int b) .nil)), rfl⟩
def Kq (H : Hp) (xs ys : List V) : Prop := xs.length = ys.length ∧ ∀ (i : Nat) (x y : V), xs[i]? = some x → ys[i]? = some y → Wq H x y
theorem Kq.map {H H' : Hp} {xs ys : List V} (h : Kq H xs ys) (k : ∀ t us, H t = some (.tup us) → H' t = some (.tup us)) : Kq H' xs ys := ⟨h.1, fun i x y e1 e2 => (h.2 i x y e1 e2).map k⟩
theorem Kq.set {H : Hp} {xs ys : List V} (h : Kq H xs ys) (a : Nat) {x y : V} (w : Wq H x y) : Kq H (xs.set a x) (ys.set a y) := by
  refine ⟨by rw [List.length_set, List.length_set]; exact h.1, fun i u v e1 e2 => ?_⟩
  rw [List.getElem?_set] at e1 e2
  by_cases c : a = i
  · rw [if_pos c] at e1 e2
    split at e1
    · split at e2
      · cases e1
        cases e2
        exact w
      · cases e2
    · cases e1
  · rw [if_neg c] at e1 e2
    exact h.2 i u v e1 e2
theorem Kq.rep {H : Hp} (n : Nat) : Kq H (List.replicate n .non) (List.replicate n .non) := ⟨rfl, fun i x y e1 e2 => .inl ⟨List.eq_of_mem_replicate (List.mem_of_getElem? e1), List.eq_of_mem_replicate (List.mem_of_getElem? e2)⟩⟩
theorem Kq.tail {H : Hp} {x y : V} {xs ys : List V} (h : Kq H (x :: xs) (y :: ys)) : Wq H x y ∧ Kq H xs ys := ⟨h.2 0 x y rfl rfl, by have := h.1; simpa using this, fun i u v e1 e2 => h.2 (i + 1) u v e1 e2⟩
theorem kq_dq {H : Hp} : ∀ {xs ys : List V}, Kq H xs ys → ∃ ds, DqAll H xs ds ∧ DqAll H ys ds ∧ ds.all (okd 1) = true ∧ ds.length = xs.length
  | [], [], _ => ⟨[], .nil, .nil, rfl, rfl⟩
  | [], _ :: _, h => by cases h.1
  | _ :: _, [], h => by cases h.1
  | x :: xs, y :: ys, h => by
    obtain ⟨w, t⟩ := h.tail
    obtain ⟨d, h1, h2, h3⟩ := wq_dq w
    obtain ⟨ds, g1, g2, g3, g4⟩ := kq_dq t
    exact ⟨d :: ds, .cons h1 g1, .cons h2 g2, by rw [List.all_cons, h3, g3]; rfl, by rw [List.length_cons, List.length_cons, g4]⟩
theorem ints_dq (H : Hp) : ∀ ns : List Int, DqAll H (ns.map V.int) (ns.map PyData.int)
  | [] => .nil
  | n :: ns => .cons (.int n) (ints_dq H ns)
theorem ints_ok (k : Nat) (ns : List Int) : (ns.map PyData.int).all (okd k) = true := by
  rw [List.all_eq_true]
  intro d hd
  obtain ⟨n, _, rfl⟩ := List.mem_map.mp hd
  cases k <;> rfl
theorem okl {n : Nat} {ds : List PyData} (h1 : ds.length ≤ 1000000) (h2 : ds.all (okd n) = true) : okd (n + 1) (.list ds) = true := by
  unfold okd
  rw [decide_eq_true h1, h2]
  rfl
theorem okt {n : Nat} {ds : List PyData} (h1 : ds.length ≤ 1000000) (h2 : ds.all (okd n) = true) : okd (n + 1) (.tuple ds) = true := by
  unfold okd
  rw [decide_eq_true h1, h2]
  rfl
theorem shown_same {H : Hp} {p1 p2 : Addr} {L ns : List Int} {f q : Int} {sz bl wi : Nat} {kp kp2 : List V} (s1 : ShownAt H p1 L ns f q sz bl wi kp) (s2 : ShownAt H p2 L ns f q sz bl wi kp2) (w : Kq H kp kp2) (h1 : L.length ≤ 1000) (h2 : ns.length ≤ 1000) (h3 : kp.length ≤ 20000) {Q : VK} {E : XK} (hq : Q (.bl true) H) :
    spSame 4 [.ref p1, .ref p2] H Q E := by
  obtain ⟨ds, d1, d1b, d2, d3⟩ := kq_dq w
  have key : ∀ {p kp}, ShownAt H p L ns f q sz bl wi kp → DqAll H kp ds → Dq H (.ref p) (.list [.list (L.map PyData.int), .list (ns.map PyData.int), .tuple [.int f, .int q], .tuple [.int sz, .int bl, .int wi], .list ds, .int (L.length : Nat)]) := fun ⟨a, b, c, d, e, e0, e1, e2, e3, e4, e5⟩ d1 =>
    .lst e0 (.cons (.lst e1 (ints_dq H L)) (.cons (.lst e2 (ints_dq H ns)) (.cons (.tup e3 (.cons (.int _) (.cons (.int _) .nil))) (.cons (.tup e4 (.cons (.int _) (.cons (.int _) (.cons (.int _) .nil)))) (.cons (.lst e5 d1) (.cons (.int _) .nil))))))
  refine ⟨_, _, _, rfl, key s1 d1, key s2 d1b, ?_, hq⟩
  refine okl (by show 6 ≤ 1000000; decide) ?_
  rw [List.all_cons, List.all_cons, List.all_cons, List.all_cons, List.all_cons, okl (by rw [List.length_map]; omega) (ints_ok 1 L), okl (by rw [List.length_map]; omega) (ints_ok 1 ns)]
  rw [show okd 2 (.list ds) = true from okl (by omega) d2]
  rfl
/-! ### both stores and the jar -/
structure Wd (C : Addr) (sz bl wi : Nat) (j : Addr) (g : G) (o : Ow) (H : Hp) : Prop where
  B : BlAt C sz bl wi g (· ∈ g.s.2.1) H
  O : OwnAt nE sz bl wi o H
  J : JarAt H j
  l : g.s.1 = o.s.1
  pm : g.s.2.1.Perm o.s.2.1
  f : g.s.2.2 = o.s.2.2
  kq : Kq H g.kp o.kq
  d1 : ∀ a, g.R a → ¬ o.R a
  d2 : ¬ g.R j
  d3 : ¬ o.R j
theorem Num2.fr {R : Addr → Prop} {H H' : Hp} {v : V} (h : Num2 H v) (f : Fr R H H') (g : Rg R H) : Num2 H' v := by
  obtain ⟨t, a, b, e, ht, r⟩ := h
  exact ⟨t, a, b, e, f.tup g ht, r⟩
theorem Wt.fr {R : Addr → Prop} {H H' : Hp} {v : V} (h : Wt H v) (f : Fr R H H') (g : Rg R H) : Wt H' v := h.imp id fun h => h.imp id fun h => h.fr f g
theorem Wt.same {H H' : Hp} {v : V} (h : Wt H v) (s : Same H H') : Wt H' v := h.imp id fun h => h.imp id fun h => h.same s
theorem JarAt.fr {R : Addr → Prop} {H H' : Hp} {j : Addr} (h : JarAt H j) (f : Fr R H H') (n : ¬ R j) : JarAt H' j := by
  obtain ⟨d, s, c, e, hb⟩ := h
  exact ⟨d, s, c, f _ _ n e, hb⟩
theorem JarAt.same {H H' : Hp} {j : Addr} (h : JarAt H j) (s : Same H H') : JarAt H' j := by
  obtain ⟨d, t, c, e, hb⟩ := h
  exact ⟨d, t, c, s _ _ e, hb⟩
theorem JarAt.rg {H : Hp} {j : Addr} (h : JarAt H j) : Rg (· = j) H := fun a ha => by
  obtain ⟨d, t, c, e, hb⟩ := h
  exact ⟨.lst _, by rw [ha]; exact e, trivial⟩
theorem JarTo.fr {j : Addr} {H H' : Hp} (t : JarTo j H H') : Fr (· = j) H H' ∧ JarAt H' j := by
  obtain ⟨d, s, c, rfl, hb⟩ := t
  exact ⟨fun a o n e => by rw [upd_ne n]; exact e, d, s, c, upd_same, hb⟩
section
variable {C : Addr} {sz bl wi : Nat} {j : Addr} {g : G} {o : Ow} {H H1 H2 : Hp}
theorem Wd.same (W : Wd C sz bl wi j g o H) (s : Same H H1) : Wd C sz bl wi j g o H1 := { W with B := W.B.same s, O := W.O.same s, J := W.J.same s, kq := W.kq.map fun t us e => s _ _ e }
theorem Wd.jar (W : Wd C sz bl wi j g o H) (t : JarTo j H H1) : Wd C sz bl wi j g o H1 := by
  obtain ⟨f, J1⟩ := t.fr
  exact { W with B := W.B.fr f fun a ha z => W.d2 (by rw [← z]; exact ha), O := W.O.fr_ f W.J.rg fun a ha z => W.d3 (by rw [← z]; exact ha), J := J1, kq := W.kq.map fun t us e => f.tup W.J.rg e }
/-- the own store does a deed, then the store -/
theorem Wd.step (W : Wd C sz bl wi j g o H) {o1 : Ow} {g2 : G} (O1 : OwnAt nE sz bl wi o1 H1) (r1 : ∀ a, o1.R a → o.R a ∨ H a = none) (r1' : ∀ a, o.R a → o1.R a) (f1 : Fr o.R H H1) (B2 : BlAt C sz bl wi g2 (· ∈ g2.s.2.1) H2) (r2 : ∀ a, g2.R a → g.R a ∨ H1 a = none) (r2' : ∀ a, g.R a → g2.R a) (f2 : Fr g.R H1 H2)
    (hl : g2.s.1 = o1.s.1) (hp : g2.s.2.1.Perm o1.s.2.1) (hf : g2.s.2.2 = o1.s.2.2) (hk : Kq H2 g2.kp o1.kq) : Wd C sz bl wi j g2 o1 H2 := by
  have rg1 : Rg g.R H1 := (W.B.fr f1 W.d1).rg
  have d1' : ∀ a, o1.R a → ¬ g.R a := fun a ha hg => by
    rcases r1 a ha with y | y
    · exact W.d1 a hg y
    · obtain ⟨u, e, _⟩ := W.B.rg a hg
      rw [y] at e
      cases e
  have J1 := W.J.fr f1 W.d3
  refine { B := B2, O := O1.fr_ f2 rg1 d1', J := J1.fr f2 W.d2, l := hl, pm := hp, f := hf, kq := hk, d1 := fun a ha ho => ?_, d2 := fun z => ?_, d3 := fun z => ?_ }
  · rcases r2 a ha with y | y
    · exact d1' a ho y
    · obtain ⟨u, e, _⟩ := O1.rg a ho
      rw [y] at e
      cases e
  · obtain ⟨d, s, c, e, _⟩ := J1
    rcases r2 j z with y | y
    · exact W.d2 y
    · rw [y] at e
      cases e
  · obtain ⟨d, s, c, e, _⟩ := W.J
    rcases r1 j z with y | y
    · exact W.d3 y
    · rw [y] at e
      cases e
end
/-! ### the same deeds on both sides -/
theorem wo_perm {T F : List Int} (h : T.Perm F) (k : Int) : (wo T k).Perm (wo F k) := h.filter _
theorem ask_rel {m : Nat} {s t : Fst} (hl : s.1 = t.1) (hp : s.2.1.Perm t.2.1) (hf : s.2.2 = t.2.2) (k : Int) : (ask m s k).1 = (ask m t k).1 ∧ (ask m s k).2.1.Perm (ask m t k).2.1 ∧ (ask m s k).2.2 = (ask m t k).2.2 := by
  obtain ⟨L, T, f, p⟩ := s
  obtain ⟨L', F, f', p'⟩ := t
  have hl : L = L' := hl
  have hp : T.Perm F := hp
  have hf : (f, p) = (f', p') := hf
  subst hl
  cases hf
  unfold ask fl away
  dsimp only
  split
  · exact ⟨rfl, hp, rfl⟩
  · split
    · have : (if L.headD 0 ∈ T then (1 : Int) else 0) = if L.headD 0 ∈ F then 1 else 0 := by
        by_cases h : L.headD 0 ∈ T
        · rw [if_pos h, if_pos (hp.mem_iff.mp h)]
        · rw [if_neg h, if_neg fun z => h (hp.mem_iff.mpr z)]
      rw [this]
      exact ⟨rfl, wo_perm hp _, rfl⟩
    · exact ⟨rfl, hp, rfl⟩
theorem wrt_rel {m : Nat} {s t : Fst} (hl : s.1 = t.1) (hp : s.2.1.Perm t.2.1) (hf : s.2.2 = t.2.2) (k : Int) (nd : (ask m s k).2.1.Nodup) : (wrt m s k).1 = (owrt m t k).1 ∧ (wrt m s k).2.1.Perm (owrt m t k).2.1 ∧ (wrt m s k).2.2 = (owrt m t k).2.2 := by
  obtain ⟨h1, h2, h3⟩ := ask_rel (m := m) hl hp hf k
  refine ⟨h1, ?_, h3⟩
  show (addT (ask m s k).2.1 k).Perm (wo (ask m t k).2.1 k ++ [k])
  have nF : (ask m t k).2.1.Nodup := h2.nodup_iff.mp nd
  unfold addT
  by_cases hk : k ∈ (ask m s k).2.1
  · rw [if_pos hk]
    refine h2.trans ?_
    have hk2 := h2.mem_iff.mp hk
    refine (List.perm_cons_erase hk2).trans ?_
    rw [wo_erase nF]
    exact (List.perm_append_singleton k _).symm
  · rw [if_neg hk]
    rw [wo_not fun z => hk (h2.mem_iff.mpr z)]
    exact h2.append_right _
theorem sorted_eq {a b T F : List Int} (h : T.Perm F) (pa : a.Perm T) (pb : b.Perm F) (sa : a.Pairwise (· ≤ ·)) (sb : b.Pairwise (· ≤ ·)) : a = b :=
  List.Perm.eq_of_pairwise (fun x y _ _ h1 h2 => Int.le_antisymm h1 h2) sa sb (pa.trans (h.trans pb.symm))
local macro_rules | `(tactic| walk_at "ev") => `(tactic| simp only [cxOf, tDispF, tPairs, Kvs, okv_sizes, okv_line, okv_fresh, okv_kept, okv_fetched, okv_put, okv_fresh_, okv_line_, okv_fetched_, okv_put_, tNoS, tFldF, sFldF, sFldAugF, tMethF, Ix_upd, lk_eq, lk_ne, lk_nil, putF_nil, putF_eq, putF_ne, Str_lit, String.reduceEq, fsB, rListK, rDictD, rRevF, rLenD, rAllF, rSortF, rSortK, rLenI, tChain, Int.reduceMul, tPar3, tCallN, iKeysF, tLockE, tDisp1F, mergeK_one, tYes, iRng3, ex_ints, ex_any, tML, tML0, tMD, tTupN, tLstN, tDNewN, rSlL2, rCatF, rRepF, tRevF, rListF, rMaxF, tDGetF, tDGet1F, tDGet2F, tDPop1F, tDPop2F, sDPutF, tLenSetF, tSl, tPart, tNoPart, ipI, rIsiF, Tz_non, Tz_bl, Tz_int, Tz_str, Cl7_int, Cl7_bool, Cl7_str, Cl7_list, Cl7_tuple, Cl7_dict, T7.isa, iListF, iTupF, cpow12, cpow60, tFor_eq, tLc_eq, iRng1, iRng2, wipe, Cx.nox, Cx.wish, tSeq, tIfS, tTest, tOp, tVar, tC, tRet, tRetN, tCB, tCons, tNil, tB, tNot, tAnd, tOr, tAndV, tOrV, tNotV, tIf, rEq, rNe, scal_ii, scal_bb, scal_ss, scal_nn, scal_si, scal_is, scal_in, scal_ni, Bool.or_true, Bool.true_or, Bool.or_false, Bool.false_or, Bool.and_true, Bool.true_and, Bool.and_false, Bool.false_and, rI, rI0, rU, tUn, t2I, tAsg, gName, tPar, tDrop, tLst, tTup, tCall, tNext, tBreak, tCont, tAug, rAdd, gTup, gTupF, gCons, gNil, gSub, rIxF, rLenF, rSetF, rAppF, rExtF, rPop0, rRemF, rInF, rDUpd, Nt_int, Op_some, Ky_int, Ky_str,
  List.map_cons, List.map_nil, List.cons_append, List.nil_append, List.append_nil, List.getElem?_cons_zero, List.getElem?_cons_succ, List.set_cons_zero, List.set_cons_succ, List.length_cons, List.length_nil, Option.some.injEq, exists_eq_left', exists_eq_left, exists_eq_right, V.int.injEq, V.ref.injEq, V.bl.injEq, V.str.injEq, V.ty.injEq, List.cons.injEq, and_true, true_and, and_assoc, reduceCtorEq, decide_eq_true_eq, decide_true, decide_false, if_true, if_false, ite_true, ite_false, Bool.false_eq_true, false_and, and_false, exists_false, exists_const, or_false, false_or, Bool.not_eq_true', decide_eq_false_iff_not, List.replicate_succ, List.replicate_zero, Nat.reduceSub, Nat.reduceAdd, Int.reducePow, Int.reduceNeg, exists_and_left, exists_and_right, atI_0, atI_1, atI_2, ixN_0, ixN_1, ixN_2, L2.start, upd_upd, Sq_upd, Sq_updT, Tp_upd, Ls_upd, Dk_upd, Int.reduceLT, Int.reduceLE, Nat.reduceLT, Nat.reduceLeDiff, forall_eq', forall_eq, id, Int.zero_add, Bool.not_true, Bool.not_false, not_true_eq_false, not_false_eq_true, ne_eq])
section
variable {P : Program} {w : World} {K : PySem.W.Frag} {mg : Str → Option Value} {base : Heap} {C : Addr}
def spSrShown (C : Addr) : Sp := fun vs H Q _ => ∃ (g : G) (sz bl wi : Nat), vs = [.ref g.x] ∧ BlAt C sz bl wi g (· ∈ g.s.2.1) H ∧ sz ≤ 20000 ∧ 1 ≤ bl ∧ bl ≤ 64 ∧ wi ≤ 64 ∧
  ∀ p ns H', Same H H' → List.Perm ns g.s.2.1 → ns.Pairwise (· ≤ ·) → ShownAt H' p g.s.1 ns g.s.2.2.1 g.s.2.2.2 sz bl wi g.kp → Q (.ref p) H'
theorem scSrShown : FnScope ["store"] ["store"] (defScope sSrShown) := ⟨rfl, rfl, rfl, by decide +kernel, rfl, by decide +kernel, by decide +kernel⟩
theorem ok__law_sr_shown (F : Def1 K mg "_law_sr_shown" sSrShown) (T : Tb K mg C) (m_within : KnM P w K mg base C "within" ["self"] 1 (spWithin C)) (m_written : KnM P w K mg base C "written" ["self"] 1 (spWritten C)) (m_counts : KnM P w K mg base C "counts" ["self"] 1 (spCounts C)) (m_sizes : KnM P w K mg base C "sizes" ["self"] 1 (spSizes C)) (m_worths : KnM P w K mg base C "worths" ["self"] 5 (spWorths C)) (m_len : KnM P w K mg base C "__len__" ["self"] 1 (spLen C)) : Kn P w K mg base "_law_sr_shown" ["store"] 6 (spSrShown C) := by
  refine kn_of F scSrShown (fun vs H Q E h => ?_) (fun _ _ _ _ _ _ us hl => match us, hl with | [_], _ => rfl) (fun f cdv A outer s H vs Q E hr h => ?_)
  · obtain ⟨g, sz, bl, wi, rfl, _⟩ := h
    rfl
  · obtain ⟨g, sz, bl, wi, rfl, B, hsz, hb1, hb2, hw, q⟩ := h
    obtain ⟨dx, ex⟩ := B.x
    refine ⟨_, (pss_one (ps_ret (pe_lstN (pa_cons (pe_km0 m_within T.cl (hr.mono (by decide)) (pv 0)) (pa_cons (pe_km0 m_written T.cl (hr.mono (by decide)) (pv 0)) (pa_cons (pe_km0 m_counts T.cl (hr.mono (by decide)) (pv 0)) (pa_cons (pe_km0 m_sizes T.cl (hr.mono (by decide)) (pv 0)) (pa_cons (pe_km0 m_worths T.cl (hr.mono (by decide)) (pv 0)) (pa_cons (pe_callB (call_lenI m_len (hr.mono (by decide))) (by rfl) T.len (by decide +kernel) (pa_cons (pv 0) pa_nil)) pa_nil))))))))), ?_⟩
    walk_at "ev"
    simp only [Ix_ins ex]
    walk_at "ev"
    refine ⟨g, sz, bl, wi, rfl, B, fun a H1 s1 n1 e1 => ?_⟩
    simp only [Ix_ins (s1 _ _ ex)]
    walk_at "ev"
    refine ⟨g, sz, bl, wi, rfl, B.same s1, fun ns b H2 s2 n2 h1 h2 e2 => ?_⟩
    have t2 := s1.trans s2
    simp only [Ix_ins (t2 _ _ ex)]
    walk_at "ev"
    refine ⟨g, sz, bl, wi, rfl, B.same t2, fun c H3 s3 e3 => ?_⟩
    have t3 := t2.trans s3
    simp only [Ix_ins (t3 _ _ ex)]
    walk_at "ev"
    refine ⟨g, sz, bl, wi, _, rfl, B.same t3, fun d H4 s4 e4 => ?_⟩
    have t4 := t3.trans s4
    simp only [Ix_ins (t4 _ _ ex)]
    walk_at "ev"
    refine ⟨g, sz, bl, wi, rfl, B.same t4, hsz, hb1, hb2, fun e H5 s5 n5 e5 => ?_⟩
    have t5 := t4.trans s5
    simp only [Ix_ins (t5 _ _ ex)]
    have lL := B.lw
    refine ⟨g, sz, bl, wi, rfl, B.same t5, ?_⟩
    walk_at "ev"
    refine ⟨by omega, by omega, by decide, Nw.intro fun p H6 c6 => ?_⟩
    have z6 := c6.same
    exact q p ns H6 (t5.trans z6) h1 h2 ⟨a, b, c, d, e, c6.it, z6 _ _ (s5 _ _ (s4 _ _ (s3 _ _ (s2 _ _ e1)))), z6 _ _ (s5 _ _ (s4 _ _ (s3 _ _ e2))), z6 _ _ (s5 _ _ (s4 _ _ e3)), z6 _ _ (s5 _ _ e4), z6 _ _ e5⟩
end
end K32
namespace K32
open PySem PySem.Spec PyProof.Rows L2 Lw LamX
local macro_rules | `(tactic| walk_at "ev") => `(tactic| simp only [cxOf, tKx, tMethX, tMkF, tMakeK, tMake, tDispF, tPairs, Kvs, okv_sizes, okv_line, okv_fresh, okv_kept, okv_fetched, okv_put, okv_fresh_, okv_line_, okv_fetched_, okv_put_, tNoS, tFldF, sFldF, sFldAugF, tMethF, Ix_upd, lk_eq, lk_ne, lk_nil, putF_nil, putF_eq, putF_ne, Str_lit, String.reduceEq, fsB, rListK, rDictD, rRevF, rLenD, rAllF, rSortF, rSortK, rLenI, tChain, Int.reduceMul, tPar3, tCallN, iKeysF, tLockE, tDisp1F, mergeK_one, tYes, iRng3, ex_ints, ex_any, tML, tML0, tMD, tTupN, tLstN, tDNewN, rSlL2, rCatF, rRepF, tRevF, rListF, rMaxF, tDGetF, tDGet1F, tDGet2F, tDPop1F, tDPop2F, sDPutF, tLenSetF, tSl, tPart, tNoPart, ipI, rIsiF, Tz_non, Tz_bl, Tz_int, Tz_str, Cl7_int, Cl7_bool, Cl7_str, Cl7_list, Cl7_tuple, Cl7_dict, T7.isa, iListF, iTupF, cpow12, cpow60, tFor_eq, tLc_eq, iRng1, iRng2, wipe, Cx.nox, Cx.wish, tSeq, tIfS, tTest, tOp, tVar, tC, tRet, tRetN, tCB, tCons, tNil, tB, tNot, tAnd, tOr, tAndV, tOrV, tNotV, tIf, rEq, rNe, scal_ii, scal_bb, scal_ss, scal_nn, scal_si, scal_is, scal_in, scal_ni, Bool.or_true, Bool.true_or, Bool.or_false, Bool.false_or, Bool.and_true, Bool.true_and, Bool.and_false, Bool.false_and, rI, rI0, rU, tUn, t2I, tAsg, gName, tPar, tDrop, tLst, tTup, tCall, tNext, tBreak, tCont, tAug, rAdd, gTup, gTupF, gCons, gNil, gSub, rIxF, rLenF, rSetF, rAppF, rExtF, rPop0, rRemF, rInF, rDUpd, Nt_int, Op_some, Ky_int, Ky_str,
  List.map_cons, List.map_nil, List.cons_append, List.nil_append, List.append_nil, List.getElem?_cons_zero, List.getElem?_cons_succ, List.set_cons_zero, List.set_cons_succ, List.length_cons, List.length_nil, Option.some.injEq, exists_eq_left', exists_eq_left, exists_eq_right, V.int.injEq, V.ref.injEq, V.bl.injEq, V.str.injEq, V.ty.injEq, List.cons.injEq, and_true, true_and, and_assoc, reduceCtorEq, decide_eq_true_eq, decide_true, decide_false, if_true, if_false, ite_true, ite_false, Bool.false_eq_true, false_and, and_false, exists_false, exists_const, or_false, false_or, Bool.not_eq_true', decide_eq_false_iff_not, List.replicate_succ, List.replicate_zero, Nat.reduceSub, Nat.reduceAdd, Int.reducePow, Int.reduceNeg, exists_and_left, exists_and_right, atI_0, atI_1, atI_2, ixN_0, ixN_1, ixN_2, L2.start, upd_upd, Sq_upd, Sq_updT, Tp_upd, Ls_upd, Dk_upd, Int.reduceLT, Int.reduceLE, Nat.reduceLT, Nat.reduceLeDiff, forall_eq', forall_eq, id, Int.zero_add, Bool.not_true, Bool.not_false, not_true_eq_false, not_false_eq_true, ne_eq])

/-! ### things of any kind -/
def isInt (v : V) (lo hi : Int) : Bool := match v with
  | .int a => decide (lo ≤ a ∧ a ≤ hi)
  | _ => false
/-- a thing whose type is known -/
def Any (H : Hp) (v : V) : Prop := (∃ a, v = .int a) ∨ ∃ t : T7, t ≠ .int ∧ ∀ k, Tz H v k = k t
theorem Any.int {H : Hp} (a : Int) : Any H (.int a) := .inl ⟨a, rfl⟩
theorem Any.non {H : Hp} : Any H .non := .inr ⟨.non, by decide, fun _ => rfl⟩
theorem Any.bl {H : Hp} (b : Bool) : Any H (.bl b) := .inr ⟨.bool, by decide, fun _ => rfl⟩
theorem Any.str {H : Hp} (x : Str) : Any H (.str x) := .inr ⟨.str, by decide, fun _ => rfl⟩
theorem Any.lst {H : Hp} {p : Addr} {xs : List V} (h : H p = some (.lst xs)) : Any H (.ref p) := .inr ⟨.list, by decide, fun _ => Tz_lst h⟩
theorem Any.tup {H : Hp} {p : Addr} {xs : List V} (h : H p = some (.tup xs)) : Any H (.ref p) := .inr ⟨.tuple, by decide, fun _ => Tz_tup h⟩
theorem Any.dK {H : Hp} {p : Addr} {kvs : List (Key × V)} (h : H p = some (.dK kvs)) : Any H (.ref p) := .inr ⟨.dict, by decide, fun _ => Tz_dK h⟩
theorem isInt_not {H : Hp} {v : V} {t : T7} (ht : t ≠ .int) (h : ∀ k, Tz H v k = k t) (lo hi : Int) : isInt v lo hi = false := by
  cases v with
  | int a =>
    have := h (fun t => t = .int)
    rw [Tz_int] at this
    exact absurd (this.mp rfl) ht
  | _ => rfl
section
variable {P : Program} {w : World} {K : PySem.W.Frag} {mg : Str → Option Value} {base : Heap} {C : Addr}
def spIsFromG : Sp := fun vs H Q _ => ∃ (v : V) (l h : Int), vs = [v, .int l, .int h] ∧ Any H v ∧ Q (.bl (isInt v l h)) H
theorem ok_is_fromG (F : Def1 K mg "is_from" sIsFrom) (T : Tb K mg C) (c_is_whole : Kn P w K mg base "is_whole" ["thing"] 1 spWhole) : Kn P w K mg base "is_from" ["thing", "low", "high"] 2 spIsFromG := by
  refine kn_of F scIsFrom (fun vs H Q E h => ?_) (fun _ _ _ _ _ _ us hl => match us, hl with | [_, _, _], _ => rfl) (fun f cdv A outer s H vs Q E hr h => ?_)
  · obtain ⟨a, l, h, rfl, _⟩ := h
    rfl
  · obtain ⟨v, l, h, rfl, hv, q⟩ := h
    refine ⟨_, (pss_one (ps_ret (pe_and (pe_kn c_is_whole (hr.mono (by decide)) (by rfl) (pa_cons (pv 0) pa_nil)) (pe_one (pe_chain op_le op_le (pv 1) (pv 0) (pv 2)))))), ?_⟩
    rcases hv with ⟨a, rfl⟩ | ⟨t, ht, hk⟩
    · walk_at "ev"
      simp only [spWhole, Tz_int, decide_true]
      refine ⟨true, rfl, ?_⟩
      rw [if_pos rfl]
      have q : Q (.bl (decide (l ≤ a ∧ a ≤ h))) H := q
      by_cases h1 : l ≤ a
      · rw [if_pos h1]
        rw [show decide (l ≤ a ∧ a ≤ h) = decide (a ≤ h) from decide_eq_decide.mpr ⟨fun z => z.2, fun z => ⟨h1, z⟩⟩] at q
        exact q
      · rw [if_neg h1]
        rw [decide_eq_false (show ¬ (l ≤ a ∧ a ≤ h) from fun z => h1 z.1)] at q
        exact q
    · walk_at "ev"
      simp only [spWhole, hk, decide_eq_false ht]
      refine ⟨false, rfl, ?_⟩
      rw [isInt_not ht hk] at q
      rw [if_neg (by decide)]
      exact q
/-- is it a number -/
def numV (H : Hp) (v : V) : Bool := match v with
  | .ref p => (match H p with
    | some (.tup [.int a, .int b]) => decide (1 ≤ b ∧ Int.gcd a b = 1)
    | _ => false)
  | _ => false
def isI : V → Bool
  | .int _ => true
  | _ => false
def flatI (x : V) : Prop := (∃ i, x = .int i) ∨ ∃ b, x = .bl b
/-- a thing whose type is known, not larger than three where it is a tuple -/
def Any3 (H : Hp) (v : V) : Prop := (∃ t : T7, t ≠ .tuple ∧ ∀ k, Tz H v k = k t) ∨ ∃ p xs, v = .ref p ∧ H p = some (.tup xs) ∧ xs.length ≤ 3 ∧ ∀ x ∈ xs, flatI x
theorem numV_not {H : Hp} {v : V} {t : T7} (ht : t ≠ .tuple) (h : ∀ k, Tz H v k = k t) : numV H v = false := by
  cases v with
  | ref p =>
    unfold numV
    dsimp only
    split
    · rename_i a b e
      have := h (fun t => t = .tuple)
      rw [Tz_tup e] at this
      exact absurd (this.mp rfl) ht
    · rfl
  | _ => rfl
theorem numV_tup {H : Hp} {p : Addr} {xs : List V} (e : H p = some (.tup xs)) (n : ∀ a b, xs ≠ [.int a, .int b]) : numV H (.ref p) = false := by
  unfold numV
  dsimp only
  rw [e]
  split
  · rename_i a b e2
    have := Option.some.inj e2
    injection this with e3
    exact absurd e3 (n a b)
  · rfl
theorem numV_two {H : Hp} {p : Addr} {a b : Int} (e : H p = some (.tup [.int a, .int b])) : numV H (.ref p) = decide (1 ≤ b ∧ Int.gcd a b = 1) := by
  unfold numV
  simp only [e]
def spIsNumberG : Sp := fun vs H Q _ => ∃ v, vs = [v] ∧ Any3 H v ∧ ∀ H', Same H H' → Q (.bl (numV H v)) H'
theorem ok_is_numberG (F : Def1 K mg "is_number" sIsNumber) (T : Tb K mg C) (c_is_whole : Kn P w K mg base "is_whole" ["thing"] 1 spWhole) (c_divisor_of : Kn P w K mg base "divisor_of" ["one", "other"] 1 spDiv) : Kn P w K mg base "is_number" ["thing"] 2 spIsNumberG := by
  refine kn_of F scIsNumber (fun vs H Q E h => ?_) (fun _ _ _ _ _ _ us hl => match us, hl with | [_], _ => rfl) (fun f cdv A outer s H vs Q E hr h => ?_)
  · obtain ⟨v, rfl, _⟩ := h
    rfl
  · obtain ⟨v, rfl, hv, q⟩ := h
    refine ⟨_, (pss_cons (ps_if (PW.pt (pw_or (pt_not (pt_val (pe_callB call_isiF (by rfl) T.isinstance (by decide +kernel) (pa_cons (pv 0) (pa_cons (pe_bltn (v := .ty "tuple") (by rfl) T.tuple (by decide +kernel) rfl) pa_nil))))) (pw_or (pt_cmpR op_ne (pe_callB call_lenF (by rfl) T.len (by decide +kernel) (pa_cons (pv 0) pa_nil)) pe_int (nomark _)) (pw_or1 (pt_not (pt_val (pe_callB (cr_allF rfl) (by rfl) T.all (by decide +kernel) (pa_cons (pe_lc (own := [("one", 3)]) (by rfl) scIsNumber.nd (pi_tupF (pv 0)) (blkOk_by (N := ["thing", "top", "bottom", "one"]) (sc := defScope sIsNumber) (by decide +kernel)) (fun _ _ _ _ _ => (pg_name (i := 3) scIsNumber.nd rfl (Or.inl rfl))) (fun _ _ _ _ _ => pts_nil) (fun _ _ _ _ _ => (pe_kn c_is_whole (hr.mono (by decide)) (by rfl) (pa_cons (pv 3) pa_nil)))) pa_nil)))))))) (pss_one (ps_ret pe_bl)) pss_nil)
      (pss_cons (ps_asg (pv 0) (pg_tupF 2 (by rfl) (pgs_cons (pg_name (i := 1) scIsNumber.nd rfl (Or.inl rfl)) (pgs_cons (pg_name (i := 2) scIsNumber.nd rfl (Or.inl rfl)) pgs_nil))))
      (pss_one (ps_ret (pe_and (pe_cmpR op_ge (pv 2) pe_int (nomark _)) (pe_one (pe_cmpR op_eq (pe_kn c_divisor_of (hr.mono (by decide)) (by rfl) (pa_cons (pv 1) (pa_cons (pv 2) pa_nil))) pe_int (nomark _)))))))), ?_⟩
    rcases hv with ⟨t, ht, hk⟩ | ⟨p, xs, rfl, hp, hl, hf⟩
    · walk_at "ev"
      rw [numV_not ht hk] at q
      simp only [hk]
      rw [if_pos ht]
      exact q _ fun _ _ h => h
    · walk_at "ev"
      simp only [Tz_tup hp, Sq_tup hp, Tp_tup hp]
      walk_at "ev"
      have s0 : Same H H := fun _ _ h => h
      by_cases h2 : xs.length = 2
      · obtain ⟨x, y, rfl⟩ : ∃ x y, xs = [x, y] := by
          match xs, h2 with
          | [x, y], _ => exact ⟨x, y, rfl⟩
        rw [if_neg (by simp)]
        refine lcp_tup (xs := [x, y]) (fun D i H' => Same H H' ∧ H' D = some (.lst ((([x, y] : List V).take i).map fun z => V.bl (isI z)))) ?_ ?_ ?_ ?_
        · exact fun D hD => ⟨(newf hD rfl).1, upd_same⟩
        · exact fun D i H' _ ⟨sm, _⟩ => sm _ _ hp
        · rintro D i z H' hD hx ⟨sm, e⟩
          have hi : i < 2 := (List.getElem?_eq_some_iff.mp hx).1
          have hz : flatI z := hf z (List.mem_of_getElem? hx)
          have ht : ([x, y] : List V).take (i + 1) = ([x, y] : List V).take i ++ [z] := by
            rw [List.take_add_one, hx]
            rfl
          walk_at "ev"
          rcases hz with ⟨n, rfl⟩ | ⟨b, rfl⟩
          all_goals
            simp only [spWhole, Tz_int, Tz_bl, decide_true]
            refine ⟨_, e, by rw [List.length_map, List.length_take]; exact Nat.lt_of_le_of_lt (Nat.min_le_left _ _) (Nat.lt_trans hi (by decide)), same_chg sm fun b o h => ne_of_none h hD, ?_⟩
            rw [upd_same, ht, List.map_append]
            rfl
        · rintro D H' hD ⟨sm, e⟩
          have e : H' D = some (.lst ([isI x, isI y].map V.bl)) := e
          simp only [Ls_lst e]
          refine ⟨_, rfl, ?_⟩
          have q2 := q H' sm
          rcases hf x (List.mem_cons_self ..) with ⟨a, rfl⟩ | ⟨b, rfl⟩
          · rcases hf y (by simp) with ⟨b, rfl⟩ | ⟨b, rfl⟩
            · rw [if_neg (by simp [isI])]
              simp only [Tp_tup (sm _ _ hp)]
              walk_at "ev"
              rw [numV_two hp] at q2
              by_cases hb : 1 ≤ b
              · rw [if_pos hb]
                refine ⟨a, b, rfl, by omega, ?_⟩
                walk_at "ev"
                rw [show decide (1 ≤ b ∧ Int.gcd a b = 1) = decide (((Int.gcd a b : Nat) : Int) = 1) from decide_eq_decide.mpr ⟨fun z => by omega, fun z => ⟨hb, by omega⟩⟩] at q2
                exact q2
              · rw [if_neg hb]
                rw [decide_eq_false (fun z => hb z.1)] at q2
                exact q2
            · rw [if_pos (by simp [isI])]
              rw [numV_tup hp (fun a b z => by simp at z)] at q2
              exact q2
          · rw [if_pos (by simp [isI])]
            rw [numV_tup hp (fun a b z => by simp at z)] at q2
            exact q2
      · rw [if_pos (by omega)]
        rw [numV_tup hp (fun a b z => h2 (by rw [z]; rfl))] at q
        exact q _ s0
def spIsWorthG : Sp := fun vs H Q _ => ∃ v, vs = [v] ∧ Any3 H v ∧ (∀ b, v ≠ .bl b) ∧ ∀ H', Same H H' → Q (.bl (numV H v)) H'
theorem ok_is_worthG (F : Def1 K mg "is_worth" sIsWorth) (T : Tb K mg C) (c_is_number : Kn P w K mg base "is_number" ["thing"] 2 spIsNumberG) : Kn P w K mg base "is_worth" ["thing"] 3 spIsWorthG := by
  refine kn_of F scIsWorth (fun vs H Q E h => ?_) (fun _ _ _ _ _ _ us hl => match us, hl with | [_], _ => rfl) (fun f cdv A outer s H vs Q E hr h => ?_)
  · obtain ⟨v, rfl, _⟩ := h
    rfl
  · obtain ⟨v, rfl, hv, nb, q⟩ := h
    refine ⟨_, (pss_one (ps_ret (pe_or (pe_callB call_isiF (by rfl) T.isinstance (by decide +kernel) (pa_cons (pv 0) (pa_cons (pe_bltn (v := .ty "bool") (by rfl) T.bool (by decide +kernel) rfl) pa_nil))) (pe_one (pe_kn c_is_number (hr.mono (by decide)) (by rfl) (pa_cons (pv 0) pa_nil)))))), ?_⟩
    walk_at "ev"
    have key : ∀ k : T7 → Prop, (∀ t, t ≠ .bool → k t) → Tz H v k := fun k hk => by
      rcases hv with ⟨t, ht, e⟩ | ⟨p, xs, rfl, hp, _⟩
      · rw [e]
        refine hk t fun z => ?_
        subst z
        cases v with
        | bl b => exact nb b rfl
        | non => exact absurd ((e (fun t => t = .bool)).mpr rfl) (by rw [Tz_non]; decide)
        | int i => exact absurd ((e (fun t => t = .bool)).mpr rfl) (by rw [Tz_int]; decide)
        | str i => exact absurd ((e (fun t => t = .bool)).mpr rfl) (by rw [Tz_str]; decide)
        | ref p =>
          have := (e (fun t => t = .bool)).mpr rfl
          unfold Tz at this
          dsimp only at this
          split at this
          · cases this
          · cases this
          · cases this
          · exact this
        | _ => exact (e (fun t => t = .bool)).mpr rfl
      · rw [Tz_tup hp]
        exact hk _ (by decide)
    refine key _ fun t ht => ?_
    rw [if_neg (by cases t <;> first | decide | exact absurd rfl ht)]
    exact ⟨v, rfl, hv, q⟩
end
end K32
namespace K32
open PySem PySem.Spec PyProof.Rows L2 Lw LamX
local macro_rules | `(tactic| walk_at "ev") => `(tactic| simp only [cxOf, tErrI, tErrSt, tXqf, tKx, tMethX, tMkF, tMakeK, tMake, tDispF, tPairs, Kvs, okv_sizes, okv_line, okv_fresh, okv_kept, okv_fetched, okv_put, okv_fresh_, okv_line_, okv_fetched_, okv_put_, tNoS, tFldF, sFldF, sFldAugF, tMethF, Ix_upd, lk_eq, lk_ne, lk_nil, putF_nil, putF_eq, putF_ne, Str_lit, String.reduceEq, fsB, rListK, rDictD, rRevF, rLenD, rAllF, rSortF, rSortK, rLenI, tChain, Int.reduceMul, tPar3, tCallN, iKeysF, tLockE, tDisp1F, mergeK_one, tYes, iRng3, ex_ints, ex_any, tML, tML0, tMD, tTupN, tLstN, tDNewN, rSlL2, rCatF, rRepF, tRevF, rListF, rMaxF, tDGetF, tDGet1F, tDGet2F, tDPop1F, tDPop2F, sDPutF, tLenSetF, tSl, tPart, tNoPart, ipI, rIsiF, Tz_non, Tz_bl, Tz_int, Tz_str, Cl7_int, Cl7_bool, Cl7_str, Cl7_list, Cl7_tuple, Cl7_dict, T7.isa, iListF, iTupF, cpow12, cpow60, tFor_eq, tLc_eq, iRng1, iRng2, wipe, Cx.nox, Cx.wish, tSeq, tIfS, tTest, tOp, tVar, tC, tRet, tRetN, tCB, tCons, tNil, tB, tNot, tAnd, tOr, tAndV, tOrV, tNotV, tIf, rEq, rNe, scal_ii, scal_bb, scal_ss, scal_nn, scal_si, scal_is, scal_in, scal_ni, Bool.or_true, Bool.true_or, Bool.or_false, Bool.false_or, Bool.and_true, Bool.true_and, Bool.and_false, Bool.false_and, rI, rI0, rU, tUn, t2I, tAsg, gName, tPar, tDrop, tLst, tTup, tCall, tNext, tBreak, tCont, tAug, rAdd, gTup, gTupF, gCons, gNil, gSub, rIxF, rLenF, rSetF, rAppF, rExtF, rPop0, rRemF, rInF, rDUpd, Nt_int, Op_some, Ky_int, Ky_str,
  List.map_cons, List.map_nil, List.cons_append, List.nil_append, List.append_nil, List.getElem?_cons_zero, List.getElem?_cons_succ, List.set_cons_zero, List.set_cons_succ, List.length_cons, List.length_nil, Option.some.injEq, exists_eq_left', exists_eq_left, exists_eq_right, V.int.injEq, V.ref.injEq, V.bl.injEq, V.str.injEq, V.ty.injEq, List.cons.injEq, and_true, true_and, and_assoc, reduceCtorEq, decide_eq_true_eq, decide_true, decide_false, if_true, if_false, ite_true, ite_false, Bool.false_eq_true, false_and, and_false, exists_false, exists_const, or_false, false_or, Bool.not_eq_true', decide_eq_false_iff_not, List.replicate_succ, List.replicate_zero, Nat.reduceSub, Nat.reduceAdd, Int.reducePow, Int.reduceNeg, exists_and_left, exists_and_right, atI_0, atI_1, atI_2, ixN_0, ixN_1, ixN_2, L2.start, upd_upd, Sq_upd, Sq_updT, Tp_upd, Ls_upd, Dk_upd, Int.reduceLT, Int.reduceLE, Nat.reduceLT, Nat.reduceLeDiff, forall_eq', forall_eq, id, Int.zero_add, Bool.not_true, Bool.not_false, not_true_eq_false, not_false_eq_true, ne_eq])

abbrev veT : List Value := [.type "ValueError", .type "Exception", .type "BaseException", .type "object"]
abbrev ieT : List Value := [.type "IndexError", .type "LookupError", .type "Exception", .type "BaseException", .type "object"]
section
variable {P : Program} {w : World} {K : PySem.W.Frag} {mg : Str → Option Value} {base : Heap} {C CE CL CC CW : Addr}
theorem scNlInit : FnScope ["self", "what"] ["self", "what"] (defScope sNlInit) := ⟨rfl, rfl, rfl, by decide +kernel, rfl, by decide +kernel, by decide +kernel⟩
theorem ok_nl_init {f : Addr} {fd : FuncData} (F : FunD K "__init__" "NoLanes.__init__" (defArgs sNlInit) (defBody sNlInit) (defScope sNlInit) [] [] f fd) (hm : mg "CellError" = some (.ref CE)) (hB : initB K CE "ValueError.__init__" = true) :
    FnOk P w K mg base (L2.CX P w) 2 f fd ["self", "what"] (spEI K "ValueError.__new__" veT ["what"]) := by
  obtain ⟨b1, b2, b3⟩ := initB_ok hB
  refine F.ok scNlInit (fun vs H Q E h => ?_) (fun cdv A outer s H vs Q E hr h => ?_)
  · obtain ⟨a, D, ws, rfl, hl, _⟩ := h
    rw [List.length_cons, hl]
    rfl
  · obtain ⟨a, D, ws, rfl, hl, T, hn, ea, q⟩ := h
    obtain ⟨v, rfl⟩ : ∃ v, ws = [v] := by
      match ws, hl with
      | [v], _ => exact ⟨v, rfl⟩
    refine ⟨_, (pss_cons (ps_expr (pe_errinit eb_Value (by rfl) hm b1 b2 b3 hin_Value (pa_cons (pv 0) (pa_cons pe_str pa_nil)))) (pss_one (ps_errst eb_Value (pv 0) (pv 1)))), ?_⟩
    walk_at "ev"
    exact ⟨D, T, ea, D, T, hn _ (by simp), .inl ⟨ea, fun dx h1 h2 => q dx h1 h2⟩⟩
theorem scNcInit : FnScope ["self", "name", "cell"] ["self", "name", "cell"] (defScope sNcInit) := ⟨rfl, rfl, rfl, by decide +kernel, rfl, by decide +kernel, by decide +kernel⟩
theorem upd_in {H : Hp} {a d : Addr} {o1 o2 o3 : HO} (n : d ≠ a) : upd (upd (upd H d o1) a o2) d o3 = upd (upd H d o3) a o2 := by
  funext b
  by_cases h1 : b = d
  · rw [h1, upd_same, upd_ne n, upd_same]
  · rw [upd_ne h1]
    by_cases h2 : b = a
    · rw [h2, upd_same, upd_same]
    · rw [upd_ne h2, upd_ne h1, upd_ne h2, upd_ne h1]
theorem ok_nc_init {f : Addr} {fd : FuncData} (F : FunD K "__init__" "NoCell.__init__" (defArgs sNcInit) (defBody sNcInit) (defScope sNcInit) [] [] f fd) (hm : mg "IndexError" = none) :
    FnOk P w K mg base (L2.CX P w) 2 f fd ["self", "name", "cell"] (spEI K "IndexError.__new__" ieT ["name", "cell"]) := by
  refine F.ok scNcInit (fun vs H Q E h => ?_) (fun cdv A outer s H vs Q E hr h => ?_)
  · obtain ⟨a, D, ws, rfl, hl, _⟩ := h
    rw [List.length_cons, hl]
    rfl
  · obtain ⟨a, D, ws, rfl, hl, T, hn, ea, q⟩ := h
    obtain ⟨v, u, rfl⟩ : ∃ v u, ws = [v, u] := by
      match ws, hl with
      | [v, u], _ => exact ⟨v, u, rfl⟩
    refine ⟨_, (pss_cons (ps_expr (pe_errinitB eb_Index (by rfl) hm PyProof.Rows.Boot.«IndexError» ty_Index (by decide +kernel) (fc_Index _) hin_Index (pa_cons (pv 0) (pa_cons pe_str pa_nil))))
      (pss_cons (ps_errst eb_Index (pv 0) (pv 1)) (pss_one (ps_errst eb_Index (pv 0) (pv 2))))), ?_⟩
    walk_at "ev"
    refine ⟨D, T, ea, D, T, hn _ (by simp), .inl ⟨ea, fun dx h1 h2 => ?_⟩⟩
    refine ⟨D, T, hn _ (by simp), .inr ⟨dx, upd_same, _, by rw [upd_ne h2, upd_same], (by show 1 ≤ 900; decide), ?_⟩⟩
    rw [upd_in h2]
    exact q dx h1 h2
/-- the errors of this text -/
structure Er (P : Program) (w : World) (K : PySem.W.Frag) (mg : Str → Option Value) (base : Heap) (CE CL CC CW : Addr) : Prop where
  L : ErrK P w K mg base "NoLanes" CL ["what"] "ValueError.__new__" "ValueError.__init__" veT "ValueError"
  Cc : ErrK P w K mg base "NoCell" CC ["name", "cell"] "IndexError.__new__" "IndexError.__init__" ieT "IndexError"
  gW : mg "NoWorth" = some (.ref CW)
  xW : PySem.W.excIn K CW veT "ValueError.__new__" = true
  kW : PySem.W.keepIn K (.ref CW) = true
  bW : PySem.W.subIn K (.ref CW) (.type "BaseException") = some true
  tW : PySem.W.typeIn K (.ref CW) = some (.type "type")
abbrev lkE (CL : Addr) (H : Hp) (E : XK) (x : String) : Prop := ∀ d, H d = none → E (.ref CL) (some d) (upd H d (.xd [("what", .str (Str.ofString x))]))
def szBad (v1 v2 v3 : V) : Option String := if isInt v1 0 20000 = false then some "size" else if isInt v2 1 64 = false then some "block" else if isInt v3 1 64 = false then some "within" else none
def spLookX (CL : Addr) : Sp := fun vs H Q E => ∃ v1 v2 v3, vs = [v1, v2, v3] ∧ Any H v1 ∧ Any H v2 ∧ Any H v3 ∧ (∀ x, szBad v1 v2 v3 = some x → lkE CL H E x) ∧ (szBad v1 v2 v3 = none → Q .non H)
theorem ok_lookX (F : Def1 K mg "look_at_sizes" sLookSizes) (T : Tb K mg C) (Z : Er P w K mg base CE CL CC CW) (c_is_from : Kn P w K mg base "is_from" ["thing", "low", "high"] 2 spIsFromG) : KnX P w K mg base "look_at_sizes" ["size", "block", "within"] 4 (spLookX CL) := by
  refine knX_of F scLookSizes (fun vs H Q E h => ?_) (fun _ _ _ _ _ _ us hl => match us, hl with | [_, _, _], _ => rfl) (fun f cdv A outer s H vs Q E hr tk h => ?_)
  · obtain ⟨a, b, c, rfl, _⟩ := h
    rfl
  · obtain ⟨v1, v2, v3, rfl, h1, h2, h3, hb, hg⟩ := h
    refine ⟨_, (pss_cons (ps_if (pt_not (pt_val (pe_kn c_is_from (hr.mono (by decide)) (by rfl) (pa_cons (pv 0) (pa_cons pe_int (pa_cons (pe_gint (by rfl) T.g_MOST_CELLS) pa_nil)))))) (pss_one (ps_raise rfl tk (pmk_fs Z.L hr (by rfl) (pa_cons pe_str pa_nil)))) pss_nil)
      (pss_cons (ps_if (pt_not (pt_val (pe_kn c_is_from (hr.mono (by decide)) (by rfl) (pa_cons (pv 1) (pa_cons pe_int (pa_cons (pe_gint (by rfl) T.g_MOST_BLOCK) pa_nil)))))) (pss_one (ps_raise rfl tk (pmk_fs Z.L hr (by rfl) (pa_cons pe_str pa_nil)))) pss_nil)
      (pss_one (ps_if (pt_not (pt_val (pe_kn c_is_from (hr.mono (by decide)) (by rfl) (pa_cons (pv 2) (pa_cons pe_int (pa_cons (pe_gint (by rfl) T.g_MOST_WITHIN) pa_nil)))))) (pss_one (ps_raise rfl tk (pmk_fs Z.L hr (by rfl) (pa_cons pe_str pa_nil)))) pss_nil)))), ?_⟩
    unfold szBad at hb hg
    walk_at "ev"
    refine ⟨v1, 0, 20000, rfl, h1, _, rfl, ?_⟩
    by_cases e1 : isInt v1 0 20000 = false
    · rw [if_pos e1]
      exact hb "size" (if_pos e1)
    · rw [if_neg e1]
      rw [if_neg e1] at hb hg
      refine ⟨v2, 1, 64, rfl, h2, _, rfl, ?_⟩
      by_cases e2 : isInt v2 1 64 = false
      · rw [if_pos e2]
        exact hb "block" (if_pos e2)
      · rw [if_neg e2]
        rw [if_neg e2] at hb hg
        refine ⟨v3, 1, 64, rfl, h3, _, rfl, ?_⟩
        by_cases e3 : isInt v3 1 64 = false
        · rw [if_pos e3]
          exact hb "within" (if_pos e3)
        · rw [if_neg e3]
          rw [if_neg e3] at hb hg
          exact hg rfl
abbrev ncE (CC : Addr) (H : Hp) (E : XK) (v : V) : Prop := ∀ d, H d = none → E (.ref CC) (some d) (upd H d (.xd [("cell", v), ("name", .non)]))
/-- the cell is none -/
def spCellR (C CC : Addr) (n : Nat) : Sp := fun vs H _ E => ∃ (g : G) (sz bl wi : Nat) (D : Int → Prop) (v : V) (r : List V), vs = .ref g.x :: v :: r ∧ r.length = n ∧ BlAt C sz bl wi g D H ∧ Any H v ∧ isInt v 0 ((sz : Int) - 1) = false ∧ ncE CC H E v
theorem ok_look_at_cellR (F : DefM K C "look_at_cell" "Blocks.look_at_cell" sLookCell) (T : Tb K mg C) (Z : Er P w K mg base CE CL CC CW) (c_is_from : Kn P w K mg base "is_from" ["thing", "low", "high"] 2 spIsFromG) : KnMX P w K mg base C "look_at_cell" ["self", "at"] 4 (spCellR C CC 0) := by
  refine knmX_of F scLookCell (fun vs H Q E h => ?_) (fun _ _ _ _ _ _ us hl => match us, hl with | [_, _], _ => rfl) (fun f cdv A outer s H vs Q E hr tk h => ?_)
  · obtain ⟨g, sz, bl, wi, D, v, r, rfl, hl, _⟩ := h
    rw [List.length_cons, List.length_cons, hl]
    rfl
  · obtain ⟨g, sz, bl, wi, D, v, r, rfl, hl, B, hv, hi, q⟩ := h
    obtain rfl := List.length_eq_zero_iff.mp hl
    obtain ⟨dx, ex⟩ := B.x
    refine ⟨_, (pss_one (ps_if (pt_not (pt_val (pe_kn c_is_from (hr.mono (by decide)) (by rfl) (pa_cons (pv 1) (pa_cons pe_int (pa_cons (pe_op op_sub (pe_fldF T.cl T.n_cells_many (pv 0)) pe_int) pa_nil)))))) (pss_one (ps_raise rfl tk (pmk_fs Z.Cc hr (by rfl) (pa_cons pe_non (pa_cons (pv 1) pa_nil))))) pss_nil)), ?_⟩
    walk_at "ev"
    simp only [Ix_ins ex]
    walk_at "ev"
    refine ⟨v, 0, (sz : Int) - 1, rfl, hv, _, rfl, ?_⟩
    rw [if_pos hi]
    exact q
theorem ok_writeR (F : DefM K C "write" "Blocks.write" sWrite) (T : Tb K mg C) (m_look : KnMX P w K mg base C "look_at_cell" ["self", "at"] 4 (spCellR C CC 0)) : KnMX P w K mg base C "write" ["self", "at", "worth"] 5 (spCellR C CC 1) := by
  refine knmX_of F scWrite (fun vs H Q E h => ?_) (fun _ _ _ _ _ _ us hl => match us, hl with | [_, _, _], _ => rfl) (fun f cdv A outer s H vs Q E hr tk h => ?_)
  · obtain ⟨g, sz, bl, wi, D, v, r, rfl, hl, _⟩ := h
    rw [List.length_cons, List.length_cons, hl]
    rfl
  · obtain ⟨g, sz, bl, wi, D, v, r, rfl, hl, B, hv, hi, q⟩ := h
    obtain ⟨u, rfl⟩ := List.length_eq_one_iff.mp hl
    obtain ⟨dx, ex⟩ := B.x
    refine ⟨_, (pss_cons (ps_expr (pe_kmX m_look T.cl hr tk (pv 0) (pa_cons (pv 1) pa_nil))) (pss_cons ps_no (pss_cons ps_no (pss_cons ps_no (pss_one ps_no))))), ?_⟩
    walk_at "ev"
    simp only [Ix_ins ex]
    walk_at "ev"
    exact ⟨g, sz, bl, wi, D, v, [], rfl, rfl, B, hv, hi, q⟩
theorem ok_readR (F : DefM K C "read" "Blocks.read" sRead) (T : Tb K mg C) (m_look : KnMX P w K mg base C "look_at_cell" ["self", "at"] 4 (spCellR C CC 0)) : KnMX P w K mg base C "read" ["self", "at"] 5 (spCellR C CC 0) := by
  refine knmX_of F scRead (fun vs H Q E h => ?_) (fun _ _ _ _ _ _ us hl => match us, hl with | [_, _], _ => rfl) (fun f cdv A outer s H vs Q E hr tk h => ?_)
  · obtain ⟨g, sz, bl, wi, D, v, r, rfl, hl, _⟩ := h
    rw [List.length_cons, List.length_cons, hl]
    rfl
  · obtain ⟨g, sz, bl, wi, D, v, r, rfl, hl, B, hv, hi, q⟩ := h
    obtain rfl := List.length_eq_zero_iff.mp hl
    obtain ⟨dx, ex⟩ := B.x
    refine ⟨_, (pss_cons (ps_expr (pe_kmX m_look T.cl hr tk (pv 0) (pa_cons (pv 1) pa_nil))) (pss_one ps_no)), ?_⟩
    walk_at "ev"
    simp only [Ix_ins ex]
    walk_at "ev"
    exact ⟨g, sz, bl, wi, D, v, [], rfl, rfl, B, hv, hi, q⟩
theorem ok_seenR (F : DefM K C "seen" "Blocks.seen" sSeen) (T : Tb K mg C) (m_look : KnMX P w K mg base C "look_at_cell" ["self", "at"] 4 (spCellR C CC 0)) : KnMX P w K mg base C "seen" ["self", "at"] 5 (spCellR C CC 0) := by
  refine knmX_of F scSeen (fun vs H Q E h => ?_) (fun _ _ _ _ _ _ us hl => match us, hl with | [_, _], _ => rfl) (fun f cdv A outer s H vs Q E hr tk h => ?_)
  · obtain ⟨g, sz, bl, wi, D, v, r, rfl, hl, _⟩ := h
    rw [List.length_cons, List.length_cons, hl]
    rfl
  · obtain ⟨g, sz, bl, wi, D, v, r, rfl, hl, B, hv, hi, q⟩ := h
    obtain rfl := List.length_eq_zero_iff.mp hl
    obtain ⟨dx, ex⟩ := B.x
    refine ⟨_, (pss_cons (ps_expr (pe_kmX m_look T.cl hr tk (pv 0) (pa_cons (pv 1) pa_nil))) (pss_cons ps_no (pss_cons ps_no (pss_one ps_no)))), ?_⟩
    walk_at "ev"
    simp only [Ix_ins ex]
    walk_at "ev"
    exact ⟨g, sz, bl, wi, D, v, [], rfl, rfl, B, hv, hi, q⟩
/-- the worth is none -/
def spWorthR (C CW : Addr) : Sp := fun vs H _ E => ∃ (g : G) (sz bl wi : Nat) (D : Int → Prop) (a : Nat) (v : V), vs = [.ref g.x, .int (a : Int), v] ∧ BlAt C sz bl wi g D H ∧ a < sz ∧ v ≠ .non ∧ (∀ b, v ≠ .bl b) ∧ Any3 H v ∧ numV H v = false ∧ ∀ H', Same H H' → E (.ref CW) none H'
theorem ok_writeW (F : DefM K C "write" "Blocks.write" sWrite) (T : Tb K mg C) (Z : Er P w K mg base CE CL CC CW) (m_look : KnM P w K mg base C "look_at_cell" ["self", "at"] 3 (spLookCell C)) (c_is_worth : Kn P w K mg base "is_worth" ["thing"] 3 spIsWorthG) : KnMX P w K mg base C "write" ["self", "at", "worth"] 5 (spWorthR C CW) := by
  refine knmX_of F scWrite (fun vs H Q E h => ?_) (fun _ _ _ _ _ _ us hl => match us, hl with | [_, _, _], _ => rfl) (fun f cdv A outer s H vs Q E hr tk h => ?_)
  · obtain ⟨g, sz, bl, wi, D, a, v, rfl, _⟩ := h
    rfl
  · obtain ⟨g, sz, bl, wi, D, a, v, rfl, B, ha, nn, nb, hv, hi, q⟩ := h
    obtain ⟨dx, ex⟩ := B.x
    refine ⟨_, (pss_cons (ps_expr (pe_km m_look T.cl (hr.mono (by decide)) (pv 0) (pa_cons (pv 1) pa_nil)))
      (pss_cons (ps_if (PW.pt (pw_and (pt_cmpR op_notN (pv 2) pe_non (nomark _)) (pw_and1 (pt_not (pt_val (pe_kn c_is_worth (hr.mono (by decide)) (by rfl) (pa_cons (pv 2) pa_nil))))))) (pss_one (ps_raise rfl tk (pmk_own PySem.F.excBase_ValueError Z.xW Z.gW Z.kW (raises_own Z.bW Z.tW) (by exact rfl)))) pss_nil) (pss_cons ps_no (pss_cons ps_no (pss_one ps_no))))), ?_⟩
    walk_at "ev"
    simp only [Ix_ins ex]
    walk_at "ev"
    refine ⟨g, sz, bl, wi, D, a, rfl, B, ha, ?_⟩
    dsimp only
    rw [if_pos nn]
    refine ⟨v, rfl, hv, nb, fun H1 s1 => ⟨_, rfl, ?_⟩⟩
    rw [if_pos hi]
    exact q H1 s1
def spInitX (C CL : Addr) : Sp := fun vs H Q E => ∃ (x dx : Addr) (v1 v2 v3 : V), vs = [.ref x, v1, v2, v3] ∧ H x = some (.ins C dx []) ∧ Any H v1 ∧ Any H v2 ∧ Any H v3 ∧ (∀ z, szBad v1 v2 v3 = some z → lkE CL H E z) ∧
  ∀ sz bl wi : Nat, v1 = .int sz → v2 = .int bl → v3 = .int wi → sz ≤ 20000 → 1 ≤ bl → bl ≤ 64 → 1 ≤ wi → wi ≤ 64 → spInit C vs H Q E0
theorem isInt_out {v : V} {lo hi : Int} (h : isInt v lo hi = true) : ∃ a, v = .int a ∧ lo ≤ a ∧ a ≤ hi := by
  cases v with
  | int a => exact ⟨a, rfl, of_decide_eq_true h⟩
  | _ => cases h
theorem ok_initX {f : Addr} {fd : FuncData} {kws : List (Str × V)} (F : FunD K "__init__" "Blocks.__init__" (defArgs sInit) (defBody sInit) (defScope sInit) [] kws f fd) (T : Tb K mg C) (c_lookX : KnX P w K mg base "look_at_sizes" ["size", "block", "within"] 4 (spLookX CL)) (G0 : FnOk P w K mg base CX0 4 f fd ["self", "size", "block", "within"] (spInit C)) :
    FnOk P w K mg base (L2.CX P w) 5 f fd ["self", "size", "block", "within"] (spInitX C CL) := by
  have R : FnOk P w K mg base (L2.CX P w) 5 f fd ["self", "size", "block", "within"] (fun vs H Q E => ∃ (x dx : Addr) (v1 v2 v3 : V), vs = [.ref x, v1, v2, v3] ∧ Any H v1 ∧ Any H v2 ∧ Any H v3 ∧ ∃ z, szBad v1 v2 v3 = some z ∧ lkE CL H E z) := by
    refine F.ok scInit (fun vs H Q E h => ?_) (fun cdv A outer s H vs Q E hr h => ?_)
    · obtain ⟨x, dx, v1, v2, v3, rfl, _⟩ := h
      rfl
    · obtain ⟨x, dx, v1, v2, v3, rfl, h1, h2, h3, z, hz, q⟩ := h
      refine ⟨_, (pss_cons (ps_expr (pe_knX c_lookX hr (by rfl) (takes_of rfl rfl rfl rfl) (pa_cons (pv 1) (pa_cons (pv 2) (pa_cons (pv 3) pa_nil)))))
        (pss_cons ps_no (pss_cons ps_no (pss_cons ps_no (pss_cons ps_no (pss_cons ps_no (pss_cons ps_no (pss_cons ps_no (pss_one ps_no))))))))), ?_⟩
      walk_at "ev"
      exact ⟨v1, v2, v3, rfl, h1, h2, h3, fun y hy => by
        rw [hz] at hy
        cases hy
        exact q, fun hy => by
        rw [hz] at hy
        cases hy⟩
  refine ⟨fun vs H Q E h => ?_, fun A outer s H args us vs Q E hr e0 hb r h => ?_⟩
  · obtain ⟨x, dx, v1, v2, v3, rfl, _⟩ := h
    rfl
  · obtain ⟨x, dx, v1, v2, v3, rfl, ex, h1, h2, h3, hb1, hg⟩ := h
    cases hz : szBad v1 v2 v3 with
    | some z => exact R.run A outer s H args us _ Q E hr e0 hb r ⟨x, dx, v1, v2, v3, rfl, h1, h2, h3, z, hz, hb1 z hz⟩
    | none =>
      unfold szBad at hz
      have i1 : isInt v1 0 20000 = true := by
        cases q : isInt v1 0 20000 with
        | true => rfl
        | false => rw [if_pos q] at hz; cases hz
      rw [if_neg (by rw [i1]; decide)] at hz
      have i2 : isInt v2 1 64 = true := by
        cases q : isInt v2 1 64 with
        | true => rfl
        | false => rw [if_pos q] at hz; cases hz
      rw [if_neg (by rw [i2]; decide)] at hz
      have i3 : isInt v3 1 64 = true := by
        cases q : isInt v3 1 64 with
        | true => rfl
        | false => rw [if_pos q] at hz; cases hz
      obtain ⟨a, rfl, a1, a2⟩ := isInt_out i1
      obtain ⟨b, rfl, b1, b2⟩ := isInt_out i2
      obtain ⟨c, rfl, c1, c2⟩ := isInt_out i3
      obtain ⟨sz, rfl⟩ : ∃ n : Nat, a = (n : Int) := ⟨a.toNat, by omega⟩
      obtain ⟨bl, rfl⟩ : ∃ n : Nat, b = (n : Int) := ⟨b.toNat, by omega⟩
      obtain ⟨wi, rfl⟩ : ∃ n : Nat, c = (n : Int) := ⟨c.toNat, by omega⟩
      have key := G0.run A outer s H args us _ Q E0 (hr.mono (by decide)) e0 hb r (hg sz bl wi rfl rfl rfl (by omega) (by omega) (by omega) (by omega) (by omega))
      refine codeAny_mono key fun q s' hq => ?_
      cases q with
      | error e => exact hq.elim
      | ok fl => cases fl <;> exact hq
end
end K32
namespace K32
open PySem PySem.Spec PyProof.Rows L2 Lw LamX
local macro_rules | `(tactic| walk_at "ev") => `(tactic| simp only [cxOf, tErrI, tErrSt, tKx, tMethX, tMkF, tMakeK, tMake, tDispF, tPairs, Kvs, okv_sizes, okv_line, okv_fresh, okv_kept, okv_fetched, okv_put, okv_fresh_, okv_line_, okv_fetched_, okv_put_, tNoS, tFldF, sFldF, sFldAugF, tMethF, Ix_upd, lk_eq, lk_ne, lk_nil, putF_nil, putF_eq, putF_ne, Str_lit, String.reduceEq, fsB, rListK, rDictD, rRevF, rLenD, rAllF, rSortF, rSortK, rLenI, tChain, Int.reduceMul, tPar3, tCallN, iKeysF, tLockE, tDisp1F, mergeK_one, tYes, iRng3, ex_ints, ex_any, tML, tML0, tMD, tTupN, tLstN, tDNewN, rSlL2, rCatF, rRepF, tRevF, rListF, rMaxF, tDGetF, tDGet1F, tDGet2F, tDPop1F, tDPop2F, sDPutF, tLenSetF, tSl, tPart, tNoPart, ipI, rIsiF, Tz_non, Tz_bl, Tz_int, Tz_str, Cl7_int, Cl7_bool, Cl7_str, Cl7_list, Cl7_tuple, Cl7_dict, T7.isa, iListF, iTupF, cpow12, cpow60, tFor_eq, tLc_eq, iRng1, iRng2, wipe, Cx.nox, Cx.wish, tSeq, tIfS, tTest, tOp, tVar, tC, tRet, tRetN, tCB, tCons, tNil, tB, tNot, tAnd, tOr, tAndV, tOrV, tNotV, tIf, rEq, rNe, scal_ii, scal_bb, scal_ss, scal_nn, scal_si, scal_is, scal_in, scal_ni, Bool.or_true, Bool.true_or, Bool.or_false, Bool.false_or, Bool.and_true, Bool.true_and, Bool.and_false, Bool.false_and, rI, rI0, rU, tUn, t2I, tAsg, gName, tPar, tDrop, tLst, tTup, tCall, tNext, tBreak, tCont, tAug, rAdd, gTup, gTupF, gCons, gNil, gSub, rIxF, rLenF, rSetF, rAppF, rExtF, rPop0, rRemF, rInF, rDUpd, Nt_int, Op_some, Ky_int, Ky_str,
  List.map_cons, List.map_nil, List.cons_append, List.nil_append, List.append_nil, List.getElem?_cons_zero, List.getElem?_cons_succ, List.set_cons_zero, List.set_cons_succ, List.length_cons, List.length_nil, Option.some.injEq, exists_eq_left', exists_eq_left, exists_eq_right, V.int.injEq, V.ref.injEq, V.bl.injEq, V.str.injEq, V.ty.injEq, List.cons.injEq, and_true, true_and, and_assoc, reduceCtorEq, decide_eq_true_eq, decide_true, decide_false, if_true, if_false, ite_true, ite_false, Bool.false_eq_true, false_and, and_false, exists_false, exists_const, or_false, false_or, Bool.not_eq_true', decide_eq_false_iff_not, List.replicate_succ, List.replicate_zero, Nat.reduceSub, Nat.reduceAdd, Int.reducePow, Int.reduceNeg, exists_and_left, exists_and_right, atI_0, atI_1, atI_2, ixN_0, ixN_1, ixN_2, L2.start, upd_upd, Sq_upd, Sq_updT, Tp_upd, Ls_upd, Dk_upd, Int.reduceLT, Int.reduceLE, Nat.reduceLT, Nat.reduceLeDiff, forall_eq', forall_eq, id, Int.zero_add, Bool.not_true, Bool.not_false, not_true_eq_false, not_false_eq_true, ne_eq])

section
variable {P : Program} {w : World} {K : PySem.W.Frag} {mg : Str → Option Value} {base : Heap} {C CE CL CC CW : Addr}
/-- what the clauses ask of the text -/
structure Hx (K : PySem.W.Frag) (mg : Str → Option Value) (CE CL CC CW : Addr) : Prop where
  gE : mg "CellError" = some (.ref CE)
  gL : mg "NoLanes" = some (.ref CL)
  gC : mg "NoCell" = some (.ref CC)
  gW : mg "NoWorth" = some (.ref CW)
  VE : mg "ValueError" = none
  IE : mg "IndexError" = none
  xL : ExcC K CL ∧ XfC K CL
  xC : ExcC K CC ∧ XfC K CC
  xW : ExcC K CW ∧ XfC K CW
  fL : PySem.W.findIn K (.ref CL) "what" = some none
  fN : PySem.W.findIn K (.ref CC) "name" = some none
  fC : PySem.W.findIn K (.ref CC) "cell" = some none
  eLL : PySem.W.exmOne K (.ref CL) (.ref CL) = some true
  eCL : PySem.W.exmOne K (.ref CC) (.ref CL) = some false
  eCC : PySem.W.exmOne K (.ref CC) (.ref CC) = some true
  eWL : PySem.W.exmOne K (.ref CW) (.ref CL) = some false
  eWC : PySem.W.exmOne K (.ref CW) (.ref CC) = some false
  eWW : PySem.W.exmOne K (.ref CW) (.ref CW) = some true
  kLE : PySem.W.kitOne K (.ref CL) (.ref CE) = some true
  kLV : PySem.W.kitOne K (.ref CL) (.type "ValueError") = some true
  kCI : PySem.W.kitOne K (.ref CC) (.type "IndexError") = some true
  kWE : PySem.W.kitOne K (.ref CW) (.ref CE) = some true
  kWV : PySem.W.kitOne K (.ref CW) (.type "ValueError") = some true
/-- a told tuple -/
def Tld (xs : List V) (H : Hp) (Q : VK) : Prop := ∀ p H', Same H H' → H' p = some (.tup xs) → Q (.ref p) H'
/-- what is told of an error -/
def heardE (CL CC CW : Addr) (Q : VK) : XK := fun cls d H =>
  (cls = .ref CL ∧ ∃ dd v, d = some dd ∧ H dd = some (.xd [("what", v)]) ∧ Tld [.str "NoLanes", v, .bl true, .bl true] H Q) ∨
  (cls = .ref CC ∧ ∃ dd v n, d = some dd ∧ H dd = some (.xd [("cell", v), ("name", n)]) ∧ Tld [.str "NoCell", n, v, .bl true] H Q) ∨
  (cls = .ref CW ∧ d = none ∧ Tld [.str "NoWorth", .bl true, .bl true] H Q)
def spHeard (CL CC CW : Addr) : SpA := fun act vs H Q => ∃ f tl, vs = [.ref f] ∧ act f tl ∧ tl (heardE CL CC CW Q) H (fun v H' => Tld [.str "told", v] H' Q)
theorem scSrHeard : FnScope ["deed", "odd"] ["deed"] (defScope sSrHeard) := ⟨rfl, rfl, rfl, by decide +kernel, rfl, by decide +kernel, by decide +kernel⟩
def tsL (K : PySem.W.Frag) (CE : Addr) : Addr → Value → Option Addr → TS := fun _ _ _ => tRet (tTupN (tCons (tC (.str "NoLanes")) (tCons (tXqf K (tVar 1) "what") (tCons (tCB (rIsQ K) (tCons (tVar 1) (tCons (tC (.ref CE)) tNil))) (tCons (tCB (rIsQ K) (tCons (tVar 1) (tCons (tC (.ty "ValueError")) tNil))) tNil)))))
def tsC (K : PySem.W.Frag) : Addr → Value → Option Addr → TS := fun _ _ _ => tRet (tTupN (tCons (tC (.str "NoCell")) (tCons (tXqf K (tVar 1) "name") (tCons (tXqf K (tVar 1) "cell") (tCons (tCB (rIsQ K) (tCons (tVar 1) (tCons (tC (.ty "IndexError")) tNil))) tNil)))))
def tsW (K : PySem.W.Frag) (CE : Addr) : Addr → Value → Option Addr → TS := fun _ _ _ => tRet (tTupN (tCons (tC (.str "NoWorth")) (tCons (tCB (rIsQ K) (tCons (tVar 1) (tCons (tC (.ref CE)) tNil))) (tCons (tCB (rIsQ K) (tCons (tVar 1) (tCons (tC (.ty "ValueError")) tNil))) tNil))))
theorem ok_sr_heard (F : Def1 K mg "_law_sr_heard" sSrHeard) (T : Tb K mg C) (Z : Hx K mg CE CL CC CW) {ka : Nat} : KnA P w K mg base "_law_sr_heard" ["deed"] (ka + 1) ka (spHeard CL CC CW) := by
  refine knA_of F scSrHeard (fun a vs H Q h => ?_) (fun a b vs H Q hab h => ?_) (fun _ _ _ _ _ _ us hl => match us, hl with | [_], _ => rfl) (fun f cdv A outer s H vs Q hr h => ?_)
  · obtain ⟨f, tl, rfl, _⟩ := h
    rfl
  · obtain ⟨f, tl, rfl, ha, hq⟩ := h
    exact ⟨f, tl, rfl, hab f tl ha, hq⟩
  · obtain ⟨g, tl, rfl, act, q⟩ := h
    refine ⟨_, pss_one (ps_try_cls (l := [⟨.ref CL, 1, tsL K CE⟩, ⟨.ref CC, 1, tsC K⟩, ⟨.ref CW, 1, tsW K CE⟩]) (tb := fun W => tRet (tTupN (tCons (tC (.str "told")) (tCons (tActc P w K mg base outer s H ka 0 W) tNil)))) rfl rfl scSrHeard.nd rfl L2.takes0 (fun W pn xe tk _ => pss_one (ps_ret (pe_tupN (pa_cons pe_str (pa_cons (pe_actcall (i := 0) rfl tk hr rfl (.inl rfl)) pa_nil)))))
      (.cons ⟨by rfl, by decide, .inl Z.gL⟩ rfl rfl (fun a cls d pn => pss_one (ps_ret (pe_tupN (pa_cons pe_str (pa_cons (pe_xqf (pv 1)) (pa_cons (pe_callB call_isQ (by rfl) T.isinstance (by decide +kernel) (pa_cons (pv 1) (pa_cons (pe_glob (v := .ref CE) (by rfl) Z.gE rfl) pa_nil))) (pa_cons (pe_callB call_isQ (by rfl) T.isinstance (by decide +kernel) (pa_cons (pv 1) (pa_cons (pe_bltn (v := .ty "ValueError") (by rfl) Z.VE (by decide +kernel) rfl) pa_nil))) pa_nil)))))))
      (.cons ⟨by rfl, by decide, .inl Z.gC⟩ rfl rfl (fun a cls d pn => pss_one (ps_ret (pe_tupN (pa_cons pe_str (pa_cons (pe_xqf (pv 1)) (pa_cons (pe_xqf (pv 1)) (pa_cons (pe_callB call_isQ (by rfl) T.isinstance (by decide +kernel) (pa_cons (pv 1) (pa_cons (pe_bltn (v := .ty "IndexError") (by rfl) Z.IE (by decide +kernel) rfl) pa_nil))) pa_nil)))))))
      (.cons ⟨by rfl, by decide, .inl Z.gW⟩ rfl rfl (fun a cls d pn => pss_one (ps_ret (pe_tupN (pa_cons pe_str (pa_cons (pe_callB call_isQ (by rfl) T.isinstance (by decide +kernel) (pa_cons (pv 1) (pa_cons (pe_glob (v := .ref CE) (by rfl) Z.gE rfl) pa_nil))) (pa_cons (pe_callB call_isQ (by rfl) T.isinstance (by decide +kernel) (pa_cons (pv 1) (pa_cons (pe_bltn (v := .ty "ValueError") (by rfl) Z.VE (by decide +kernel) rfl) pa_nil))) pa_nil)))))) .nil)))), ?_⟩
    walk_at "ev"
    have n1 : ∀ {H : Hp} {xs : List V} {p : Addr} {H' : Hp}, Came H p (.tup xs) H' → Same H H' ∧ H' p = some (.tup xs) := fun c => ⟨c.same, c.it⟩
    refine ⟨g, tl, _, _, rfl, act, ExtN.refl H, ?_, q, fun x H1 h1 => ⟨by decide, Nw.intro fun p H2 c => h1 p H2 c.same c.it⟩⟩
    have xf : ∀ {H : Hp} {a : Addr} {c : Value} {d : Option Addr} {o : HO} {b : Addr}, H a = none → H b = some o → (upd H a (exq a c d)) b = some o := fun ha hb => by
      rw [upd_ne (ne_of_none hb ha)]
      exact hb
    rintro cls d H1 (⟨rfl, dd, v, rfl, ed, q1⟩ | ⟨rfl, dd, v, n, rfl, ed, q1⟩ | ⟨rfl, rfl, q1⟩)
    · refine ⟨true, Z.eLL, fun _ a na => ?_, fun z => by cases z⟩
      unfold tsL
      walk_at "ev"
      refine ⟨.ref a, rfl, a, CL, dd, _, v, rfl, upd_same, Z.xL.2, Z.fL, xf na ed, rfl, ?_⟩
      refine ⟨a, CL, some dd, _, _, .ref CE, true, rfl, upd_same, fun x hx => by cases hx; exact xf na ed, Z.xL.1, fun u hu => hu, Z.kLE, ?_⟩
      refine ⟨a, CL, some dd, _, _, .type "ValueError", true, rfl, upd_same, fun x hx => by cases hx; exact xf na ed, Z.xL.1, fun u hu => hu, Z.kLV, ?_⟩
      exact ⟨by decide, Nw.intro fun p H2 c => q1 p H2 ((newf na rfl).1.trans c.same) c.it⟩
    · refine ⟨false, Z.eCL, fun z => (by cases z), fun _ => ⟨true, Z.eCC, fun _ a na => ?_, fun z => by cases z⟩⟩
      unfold tsC
      walk_at "ev"
      refine ⟨.ref a, rfl, a, CC, dd, _, n, rfl, upd_same, Z.xC.2, Z.fN, xf na ed, rfl, ?_⟩
      refine ⟨.ref a, rfl, a, CC, dd, _, v, rfl, upd_same, Z.xC.2, Z.fC, xf na ed, rfl, ?_⟩
      refine ⟨a, CC, some dd, _, _, .type "IndexError", true, rfl, upd_same, fun x hx => by cases hx; exact xf na ed, Z.xC.1, fun u hu => hu, Z.kCI, ?_⟩
      exact ⟨by decide, Nw.intro fun p H2 c => q1 p H2 ((newf na rfl).1.trans c.same) c.it⟩
    · refine ⟨false, Z.eWL, fun z => (by cases z), fun _ => ⟨false, Z.eWC, fun z => (by cases z), fun _ => ⟨true, Z.eWW, fun _ a na => ?_, fun z => by cases z⟩⟩⟩
      unfold tsW
      walk_at "ev"
      refine ⟨a, CW, none, [], _, .ref CE, true, rfl, upd_same, fun x hx => (by cases hx), Z.xW.1, fun u hu => hu, Z.kWE, ?_⟩
      refine ⟨a, CW, none, [], _, .type "ValueError", true, rfl, upd_same, fun x hx => (by cases hx), Z.xW.1, fun u hu => hu, Z.kWV, ?_⟩
      exact ⟨by decide, Nw.intro fun p H2 c => q1 p H2 ((newf na rfl).1.trans c.same) c.it⟩
end
end K32
namespace K32
open PySem PySem.Spec PyProof.Rows L2 Lw LamX
local macro_rules | `(tactic| walk_at "ev") => `(tactic| simp only [cxOf, tErrI, tErrSt, tKx, tMethX, tMkF, tMakeK, tMake, tDispF, tPairs, Kvs, okv_sizes, okv_line, okv_fresh, okv_kept, okv_fetched, okv_put, okv_fresh_, okv_line_, okv_fetched_, okv_put_, tNoS, tFldF, sFldF, sFldAugF, tMethF, Ix_upd, lk_eq, lk_ne, lk_nil, putF_nil, putF_eq, putF_ne, Str_lit, String.reduceEq, fsB, rListK, rDictD, rRevF, rLenD, rAllF, rSortF, rSortK, rLenI, tChain, Int.reduceMul, tPar3, tCallN, iKeysF, tLockE, tDisp1F, mergeK_one, tYes, iRng3, ex_ints, ex_any, tML, tML0, tMD, tTupN, tLstN, tDNewN, rSlL2, rCatF, rRepF, tRevF, rListF, rMaxF, tDGetF, tDGet1F, tDGet2F, tDPop1F, tDPop2F, sDPutF, tLenSetF, tSl, tPart, tNoPart, ipI, rIsiF, Tz_non, Tz_bl, Tz_int, Tz_str, Cl7_int, Cl7_bool, Cl7_str, Cl7_list, Cl7_tuple, Cl7_dict, T7.isa, iListF, iTupF, cpow12, cpow60, tFor_eq, tLc_eq, iRng1, iRng2, wipe, Cx.nox, Cx.wish, tSeq, tIfS, tTest, tOp, tVar, tC, tRet, tRetN, tCB, tCons, tNil, tB, tNot, tAnd, tOr, tAndV, tOrV, tNotV, tIf, rEq, rNe, scal_ii, scal_bb, scal_ss, scal_nn, scal_si, scal_is, scal_in, scal_ni, Bool.or_true, Bool.true_or, Bool.or_false, Bool.false_or, Bool.and_true, Bool.true_and, Bool.and_false, Bool.false_and, rI, rI0, rU, tUn, t2I, tAsg, gName, tPar, tDrop, tLst, tTup, tCall, tNext, tBreak, tCont, tAug, rAdd, gTup, gTupF, gCons, gNil, gSub, rIxF, rLenF, rSetF, rAppF, rExtF, rPop0, rRemF, rInF, rDUpd, Nt_int, Op_some, Ky_int, Ky_str,
  List.map_cons, List.map_nil, List.cons_append, List.nil_append, List.append_nil, List.getElem?_cons_zero, List.getElem?_cons_succ, List.set_cons_zero, List.set_cons_succ, List.length_cons, List.length_nil, Option.some.injEq, exists_eq_left', exists_eq_left, exists_eq_right, V.int.injEq, V.ref.injEq, V.bl.injEq, V.str.injEq, V.ty.injEq, List.cons.injEq, and_true, true_and, and_assoc, reduceCtorEq, decide_eq_true_eq, decide_true, decide_false, if_true, if_false, ite_true, ite_false, Bool.false_eq_true, false_and, and_false, exists_false, exists_const, or_false, false_or, Bool.not_eq_true', decide_eq_false_iff_not, List.replicate_succ, List.replicate_zero, Nat.reduceSub, Nat.reduceAdd, Int.reducePow, Int.reduceNeg, exists_and_left, exists_and_right, atI_0, atI_1, atI_2, ixN_0, ixN_1, ixN_2, L2.start, upd_upd, Sq_upd, Sq_updT, Tp_upd, Ls_upd, Dk_upd, Int.reduceLT, Int.reduceLE, Nat.reduceLT, Nat.reduceLeDiff, forall_eq', forall_eq, id, Int.zero_add, Bool.not_true, Bool.not_false, not_true_eq_false, not_false_eq_true, ne_eq])

/-- a def whose code object is known -/
def Def1L (K : PySem.W.Frag) (mg : Str → Option Value) (x : Str) (st : Stmt) (c : Addr) : Prop := ∃ f fd, FunD K x x (defArgs st) (defBody st) (defScope st) [] [] f fd ∧ mg x = some (.ref f) ∧ fd.code = .ref c
section
variable {P : Program} {w : World} {K : PySem.W.Frag} {mg : Str → Option Value} {base : Heap} {C CE CL CC CW : Addr}
theorem kn_ofL {x : Str} {st : Stmt} {N ps : List Str} {k : Nat} {sp : Sp} {c : Addr} (F : Def1L K mg x st c) (S : FnScope N ps (defScope st)) (len : ∀ vs H Q E, sp vs H Q E → vs.length = ps.length)
    (hb : ∀ (kV doc pm : Value) (an : Option Addr) (cdv ct : Value) (us : List Value), us.length = ps.length → bindArgs (PySem.W.fnOf x x (defArgs st) (defBody st) (defScope st) .none kV doc pm an cdv ct) ⟨us, []⟩ = pure (ps.zip us))
    (hbody : ∀ (f : Addr) (A : Around) (outer : List Env) (s : Shared) (H : Hp) (vs : List V) (Q : VK) (E : XK), Room k (A.deeper (envOfC x (defScope st) s.heap.objs.size f (.ref c))) → sp vs H Q E →
      ∃ t, PSs (cxOf CX0 P w K mg base N x (defScope st) f (.ref c) A outer s H E).nox (defBody st) t ∧ t { nx := fun _ H' => Q .non H', rt := Q } (start N vs) H) : Kn P w K mg base x ps (k + 1) sp := by
  obtain ⟨f, fd, F, m, hc⟩ := F
  obtain ⟨oc, od, dV, kV, doc, pm, an, cdv, ct, osl, e, lk, hcd, _, _⟩ := id F.ex
  subst e
  obtain rfl : cdv = .ref c := hc
  refine ⟨f, _, fn_of lk hcd S len fun A outer s H vs Q E hr hsp => ?_, m, F.kp, F.bindsN hb⟩
  obtain ⟨t, h, q⟩ := hbody f A outer s H vs Q E hr hsp
  exact ⟨t, h.nox, q⟩
def MkKX (P : Program) (w : World) (K : PySem.W.Frag) (mg : Str → Option Value) (base : Heap) (x : Str) (C : Addr) (ps : List Str) (n : Nat) (ks : List Str) (gV : List V → List V → List V) (k : Nat) (sp : Sp) : Prop :=
  ∃ f fd g, Mk K C f ∧ FnOk P w K mg base (L2.CX P w) k f fd ps sp ∧ mg x = some (.ref C) ∧ KBn K fd ps (n + 1) ks g gV
theorem pe_mkKX {X : Cx} {x : Str} {C : Addr} {ps : List Str} {n k : Nat} {ks : List Str} {gV : List V → List V → List V} {sp : Sp} {E : XK} {p pos : Pos} {e : Expr} {es : List Expr} {kws : List Keyword} {t tk : TA} (c : MkKX X.prog X.w X.K X.mg X.base x C ps n ks gV k sp) (hr : Room (k + 1) X.A) (hg : Gl X x) (tks : Takes X (fun cls d _ H' => E cls d H'))
    (ha : PA X (e :: es) t) (hkw : PK X kws tk) (hall : (backToKw pos (keywordEach kws X.env)).all (·.1.isSome) = true := by rfl) (hks : (backToKw pos (keywordEach kws X.env)).filterMap (·.1) = ks := by rfl)
    (hdb : (x == ("__debug__" : Str)) = false := by decide) (he : starEach (e :: es) X.env = (false, eval e X.env) :: starEach es X.env := by rfl)
    (hpl : ((backTo pos (starEach (e :: es) X.env)).any (·.1) || (backToKw pos (keywordEach kws X.env)).any (·.1.isNone)) = false := by rfl) :
    PE X (.Call (.Name x p) (e :: es) kws pos) (tMakeK C n ks.length sp gV E t tk) := by
  obtain ⟨f, fd, g, M, G, m, b⟩ := c
  exact pe_makeK M G hr hg m b (L2.passes_call tks fun _ _ _ _ h => h) ha hkw hall hks hdb he hpl
def MkDX (P : Program) (w : World) (K : PySem.W.Frag) (mg : Str → Option Value) (base : Heap) (x : Str) (C : Addr) (ps : List Str) (dvs : List V) (k : Nat) (sp : Sp) : Prop :=
  ∃ f fd ds, Mk K C f ∧ FnOk P w K mg base (L2.CX P w) k f fd ps sp ∧ mg x = some (.ref C) ∧ Binds K fd ps ds ∧ Vals dvs ds
theorem pe_mkDX {X : Cx} {x : Str} {C : Addr} {ps : List Str} {k : Nat} {dvs : List V} {sp : Sp} {E : XK} {p pos : Pos} {e : Expr} {es : List Expr} {t : TA} (c : MkDX X.prog X.w X.K X.mg X.base x C ps dvs k sp) (hr : Room (k + 1) X.A) (hg : Gl X x) (tks : Takes X (fun cls d _ H' => E cls d H'))
    (ha : PA X (e :: es) t) (hdb : (x == ("__debug__" : Str)) = false := by decide) (he : starEach (e :: es) X.env = (false, eval e X.env) :: starEach es X.env := by rfl) (hpl : (backTo pos (starEach es X.env)).any (·.1) = false := by rfl) :
    PE X (.Call (.Name x p) (e :: es) [] pos) (tMake C sp dvs E t) := by
  obtain ⟨f, fd, ds, M, G, m, b, hd⟩ := c
  exact pe_make M G hr hg m b hd (L2.passes_call tks fun _ _ _ _ h => h) ha hdb he hpl
/-- the defs' tables -/
structure TT (base : Heap) (mg : Str → Option Value) (c1 P1 c2 P2 c3 P3 : Addr) : Prop where
  b1 : TabB base mg c1 P1
  b2 : TabB base mg c2 P2
  b3 : TabB base mg c3 P3
  n12 : P1 ≠ P2
  n13 : P1 ≠ P3
  n23 : P2 ≠ P3
abbrev q1 : Str := (envOfC "_law_sr_made" (defScope sSrMade) 0 0 .none).qual ++ "<lambda>"
abbrev q2 : Str := (envOfC "_law_sr_doors_right" (defScope sSrDoors) 0 0 .none).qual ++ "<lambda>"
abbrev q3 : Str := (envOfC "_law_sr_cells_right" (defScope sSrCells) 0 0 .none).qual ++ "<lambda>"
abbrev tt (P1 P2 P3 : Addr) : List (Addr × Str) := [(P1, q1), (P2, q2), (P3, q3)]
theorem Any.ext {H H1 : Hp} {v : V} (h : Any H v) (e : ExtN H H1) : Any H1 v := by
  rcases h with h | ⟨t, ht, hk⟩
  · exact .inl h
  · have h0 : Tz H v fun _ => True := (hk _).mpr trivial
    unfold Tz at h0
    split at h0
    · exact .non
    · exact .bl _
    · exact .int _
    · exact .str _
    · split at h0
      · rename_i q
        exact .lst (e _ _ q fun ps z => by cases z)
      · rename_i q
        exact .tup (e _ _ q fun ps z => by cases z)
      · rename_i q
        exact .dK (e _ _ q fun ps z => by cases z)
      · exact h0.elim
    · exact h0.elim
theorem Any.same {H H1 : Hp} {v : V} (h : Any H v) (e : Same H H1) : Any H1 v := h.ext (ExtN.of e)
def spMade (C P1 P2 P3 : Addr) : Sp := fun vs H Q _ => ∃ v1 v2 v3, vs = [v1, v2, v3] ∧ Any H v1 ∧ Any H v2 ∧ Any H v3 ∧ Tabs (tt P1 P2 P3) H ∧
  (∀ z, szBad v1 v2 v3 = some z → ∀ p H', ExtN H H' → Tabs (tt P1 P2 P3) H' → H' p = some (.tup [.str "NoLanes", .str (Str.ofString z), .bl true, .bl true]) → Q (.ref p) H') ∧
  (∀ sz bl wi : Nat, v1 = .int sz → v2 = .int bl → v3 = .int wi → sz ≤ 20000 → 1 ≤ bl → bl ≤ 64 → 1 ≤ wi → wi ≤ 64 → ∀ p g H', BlAt C sz bl wi g (· ∈ g.s.2.1) H' → g.s = ([], [], 0, 0) → g.kp = List.replicate sz .non → g.N = 0 → (∀ a o, g.R a → H a = some o → ∃ ps, o = .tbl ps) → ExtN H H' → Tabs (tt P1 P2 P3) H' → H' p = some (.tup [.str "told", .ref g.x]) → Q (.ref p) H')
theorem scSrMade : FnScope ["size", "width", "most_in"] ["size", "width", "most_in"] (defScope sSrMade) := ⟨rfl, rfl, rfl, by decide +kernel, rfl, by decide +kernel, by decide +kernel⟩
theorem ok_sr_made {c1 P1 c2 P2 c3 P3 : Addr} (F : Def1L K mg "_law_sr_made" sSrMade c1) (T : Tb K mg C) (t3 : TT base mg c1 P1 c2 P2 c3 P3) (c_heard : KnA P w K mg base "_law_sr_heard" ["deed"] 8 7 (spHeard CL CC CW))
    (m_Blocks : MkKX P w K mg base "Blocks" C ["self", "size", "block", "within"] 1 ["block", "within"] (fun vs zs => vs ++ zs) 5 (spInitX C CL)) : Kn P w K mg base "_law_sr_made" ["size", "width", "most_in"] 9 (spMade C P1 P2 P3) := by
  refine kn_ofL F scSrMade (fun vs H Q E h => ?_) (fun _ _ _ _ _ _ us hl => match us, hl with | [_, _, _], _ => rfl) (fun f A outer s H vs Q E hr h => ?_)
  · obtain ⟨v1, v2, v3, rfl, _⟩ := h
    rfl
  · obtain ⟨v1, v2, v3, rfl, h1, h2, h3, hT, hb, hg⟩ := h
    refine ⟨_, pss_one (ps_ret (pe_knA c_heard hr (by rfl) (pa_cons (pe_lamV (k := 6) (T := tt P1 P2 P3) (t := fun E => tMakeK C 1 2 (spInitX C CL) (fun vs zs => vs ++ zs) E (tCons (tVar 0) tNil) (tCons (tVar 1) (tCons (tVar 2) tNil))) t3.b1 rfl (List.mem_cons_self ..) (fun p hp e => ?_) (lamS_by (sc := defScope sSrMade) (by decide +kernel)) rfl (fun _ _ _ _ _ => rfl)
      (fun A outer s H E f c' hr => pe_mkKX m_Blocks hr (by rfl) takes_lam (pa_cons (pv 0) pa_nil) (pk_cons (pv 1) (pk_cons (pv 2) pk_nil)))) pa_nil))), ?_⟩
    · rcases List.mem_cons.mp hp with rfl | hp
      · rfl
      · rcases List.mem_cons.mp hp with rfl | hp
        · exact absurd e.symm t3.n12
        · rcases List.mem_cons.mp hp with rfl | hp
          · exact absurd e.symm t3.n13
          · cases hp
    · refine ⟨hT, fun g c' H1 eN T1 nf hf hc act => ?_⟩
      refine ⟨g, _, rfl, act _ H1 rfl rfl, ?_⟩
      walk_at "ev"
      intro x dx hx hdx hne
      have sN : Same H1 (upd (upd H1 dx (.own x)) x (.ins C dx [])) := (newf hdx rfl).1.trans (newf (by rw [upd_ne (Ne.symm hne)]; exact hx) rfl).1
      have eN2 : ∀ {H' : Hp}, Same (upd (upd H1 dx (.own x)) x (.ins C dx [])) H' → ExtN H H' := fun s => eN.trans (ExtN.of (sN.trans s))
      have tN2 : ∀ {H' : Hp}, Same (upd (upd H1 dx (.own x)) x (.ins C dx [])) H' → Tabs (tt P1 P2 P3) H' := fun s => T1.ext (sN.trans s)
      refine ⟨x, dx, v1, v2, v3, rfl, upd_same, (h1.ext eN).same sN, (h2.ext eN).same sN, (h3.ext eN).same sN, fun z hz d hd => ?_, fun sz bl wi e1 e2 e3 a1 a2 a3 a4 a5 => ?_⟩
      · have sd := (newf (o := .xd [("what", .str (Str.ofString z))]) hd rfl).1
        exact .inl ⟨rfl, d, _, rfl, upd_same, fun p H' s' ep => hb z hz p H' (eN2 (sd.trans s')) (tN2 (sd.trans s')) ep⟩
      · subst e1 e2 e3
        refine ⟨x, dx, sz, bl, wi, rfl, upd_same, a1, a2, a3, a4, a5, fun g' H' B gx gs gk gN gR keep => ⟨rfl, fun p H2 s2 ep => ?_⟩⟩
        have keepN : ∀ a o, H1 a = some o → H' a = some o := fun a o e => by
          have na : a ≠ x := ne_of_none e hx
          exact keep a o na (sN a o e)
        refine hg sz bl wi rfl rfl rfl a1 a2 a3 a4 a5 p g' H2 (B.same s2) gs gk gN (fun a o ha q => ?_) (eN.trans (ExtN.of fun a o e => s2 _ _ (keepN a o e))) (T1.ext fun a o e => s2 _ _ (keepN a o e)) (by rw [gx]; exact ep)
        have n1 : H1 a = none := by
          rcases gR a ha with z | z
          · rw [z]
            exact hx
          · cases q : H1 a with
            | none => rfl
            | some o =>
              rw [sN a o q] at z
              cases z
        by_cases it : ∃ ps, o = .tbl ps
        · exact it
        · rw [eN a o q fun ps z => it ⟨ps, z⟩] at n1
          cases n1
end
end K32
namespace K32
open PySem PySem.Spec PyProof.Rows L2 Lw LamX
local macro_rules | `(tactic| walk_at "ev") => `(tactic| simp only [cxOf, tErrI, tErrSt, tKx, tMethX, tMkF, tMakeK, tMake, tDispF, tPairs, Kvs, okv_sizes, okv_line, okv_fresh, okv_kept, okv_fetched, okv_put, okv_fresh_, okv_line_, okv_fetched_, okv_put_, tNoS, tFldF, sFldF, sFldAugF, tMethF, Ix_upd, lk_eq, lk_ne, lk_nil, putF_nil, putF_eq, putF_ne, Str_lit, String.reduceEq, fsB, rListK, rDictD, rRevF, rLenD, rAllF, rSortF, rSortK, rLenI, tChain, Int.reduceMul, tPar3, tCallN, iKeysF, tLockE, tDisp1F, mergeK_one, tYes, iRng3, ex_ints, ex_any, tML, tML0, tMD, tTupN, tLstN, tDNewN, rSlL2, rCatF, rRepF, tRevF, rListF, rMaxF, tDGetF, tDGet1F, tDGet2F, tDPop1F, tDPop2F, sDPutF, tLenSetF, tSl, tPart, tNoPart, ipI, rIsiF, Tz_non, Tz_bl, Tz_int, Tz_str, Cl7_int, Cl7_bool, Cl7_str, Cl7_list, Cl7_tuple, Cl7_dict, T7.isa, iListF, iTupF, cpow12, cpow60, tFor_eq, tLc_eq, iRng1, iRng2, wipe, Cx.nox, Cx.wish, tSeq, tIfS, tTest, tOp, tVar, tC, tRet, tRetN, tCB, tCons, tNil, tB, tNot, tAnd, tOr, tAndV, tOrV, tNotV, tIf, rEq, rNe, scal_ii, scal_bb, scal_ss, scal_nn, scal_si, scal_is, scal_in, scal_ni, Bool.or_true, Bool.true_or, Bool.or_false, Bool.false_or, Bool.and_true, Bool.true_and, Bool.and_false, Bool.false_and, rI, rI0, rU, tUn, t2I, tAsg, gName, tPar, tDrop, tLst, tTup, tCall, tNext, tBreak, tCont, tAug, rAdd, gTup, gTupF, gCons, gNil, gSub, rIxF, rLenF, rSetF, rAppF, rExtF, rPop0, rRemF, rInF, rDUpd, Nt_int, Op_some, Ky_int, Ky_str,
  List.map_cons, List.map_nil, List.cons_append, List.nil_append, List.append_nil, List.getElem?_cons_zero, List.getElem?_cons_succ, List.set_cons_zero, List.set_cons_succ, List.length_cons, List.length_nil, Option.some.injEq, exists_eq_left', exists_eq_left, exists_eq_right, V.int.injEq, V.ref.injEq, V.bl.injEq, V.str.injEq, V.ty.injEq, List.cons.injEq, and_true, true_and, and_assoc, reduceCtorEq, decide_eq_true_eq, decide_true, decide_false, if_true, if_false, ite_true, ite_false, Bool.false_eq_true, false_and, and_false, exists_false, exists_const, or_false, false_or, Bool.not_eq_true', decide_eq_false_iff_not, List.replicate_succ, List.replicate_zero, Nat.reduceSub, Nat.reduceAdd, Int.reducePow, Int.reduceNeg, exists_and_left, exists_and_right, atI_0, atI_1, atI_2, ixN_0, ixN_1, ixN_2, L2.start, upd_upd, Sq_upd, Sq_updT, Tp_upd, Ls_upd, Dk_upd, Int.reduceLT, Int.reduceLE, Nat.reduceLT, Nat.reduceLeDiff, forall_eq', forall_eq, id, Int.zero_add, Bool.not_true, Bool.not_false, not_true_eq_false, not_false_eq_true, ne_eq])

/-- the same to _law_yq_same, nested to n -/
inductive Eq2 (H : Hp) : Nat → V → V → Prop
  | non (n : Nat) : Eq2 H (n + 1) .non .non
  | bl (n : Nat) (b : Bool) : Eq2 H (n + 1) (.bl b) (.bl b)
  | int (n : Nat) (i : Int) : Eq2 H (n + 1) (.int i) (.int i)
  | str (n : Nat) (x : Str) : Eq2 H (n + 1) (.str x) (.str x)
  | lst {n : Nat} {a b : Addr} {xs ys : List V} : H a = some (.lst xs) → H b = some (.lst ys) → xs.length = ys.length → ys.length ≤ 1000000 → (∀ (i : Nat) (x y : V), xs[i]? = some x → ys[i]? = some y → Eq2 H n x y) → Eq2 H (n + 1) (.ref a) (.ref b)
  | tup {n : Nat} {a b : Addr} {xs ys : List V} : H a = some (.tup xs) → H b = some (.tup ys) → xs.length = ys.length → ys.length ≤ 1000000 → (∀ (i : Nat) (x y : V), xs[i]? = some x → ys[i]? = some y → Eq2 H n x y) → Eq2 H (n + 1) (.ref a) (.ref b)
  | dict {n : Nat} {a : Addr} {ks : List (Key × V)} : H a = some (.dK ks) → (∀ p ∈ ks, valV ks p.1 = some p.2 ∧ flatB p.2 = true) → Eq2 H (n + 1) (.ref a) (.ref a)
theorem Eq2.same {H H' : Hp} (s : Same H H') : ∀ {n : Nat} {x y : V}, Eq2 H n x y → Eq2 H' n x y := fun {n x y} h => by
  induction h with
  | non n => exact .non n
  | bl n b => exact .bl n b
  | int n i => exact .int n i
  | str n x => exact .str n x
  | lst h1 h2 h3 h4 _ ih => exact .lst (s _ _ h1) (s _ _ h2) h3 h4 ih
  | tup h1 h2 h3 h4 _ ih => exact .tup (s _ _ h1) (s _ _ h2) h3 h4 ih
  | dict h1 h2 => exact .dict (s _ _ h1) h2
section
variable {P : Program} {w : World} {K : PySem.W.Frag} {mg : Str → Option Value} {base : Heap}
def spSame2 (n : Nat) : Sp := fun vs H Q _ => ∃ v u, vs = [v, u] ∧ Eq2 H n v u ∧ Q (.bl true) H
theorem ok_same2 (F : Def1 K mg "_law_yq_same" sSame) (T : Bt mg) (c_yq_is_whole : Kn P w K mg base "_law_yq_is_whole" ["thing"] 1 spWhole) : ∀ n, Kn P w K mg base "_law_yq_same" ["heard_one", "owed"] (n + 2) (spSame2 n)
  | 0 => by
    refine kn_of F scSame (fun vs H Q E h => ?_) (fun _ _ _ _ _ _ us hl => match us, hl with | [_, _], _ => rfl) (fun f cdv A outer s H vs Q E hr h => ?_)
    · obtain ⟨v, u, rfl, _⟩ := h
      rfl
    · obtain ⟨v, u, rfl, h, _⟩ := h
      cases h
  | n + 1 => by
    have c_yq_same := ok_same2 F T c_yq_is_whole n
    refine kn_of F scSame (fun vs H Q E h => ?_) (fun _ _ _ _ _ _ us hl => match us, hl with | [_, _], _ => rfl) (fun f cdv A outer s H vs Q E hr h => ?_)
    · obtain ⟨v, u, rfl, _⟩ := h
      rfl
    · obtain ⟨v, u, rfl, hv, q⟩ := h
      refine ⟨_, (pss_cons (ps_if (pt_cmpR op_isN (pv 1) pe_non (nomark _)) (pss_one (ps_ret (pe_cmpR op_isN (pv 0) pe_non (nomark _)))) pss_nil)
      (pss_cons (ps_if (pt_val (pe_callB call_isiF (by rfl) T.isinstance (by decide +kernel) (pa_cons (pv 1) (pa_cons (pe_bltn (v := .ty "bool") (by rfl) T.bool (by decide +kernel) rfl) pa_nil)))) (pss_one (ps_ret (pe_ifExp (pt_val (pv 1)) (pe_cmpR op_is_bl (pv 0) pe_bl (nomark _)) (pe_cmpR op_is_bl (pv 0) pe_bl (nomark _))))) pss_nil)
      (pss_cons (ps_if (pt_val (pe_callB call_isiF (by rfl) T.isinstance (by decide +kernel) (pa_cons (pv 1) (pa_cons (pe_bltn (v := .ty "int") (by rfl) T.int (by decide +kernel) rfl) pa_nil)))) (pss_one (ps_ret (pe_and (pe_kn c_yq_is_whole (hr.mono (by omega)) (by rfl) (pa_cons (pv 0) pa_nil)) (pe_one (pe_cmpR op_eq (pv 0) (pv 1) (nomark _)))))) pss_nil)
      (pss_cons (ps_if (pt_val (pe_callB call_isiF (by rfl) T.isinstance (by decide +kernel) (pa_cons (pv 1) (pa_cons (pe_bltn (v := .ty "str") (by rfl) T.str (by decide +kernel) rfl) pa_nil)))) (pss_one (ps_ret (pe_and (pe_callB call_isiF (by rfl) T.isinstance (by decide +kernel) (pa_cons (pv 0) (pa_cons (pe_bltn (v := .ty "str") (by rfl) T.str (by decide +kernel) rfl) pa_nil))) (pe_one (pe_cmpR op_eq (pv 0) (pv 1) (nomark _)))))) pss_nil)
      (pss_cons (ps_if (PW.pt (pw_and (pt_not (pt_val (pe_callB call_isiF (by rfl) T.isinstance (by decide +kernel) (pa_cons (pv 1) (pa_cons (pe_bltn (v := .ty "tuple") (by rfl) T.tuple (by decide +kernel) rfl) pa_nil))))) (pw_and1 (pt_not (pt_val (pe_callB call_isiF (by rfl) T.isinstance (by decide +kernel) (pa_cons (pv 1) (pa_cons (pe_bltn (v := .ty "list") (by rfl) T.list (by decide +kernel) rfl) pa_nil)))))))) (pss_one (ps_ret (pe_callTy call_bool1 (by rfl) T.bool (by decide +kernel) (pa_cons (pe_cmpR (op_eqV hr.units) (pv 0) (pv 1) (nomark _)) pa_nil)))) pss_nil)
      (pss_cons (ps_if (pt_cmpR op_ne (pe_callB call_isiF (by rfl) T.isinstance (by decide +kernel) (pa_cons (pv 1) (pa_cons (pe_bltn (v := .ty "tuple") (by rfl) T.tuple (by decide +kernel) rfl) pa_nil))) (pe_callB call_isiF (by rfl) T.isinstance (by decide +kernel) (pa_cons (pv 0) (pa_cons (pe_bltn (v := .ty "tuple") (by rfl) T.tuple (by decide +kernel) rfl) pa_nil))) (nomark _)) (pss_one (ps_ret pe_bl)) pss_nil)
      (pss_cons (ps_if (pt_cmpR op_ne (pe_callB call_isiF (by rfl) T.isinstance (by decide +kernel) (pa_cons (pv 1) (pa_cons (pe_bltn (v := .ty "list") (by rfl) T.list (by decide +kernel) rfl) pa_nil))) (pe_callB call_isiF (by rfl) T.isinstance (by decide +kernel) (pa_cons (pv 0) (pa_cons (pe_bltn (v := .ty "list") (by rfl) T.list (by decide +kernel) rfl) pa_nil))) (nomark _)) (pss_one (ps_ret pe_bl)) pss_nil)
      (pss_cons (ps_if (pt_cmpR op_ne (pe_callB call_lenF (by rfl) T.len (by decide +kernel) (pa_cons (pv 0) pa_nil)) (pe_callB call_lenF (by rfl) T.len (by decide +kernel) (pa_cons (pv 1) pa_nil)) (nomark _)) (pss_one (ps_ret pe_bl)) pss_nil)
      (pss_cons (ps_for PassesOwn.never rfl (pi_range1 (by rfl) T.range (pa_cons (pe_callB call_lenF (by rfl) T.len (by decide +kernel) (pa_cons (pv 1) pa_nil)) pa_nil)) (pg_name (i := 2) scSame.nd rfl (Or.inl rfl)) (pss_one (ps_if (pt_not (pt_val (pe_kn c_yq_same (hr.mono (by omega)) (by rfl) (pa_cons (pe_ix ix_f (pv 0) (pv 2) (fun _ _ => rfl)) (pa_cons (pe_ix ix_f (pv 1) (pv 2) (fun _ _ => rfl)) pa_nil))))) (pss_one (ps_ret pe_bl)) pss_nil)))
      (pss_one (ps_ret pe_bl))))))))))), ?_⟩
      cases hv with
      | non => walk_at "ev"; exact q
      | bl n b => walk_at "ev"; cases b <;> (walk_at "ev"; exact q)
      | int n i =>
        walk_at "ev"
        simp only [spWhole]
        walk_at "ev"
        exact q
      | str n x => walk_at "ev"; exact q
      | @dict _ a ks ha hk =>
        walk_at "ev"
        simp only [Tz_dK ha]
        walk_at "ev"
        refine ⟨1, by decide, .inr ⟨a, a, ks, ks, rfl, rfl, ha, ha, rfl, fun p hp => ⟨p.2, (hk p hp).1, .inl ⟨rfl, (hk p hp).2⟩⟩⟩, ?_⟩
        exact .inr ⟨true, rfl, q⟩
      | @lst _ b a ys xs hb ha el hlen ht =>
        walk_at "ev"
        simp only [Tz_lst ha, Tz_lst hb, Sq_lst ha, Sq_lst hb]
        walk_at "ev"
        rw [if_neg (by rw [el]; simp)]
        refine ⟨by omega, by omega, lp_range (fun i σ H' => H' = H ∧ ∃ x, σ = [some (.ref b), some (.ref a), x]) ⟨rfl, _, rfl⟩ ?_ ?_⟩
        · rintro i σ H' hi ⟨rfl, x, rfl⟩
          have hi2 : i < xs.length := by omega
          have hi3 : i < ys.length := by omega
          walk_at "ev"
          simp only [Sq_lst ha, Sq_lst hb, Nt_int, atI_natE, List.getElem?_eq_getElem hi2, List.getElem?_eq_getElem hi3, Op_some]
          refine ⟨_, _, rfl, ht i _ _ (List.getElem?_eq_getElem hi3) (List.getElem?_eq_getElem hi2), ?_⟩
          walk_at "ev"
        · rintro σ H' ⟨rfl, x, rfl⟩
          exact q
      | @tup _ b a ys xs hb ha el hlen ht =>
        walk_at "ev"
        simp only [Tz_tup ha, Tz_tup hb, Sq_tup ha, Sq_tup hb]
        walk_at "ev"
        rw [if_neg (by rw [el]; simp)]
        refine ⟨by omega, by omega, lp_range (fun i σ H' => H' = H ∧ ∃ x, σ = [some (.ref b), some (.ref a), x]) ⟨rfl, _, rfl⟩ ?_ ?_⟩
        · rintro i σ H' hi ⟨rfl, x, rfl⟩
          have hi2 : i < xs.length := by omega
          have hi3 : i < ys.length := by omega
          walk_at "ev"
          simp only [Sq_tup ha, Sq_tup hb, Nt_int, atI_natE, List.getElem?_eq_getElem hi2, List.getElem?_eq_getElem hi3, Op_some]
          refine ⟨_, _, rfl, ht i _ _ (List.getElem?_eq_getElem hi3) (List.getElem?_eq_getElem hi2), ?_⟩
          walk_at "ev"
        · rintro σ H' ⟨rfl, x, rfl⟩
          exact q
end
end K32
namespace K32
open PySem PySem.Spec PyProof.Rows L2 Lw LamX
local macro_rules | `(tactic| walk_at "ev") => `(tactic| simp only [cxOf, tErrI, tErrSt, tKx, tMethX, tMkF, tMakeK, tMake, tDispF, tPairs, Kvs, okv_sizes, okv_line, okv_fresh, okv_kept, okv_fetched, okv_put, okv_fresh_, okv_line_, okv_fetched_, okv_put_, tNoS, tFldF, sFldF, sFldAugF, tMethF, Ix_upd, lk_eq, lk_ne, lk_nil, putF_nil, putF_eq, putF_ne, Str_lit, String.reduceEq, fsB, rListK, rDictD, rRevF, rLenD, rAllF, rSortF, rSortK, rLenI, tChain, Int.reduceMul, tPar3, tCallN, iKeysF, tLockE, tDisp1F, mergeK_one, tYes, iRng3, ex_ints, ex_any, tML, tML0, tMD, tTupN, tLstN, tDNewN, rSlL2, rCatF, rRepF, tRevF, rListF, rMaxF, tDGetF, tDGet1F, tDGet2F, tDPop1F, tDPop2F, sDPutF, tLenSetF, tSl, tPart, tNoPart, ipI, rIsiF, Tz_non, Tz_bl, Tz_int, Tz_str, Cl7_int, Cl7_bool, Cl7_str, Cl7_list, Cl7_tuple, Cl7_dict, T7.isa, iListF, iTupF, cpow12, cpow60, tFor_eq, tLc_eq, iRng1, iRng2, wipe, Cx.nox, Cx.wish, tSeq, tIfS, tTest, tOp, tVar, tC, tRet, tRetN, tCB, tCons, tNil, tB, tNot, tAnd, tOr, tAndV, tOrV, tNotV, tIf, rEq, rNe, scal_ii, scal_bb, scal_ss, scal_nn, scal_si, scal_is, scal_in, scal_ni, Bool.or_true, Bool.true_or, Bool.or_false, Bool.false_or, Bool.and_true, Bool.true_and, Bool.and_false, Bool.false_and, rI, rI0, rU, tUn, t2I, tAsg, gName, tPar, tDrop, tLst, tTup, tCall, tNext, tBreak, tCont, tAug, rAdd, gTup, gTupF, gCons, gNil, gSub, rIxF, rLenF, rSetF, rAppF, rExtF, rPop0, rRemF, rInF, rDUpd, Nt_int, Op_some, Ky_int, Ky_str,
  List.map_cons, List.map_nil, List.cons_append, List.nil_append, List.append_nil, List.getElem?_cons_zero, List.getElem?_cons_succ, List.set_cons_zero, List.set_cons_succ, List.length_cons, List.length_nil, Option.some.injEq, exists_eq_left', exists_eq_left, exists_eq_right, V.int.injEq, V.ref.injEq, V.bl.injEq, V.str.injEq, V.ty.injEq, List.cons.injEq, and_true, true_and, and_assoc, reduceCtorEq, decide_eq_true_eq, decide_true, decide_false, if_true, if_false, ite_true, ite_false, Bool.false_eq_true, false_and, and_false, exists_false, exists_const, or_false, false_or, Bool.not_eq_true', decide_eq_false_iff_not, List.replicate_succ, List.replicate_zero, Nat.reduceSub, Nat.reduceAdd, Int.reducePow, Int.reduceNeg, exists_and_left, exists_and_right, atI_0, atI_1, atI_2, ixN_0, ixN_1, ixN_2, L2.start, upd_upd, Sq_upd, Sq_updT, Tp_upd, Ls_upd, Dk_upd, Int.reduceLT, Int.reduceLE, Nat.reduceLT, Nat.reduceLeDiff, forall_eq', forall_eq, id, Int.zero_add, Bool.not_true, Bool.not_false, not_true_eq_false, not_false_eq_true, ne_eq])

section
variable {P : Program} {w : World} {K : PySem.W.Frag} {mg : Str → Option Value} {base : Heap} {C CE CL CC CW : Addr}
theorem tt_m2 {P1 P2 P3 : Addr} : (P2, q2) ∈ tt P1 P2 P3 := List.mem_cons_of_mem _ (List.mem_cons_self ..)
theorem tt_m3 {P1 P2 P3 : Addr} : (P3, q3) ∈ tt P1 P2 P3 := List.mem_cons_of_mem _ (List.mem_cons_of_mem _ (List.mem_cons_self ..))
theorem tt_u2 {c1 P1 c2 P2 c3 P3 : Addr} (t : TT base mg c1 P1 c2 P2 c3 P3) : ∀ p ∈ tt P1 P2 P3, p.1 = P2 → p.2 = q2 := fun p hp e => by
  rcases List.mem_cons.mp hp with rfl | hp
  · exact absurd e t.n12
  · rcases List.mem_cons.mp hp with rfl | hp
    · rfl
    · rcases List.mem_cons.mp hp with rfl | hp
      · exact absurd e.symm t.n23
      · cases hp
theorem tt_u3 {c1 P1 c2 P2 c3 P3 : Addr} (t : TT base mg c1 P1 c2 P2 c3 P3) : ∀ p ∈ tt P1 P2 P3, p.1 = P3 → p.2 = q3 := fun p hp e => by
  rcases List.mem_cons.mp hp with rfl | hp
  · exact absurd e t.n13
  · rcases List.mem_cons.mp hp with rfl | hp
    · exact absurd e t.n23
    · rcases List.mem_cons.mp hp with rfl | hp
      · rfl
      · cases hp
/-- all but the tables and what stands at j stays -/
def Kj (j : Addr) (H H' : Hp) : Prop := ∀ b o, b ≠ j → H b = some o → (∀ ps, o ≠ .tbl ps) → H' b = some o
theorem Kj.refl (j : Addr) (H : Hp) : Kj j H H := fun _ _ _ h _ => h
theorem Kj.trans {j : Addr} {H H1 H2 : Hp} (a : Kj j H H1) (b : Kj j H1 H2) : Kj j H H2 := fun c o n e h => b c o n (a c o n e h) h
theorem Kj.of {j : Addr} {H H1 : Hp} (e : ExtN H H1) : Kj j H H1 := fun b o _ h n => e b o h n
theorem Kj.same {j : Addr} {H H1 : Hp} (e : Same H H1) : Kj j H H1 := fun b o _ h _ => e b o h
theorem Kj.jar {j : Addr} {H H1 : Hp} (t : JarTo j H H1) : Kj j H H1 := fun b o n h _ => t.fr.1 b o n h
theorem tabs_jar {j : Addr} {T : List (Addr × Str)} {H H1 : Hp} (t : Tabs T H) (J : JarAt H j) (to : JarTo j H H1) : Tabs T H1 := fun p hp => by
  obtain ⟨ps, h1, h2, h3⟩ := t p hp
  obtain ⟨d, s, c, ej, _⟩ := J
  have f := to.fr.1
  refine ⟨ps, f _ _ (fun z => by rw [z, ej] at h1; cases h1) h1, h2, fun pos cv hc => ?_⟩
  obtain ⟨c', e1, e2⟩ := h3 pos cv hc
  exact ⟨c', e1, f _ _ (fun z => by rw [z, ej] at e2; cases e2) e2⟩
theorem jar_kj {j : Addr} {H H1 : Hp} (J : JarAt H j) (e : ExtN H H1) : JarAt H1 j := by
  obtain ⟨d, s, c, ej, hb⟩ := J
  exact ⟨d, s, c, e _ _ ej (fun ps z => by cases z), hb⟩
/-- what goes on in a law of ours: the jar is drawn from, tables grow, new things come -/
structure Go (j : Addr) (T : List (Addr × Str)) (H H' : Hp) : Prop where
  k : Kj j H H'
  J : JarAt H' j
  t : Tabs T H'
theorem Go.refl {j : Addr} {T : List (Addr × Str)} {H : Hp} (J : JarAt H j) (t : Tabs T H) : Go j T H H := ⟨Kj.refl _ _, J, t⟩
theorem Go.jar {j : Addr} {T : List (Addr × Str)} {H H1 H2 : Hp} (g : Go j T H H1) (t : JarTo j H1 H2) : Go j T H H2 := ⟨g.k.trans (Kj.jar t), t.fr.2, tabs_jar g.t g.J t⟩
theorem Go.ext {j : Addr} {T : List (Addr × Str)} {H H1 H2 : Hp} (g : Go j T H H1) (e : ExtN H1 H2) (t : Tabs T H2) : Go j T H H2 := ⟨g.k.trans (Kj.of e), jar_kj g.J e, t⟩
theorem Go.same {j : Addr} {T : List (Addr × Str)} {H H1 H2 : Hp} (g : Go j T H H1) (s : Same H1 H2) : Go j T H H2 := g.ext (ExtN.of s) (g.t.ext s)
theorem Go.trans {j : Addr} {T : List (Addr × Str)} {H H1 H2 : Hp} (a : Go j T H H1) (b : Go j T H1 H2) : Go j T H H2 := ⟨a.k.trans b.k, b.J, b.t⟩
theorem jar_ne {j a : Addr} {H : Hp} (J : JarAt H j) (h : H a = none) : a ≠ j := fun z => by
  obtain ⟨d, s, c, ej, _⟩ := J
  rw [z, ej] at h
  cases h
/-- one out of a list that is made for it -/
theorem one_new {j : Addr} {T : List (Addr × Str)} {H0 H : Hp} {xs : List V} {Q : VK} {E : XK} (g : Go j T H0 H) (h0 : xs ≠ []) (hl : xs.length < 1000) (q : ∀ v H', v ∈ xs → Go j T H H' → Q v H') : Nw H (.lst xs) fun p H1 => spOne K [.ref j, .ref p] H1 Q E :=
  Nw.intro fun p H1 c => by
    have g1 : Go j T H H1 := (Go.refl g.J g.t).same c.same
    exact ⟨j, p, xs, rfl, g1.J, jar_ne g.J c.new, c.it, h0, hl, fun i v H' hv t => q v H' (List.mem_of_getElem? hv) (g1.jar t)⟩
theorem Any.kj {j : Addr} {H H1 : Hp} {v : V} (h : Any H v) (e : Kj j H H1) (J : JarAt H1 j) : Any H1 v := by
  rcases h with h | ⟨t, ht, hk⟩
  · exact .inl h
  · have h0 : Tz H v fun _ => True := (hk _).mpr trivial
    unfold Tz at h0
    split at h0
    · exact .non
    · exact .bl _
    · exact .int _
    · exact .str _
    · rename_i p
      by_cases hj : p = j
      · subst hj
        obtain ⟨d, s, c, ej, _⟩ := J
        exact .lst ej
      · split at h0
        · rename_i q
          exact .lst (e _ _ hj q fun ps z => by cases z)
        · rename_i q
          exact .tup (e _ _ hj q fun ps z => by cases z)
        · rename_i q
          exact .dK (e _ _ hj q fun ps z => by cases z)
        · exact h0.elim
    · exact h0.elim
theorem Go.upd {j : Addr} {T : List (Addr × Str)} {H H1 : Hp} (g : Go j T H H1) {l : Addr} {xs ys : List V} (e : H1 l = some (.lst xs)) (n0 : ∀ o, H l = some o → ∃ ps, o = .tbl ps) (nj : l ≠ j) : Go j T H (upd H1 l (.lst ys)) := by
  refine ⟨fun b o hb h ht => ?_, ?_, fun p hp => ?_⟩
  · have nb : b ≠ l := fun z => by
      obtain ⟨ps, q⟩ := n0 o (by rw [← z]; exact h)
      exact ht ps q
    rw [upd_ne nb]
    exact g.k b o hb h ht
  · obtain ⟨d, s, c, ej, hb⟩ := g.J
    exact ⟨d, s, c, by rw [upd_ne (Ne.symm nj)]; exact ej, hb⟩
  · obtain ⟨ps, h1, h2, h3⟩ := g.t p hp
    refine ⟨ps, by rw [upd_ne (fun z => by rw [z, e] at h1; cases h1)]; exact h1, h2, fun pos cv hc => ?_⟩
    obtain ⟨c', e1, e2⟩ := h3 pos cv hc
    exact ⟨c', e1, by rw [upd_ne (fun z => by rw [z, e] at e2; cases e2)]; exact e2⟩
theorem Any.updL {H : Hp} {v : V} (h : Any H v) {l : Addr} {xs ys : List V} (e : H l = some (.lst xs)) : Any (upd H l (.lst ys)) v := by
  rcases h with h | ⟨t, ht, hk⟩
  · exact .inl h
  · have h0 : Tz H v fun _ => True := (hk _).mpr trivial
    unfold Tz at h0
    split at h0
    · exact .non
    · exact .bl _
    · exact .int _
    · exact .str _
    · rename_i p
      by_cases hj : p = l
      · subst hj
        exact .lst upd_same
      · split at h0
        · rename_i q
          exact .lst (by rw [upd_ne hj]; exact q)
        · rename_i q
          exact .tup (by rw [upd_ne hj]; exact q)
        · rename_i q
          exact .dK (by rw [upd_ne hj]; exact q)
        · exact h0.elim
    · exact h0.elim
def flat4 : V → Bool
  | .non => true | .bl _ => true | .int _ => true | .str _ => true
  | _ => false
theorem Eq2.flat {H : Hp} {n : Nat} {x : V} (h : flat4 x = true) : Eq2 H (n + 1) x x := by
  cases x with
  | non => exact .non n
  | bl b => exact .bl n b
  | int i => exact .int n i
  | str x => exact .str n x
  | _ => cases h
theorem Eq2.tupF {H : Hp} {n : Nat} {a b : Addr} {xs : List V} (h1 : H a = some (.tup xs)) (h2 : H b = some (.tup xs)) (h : xs.all flat4 = true) (hl : xs.length ≤ 1000000) : Eq2 H (n + 2) (.ref a) (.ref b) :=
  .tup h1 h2 rfl hl fun i x y e1 e2 => by
    rw [e1] at e2
    cases e2
    exact Eq2.flat (List.all_eq_true.mp h x (List.mem_of_getElem? e1))
theorem cpow30 : CPow 10 30 := ⟨by decide, by decide, by decide⟩
def tb (w : Int) (k : Nat) : Prop := w / ([1, 2, 4] : List Int).getD k 1 % 2 = 1
instance (w : Int) (k : Nat) : Decidable (tb w k) := by unfold tb; infer_instance
theorem tb_some : ∀ i : Nat, i < 7 → tb (1 + (i : Int)) 0 ∨ tb (1 + (i : Int)) 1 ∨ tb (1 + (i : Int)) 2 := by decide
def loB : Nat → Int
  | 0 => 0
  | _ => 1
def hiB : Nat → Int
  | 0 => 20000
  | _ => 64
def nmz : Nat → String
  | 0 => "size"
  | 1 => "block"
  | _ => "within"
def fstB (w : Int) : Nat := if tb w 0 then 0 else if tb w 1 then 1 else 2
theorem fst_list (w : Int) (h : tb w 0 ∨ tb w 1 ∨ tb w 2) : ∃ r, (List.range 3).filter (fun k => decide (tb w k)) = fstB w :: r := by
  have e : List.range 3 = [0, 1, 2] := rfl
  rw [e]
  unfold fstB
  by_cases h0 : tb w 0
  · exact ⟨_, by rw [List.filter_cons, if_pos (decide_eq_true h0), if_pos h0]⟩
  · rw [List.filter_cons, if_neg (by simpa using h0), if_neg h0]
    by_cases h1 : tb w 1
    · exact ⟨_, by rw [List.filter_cons, if_pos (decide_eq_true h1), if_pos h1]⟩
    · rw [List.filter_cons, if_neg (by simpa using h1), if_neg h1]
      have h2 : tb w 2 := by
        rcases h with z | z | z
        · exact absurd z h0
        · exact absurd z h1
        · exact z
      exact ⟨_, by rw [List.filter_cons, if_pos (decide_eq_true h2)]⟩
theorem sz_first {w : Int} {u : Nat → V} (h : tb w 0 ∨ tb w 1 ∨ tb w 2) (hu : ∀ m, m < 3 → isInt (u m) (loB m) (hiB m) = !decide (tb w m)) : szBad (u 0) (u 1) (u 2) = some (nmz (fstB w)) := by
  have h0 := hu 0 (by decide)
  have h1 := hu 1 (by decide)
  have h2 := hu 2 (by decide)
  unfold szBad fstB
  have h0 : isInt (u 0) 0 20000 = !decide (tb w 0) := h0
  have h1 : isInt (u 1) 1 64 = !decide (tb w 1) := h1
  have h2 : isInt (u 2) 1 64 = !decide (tb w 2) := h2
  rw [h0, h1, h2]
  by_cases c0 : tb w 0
  · rw [if_pos (by simp [c0]), if_pos c0]
    rfl
  · rw [if_neg (by simp [c0]), if_neg c0]
    by_cases c1 : tb w 1
    · rw [if_pos (by simp [c1]), if_pos c1]
      rfl
    · rw [if_neg (by simp [c1]), if_neg c1]
      have c2 : tb w 2 := by
        rcases h with z | z | z
        · exact absurd z c0
        · exact absurd z c1
        · exact z
      rw [if_pos (by simp [c2])]
      rfl
theorem fstB_lt (w : Int) : fstB w < 3 := by
  unfold fstB
  split
  · decide
  · split <;> decide
abbrev oddS (p : Addr) : List V := [.int (-1), .int 20001, .bl true, .non, .str "9", .ref p, .int (10 ^ Int.toNat 30)]
abbrev oddF (p : Addr) : List V := [.int 0, .int 65, .int (-1), .bl true, .non, .str "4", .ref p, .int (10 ^ Int.toNat 30)]
theorem oddS_not {p : Addr} {v : V} (h : v ∈ oddS p) : isInt v 0 20000 = false := by
  simp only [oddS, List.mem_cons, List.not_mem_nil, or_false] at h
  rcases h with rfl | rfl | rfl | rfl | rfl | rfl | rfl <;> first | decide | rfl
theorem oddF_not {p : Addr} {v : V} (h : v ∈ oddF p) : isInt v 1 64 = false := by
  simp only [oddF, List.mem_cons, List.not_mem_nil, or_false] at h
  rcases h with rfl | rfl | rfl | rfl | rfl | rfl | rfl | rfl <;> first | decide | rfl
theorem oddS_any {H : Hp} {p : Addr} {xs : List V} (hp : H p = some (.tup xs)) {v : V} (h : v ∈ oddS p) : Any H v := by
  simp only [oddS, List.mem_cons, List.not_mem_nil, or_false] at h
  rcases h with rfl | rfl | rfl | rfl | rfl | rfl | rfl
  · exact .int _
  · exact .int _
  · exact .bl _
  · exact .non
  · exact .str _
  · exact .tup hp
  · exact .int _
theorem oddF_any {H : Hp} {p : Addr} {xs : List V} (hp : H p = some (.lst xs)) {v : V} (h : v ∈ oddF p) : Any H v := by
  simp only [oddF, List.mem_cons, List.not_mem_nil, or_false] at h
  rcases h with rfl | rfl | rfl | rfl | rfl | rfl | rfl | rfl
  · exact .int _
  · exact .int _
  · exact .int _
  · exact .bl _
  · exact .non
  · exact .str _
  · exact .lst hp
  · exact .int _
theorem good3 {v : V} {a b c lo hi : Int} (h : v ∈ [V.int a, .int b, .int c]) (ha : lo ≤ a ∧ a ≤ hi) (hb : lo ≤ b ∧ b ≤ hi) (hc : lo ≤ c ∧ c ≤ hi) : isInt v lo hi = true ∧ ∃ i, v = .int i := by
  simp only [List.mem_cons, List.not_mem_nil, or_false] at h
  rcases h with rfl | rfl | rfl
  · exact ⟨decide_eq_true ha, _, rfl⟩
  · exact ⟨decide_eq_true hb, _, rfl⟩
  · exact ⟨decide_eq_true hc, _, rfl⟩
def spDoors (P1 P2 P3 : Addr) : Sp := fun vs H Q _ => ∃ j, vs = [.ref j] ∧ JarAt H j ∧ Tabs (tt P1 P2 P3) H ∧ ∀ H', Kj j H H' → JarAt H' j → Tabs (tt P1 P2 P3) H' → Q (.bl true) H'
theorem scSrDoors : FnScope ["jar", "sizes_odd", "few_odd", "wrong", "some", "k", "at", "owed", "verb", "store", "odd"] ["jar"] (defScope sSrDoors) := ⟨rfl, rfl, rfl, by decide +kernel, rfl, by decide +kernel, by decide +kernel⟩
theorem ok_sr_doors {c1 P1 c2 P2 c3 P3 : Addr} (F : Def1L K mg "_law_sr_doors_right" sSrDoors c2) (T : Tb K mg C) (t3 : TT base mg c1 P1 c2 P2 c3 P3) (c_yq_same : Kn P w K mg base "_law_yq_same" ["heard_one", "owed"] 6 (spSame2 4)) (c_one : Kn P w K mg base "_law_one" ["jar", "things"] 2 (spOne K)) (c_heard : KnA P w K mg base "_law_sr_heard" ["deed"] 8 7 (spHeard CL CC CW))
    (c_sr_made : Kn P w K mg base "_law_sr_made" ["size", "width", "most_in"] 9 (spMade C P1 P2 P3)) (m_sizes : KnM P w K mg base C "sizes" ["self"] 1 (spSizes C))
    (m_Blocks : MkDX P w K mg base "Blocks" C ["self", "size", "block", "within"] [.int 4, .int 4] 5 (spInitX C CL)) : Kn P w K mg base "_law_sr_doors_right" ["jar"] 10 (spDoors P1 P2 P3) := by
  refine kn_ofL F scSrDoors (fun vs H Q E h => ?_) (fun _ _ _ _ _ _ us hl => match us, hl with | [_], _ => rfl) (fun f A outer s H vs Q E hr h => ?_)
  · obtain ⟨j, rfl, _⟩ := h
    rfl
  · obtain ⟨j, rfl, J, hT, q⟩ := h
    refine ⟨_, (pss_cons (ps_par (i := 1) (j := 2) (by rfl) scSrDoors.nd rfl rfl (by decide) rfl rfl (pa_cons (pe_lstN (pa_cons (pe_un un_neg pe_int) (pa_cons pe_int (pa_cons pe_bl (pa_cons pe_non (pa_cons pe_str (pa_cons (pe_tupN (pa_cons pe_int pa_nil)) (pa_cons (pe_op op_pow pe_int pe_int) pa_nil)))))))) (pa_cons (pe_lstN (pa_cons pe_int (pa_cons pe_int (pa_cons (pe_un un_neg pe_int) (pa_cons pe_bl (pa_cons pe_non (pa_cons pe_str (pa_cons (pe_lstN (pa_cons pe_int pa_nil)) (pa_cons (pe_op op_pow pe_int pe_int) pa_nil))))))))) pa_nil)) (by rfl))
      (pss_cons (ps_for PassesOwn.never rfl (pi_range2 (by rfl) T.range (pa_cons pe_int (pa_cons pe_int pa_nil))) (pg_name (i := 3) scSrDoors.nd rfl (Or.inr rfl)) (pss_cons (ps_set (i := 4) scSrDoors.nd rfl (Or.inl rfl) (pe_lstN (pa_cons (pe_kn c_one (hr.mono (by decide)) (by rfl) (pa_cons (pv 0) (pa_cons (pe_lstN (pa_cons pe_int (pa_cons pe_int (pa_cons pe_int pa_nil)))) pa_nil))) (pa_cons (pe_kn c_one (hr.mono (by decide)) (by rfl) (pa_cons (pv 0) (pa_cons (pe_lstN (pa_cons pe_int (pa_cons pe_int (pa_cons pe_int pa_nil)))) pa_nil))) (pa_cons (pe_kn c_one (hr.mono (by decide)) (by rfl) (pa_cons (pv 0) (pa_cons (pe_lstN (pa_cons pe_int (pa_cons pe_int (pa_cons pe_int pa_nil)))) pa_nil))) pa_nil)))))
      (pss_cons (ps_for PassesOwn.never rfl (pi_range1 (by rfl) T.range (pa_cons pe_int pa_nil)) (pg_name (i := 5) scSrDoors.nd rfl (Or.inl rfl)) (pss_one (ps_asg (pe_ifExp (pt_cmpR op_eq (pe_op op_mod (pe_op op_fdivW (pv 3) (pe_ix ix_f (pe_lstN (pa_cons pe_int (pa_cons pe_int (pa_cons pe_int pa_nil)))) (pv 5) (fun _ _ => rfl))) pe_int) pe_int (nomark _)) (pe_kn c_one (hr.mono (by decide)) (by rfl) (pa_cons (pv 0) (pa_cons (pe_ifExp (pt_cmpR op_eq (pv 5) pe_int (nomark _)) (pv 1) (pv 2)) pa_nil))) (pe_ix ix_f (pv 4) (pv 5) (fun _ _ => rfl))) (pg_sub (pv 4) (pv 5) set_f))))
      (pss_cons (ps_set (i := 6) scSrDoors.nd rfl (Or.inl rfl) (pe_ix ix_f (pe_lc (own := [("k", 5)]) (by rfl) scSrDoors.nd (pi_range1 (by rfl) T.range (pa_cons pe_int pa_nil)) (blkOk_by (N := ["jar", "sizes_odd", "few_odd", "wrong", "some", "k", "at", "owed", "verb", "store", "odd"]) (sc := defScope sSrDoors) (by decide +kernel)) (fun _ _ _ _ _ => (pg_name (i := 5) scSrDoors.nd rfl (Or.inl rfl))) (fun _ _ _ _ _ => (pts_one (pt_cmpR op_eq (pe_op op_mod (pe_op op_fdivW (pv 3) (pe_ix ix_f (pe_lstN (pa_cons pe_int (pa_cons pe_int (pa_cons pe_int pa_nil)))) (pv 5) (fun _ _ => rfl))) pe_int) pe_int (nomark _)))) (fun _ _ _ _ _ => (pv 5))) pe_int (fun _ _ => rfl)))
      (pss_cons (ps_set (i := 7) scSrDoors.nd rfl (Or.inl rfl) (pe_tupN (pa_cons pe_str (pa_cons (pe_ix ix_f (pe_lstN (pa_cons pe_str (pa_cons pe_str (pa_cons pe_str pa_nil)))) (pv 6) (fun _ _ => rfl)) (pa_cons pe_bl (pa_cons pe_bl pa_nil))))))
      (pss_one (ps_if (pt_not (pt_val (pe_kn c_yq_same (hr.mono (by decide)) (by rfl) (pa_cons (pe_kn c_sr_made (hr.mono (by decide)) (by rfl) (pa_cons (pe_ix ix_f (pv 4) pe_int (fun _ _ => rfl)) (pa_cons (pe_ix ix_f (pv 4) pe_int (fun _ _ => rfl)) (pa_cons (pe_ix ix_f (pv 4) pe_int (fun _ _ => rfl)) pa_nil)))) (pa_cons (pv 7) pa_nil))))) (pss_one (ps_ret pe_bl)) pss_nil)))))))
      (pss_cons (ps_for PassesOwn.never rfl (pi_listF (pe_lstN (pa_cons (pe_tupN (pa_cons pe_int (pa_cons pe_int (pa_cons pe_int pa_nil)))) (pa_cons (pe_tupN (pa_cons pe_int (pa_cons pe_int (pa_cons pe_int pa_nil)))) (pa_cons (pe_tupN (pa_cons pe_int (pa_cons pe_int (pa_cons pe_int pa_nil)))) (pa_cons (pe_tupN (pa_cons pe_int (pa_cons pe_int (pa_cons pe_int pa_nil)))) pa_nil)))))) (pg_name (i := 4) scSrDoors.nd rfl (Or.inl rfl)) (pss_cons (ps_asg (pe_kn c_sr_made (hr.mono (by decide)) (by rfl) (pa_cons (pe_ix ix_f (pv 4) pe_int (fun _ _ => rfl)) (pa_cons (pe_ix ix_f (pv 4) pe_int (fun _ _ => rfl)) (pa_cons (pe_ix ix_f (pv 4) pe_int (fun _ _ => rfl)) pa_nil)))) (pg_tupF 2 (by rfl) (pgs_cons (pg_name (i := 8) scSrDoors.nd rfl (Or.inl rfl)) (pgs_cons (pg_name (i := 9) scSrDoors.nd rfl (Or.inl rfl)) pgs_nil))))
      (pss_one (ps_if (PW.pt (pw_or (pt_cmpR op_ne (pv 8) pe_str (nomark _)) (pw_or1 (pt_not (pt_val (pe_kn c_yq_same (hr.mono (by decide)) (by rfl) (pa_cons (pe_km0 m_sizes T.cl (hr.mono (by decide)) (pv 9)) (pa_cons (pv 4) pa_nil)))))))) (pss_one (ps_ret pe_bl)) pss_nil))))
      (pss_cons (ps_set (i := 10) scSrDoors.nd rfl (Or.inr rfl) (pe_kn c_one (hr.mono (by decide)) (by rfl) (pa_cons (pv 0) (pa_cons (pv 1) pa_nil))))
      (pss_one (ps_ret (pe_kn c_yq_same (hr.mono (by decide)) (by rfl) (pa_cons (pe_knA c_heard (hr.mono (by decide)) (by rfl) (pa_cons (pe_lamV (k := 6) (T := tt P1 P2 P3) t3.b2 rfl tt_m2 (tt_u2 t3) (lamS_by (sc := defScope sSrDoors) (by decide +kernel)) rfl (fun _ _ _ _ _ => rfl) (fun A outer s H E f c' hr => (pe_mkDX m_Blocks hr (by rfl) takes_lam (pa_cons (pv 10) pa_nil)))) pa_nil)) (pa_cons (pe_tupN (pa_cons pe_str (pa_cons pe_str (pa_cons pe_bl (pa_cons pe_bl pa_nil))))) pa_nil))))))))), ?_⟩
    walk_at "ev"
    refine ⟨by decide, Nw.intro fun p9 H1 c1 => ⟨cpow30, by decide, Nw.intro fun a1 H2 c2 => ⟨by decide, Nw.intro fun p4 H3 c3 => ⟨cpow30, by decide, Nw.intro fun a2 H0 c4 => ?_⟩⟩⟩⟩
    have g0 : Go j (tt P1 P2 P3) H H0 := ((((Go.refl J hT).same c1.same).same c2.same).same c3.same).same c4.same
    have e9 : H0 p9 = some (.tup [.int 9]) := c4.same _ _ (c3.same _ _ (c2.same _ _ c1.it))
    have ea1 : H0 a1 = some (.lst (oddS p9)) := c4.same _ _ (c3.same _ _ c2.it)
    have e4 : H0 p4 = some (.lst [.int 4]) := c4.same _ _ c3.it
    have ea2 : H0 a2 = some (.lst (oddF p4)) := c4.it
    have n9 : p9 ≠ j := jar_ne J c1.new
    have n1 : a1 ≠ j := jar_ne ((Go.refl J hT).same c1.same).J c2.new
    have n4 : p4 ≠ j := jar_ne (((Go.refl J hT).same c1.same).same c2.same).J c3.new
    have n2 : a2 ≠ j := jar_ne ((((Go.refl J hT).same c1.same).same c2.same).same c3.same).J c4.new
    have kp : ∀ {b : Addr} {o : HO} {H' : Hp}, Go j (tt P1 P2 P3) H0 H' → b ≠ j → H0 b = some o → (∀ ps, o ≠ .tbl ps) → H' b = some o := fun g n e h => g.k _ _ n e h
    refine lp_range (fun i σ H' => Go j (tt P1 P2 P3) H0 H' ∧ ∃ x3 x4 x5 x6 x7 x8 x9 x10, σ = [some (.ref j), some (.ref a1), some (.ref a2), x3, x4, x5, x6, x7, x8, x9, x10]) ⟨Go.refl g0.J g0.t, _, _, _, _, _, _, _, _, rfl⟩ ?_ ?_
    · rintro i σ H' hi ⟨g1, x3, x4, x5, x6, x7, x8, x9, x10, rfl⟩
      have hi7 : i < 7 := hi
      walk_at "ev"
      refine ⟨by decide, one_new g1 (by simp) (by decide) fun v0 K1 m0 k1 => ?_⟩
      refine ⟨by decide, one_new (g1.trans k1) (by simp) (by decide) fun v1 K2 m1 k2 => ?_⟩
      refine ⟨by decide, one_new ((g1.trans k1).trans k2) (by simp) (by decide) fun v2 K3 m2 k3 => ?_⟩
      refine ⟨by decide, Nw.intro fun ls H5 c5 => ?_⟩
      have g5 : Go j (tt P1 P2 P3) H0 H5 := (((g1.trans k1).trans k2).trans k3).same c5.same
      have nls : ls ≠ j := jar_ne k3.J c5.new
      have n0ls : ∀ o, H0 ls = some o → ∃ ps, o = .tbl ps := fun o e => by
        by_cases it : ∃ ps, o = .tbl ps
        · exact it
        · have := kp (((g1.trans k1).trans k2).trans k3) nls e fun ps z => it ⟨ps, z⟩
          rw [c5.new] at this
          cases this
      have nla1 : ls ≠ a1 := fun z => by
        have := kp (((g1.trans k1).trans k2).trans k3) n1 ea1 (fun ps z => by cases z)
        rw [← z, c5.new] at this
        cases this
      have nla2 : ls ≠ a2 := fun z => by
        have := kp (((g1.trans k1).trans k2).trans k3) n2 ea2 (fun ps z => by cases z)
        rw [← z, c5.new] at this
        cases this
      have nl9 : ls ≠ p9 := fun z => by
        have := kp (((g1.trans k1).trans k2).trans k3) n9 e9 (fun ps z => by cases z)
        rw [← z, c5.new] at this
        cases this
      have nl4 : ls ≠ p4 := fun z => by
        have := kp (((g1.trans k1).trans k2).trans k3) n4 e4 (fun ps z => by cases z)
        rw [← z, c5.new] at this
        cases this
      have hw3 : tb (1 + (i : Int)) 0 ∨ tb (1 + (i : Int)) 1 ∨ tb (1 + (i : Int)) 2 := tb_some i hi7
      generalize hw : (1 : Int) + (i : Int) = wr at *
      refine lp_range (fun k σ H' => Go j (tt P1 P2 P3) H0 H' ∧ ∃ (u : Nat → V) (x5 : Option V), H' ls = some (.lst [u 0, u 1, u 2]) ∧ (∀ m, m < 3 → Any H' (u m)) ∧ (∀ m, m < 3 → isInt (u m) (loB m) (hiB m) = (if m < k then !decide (tb wr m) else true)) ∧ σ = [some (.ref j), some (.ref a1), some (.ref a2), some (.int wr), some (.ref ls), x5, x6, x7, x8, x9, x10]) ?_ ?_ ?_
      · obtain ⟨q0, i0, rfl⟩ := good3 (lo := 0) (hi := 20000) m0 (by decide) (by decide) (by decide)
        obtain ⟨q1, i1, rfl⟩ := good3 (lo := 1) (hi := 64) m1 (by decide) (by decide) (by decide)
        obtain ⟨q2, i2, rfl⟩ := good3 (lo := 1) (hi := 64) m2 (by decide) (by decide) (by decide)
        refine ⟨g5, fun m => match m with | 0 => .int i0 | 1 => .int i1 | _ => .int i2, _, c5.it, fun m hm => ?_, fun m hm => ?_, rfl⟩
        · match m, hm with
          | 0, _ => exact .int _
          | 1, _ => exact .int _
          | 2, _ => exact .int _
        · rw [if_neg (Nat.not_lt_zero _)]
          match m, hm with
          | 0, _ => exact q0
          | 1, _ => exact q1
          | 2, _ => exact q2
      · rintro k σ H' hk ⟨g6, u, x5, els, hany, hbits, rfl⟩
        have hk3 : k < 3 := hk
        walk_at "ev"
        refine ⟨by decide, Nw.intro fun lp1 H7 c7 => ?_⟩
        have g7 := g6.same c7.same
        simp only [Sq_lst c7.it]
        have eat : atI [V.int 1, V.int 2, V.int 4] (k : Int) = some (.int (([1, 2, 4] : List Int).getD k 1)) := by
          match k, hk3 with
          | 0, _ => rfl
          | 1, _ => rfl
          | 2, _ => rfl
        have epos : 0 < ([1, 2, 4] : List Int).getD k 1 ∧ ([1, 2, 4] : List Int).getD k 1 < 8 := by
          match k, hk3 with
          | 0, _ => decide
          | 1, _ => decide
          | 2, _ => decide
        simp only [Int.zero_add, eat]
        walk_at "ev"
        refine ⟨⟨epos.1, Nat.lt_of_lt_of_le (PySem.Flt.log2_lt_of (k := 3) (by decide) (by omega)) (by decide)⟩, ?_⟩
        have els7 := c7.same _ _ els
        have fin : ∀ (v : V) (H8 : Hp), Go j (tt P1 P2 P3) H0 H8 → H8 ls = some (.lst [u 0, u 1, u 2]) → Any H8 v → (∀ m, m < 3 → Any H8 (u m)) → isInt v (loB k) (hiB k) = !decide (tb wr k) →
            Ls H8 (V.ref ls) fun p xs => Op (ixN xs.length (k : Int)) fun j_1 => Go j (tt P1 P2 P3) H0 (upd H8 p (HO.lst (xs.set j_1 v))) ∧ ∃ u' : Nat → V, upd H8 p (HO.lst (xs.set j_1 v)) ls = some (HO.lst [u' 0, u' 1, u' 2]) ∧ (∀ m, m < 3 → Any (upd H8 p (HO.lst (xs.set j_1 v))) (u' m)) ∧ ∀ m, m < 3 → isInt (u' m) (loB m) (hiB m) = if m < k + 1 then !decide (tb wr m) else true := by
          intro v H8 g8 e8 hv8 hu8 hb8
          simp only [Ls_lst e8]
          rw [show (([u 0, u 1, u 2] : List V).length) = 3 from rfl, ixN_nat hk3]
          refine ⟨g8.upd e8 n0ls nls, fun m => if m = k then v else u m, ?_, fun m hm => ?_, fun m hm => ?_⟩
          · rw [upd_same]
            match k, hk3 with
            | 0, _ => rfl
            | 1, _ => rfl
            | 2, _ => rfl
          · by_cases e : m = k
            · simp only [e, if_true]
              exact hv8.updL e8
            · simp only [e, if_false]
              exact (hu8 m hm).updL e8
          · by_cases e : m = k
            · subst e
              simp only [if_true]
              rw [if_pos (Nat.lt_succ_self m)]
              exact hb8
            · simp only [e, if_false]
              rw [hbits m hm]
              by_cases l : m < k
              · rw [if_pos l, if_pos (by omega)]
              · rw [if_neg l, if_neg (by omega)]
        have ea1' := kp g7 n1 ea1 fun ps z => by cases z
        have ea2' := kp g7 n2 ea2 fun ps z => by cases z
        have hany7 : ∀ m, m < 3 → Any H7 (u m) := fun m hm => (hany m hm).same c7.same
        by_cases hb : tb wr k
        · rw [if_pos (show wr / ([1, 2, 4] : List Int).getD k 1 % 2 = 1 from hb)]
          match k, hk3, hb, fin with
          | 0, _, hb, fin =>
            rw [if_pos (show ((0 : Nat) : Int) = 0 from rfl)]
            refine ⟨j, a1, oddS p9, rfl, g7.J, n1, ea1', by simp, (by show 7 < 1000; decide), fun i2 v H8 hv to => ?_⟩
            have g8 := g7.jar to
            have hm := List.mem_of_getElem? hv
            refine fin v H8 g8 (by rw [to.fr.1 _ _ nls els7]) (oddS_any (kp g8 n9 e9 fun ps z => by cases z) hm) (fun m hm => (hany7 m hm).kj (Kj.jar to) g8.J) ?_
            rw [decide_eq_true hb]
            exact oddS_not hm
          | 1, _, hb, fin =>
            rw [if_neg (by decide)]
            refine ⟨j, a2, oddF p4, rfl, g7.J, n2, ea2', by simp, (by show 8 < 1000; decide), fun i2 v H8 hv to => ?_⟩
            have g8 := g7.jar to
            have hm := List.mem_of_getElem? hv
            refine fin v H8 g8 (by rw [to.fr.1 _ _ nls els7]) (oddF_any (kp g8 n4 e4 fun ps z => by cases z) hm) (fun m hm => (hany7 m hm).kj (Kj.jar to) g8.J) ?_
            rw [decide_eq_true hb]
            exact oddF_not hm
          | 2, _, hb, fin =>
            rw [if_neg (by decide)]
            refine ⟨j, a2, oddF p4, rfl, g7.J, n2, ea2', by simp, (by show 8 < 1000; decide), fun i2 v H8 hv to => ?_⟩
            have g8 := g7.jar to
            have hm := List.mem_of_getElem? hv
            refine fin v H8 g8 (by rw [to.fr.1 _ _ nls els7]) (oddF_any (kp g8 n4 e4 fun ps z => by cases z) hm) (fun m hm => (hany7 m hm).kj (Kj.jar to) g8.J) ?_
            rw [decide_eq_true hb]
            exact oddF_not hm
        · rw [if_neg (show ¬ wr / ([1, 2, 4] : List Int).getD k 1 % 2 = 1 from hb)]
          have ev : atI [u 0, u 1, u 2] (k : Int) = some (u k) := by
            match k, hk3 with
            | 0, _ => rfl
            | 1, _ => rfl
            | 2, _ => rfl
          simp only [Sq_lst els7, ev, Op_some]
          refine fin (u k) H7 g7 els7 (hany7 k hk3) hany7 ?_
          rw [hbits k hk3, if_neg (Nat.lt_irrefl k), decide_eq_false hb]
          rfl
      · rintro σ H' ⟨g6, u, x5, els, hany, hbits, rfl⟩
        have hbits : ∀ m, m < 3 → isInt (u m) (loB m) (hiB m) = !decide (tb wr m) := fun m hm => by
          rw [hbits m hm]
          exact if_pos hm
        walk_at "ev"
        have sN : ∀ {D : Addr}, H' D = none → D ≠ ls := fun h z => by
          rw [z, els] at h
          cases h
        refine lcp_range (fun D k H9 => Go j (tt P1 P2 P3) H0 H9 ∧ Same H' H9 ∧ H9 D = some (.lst (((List.range k).filter fun m => decide (tb wr m)).map fun m : Nat => V.int (m : Int)))) ?_ ?_ ?_
        · exact fun D hD => ⟨g6.same (newf hD rfl).1, (newf hD rfl).1, upd_same⟩
        · rintro D k H9 hD hk ⟨g9, s9, eD⟩
          have hk3 : k < 3 := hk
          walk_at "ev"
          refine ⟨by decide, Nw.intro fun lp1 H7 c7 => ?_⟩
          simp only [Sq_lst c7.it]
          have eat : atI [V.int 1, V.int 2, V.int 4] (k : Int) = some (.int (([1, 2, 4] : List Int).getD k 1)) := by
            match k, hk3 with
            | 0, _ => rfl
            | 1, _ => rfl
            | 2, _ => rfl
          have epos : 0 < ([1, 2, 4] : List Int).getD k 1 ∧ ([1, 2, 4] : List Int).getD k 1 < 8 := by
            match k, hk3 with
            | 0, _ => decide
            | 1, _ => decide
            | 2, _ => decide
          simp only [Int.zero_add, eat]
          walk_at "ev"
          refine ⟨⟨epos.1, Nat.lt_of_lt_of_le (PySem.Flt.log2_lt_of (k := 3) (by decide) (by omega)) (by decide)⟩, ?_⟩
          have eD7 := c7.same _ _ eD
          by_cases hb : tb wr k
          · rw [if_pos (show wr / ([1, 2, 4] : List Int).getD k 1 % 2 = 1 from hb)]
            have len : ((((List.range k).filter fun m => decide (tb wr m)).map fun m : Nat => V.int (m : Int))).length < sizeLine := by
              rw [List.length_map]
              have := List.length_filter_le (fun m => decide (tb wr m)) (List.range k)
              rw [List.length_range] at this
              exact Nat.lt_of_le_of_lt this (Nat.lt_trans hk3 (by decide))
            have sD := same_chg (l := D) (o := .lst ((((List.range k).filter fun m => decide (tb wr m)).map fun m : Nat => V.int (m : Int)) ++ [V.int (k : Int)])) (s9.trans c7.same) fun b o h => ne_of_none h hD
            refine ⟨_, eD7, len, ?_, sD, ?_⟩
            · refine (g9.same c7.same).upd eD7 (fun o e => ?_) (jar_ne g6.J hD)
              by_cases it : ∃ ps, o = .tbl ps
              · exact it
              · have := kp g6 (jar_ne g6.J hD) e fun ps z => it ⟨ps, z⟩
                rw [hD] at this
                cases this
            · rw [upd_same, List.range_succ, List.filter_append, List.map_append]
              simp [hb]
          · rw [if_neg (show ¬ wr / ([1, 2, 4] : List Int).getD k 1 % 2 = 1 from hb)]
            refine ⟨g9.same c7.same, s9.trans c7.same, ?_⟩
            rw [eD7, List.range_succ, List.filter_append]
            simp [hb]
        · rintro D H9 hD ⟨g9, s9, eD⟩
          obtain ⟨r, er⟩ := fst_list wr hw3
          have eD : H9 D = some (.lst (.int (fstB wr : Int) :: r.map fun m : Nat => V.int (m : Int))) := by
            rw [eD, show Int.toNat 3 = 3 from rfl, er]
            rfl
          simp only [Sq_lst eD]
          walk_at "ev"
          refine ⟨by decide, Nw.intro fun pn H10 c10 => ?_⟩
          have en : atI [V.str (Str.ofString "size"), V.str (Str.ofString "block"), V.str (Str.ofString "within")] (fstB wr : Int) = some (.str (Str.ofString (nmz (fstB wr)))) := by
            have := fstB_lt wr
            generalize fstB wr = m at *
            match m, this with
            | 0, _ => rfl
            | 1, _ => rfl
            | 2, _ => rfl
          simp only [Sq_lst c10.it, en]
          walk_at "ev"
          refine ⟨by decide, Nw.intro fun ow H11 c11 => ?_⟩
          have s11 : Same H' H11 := (s9.trans c10.same).trans c11.same
          have g11 : Go j (tt P1 P2 P3) H0 H11 := (g9.same c10.same).same c11.same
          simp only [Sq_lst (s11 _ _ els)]
          walk_at "ev"
          refine ⟨u 0, u 1, u 2, rfl, (hany 0 (by decide)).same s11, (hany 1 (by decide)).same s11, (hany 2 (by decide)).same s11, g11.t, fun z hz p H12 e12 t12 ep => ?_, fun sz bl wi e0 e1 e2 a1 a2 a3 a4 a5 a6 a7 a8 => ?_⟩
          · rw [sz_first hw3 hbits] at hz
            cases hz
            refine ⟨_, _, rfl, Eq2.tupF ep (e12 _ _ c11.it fun ps z => by cases z) rfl (by show 4 ≤ 1000000; decide), true, rfl, ?_⟩
            rw [if_neg (by decide)]
            exact g11.ext e12 t12
          · exfalso
            have h0 := hbits 0 (by decide)
            have h1 := hbits 1 (by decide)
            have h2 := hbits 2 (by decide)
            rw [e0, show isInt (V.int (sz : Int)) (loB 0) (hiB 0) = true from decide_eq_true (by show 0 ≤ (sz : Int) ∧ (sz : Int) ≤ 20000; omega)] at h0
            rw [e1, show isInt (V.int (bl : Int)) (loB 1) (hiB 1) = true from decide_eq_true (by show 1 ≤ (bl : Int) ∧ (bl : Int) ≤ 64; omega)] at h1
            rw [e2, show isInt (V.int (wi : Int)) (loB 2) (hiB 2) = true from decide_eq_true (by show 1 ≤ (wi : Int) ∧ (wi : Int) ≤ 64; omega)] at h2
            rcases hw3 with z | z | z
            · rw [decide_eq_true z] at h0
              cases h0
            · rw [decide_eq_true z] at h1
              cases h1
            · rw [decide_eq_true z] at h2
              cases h2
    · rintro σ H' ⟨g1, x3, x4, x5, x6, x7, x8, x9, x10, rfl⟩
      walk_at "ev"
      refine ⟨by decide, Nw.intro fun t1 B1 b1 => ⟨by decide, Nw.intro fun t2 B2 b2 => ⟨by decide, Nw.intro fun t3' B3 b3 => ⟨by decide, Nw.intro fun t4 B4 b4 => ⟨by decide, Nw.intro fun lt B5 b5 => ?_⟩⟩⟩⟩⟩
      simp only [Ls_lst b5.it]
      have gB : Go j (tt P1 P2 P3) H0 B5 := ((((g1.same b1.same).same b2.same).same b3.same).same b4.same).same b5.same
      have f1 : B5 t1 = some (.tup [.int 0, .int 1, .int 1]) := b5.same _ _ (b4.same _ _ (b3.same _ _ (b2.same _ _ b1.it)))
      have f2 : B5 t2 = some (.tup [.int 20000, .int 64, .int 64]) := b5.same _ _ (b4.same _ _ (b3.same _ _ b2.it))
      have f3 : B5 t3' = some (.tup [.int 0, .int 64, .int 64]) := b5.same _ _ (b4.same _ _ b3.it)
      have f4 : B5 t4 = some (.tup [.int 1, .int 1, .int 64]) := b5.same _ _ b4.it
      have nlt : lt ≠ j := jar_ne ((((g1.same b1.same).same b2.same).same b3.same).same b4.same).J b5.new
      have ntup : ∀ {t : Addr} {xs : List V}, B5 t = some (.tup xs) → t ≠ j := fun {t xs} e z => by
        obtain ⟨d, s, c, ej, _⟩ := gB.J
        rw [z, ej] at e
        cases e
      refine lp_list (xs := [.ref t1, .ref t2, .ref t3', .ref t4]) (fun i σ H9 => Go j (tt P1 P2 P3) B5 H9 ∧ ∃ x3 x4 x5 x6 x7 x8 x9 x10, σ = [some (.ref j), some (.ref a1), some (.ref a2), x3, x4, x5, x6, x7, x8, x9, x10]) ⟨Go.refl gB.J gB.t, _, _, _, _, _, _, _, _, rfl⟩ ?_ ?_ ?_
      · exact fun i σ H9 _ h => h.1.k _ _ nlt b5.it fun ps z => by cases z
      · rintro i x σ H9 hx ⟨g9, x3, x4, x5, x6, x7, x8, x9, x10, rfl⟩
        obtain ⟨t, sz, bl, wi, rfl, et, r1, r2, r3, r4, r5⟩ : ∃ (t : Addr) (sz bl wi : Nat), x = .ref t ∧ B5 t = some (.tup [.int sz, .int bl, .int wi]) ∧ sz ≤ 20000 ∧ 1 ≤ bl ∧ bl ≤ 64 ∧ 1 ≤ wi ∧ wi ≤ 64 := by
          have hi : i < 4 := (List.getElem?_eq_some_iff.mp hx).1
          match i, hi with
          | 0, _ => exact ⟨t1, 0, 1, 1, (Option.some.inj hx).symm, f1, by decide, by decide, by decide, by decide, by decide⟩
          | 1, _ => exact ⟨t2, 20000, 64, 64, (Option.some.inj hx).symm, f2, by decide, by decide, by decide, by decide, by decide⟩
          | 2, _ => exact ⟨t3', 0, 64, 64, (Option.some.inj hx).symm, f3, by decide, by decide, by decide, by decide, by decide⟩
          | 3, _ => exact ⟨t4, 1, 1, 64, (Option.some.inj hx).symm, f4, by decide, by decide, by decide, by decide, by decide⟩
        have et9 := g9.k _ _ (ntup et) et fun ps z => by cases z
        walk_at "ev"
        simp only [Sq_tup et9]
        walk_at "ev"
        have good : szBad (.int sz) (.int bl) (.int wi) = none := by
          unfold szBad
          rw [if_neg (by rw [show isInt (V.int (sz : Int)) 0 20000 = true from decide_eq_true (by omega)]; decide), if_neg (by rw [show isInt (V.int (bl : Int)) 1 64 = true from decide_eq_true (by omega)]; decide), if_neg (by rw [show isInt (V.int (wi : Int)) 1 64 = true from decide_eq_true (by omega)]; decide)]
        refine ⟨_, _, _, rfl, .int _, .int _, .int _, g9.t, fun z hz => absurd (good.symm.trans hz) (by simp), fun sz' bl' wi' e1 e2 e3 a1' a2' a3' a4' a5' p g H10 B gs gk gN gR e10 t10 ep => ?_⟩
        have e1 : (sz : Int) = (sz' : Int) := V.int.inj e1
        have e2 : (bl : Int) = (bl' : Int) := V.int.inj e2
        have e3 : (wi : Int) = (wi' : Int) := V.int.inj e3
        obtain ⟨dx, ex⟩ := B.x
        simp only [Tp_tup ep]
        walk_at "ev"
        simp only [Ix_ins ex]
        walk_at "ev"
        refine ⟨g, sz', bl', wi', _, rfl, B, fun q H11 s11 eq => ?_⟩
        refine ⟨_, _, rfl, Eq2.tupF eq (s11 _ _ (e10 _ _ (by rw [← e1, ← e2, ← e3]; exact et9) fun ps z => by cases z)) rfl (by show 3 ≤ 1000000; decide), true, rfl, ?_⟩
        rw [if_neg (by decide)]
        exact (g9.ext e10 t10).same s11
      · rintro σ H9 ⟨g9, x3, x4, x5, x6, x7, x8, x9, x10, rfl⟩
        have g09 := gB.trans g9
        walk_at "ev"
        refine ⟨j, a1, oddS p9, rfl, g9.J, n1, kp g09 n1 ea1 (fun ps z => by cases z), by simp, (by show 7 < 1000; decide), fun i v H10 hv to => ?_⟩
        have g10 := g09.jar to
        have hm := List.mem_of_getElem? hv
        have hv1 := oddS_not hm
        have hv2 : Any H10 v := oddS_any (kp g10 n9 e9 fun ps z => by cases z) hm
        refine ⟨g10.t, fun fl c' H11 eN T1 nf hf hc act => ⟨fl, _, rfl, act _ H11 rfl rfl, ?_⟩⟩
        walk_at "ev"
        intro x dx hx hdx hne
        have sN : Same H11 (upd (upd H11 dx (.own x)) x (.ins C dx [])) := (newf hdx rfl).1.trans (newf (by rw [upd_ne (Ne.symm hne)]; exact hx) rfl).1
        have bad : szBad v (.int 4) (.int 4) = some "size" := by
          unfold szBad
          rw [if_pos hv1]
        refine ⟨x, dx, v, .int 4, .int 4, rfl, upd_same, (hv2.ext eN).same sN, .int _, .int _, fun z hz d hd => ?_, fun sz bl wi e1 e2 e3 a1' a2' a3' a4' a5' => ?_⟩
        · rw [bad] at hz
          cases hz
          have sd := (newf (o := .xd [("what", .str (Str.ofString "size"))]) hd rfl).1
          refine .inl ⟨rfl, d, _, rfl, upd_same, fun p H12 s12 ep => ⟨by decide, Nw.intro fun p2 H13 c13 => ?_⟩⟩
          have sA : Same H11 H12 := (sN.trans sd).trans s12
          refine ⟨_, _, rfl, Eq2.tupF (c13.same _ _ ep) c13.it rfl (by show 4 ≤ 1000000; decide), ?_⟩
          have gE := (((g0.trans g10).ext eN T1).same sA).same c13.same
          exact q H13 gE.k gE.J gE.t
        · rw [e1, show isInt (V.int (sz : Int)) 0 20000 = true from decide_eq_true (by omega)] at hv1
          cases hv1
end
end K32
namespace K32
open PySem PySem.Spec PyProof.Rows L2 Lw LamX
local macro_rules | `(tactic| walk_at "ev") => `(tactic| simp only [cxOf, tErrI, tErrSt, tKx, tMethX, tMkF, tMakeK, tMake, tDispF, tPairs, Kvs, okv_sizes, okv_line, okv_fresh, okv_kept, okv_fetched, okv_put, okv_fresh_, okv_line_, okv_fetched_, okv_put_, tNoS, tFldF, sFldF, sFldAugF, tMethF, Ix_upd, lk_eq, lk_ne, lk_nil, putF_nil, putF_eq, putF_ne, Str_lit, String.reduceEq, fsB, rListK, rDictD, rRevF, rLenD, rAllF, rSortF, rSortK, rLenI, tChain, Int.reduceMul, tPar3, tCallN, iKeysF, tLockE, tDisp1F, mergeK_one, tYes, iRng3, ex_ints, ex_any, tML, tML0, tMD, tTupN, tLstN, tDNewN, rSlL2, rCatF, rRepF, tRevF, rListF, rMaxF, tDGetF, tDGet1F, tDGet2F, tDPop1F, tDPop2F, sDPutF, tLenSetF, tSl, tPart, tNoPart, ipI, rIsiF, Tz_non, Tz_bl, Tz_int, Tz_str, Cl7_int, Cl7_bool, Cl7_str, Cl7_list, Cl7_tuple, Cl7_dict, T7.isa, iListF, iTupF, cpow12, cpow60, tFor_eq, tLc_eq, iRng1, iRng2, wipe, Cx.nox, Cx.wish, tSeq, tIfS, tTest, tOp, tVar, tC, tRet, tRetN, tCB, tCons, tNil, tB, tNot, tAnd, tOr, tAndV, tOrV, tNotV, tIf, rEq, rNe, scal_ii, scal_bb, scal_ss, scal_nn, scal_si, scal_is, scal_in, scal_ni, Bool.or_true, Bool.true_or, Bool.or_false, Bool.false_or, Bool.and_true, Bool.true_and, Bool.and_false, Bool.false_and, rI, rI0, rU, tUn, t2I, tAsg, gName, tPar, tDrop, tLst, tTup, tCall, tNext, tBreak, tCont, tAug, rAdd, gTup, gTupF, gCons, gNil, gSub, rIxF, rLenF, rSetF, rAppF, rExtF, rPop0, rRemF, rInF, rDUpd, Nt_int, Op_some, Ky_int, Ky_str,
  List.map_cons, List.map_nil, List.cons_append, List.nil_append, List.append_nil, List.getElem?_cons_zero, List.getElem?_cons_succ, List.set_cons_zero, List.set_cons_succ, List.length_cons, List.length_nil, Option.some.injEq, exists_eq_left', exists_eq_left, exists_eq_right, V.int.injEq, V.ref.injEq, V.bl.injEq, V.str.injEq, V.ty.injEq, List.cons.injEq, and_true, true_and, and_assoc, reduceCtorEq, decide_eq_true_eq, decide_true, decide_false, if_true, if_false, ite_true, ite_false, Bool.false_eq_true, false_and, and_false, exists_false, exists_const, or_false, false_or, Bool.not_eq_true', decide_eq_false_iff_not, List.replicate_succ, List.replicate_zero, Nat.reduceSub, Nat.reduceAdd, Int.reducePow, Int.reduceNeg, exists_and_left, exists_and_right, atI_0, atI_1, atI_2, ixN_0, ixN_1, ixN_2, L2.start, upd_upd, Sq_upd, Sq_updT, Tp_upd, Ls_upd, Dk_upd, Int.reduceLT, Int.reduceLE, Nat.reduceLT, Nat.reduceLeDiff, forall_eq', forall_eq, id, Int.zero_add, Bool.not_true, Bool.not_false, not_true_eq_false, not_false_eq_true, ne_eq])

section
variable {P : Program} {w : World} {K : PySem.W.Frag} {mg : Str → Option Value} {base : Heap} {C CE CL CC CW : Addr}
theorem Eq2.dq {H : Hp} : ∀ {n : Nat} {v u : V} {d : PyData}, Dq H v d → Dq H u d → okd n d = true → Eq2 H (n + 1) v u
  | n, _, _, _, .non, .non, _ => .non n
  | n, _, _, _, .bl b, .bl _, _ => .bl n b
  | n, _, _, _, .int b, .int _, _ => .int n b
  | n, _, _, _, .str b, .str _, _ => .str n b
  | 0, _, _, _, .lst _ _, _, h => by cases h
  | 0, _, _, _, .tup _ _, _, h => by cases h
  | n + 1, _, _, _, .lst h1 t1, .lst h2 t2, h => by
    obtain ⟨l, ok⟩ := okd_l h
    have e1 := dqAll_len t1
    have e2 := dqAll_len t2
    refine .lst h1 h2 (by omega) (by omega) fun i x y ex ey => ?_
    have hi := (List.getElem?_eq_some_iff.mp ex).1
    obtain ⟨d, hd⟩ : ∃ d, _ = some d := ⟨_, List.getElem?_eq_getElem (show i < _ by rw [← e1]; exact hi)⟩
    obtain ⟨v1, a1, b1⟩ := dqAll_get t1 hd
    obtain ⟨v2, a2, b2⟩ := dqAll_get t2 hd
    rw [ex] at a1
    rw [ey] at a2
    cases a1
    cases a2
    exact Eq2.dq b1 b2 (ok i d hd)
  | n + 1, _, _, _, .tup h1 t1, .tup h2 t2, h => by
    obtain ⟨l, ok⟩ := okd_l h
    have e1 := dqAll_len t1
    have e2 := dqAll_len t2
    refine .tup h1 h2 (by omega) (by omega) fun i x y ex ey => ?_
    have hi := (List.getElem?_eq_some_iff.mp ex).1
    obtain ⟨d, hd⟩ : ∃ d, _ = some d := ⟨_, List.getElem?_eq_getElem (show i < _ by rw [← e1]; exact hi)⟩
    obtain ⟨v1, a1, b1⟩ := dqAll_get t1 hd
    obtain ⟨v2, a2, b2⟩ := dqAll_get t2 hd
    rw [ex] at a1
    rw [ey] at a2
    cases a1
    cases a2
    exact Eq2.dq b1 b2 (ok i d hd)
theorem nt_tbl {o : HO} (h : NT o) : ∀ ps, o ≠ .tbl ps := fun ps z => by
  rw [z] at h
  exact h
theorem tup_nj {j t : Addr} {xs : List V} {H : Hp} (J : JarAt H j) (e : H t = some (.tup xs)) : t ≠ j := fun z => by
  obtain ⟨d, s, c, ej, _⟩ := J
  rw [z, ej] at e
  cases e
theorem Go.tup {j t : Addr} {T : List (Addr × Str)} {xs : List V} {H H' : Hp} (g : Go j T H H') (J : JarAt H j) (e : H t = some (.tup xs)) : H' t = some (.tup xs) := g.k _ _ (tup_nj J e) e fun ps z => by cases z
theorem Wd.go {sz bl wi : Nat} {j : Addr} {g : G} {o : Ow} {H H' : Hp} {T : List (Addr × Str)} (W : Wd C sz bl wi j g o H) (G : Go j T H H') : Wd C sz bl wi j g o H' := by
  have kg : ∀ a u, g.R a → H a = some u → H' a = some u := fun a u ha e => by
    obtain ⟨u', e', n⟩ := W.B.rg a ha
    rw [e] at e'
    cases e'
    exact G.k a u (fun z => W.d2 (by rw [← z]; exact ha)) e (nt_tbl n)
  have ko : ∀ a u, o.R a → H a = some u → H' a = some u := fun a u ha e => by
    obtain ⟨u', e', n⟩ := W.O.rg a ha
    rw [e] at e'
    cases e'
    exact G.k a u (fun z => W.d3 (by rw [← z]; exact ha)) e (nt_tbl n)
  refine { W with B := W.B.frame kg, O := W.O.frame ko ?_, J := G.J, kq := W.kq.map fun t us e => G.tup W.J e }
  rw [G.tup W.J W.O.tz, W.O.tz]
theorem heard_cell {Q : VK} {H2 : Hp} {v : V} (k : ∀ p H', Same H2 H' → H' p = some (.tup [.str "NoCell", .non, v, .bl true]) → Q (.ref p) H') : ncE CC H2 (heardE CL CC CW Q) v := fun d hd => .inr (.inl ⟨rfl, d, v, .non, rfl, upd_same, fun p H' s ep => k p H' ((newf hd rfl).1.trans s) ep⟩)
theorem heard_worth {Q : VK} {H2 : Hp} (k : ∀ p H', Same H2 H' → H' p = some (.tup [.str "NoWorth", .bl true, .bl true]) → Q (.ref p) H') : ∀ H', Same H2 H' → heardE CL CC CW Q (.ref CW) none H' := fun H' s => .inr (.inr ⟨rfl, rfl, fun p H3 s3 ep => k p H3 (s.trans s3) ep⟩)
theorem Eq2.lstF {H : Hp} {n : Nat} {a b : Addr} {xs : List V} (h1 : H a = some (.lst xs)) (h2 : H b = some (.lst xs)) (h : xs.all flat4 = true) (hl : xs.length ≤ 1000000) : Eq2 H (n + 2) (.ref a) (.ref b) :=
  .lst h1 h2 rfl hl fun i x y e1 e2 => by
    rw [e1] at e2
    cases e2
    exact Eq2.flat (List.all_eq_true.mp h x (List.mem_of_getElem? e1))
abbrev celL (sz : Nat) (p0 p1 p2 p3 : Addr) : List V := [.int sz, .int (-1), .bl true, .bl false, .non, .str "0", .ref p0, .ref p1, .ref p2, .int (10 ^ Int.toNat 30), .int ((sz : Int) + 1), .ref p3]
theorem ten30 : (10 : Int) ^ Int.toNat 30 = 1000000000000000000000000000000 := by decide
theorem celL_ok {sz : Nat} {p0 p1 p2 p3 : Addr} {H : Hp} (hsz : sz ≤ 20000) (h0 : H p0 = some (.tup [.int 0])) (h1 : H p1 = some (.lst [.int 0])) (h2 : H p2 = some (.dK [(.inl 0, .int 0)])) (h3 : H p3 = some (.tup [])) {v : V} (h : v ∈ celL sz p0 p1 p2 p3) :
    isInt v 0 ((sz : Int) - 1) = false ∧ Any H v ∧ Eq2 H 2 v v := by
  simp only [celL, List.mem_cons, List.not_mem_nil, or_false] at h
  have out : ∀ {a : Int}, ¬ (0 ≤ a ∧ a ≤ (sz : Int) - 1) → isInt (.int a) 0 ((sz : Int) - 1) = false := fun h => decide_eq_false h
  rcases h with rfl | rfl | rfl | rfl | rfl | rfl | rfl | rfl | rfl | rfl | rfl | rfl
  · exact ⟨out (by omega), .int _, .int _ _⟩
  · exact ⟨out (by omega), .int _, .int _ _⟩
  · exact ⟨rfl, .bl _, .bl _ _⟩
  · exact ⟨rfl, .bl _, .bl _ _⟩
  · exact ⟨rfl, .non, .non _⟩
  · exact ⟨rfl, .str _, .str _ _⟩
  · exact ⟨rfl, .tup h0, Eq2.tupF h0 h0 rfl (by show 1 ≤ 1000000; decide)⟩
  · exact ⟨rfl, .lst h1, Eq2.lstF h1 h1 rfl (by show 1 ≤ 1000000; decide)⟩
  · exact ⟨rfl, .dK h2, .dict h2 fun p hp => by
      rw [List.mem_singleton.mp hp]
      exact ⟨rfl, rfl⟩⟩
  · exact ⟨by rw [ten30]; exact out (by omega), .int _, .int _ _⟩
  · exact ⟨out (by omega), .int _, .int _ _⟩
  · exact ⟨rfl, .tup h3, Eq2.tupF h3 h3 rfl (by show 0 ≤ 1000000; decide)⟩
theorem odd_tup {H : Hp} {p : Addr} {xs : List V} (h : H p = some (.tup xs)) (h3 : xs.length ≤ 3) (hf : ∀ x ∈ xs, flatI x) (hn : ∀ a b, xs = [.int a, .int b] → ¬ (1 ≤ b ∧ Int.gcd a b = 1)) : Any3 H (.ref p) ∧ numV H (.ref p) = false := by
  refine ⟨.inr ⟨p, xs, rfl, h, h3, hf⟩, ?_⟩
  by_cases hx : ∃ a b, xs = [.int a, .int b]
  · obtain ⟨a, b, rfl⟩ := hx
    rw [numV_two h]
    exact decide_eq_false (hn a b rfl)
  · exact numV_tup h fun a b z => hx ⟨a, b, z⟩
structure OddAt (H : Hp) (t1 t2 t3 t4 t5 t6 l7 t8 t9 d10 t11 : Addr) : Prop where
  h1 : H t1 = some (.tup [.int 2, .int 4])
  h2 : H t2 = some (.tup [.int 1, .int 0])
  h3 : H t3 = some (.tup [.int 0, .int 2])
  h4 : H t4 = some (.tup [.int 1, .int (-1)])
  h5 : H t5 = some (.tup [.int 1])
  h6 : H t6 = some (.tup [.int 1, .int 1, .int 1])
  h7 : H l7 = some (.lst [.int 1, .int 2])
  h8 : H t8 = some (.tup [.bl true, .int 1])
  h9 : H t9 = some (.tup [.int 1, .bl true])
  h10 : H d10 = some (.dK [])
  h11 : H t11 = some (.tup [])
abbrev oddL (t1 t2 t3 t4 t5 t6 l7 t8 t9 d10 t11 : Addr) : List V := [.int 0, .int 1, .str "1", .ref t1, .ref t2, .ref t3, .ref t4, .ref t5, .ref t6, .ref l7, .ref t8, .ref t9, .ref d10, .ref t11]
theorem two_flat {a b : Int} : ∀ x ∈ [V.int a, V.int b], flatI x := fun x hx => by
  rcases List.mem_cons.mp hx with rfl | hx
  · exact .inl ⟨_, rfl⟩
  · rw [List.mem_singleton.mp hx]
    exact .inl ⟨_, rfl⟩
theorem inj2 {a b c d : Int} (h : [V.int a, V.int b] = [V.int c, V.int d]) : a = c ∧ b = d := by
  injection h with h1 h2
  injection h2 with h2 _
  exact ⟨V.int.inj h1, V.int.inj h2⟩
theorem oddL_ok {t1 t2 t3 t4 t5 t6 l7 t8 t9 d10 t11 : Addr} {H : Hp} (O : OddAt H t1 t2 t3 t4 t5 t6 l7 t8 t9 d10 t11) {v : V} (h : v ∈ oddL t1 t2 t3 t4 t5 t6 l7 t8 t9 d10 t11) : v ≠ .non ∧ (∀ b, v ≠ .bl b) ∧ Any3 H v ∧ numV H v = false := by
  simp only [oddL, List.mem_cons, List.not_mem_nil, or_false] at h
  have rf : ∀ {p : Addr}, (V.ref p ≠ .non ∧ ∀ b, V.ref p ≠ .bl b) := fun {p} => ⟨fun z => (by cases z), fun b z => by cases z⟩
  have two : ∀ {p : Addr} {a b : Int}, H p = some (.tup [.int a, .int b]) → ¬ (1 ≤ b ∧ Int.gcd a b = 1) → V.ref p ≠ .non ∧ (∀ b, V.ref p ≠ .bl b) ∧ Any3 H (.ref p) ∧ numV H (.ref p) = false := fun {p a b} hp hn => ⟨rf.1, rf.2, odd_tup hp (by show 2 ≤ 3; decide) two_flat fun c d z => by
    obtain ⟨rfl, rfl⟩ := inj2 z
    exact hn⟩
  rcases h with rfl | rfl | rfl | rfl | rfl | rfl | rfl | rfl | rfl | rfl | rfl | rfl | rfl | rfl
  · exact ⟨fun z => (by cases z), fun b z => (by cases z), .inl ⟨.int, by decide, fun _ => rfl⟩, rfl⟩
  · exact ⟨fun z => (by cases z), fun b z => (by cases z), .inl ⟨.int, by decide, fun _ => rfl⟩, rfl⟩
  · exact ⟨fun z => (by cases z), fun b z => (by cases z), .inl ⟨.str, by decide, fun _ => rfl⟩, rfl⟩
  · exact two O.h1 (by decide)
  · exact two O.h2 (by decide)
  · exact two O.h3 (by decide)
  · exact two O.h4 (by decide)
  · exact ⟨rf.1, rf.2, odd_tup O.h5 (by show 1 ≤ 3; decide) (fun x hx => by rw [List.mem_singleton.mp hx]; exact .inl ⟨_, rfl⟩) fun a b z => by simp at z⟩
  · exact ⟨rf.1, rf.2, odd_tup O.h6 (by show 3 ≤ 3; decide) (fun x hx => by
      simp only [List.mem_cons, List.not_mem_nil, or_false] at hx
      rcases hx with rfl | rfl | rfl <;> exact .inl ⟨_, rfl⟩) fun a b z => by simp at z⟩
  · exact ⟨rf.1, rf.2, .inl ⟨.list, by decide, fun _ => Tz_lst O.h7⟩, numV_not (t := .list) (by decide) fun _ => Tz_lst O.h7⟩
  · exact ⟨rf.1, rf.2, odd_tup O.h8 (by show 2 ≤ 3; decide) (fun x hx => by
      simp only [List.mem_cons, List.not_mem_nil, or_false] at hx
      rcases hx with rfl | rfl
      · exact .inr ⟨_, rfl⟩
      · exact .inl ⟨_, rfl⟩) fun a b z => by simp at z⟩
  · exact ⟨rf.1, rf.2, odd_tup O.h9 (by show 2 ≤ 3; decide) (fun x hx => by
      simp only [List.mem_cons, List.not_mem_nil, or_false] at hx
      rcases hx with rfl | rfl
      · exact .inl ⟨_, rfl⟩
      · exact .inr ⟨_, rfl⟩) fun a b z => by simp at z⟩
  · exact ⟨rf.1, rf.2, .inl ⟨.dict, by decide, fun _ => Tz_dK O.h10⟩, numV_not (t := .dict) (by decide) fun _ => Tz_dK O.h10⟩
  · exact ⟨rf.1, rf.2, odd_tup O.h11 (by show 0 ≤ 3; decide) (fun x hx => by cases hx) fun a b z => by simp at z⟩
theorem ShownAt.same {H H' : Hp} {p : Addr} {L ns : List Int} {f q : Int} {sz bl wi : Nat} {kp : List V} (h : ShownAt H p L ns f q sz bl wi kp) (s : Same H H') : ShownAt H' p L ns f q sz bl wi kp := by
  obtain ⟨a, b, c, d, e, e0, e1, e2, e3, e4, e5⟩ := h
  exact ⟨a, b, c, d, e, s _ _ e0, s _ _ e1, s _ _ e2, s _ _ e3, s _ _ e4, s _ _ e5⟩
theorem show_both {C : Addr} {sz bl wi : Nat} {j : Addr} {g : G} {o : Ow} {H H1 H2 : Hp} {p1 p2 : Addr} {n1 n2 : List Int} (W : Wd C sz bl wi j g o H) (hsz : sz ≤ 20000) (hw : wi ≤ 64) (s1 : Same H H1) (m1 : n1.Perm g.s.2.1) (o1 : n1.Pairwise (· ≤ ·)) (S1 : ShownAt H1 p1 g.s.1 n1 g.s.2.2.1 g.s.2.2.2 sz bl wi g.kp)
    (s2 : Same H1 H2) (m2 : n2.Perm o.s.2.1) (o2 : n2.Pairwise (· ≤ ·)) (S2 : ShownAt H2 p2 o.s.1 n2 o.s.2.2.1 o.s.2.2.2 sz bl wi o.kq) {Q : VK} {E : XK} (hq : Q (.bl true) H2) : spSame 4 [.ref p1, .ref p2] H2 Q E := by
  have en : n1 = n2 := sorted_eq W.pm m1 m2 o1 o2
  subst en
  rw [← W.l, ← W.f] at S2
  have lL := W.B.lw
  have lT := nd_len W.B.nT W.B.sub
  have ln := m1.length_eq
  exact shown_same (S1.same s2) S2 (W.kq.map fun t us e => (s1.trans s2) _ _ e) (by omega) (by omega) (by rw [W.B.kl]; exact hsz) hq
theorem show_eq2 {C : Addr} {sz bl wi : Nat} {j : Addr} {g : G} {o : Ow} {H H1 H2 : Hp} {p1 p2 : Addr} {n1 n2 : List Int} (W : Wd C sz bl wi j g o H) (hsz : sz ≤ 20000) (hw : wi ≤ 64) (s1 : Same H H1) (m1 : n1.Perm g.s.2.1) (o1 : n1.Pairwise (· ≤ ·)) (S1 : ShownAt H1 p1 g.s.1 n1 g.s.2.2.1 g.s.2.2.2 sz bl wi g.kp)
    (s2 : Same H1 H2) (m2 : n2.Perm o.s.2.1) (o2 : n2.Pairwise (· ≤ ·)) (S2 : ShownAt H2 p2 o.s.1 n2 o.s.2.2.1 o.s.2.2.2 sz bl wi o.kq) : Eq2 H2 4 (.ref p1) (.ref p2) := by
  obtain ⟨v, u, d, e, d1, d2, ok, _⟩ := show_both W hsz hw s1 m1 o1 S1 s2 m2 o2 S2 (Q := fun _ _ => True) (E := E0) trivial
  cases e
  exact Eq2.dq d1 d2 ok
theorem upd_step {j : Addr} {T : List (Addr × Str)} {H0 H H' : Hp} {l : Addr} {xs ys : List V} (g : Go j T H0 H) (e : H l = some (.lst xs)) (n0 : ∀ o, H0 l = some o → ∃ ps, o = .tbl ps) (nj : l ≠ j) (h : upd H l (.lst ys) = H') : Go j T H0 H' ∧ H' l = some (.lst ys) ∧ ∀ t zs, H t = some (.tup zs) → H' t = some (.tup zs) := by
  subst h
  exact ⟨g.upd e n0 nj, upd_same, fun t zs q => by
    rw [upd_ne (fun z => by rw [z, e] at q; cases q)]
    exact q⟩
theorem nc_eq {H : Hp} {t q : Addr} {v : V} (h1 : H t = some (.tup [.str "NoCell", .non, v, .bl true])) (h2 : H q = some (.tup [.str "NoCell", .non, v, .bl true])) (h : Eq2 H 2 v v) : Eq2 H 3 (.ref t) (.ref q) :=
  .tup h1 h2 rfl (by show 4 ≤ 1000000; decide) fun i x y e1 e2 => by
    rw [e1] at e2
    cases e2
    match i, e1 with
    | 0, e1 => cases e1; exact .str 1 _
    | 1, e1 => cases e1; exact .non 1
    | 2, e1 => cases e1; exact h
    | 3, e1 => cases e1; exact .bl 1 _
def spCells (C P1 P2 P3 : Addr) : Sp := fun vs H Q _ => ∃ (j : Addr) (g : G) (o : Ow) (sz bl wi : Nat), vs = [.ref j, .ref g.x, .ref o.x] ∧ Wd C sz bl wi j g o H ∧ sz ≤ 20000 ∧ 1 ≤ bl ∧ bl ≤ 64 ∧ 1 ≤ wi ∧ wi ≤ 64 ∧ Tabs (tt P1 P2 P3) H ∧ ∀ H', Go j (tt P1 P2 P3) H H' → Q (.bl true) H'
theorem scSrCells : FnScope ["jar", "store", "own", "size", "cells_odd", "odd_worths", "go", "bad", "odd", "at", "told_now", "owed"] ["jar", "store", "own"] (defScope sSrCells) := ⟨rfl, rfl, rfl, by decide +kernel, rfl, by decide +kernel, by decide +kernel⟩
theorem ok_sr_cells {c1 P1 c2 P2 c3 P3 : Addr} (F : Def1L K mg "_law_sr_cells_right" sSrCells c3) (T : Tb K mg C) (t3 : TT base mg c1 P1 c2 P2 c3 P3) (c_yq_same : Kn P w K mg base "_law_yq_same" ["heard_one", "owed"] 6 (spSame2 4)) (c_take : Kn P w K mg base "_law_take" ["jar", "many"] 1 spTake) (c_one : Kn P w K mg base "_law_one" ["jar", "things"] 2 (spOne K)) (c_heard : KnA P w K mg base "_law_sr_heard" ["deed"] 8 7 (spHeard CL CC CW))
    (c_sr_shown : Kn P w K mg base "_law_sr_shown" ["store"] 6 (spSrShown C)) (c_mz_store_shown : Kn P w K mg base "_law_mz_store_shown" ["store"] 1 spMzShown) (mR_write : KnMX P w K mg base C "write" ["self", "at", "worth"] 5 (spCellR C CC 1)) (mR_read : KnMX P w K mg base C "read" ["self", "at"] 5 (spCellR C CC 0)) (mR_seen : KnMX P w K mg base C "seen" ["self", "at"] 5 (spCellR C CC 0)) (mW_write : KnMX P w K mg base C "write" ["self", "at", "worth"] 5 (spWorthR C CW)) : Kn P w K mg base "_law_sr_cells_right" ["jar", "store", "own"] 10 (spCells C P1 P2 P3) := by
  refine kn_ofL F scSrCells (fun vs H Q E h => ?_) (fun _ _ _ _ _ _ us hl => match us, hl with | [_, _, _], _ => rfl) (fun f A outer s H vs Q E hr h => ?_)
  · obtain ⟨j, g, o, sz, bl, wi, rfl, _⟩ := h
    rfl
  · obtain ⟨j, g, o, sz, bl, wi, rfl, W, hsz, hb1, hb2, hw1, hw2, hT, q⟩ := h
    refine ⟨_, (pss_cons (ps_set (i := 3) scSrCells.nd rfl (Or.inl rfl) (pe_ix ix_f (pe_dgetF (hu_of hr) (pv 2) pe_str (fun _ _ => rfl)) pe_int (fun _ _ => rfl)))
      (pss_cons (ps_set (i := 4) scSrCells.nd rfl (Or.inl rfl) (pe_lstN (pa_cons (pv 3) (pa_cons (pe_un un_neg pe_int) (pa_cons pe_bl (pa_cons pe_bl (pa_cons pe_non (pa_cons pe_str (pa_cons (pe_tupN (pa_cons pe_int pa_nil)) (pa_cons (pe_lstN (pa_cons pe_int pa_nil)) (pa_cons (pe_disp1 pe_int pe_int) (pa_cons (pe_op op_pow pe_int pe_int) (pa_cons (pe_op op_add (pv 3) pe_int) (pa_cons (pe_tupN pa_nil) pa_nil))))))))))))))
      (pss_cons (ps_set (i := 5) scSrCells.nd rfl (Or.inl rfl) (pe_lstN (pa_cons pe_int (pa_cons pe_int (pa_cons pe_str (pa_cons (pe_tupN (pa_cons pe_int (pa_cons pe_int pa_nil))) (pa_cons (pe_tupN (pa_cons pe_int (pa_cons pe_int pa_nil))) (pa_cons (pe_tupN (pa_cons pe_int (pa_cons pe_int pa_nil))) (pa_cons (pe_tupN (pa_cons pe_int (pa_cons (pe_un un_neg pe_int) pa_nil))) (pa_cons (pe_tupN (pa_cons pe_int pa_nil)) (pa_cons (pe_tupN (pa_cons pe_int (pa_cons pe_int (pa_cons pe_int pa_nil)))) (pa_cons (pe_lstN (pa_cons pe_int (pa_cons pe_int pa_nil))) (pa_cons (pe_tupN (pa_cons pe_bl (pa_cons pe_int pa_nil))) (pa_cons (pe_tupN (pa_cons pe_int (pa_cons pe_bl pa_nil))) (pa_cons pe_dnewN (pa_cons (pe_tupN pa_nil) pa_nil))))))))))))))))
      (pss_cons (ps_for PassesOwn.never rfl (pi_range1 (by rfl) T.range (pa_cons pe_int pa_nil)) (pg_name (i := 6) scSrCells.nd rfl (Or.inl rfl)) (pss_cons (ps_asg (pe_tupN (pa_cons (pe_kn c_one (hr.mono (by decide)) (by rfl) (pa_cons (pv 0) (pa_cons (pv 4) pa_nil))) (pa_cons (pe_kn c_one (hr.mono (by decide)) (by rfl) (pa_cons (pv 0) (pa_cons (pv 5) pa_nil))) (pa_cons (pe_kn c_take (hr.mono (by decide)) (by rfl) (pa_cons (pv 0) (pa_cons (pe_callB (call_max2 rfl) (by rfl) T.max (by decide +kernel) (pa_cons pe_int (pa_cons (pv 3) pa_nil))) pa_nil))) pa_nil)))) (pg_tupF 3 (by rfl) (pgs_cons (pg_name (i := 7) scSrCells.nd rfl (Or.inr rfl)) (pgs_cons (pg_name (i := 8) scSrCells.nd rfl (Or.inr rfl)) (pgs_cons (pg_name (i := 9) scSrCells.nd rfl (Or.inr rfl)) pgs_nil)))))
      (pss_cons (ps_set (i := 10) scSrCells.nd rfl (Or.inl rfl) (pe_lstN (pa_cons (pe_knA c_heard (hr.mono (by decide)) (by rfl) (pa_cons (pe_lamV (k := 6) (T := tt P1 P2 P3) t3.b3 rfl tt_m3 (tt_u3 t3) (lamS_by (sc := defScope sSrCells) (by decide +kernel)) rfl (fun _ _ _ _ _ => rfl) (fun A outer s H E f c' hr => (pe_kmX mR_write T.cl (hr.mono (by decide)) takes_lam (pv 1) (pa_cons (pv 7) (pa_cons (pe_tupN (pa_cons pe_int (pa_cons pe_int pa_nil))) pa_nil))))) pa_nil)) (pa_cons pe_int (pa_cons pe_int (pa_cons pe_int (pa_cons pe_int pa_nil)))))))
      (pss_cons (ps_asg (pe_knA c_heard (hr.mono (by decide)) (by rfl) (pa_cons (pe_lamV (k := 6) (T := tt P1 P2 P3) t3.b3 rfl tt_m3 (tt_u3 t3) (lamS_by (sc := defScope sSrCells) (by decide +kernel)) rfl (fun _ _ _ _ _ => rfl) (fun A outer s H E f c' hr => (pe_kmX mR_write T.cl (hr.mono (by decide)) takes_lam (pv 1) (pa_cons (pv 7) (pa_cons (pv 8) pa_nil))))) pa_nil)) (pg_sub (pv 10) pe_int set_f))
      (pss_cons (ps_asg (pe_knA c_heard (hr.mono (by decide)) (by rfl) (pa_cons (pe_lamV (k := 6) (T := tt P1 P2 P3) t3.b3 rfl tt_m3 (tt_u3 t3) (lamS_by (sc := defScope sSrCells) (by decide +kernel)) rfl (fun _ _ _ _ _ => rfl) (fun A outer s H E f c' hr => (pe_kmX mR_read T.cl (hr.mono (by decide)) takes_lam (pv 1) (pa_cons (pv 7) pa_nil)))) pa_nil)) (pg_sub (pv 10) pe_int set_f))
      (pss_cons (ps_asg (pe_knA c_heard (hr.mono (by decide)) (by rfl) (pa_cons (pe_lamV (k := 6) (T := tt P1 P2 P3) t3.b3 rfl tt_m3 (tt_u3 t3) (lamS_by (sc := defScope sSrCells) (by decide +kernel)) rfl (fun _ _ _ _ _ => rfl) (fun A outer s H E f c' hr => (pe_kmX mR_seen T.cl (hr.mono (by decide)) takes_lam (pv 1) (pa_cons (pv 7) pa_nil)))) pa_nil)) (pg_sub (pv 10) pe_int set_f))
      (pss_cons (ps_asg (pe_ifExp (pt_cmpR op_gt (pv 3) pe_int (nomark _)) (pe_knA c_heard (hr.mono (by decide)) (by rfl) (pa_cons (pe_lamV (k := 6) (T := tt P1 P2 P3) t3.b3 rfl tt_m3 (tt_u3 t3) (lamS_by (sc := defScope sSrCells) (by decide +kernel)) rfl (fun _ _ _ _ _ => rfl) (fun A outer s H E f c' hr => (pe_kmX mW_write T.cl (hr.mono (by decide)) takes_lam (pv 1) (pa_cons (pv 9) (pa_cons (pv 8) pa_nil))))) pa_nil)) (pe_tupN (pa_cons pe_str (pa_cons pe_bl (pa_cons pe_bl pa_nil))))) (pg_sub (pv 10) pe_int set_f))
      (pss_cons (ps_set (i := 11) scSrCells.nd rfl (Or.inl rfl) (pe_op op_catF (pe_op op_repF (pe_lstN (pa_cons (pe_tupN (pa_cons pe_str (pa_cons pe_non (pa_cons (pv 7) (pa_cons pe_bl pa_nil))))) pa_nil)) pe_int) (pe_lstN (pa_cons (pe_tupN (pa_cons pe_str (pa_cons pe_bl (pa_cons pe_bl pa_nil)))) pa_nil))))
      (pss_one (ps_if (PW.pt (pw_or (pt_not (pt_val (pe_kn c_yq_same (hr.mono (by decide)) (by rfl) (pa_cons (pv 10) (pa_cons (pv 11) pa_nil))))) (pw_or1 (pt_not (pt_val (pe_kn c_yq_same (hr.mono (by decide)) (by rfl) (pa_cons (pe_kn c_sr_shown (hr.mono (by decide)) (by rfl) (pa_cons (pv 1) pa_nil)) (pa_cons (pe_kn c_mz_store_shown (hr.mono (by decide)) (by rfl) (pa_cons (pv 2) pa_nil)) pa_nil)))))))) (pss_one (ps_ret pe_bl)) pss_nil))))))))))
      (pss_one (ps_ret pe_bl)))))), ?_⟩
    walk_at "ev"
    simp only [Dr_dK W.O.x, okv_sizes]
    walk_at "ev"
    simp only [Sq_tup W.O.tz]
    walk_at "ev"
    refine ⟨by decide, Nw.intro fun p0 H1 c1 => ⟨by decide, Nw.intro fun p1 H2 c2 => Nw.intro fun p2 H3 c3 => ⟨c3.it, cpow30, by decide, ?_⟩⟩⟩
    generalize hH4 : upd H3 p2 (HO.dK [(Sum.inl 0, V.int 0)]) = H4
    obtain ⟨i4, o4⟩ := chgf hH4
    have s24 : Same H2 H4 := fun b u e => by
      rw [o4 _ (c3.off _ _ e)]
      exact c3.same _ _ e
    refine Nw.intro fun p3 H5 c5 => ⟨by decide, Nw.intro fun lc H6 c6 => ?_⟩
    refine ⟨by decide, Nw.intro fun t1 K1 d1 => ⟨by decide, Nw.intro fun t2 K2 d2 => ⟨by decide, Nw.intro fun t3' K3 d3 => ⟨by decide, Nw.intro fun t4 K4 d4 => ⟨by decide, Nw.intro fun t5 K5 d5 => ⟨by decide, Nw.intro fun t6 K6 d6 => ⟨by decide, Nw.intro fun l7 K7 d7 => ⟨by decide, Nw.intro fun t8 K8 d8 => ⟨by decide, Nw.intro fun t9 K9 d9 => Nw.intro fun d10 K10 d10' => ⟨by decide, Nw.intro fun t11 K11 d11 => ⟨by decide, Nw.intro fun lo2 H0 c0 => ?_⟩⟩⟩⟩⟩⟩⟩⟩⟩⟩⟩
    have s6 : Same H4 H6 := c5.same.trans c6.same
    have sK : Same H6 H0 := ((((((((((d1.same.trans d2.same).trans d3.same).trans d4.same).trans d5.same).trans d6.same).trans d7.same).trans d8.same).trans d9.same).trans d10'.same).trans d11.same).trans c0.same
    have e0 : H0 p0 = some (.tup [.int 0]) := sK _ _ (s6 _ _ (s24 _ _ (c2.same _ _ c1.it)))
    have e1 : H0 p1 = some (.lst [.int 0]) := sK _ _ (s6 _ _ (s24 _ _ c2.it))
    have e2 : H0 p2 = some (.dK [(.inl 0, .int 0)]) := sK _ _ (s6 _ _ i4)
    have e3 : H0 p3 = some (.tup []) := sK _ _ (c6.same _ _ c5.it)
    have elc : H0 lc = some (.lst (celL sz p0 p1 p2 p3)) := sK _ _ c6.it
    have elo : H0 lo2 = some (.lst (oddL t1 t2 t3' t4 t5 t6 l7 t8 t9 d10 t11)) := c0.it
    have OA : OddAt H0 t1 t2 t3' t4 t5 t6 l7 t8 t9 d10 t11 := by
      have a11 := c0.same
      have a10 := d11.same.trans a11
      have a9 := d10'.same.trans a10
      have a8 := d9.same.trans a9
      have a7 := d8.same.trans a8
      have a6 := d7.same.trans a7
      have a5 := d6.same.trans a6
      have a4 := d5.same.trans a5
      have a3 := d4.same.trans a4
      have a2 := d3.same.trans a3
      have a1 := d2.same.trans a2
      exact ⟨a1 _ _ d1.it, a2 _ _ d2.it, a3 _ _ d3.it, a4 _ _ d4.it, a5 _ _ d5.it, a6 _ _ d6.it, a7 _ _ d7.it, a8 _ _ d8.it, a9 _ _ d9.it, a10 _ _ d10'.it, a11 _ _ d11.it⟩
    have sH : Same H H0 := (((c1.same.trans c2.same).trans s24).trans s6).trans sK
    have g0 : Go j (tt P1 P2 P3) H H0 := (Go.refl W.J hT).same sH
    have nj : ∀ {b : Addr} {o : HO}, H0 b = some o → (∀ d s c, o ≠ .lst (jarL d s c)) → b ≠ j := fun {b o} e n z => by
      obtain ⟨d, s, c, ej, _⟩ := g0.J
      rw [z, ej] at e
      exact n d s c (Option.some.inj e).symm
    have kp : ∀ {b : Addr} {o : HO} {H' : Hp}, Go j (tt P1 P2 P3) H0 H' → H0 b = some o → b ≠ j → (∀ ps, o ≠ .tbl ps) → H' b = some o := fun g e n h => g.k _ _ n e h
    have nlc : lc ≠ j := nj elc fun d s c z => by cases z
    have nlo : lo2 ≠ j := nj elo fun d s c z => by cases z
    have np1 : p1 ≠ j := nj e1 fun d s c z => by cases z
    have np2 : p2 ≠ j := nj e2 fun d s c z => by cases z
    have nl7 : l7 ≠ j := nj OA.h7 fun d s c z => by cases z
    have nd10 : d10 ≠ j := nj OA.h10 fun d s c z => by cases z
    have OG : ∀ {H' : Hp}, Go j (tt P1 P2 P3) H0 H' → OddAt H' t1 t2 t3' t4 t5 t6 l7 t8 t9 d10 t11 := fun {H'} (gg : Go j (tt P1 P2 P3) H0 H') => ⟨gg.tup g0.J OA.h1, gg.tup g0.J OA.h2, gg.tup g0.J OA.h3, gg.tup g0.J OA.h4, gg.tup g0.J OA.h5, gg.tup g0.J OA.h6, kp gg OA.h7 nl7 (fun ps z => by cases z), gg.tup g0.J OA.h8, gg.tup g0.J OA.h9, kp gg OA.h10 nd10 (fun ps z => by cases z), gg.tup g0.J OA.h11⟩
    have CG : ∀ {H' : Hp}, Go j (tt P1 P2 P3) H0 H' → ∀ {v}, v ∈ celL sz p0 p1 p2 p3 → isInt v 0 ((sz : Int) - 1) = false ∧ Any H' v ∧ Eq2 H' 2 v v   := fun {H'} (gg : Go j (tt P1 P2 P3) H0 H') {v} hv => celL_ok hsz (gg.tup g0.J e0) (kp gg e1 np1 fun ps z => by cases z) (kp gg e2 np2 fun ps z => by cases z) (gg.tup g0.J e3) hv
    refine lp_range (fun i σ H' => Go j (tt P1 P2 P3) H0 H' ∧ ∃ x6 x7 x8 x9 x10 x11, σ = [some (.ref j), some (.ref g.x), some (.ref o.x), some (.int sz), some (.ref lc), some (.ref lo2), x6, x7, x8, x9, x10, x11]) ⟨Go.refl g0.J g0.t, _, _, _, _, _, _, rfl⟩ ?_ ?_
    · rintro i σ H7 hi ⟨g7, x6, x7, x8, x9, x10, x11, rfl⟩
      walk_at "ev"
      refine ⟨j, lc, celL sz p0 p1 p2 p3, rfl, g7.J, nlc, kp g7 elc nlc (fun ps z => by cases z), by simp, (by show 12 < 1000; decide), fun i1 v K1 hv to1 => ?_⟩
      have k1 := g7.jar to1
      refine ⟨j, lo2, oddL t1 t2 t3' t4 t5 t6 l7 t8 t9 d10 t11, rfl, k1.J, nlo, kp k1 elo nlo (fun ps z => by cases z), by simp, (by show 14 < 1000; decide), fun i2 u K2 hu to2 => ?_⟩
      have k2 := k1.jar to2
      have hv := List.mem_of_getElem? hv
      have hu := List.mem_of_getElem? hu
      refine ⟨j, _, rfl, k2.J, by split <;> omega, by split <;> omega, fun r K3 ar0 ar1 to3 => ?_⟩
      have k3 := k2.jar to3
      obtain ⟨at_, rfl⟩ : ∃ n : Nat, r = (n : Int) := ⟨r.toNat, by omega⟩
      refine ⟨by decide, Nw.intro fun p3_ K4 m4 => ?_⟩
      have k4 := k3.same m4.same
      simp only [Tp_tup m4.it]
      walk_at "ev"
      refine ⟨k4.t, fun fl c' M1 eN1 T1 nf hf hc act => ⟨fl, _, rfl, act _ M1 rfl rfl, ?_⟩⟩
      clear nf hf hc act
      have a1 := k4.ext eN1 T1
      have W1 := W.go (g0.trans a1)
      walk_at "ev"
      obtain ⟨dx1, ex1⟩ := W1.B.x
      simp only [Ix_ins ex1]
      walk_at "ev"
      refine ⟨by decide, Nw.intro fun pw N1 mw => ?_⟩
      have b1 := a1.same mw.same
      have W1 := W.go (g0.trans b1)
      refine ⟨g, sz, bl, wi, _, v, _, rfl, rfl, W1.B, (CG b1 hv).2.1, (CG b1 hv).1, heard_cell fun p1x N1' s1 ep1 => ?_⟩
      have e1 := b1.same s1
      refine ⟨by decide, Nw.intro fun tn L0 mt => ?_⟩
      have l0 := e1.same mt.same
      have ntn : tn ≠ j := jar_ne e1.J mt.new
      have n0 : ∀ o, H0 tn = some o → ∃ ps, o = .tbl ps := fun o e => by
        by_cases it : ∃ ps, o = .tbl ps
        · exact it
        · by_cases bj : tn = j
          · exact absurd bj ntn
          · have := e1.k _ _ bj e fun ps z => it ⟨ps, z⟩
            rw [mt.new] at this
            cases this
      have q1 : L0 p1x = some (.tup [.str "NoCell", .non, v, .bl true]) := mt.same _ _ ep1
      have r0 : L0 tn = some (.lst [.ref p1x, .int 0, .int 0, .int 0, .int 0]) := mt.it
      refine ⟨l0.t, fun fl c' M2 eN2 T2 nf hf hc act => ⟨fl, _, rfl, act _ M2 rfl rfl, ?_⟩⟩
      clear nf hf hc act
      have b2 := l0.ext eN2 T2
      have W2 := W.go (g0.trans b2)
      walk_at "ev"
      obtain ⟨dx2, ex2⟩ := W2.B.x
      simp only [Ix_ins ex2]
      walk_at "ev"
      refine ⟨g, sz, bl, wi, _, v, _, rfl, rfl, W2.B, (CG b2 hv).2.1, (CG b2 hv).1, heard_cell fun p2x N2' s2 ep2 => ?_⟩
      have x2 : Go j (tt P1 P2 P3) L0 N2' := ((Go.refl l0.J l0.t).ext eN2 T2).same s2
      have y2 := x2.k _ _ ntn r0 fun ps z => by cases z
      simp only [Ls_lst y2]
      rw [show ixN ([.ref p1x, .int 0, .int 0, .int 0, .int 0] : List V).length 1 = some 1 from rfl]
      simp only [Op_some]
      generalize hU2 : upd N2' tn (.lst (([.ref p1x, .int 0, .int 0, .int 0, .int 0] : List V).set 1 (.ref p2x))) = L1
      obtain ⟨l1, r1, f2⟩ := upd_step (b2.same s2) y2 n0 ntn hU2
      have r1 : L1 tn = some (.lst [.ref p1x, .ref p2x, .int 0, .int 0, .int 0]) := r1
      have q1 := f2 _ _ (x2.tup l0.J q1)
      have q2 := f2 _ _ ep2
      refine ⟨l1.t, fun fl c' M3 eN3 T3 nf hf hc act => ⟨fl, _, rfl, act _ M3 rfl rfl, ?_⟩⟩
      clear nf hf hc act
      have b3 := l1.ext eN3 T3
      have W3 := W.go (g0.trans b3)
      walk_at "ev"
      obtain ⟨dx3, ex3⟩ := W3.B.x
      simp only [Ix_ins ex3]
      walk_at "ev"
      refine ⟨g, sz, bl, wi, _, v, _, rfl, rfl, W3.B, (CG b3 hv).2.1, (CG b3 hv).1, heard_cell fun p3x N3' s3 ep3 => ?_⟩
      have x3 : Go j (tt P1 P2 P3) L1 N3' := ((Go.refl l1.J l1.t).ext eN3 T3).same s3
      have y3 := x3.k _ _ ntn r1 fun ps z => by cases z
      simp only [Ls_lst y3]
      rw [show ixN ([.ref p1x, .ref p2x, .int 0, .int 0, .int 0] : List V).length 2 = some 2 from rfl]
      simp only [Op_some]
      generalize hU3 : upd N3' tn (.lst (([.ref p1x, .ref p2x, .int 0, .int 0, .int 0] : List V).set 2 (.ref p3x))) = L2
      obtain ⟨l2, r2, f3⟩ := upd_step (b3.same s3) y3 n0 ntn hU3
      have r2 : L2 tn = some (.lst [.ref p1x, .ref p2x, .ref p3x, .int 0, .int 0]) := r2
      have q1 := f3 _ _ (x3.tup l1.J q1)
      have q2 := f3 _ _ (x3.tup l1.J q2)
      have q3 := f3 _ _ ep3
      refine ⟨l2.t, fun fl c' M4 eN4 T4 nf hf hc act => ⟨fl, _, rfl, act _ M4 rfl rfl, ?_⟩⟩
      clear nf hf hc act
      have b4 := l2.ext eN4 T4
      have W4 := W.go (g0.trans b4)
      walk_at "ev"
      obtain ⟨dx4, ex4⟩ := W4.B.x
      simp only [Ix_ins ex4]
      walk_at "ev"
      refine ⟨g, sz, bl, wi, _, v, _, rfl, rfl, W4.B, (CG b4 hv).2.1, (CG b4 hv).1, heard_cell fun p4x N4' s4 ep4 => ?_⟩
      have x4 : Go j (tt P1 P2 P3) L2 N4' := ((Go.refl l2.J l2.t).ext eN4 T4).same s4
      have y4 := x4.k _ _ ntn r2 fun ps z => by cases z
      simp only [Ls_lst y4]
      rw [show ixN ([.ref p1x, .ref p2x, .ref p3x, .int 0, .int 0] : List V).length 3 = some 3 from rfl]
      simp only [Op_some]
      generalize hU4 : upd N4' tn (.lst (([.ref p1x, .ref p2x, .ref p3x, .int 0, .int 0] : List V).set 3 (.ref p4x))) = L3
      obtain ⟨l3, r3, f4⟩ := upd_step (b4.same s4) y4 n0 ntn hU4
      have r3 : L3 tn = some (.lst [.ref p1x, .ref p2x, .ref p3x, .ref p4x, .int 0]) := r3
      have q1 := f4 _ _ (x4.tup l2.J q1)
      have q2 := f4 _ _ (x4.tup l2.J q2)
      have q3 := f4 _ _ (x4.tup l2.J q3)
      have q4 := f4 _ _ ep4
      have tail : ∀ (p : Addr) (L : Hp), Go j (tt P1 P2 P3) H0 L → L tn = some (.lst [.ref p1x, .ref p2x, .ref p3x, .ref p4x, .ref p]) → L p1x = some (.tup [.str "NoCell", .non, v, .bl true]) → L p2x = some (.tup [.str "NoCell", .non, v, .bl true]) → L p3x = some (.tup [.str "NoCell", .non, v, .bl true]) → L p4x = some (.tup [.str "NoCell", .non, v, .bl true]) → L p = some (.tup [.str "NoWorth", .bl true, .bl true]) →
          (4 ≤ sizeLine ∧ Nw L (HO.tup [V.str (Str.ofString "NoCell"), V.non, v, V.bl true]) fun p H' =>
              1 ≤ sizeLine ∧ Nw H' (HO.lst [V.ref p]) fun p H' => Ls H' (V.ref p) fun _ xs =>
                    xs.length * Int.toNat 4 ≤ sizeLine ∧ Nw H' (HO.lst (List.replicate (Int.toNat 4) xs).flatten) fun p H' =>
                        3 ≤ sizeLine ∧ Nw H' (HO.tup [V.str (Str.ofString "NoWorth"), V.bl true, V.bl true]) fun p_1 H' =>
                            1 ≤ sizeLine ∧ Nw H' (HO.lst [V.ref p_1]) fun p_2 H' => Ls H' (V.ref p) fun _ xs => Ls H' (V.ref p_2) fun _ ys =>
                                    xs.length + ys.length ≤ sizeLine ∧ Nw H' (HO.lst (xs ++ ys)) fun p H' =>
                                        spSame2 4 [V.ref tn, V.ref p] H' (fun x H1 => ∃ c, x = V.bl c ∧ if c = false then Q (V.bl false) H1 else
                                                  spSrShown C [V.ref g.x] H1 (fun x H1 => spMzShown [V.ref o.x] H1 (fun x_1 H1 => spSame2 4 [x, x_1] H1 (fun x H1 => ∃ c, x = V.bl c ∧ if c = false then Q (V.bl false) H1 else Go j (tt P1 P2 P3) H0 H1) E0) E0) E0) E0) := by
        intro p L l e z1 z2 z3 z4 z5
        refine ⟨by decide, Nw.intro fun n1 A1 m1 => ⟨by decide, Nw.intro fun n2 A2 m2 => ?_⟩⟩
        simp only [Ls_lst m2.it]
        refine ⟨by show 1 * 4 ≤ sizeLine; decide, Nw.intro fun n3 A3 m3 => ⟨by decide, Nw.intro fun n4 A4 m4 => ⟨by decide, Nw.intro fun n5 A5 m5 => ?_⟩⟩⟩
        simp only [Ls_lst (m5.same _ _ (m4.same _ _ m3.it)), Ls_lst m5.it]
        refine ⟨by show 4 + 1 ≤ sizeLine; decide, Nw.intro fun n6 A6 m6 => ?_⟩
        have s4 : Same A1 A6 := ((((m2.same.trans m3.same).trans m4.same).trans m5.same).trans m6.same)
        have sA : Same L A6 := m1.same.trans s4
        have en := s4 _ _ m1.it
        have ew := m6.same _ _ (m5.same _ _ m4.it)
        have gA := l.same sA
        have e6 : A6 n6 = some (.lst [.ref n1, .ref n1, .ref n1, .ref n1, .ref n4]) := m6.it
        have qv := (CG gA hv).2.2
        refine ⟨_, _, rfl, .lst (sA _ _ e) e6 rfl (by show 5 ≤ 1000000; decide) fun i x y ex ey => ?_, ?_⟩
        · match i, ex, ey with
          | 0, ex, ey => cases ex; cases ey; exact nc_eq (sA _ _ z1) en qv
          | 1, ex, ey => cases ex; cases ey; exact nc_eq (sA _ _ z2) en qv
          | 2, ex, ey => cases ex; cases ey; exact nc_eq (sA _ _ z3) en qv
          | 3, ex, ey => cases ex; cases ey; exact nc_eq (sA _ _ z4) en qv
          | 4, ex, ey => cases ex; cases ey; exact Eq2.tupF (n := 1) (sA _ _ z5) ew rfl (by show 3 ≤ 1000000; decide)
        · refine ⟨true, rfl, ?_⟩
          rw [if_neg (by decide)]
          have WA := W.go (g0.trans gA)
          refine ⟨g, sz, bl, wi, rfl, WA.B, hsz, hb1, hb2, hw2, fun u1 ns1 B1 sB1 pm1 so1 sh1 => ?_⟩
          refine ⟨o, sz, bl, wi, rfl, (WA.same sB1).O, fun u2 ns2 B2 sB2 pm2 so2 sh2 nu2 => ?_⟩
          refine ⟨_, _, rfl, show_eq2 WA hsz hw2 sB1 pm1 so1 sh1 sB2 pm2 so2 sh2, true, rfl, ?_⟩
          rw [if_neg (by decide)]
          exact (gA.same sB1).same sB2
      by_cases hz : 0 < (sz : Int)
      · rw [if_pos hz]
        refine ⟨l3.t, fun fl c' M5 eN5 T5 nf hf hc act => ⟨fl, _, rfl, act _ M5 rfl rfl, ?_⟩⟩
        clear nf hf hc act
        have b5 := l3.ext eN5 T5
        have W5 := W.go (g0.trans b5)
        walk_at "ev"
        obtain ⟨dx5, ex5⟩ := W5.B.x
        simp only [Ix_ins ex5]
        walk_at "ev"
        refine ⟨g, sz, bl, wi, _, at_, u, rfl, W5.B, ?_, (oddL_ok (OG b5) hu).1, (oddL_ok (OG b5) hu).2.1, (oddL_ok (OG b5) hu).2.2.1, (oddL_ok (OG b5) hu).2.2.2, heard_worth fun p5x N5' s5 ep5 => ?_⟩
        · split at ar1 <;> omega
        have x5 : Go j (tt P1 P2 P3) L3 N5' := ((Go.refl l3.J l3.t).ext eN5 T5).same s5
        have y5 := x5.k _ _ ntn r3 fun ps z => by cases z
        simp only [Ls_lst y5]
        rw [show ixN ([.ref p1x, .ref p2x, .ref p3x, .ref p4x, .int 0] : List V).length 4 = some 4 from rfl]
        simp only [Op_some]
        generalize hU5 : upd N5' tn (.lst (([.ref p1x, .ref p2x, .ref p3x, .ref p4x, .int 0] : List V).set 4 (.ref p5x))) = L4
        obtain ⟨l4, r4, f5⟩ := upd_step (b5.same s5) y5 n0 ntn hU5
        have r4 : L4 tn = some (.lst [.ref p1x, .ref p2x, .ref p3x, .ref p4x, .ref p5x]) := r4
        have q1 := f5 _ _ (x5.tup l3.J q1)
        have q2 := f5 _ _ (x5.tup l3.J q2)
        have q3 := f5 _ _ (x5.tup l3.J q3)
        have q4 := f5 _ _ (x5.tup l3.J q4)
        have q5 := f5 _ _ ep5
        exact tail _ _ l4 r4 q1 q2 q3 q4 q5
      · rw [if_neg hz]
        refine ⟨by decide, Nw.intro fun p5x N5 m5 => ?_⟩
        have y5 := m5.same _ _ r3
        simp only [Ls_lst y5]
        rw [show ixN ([.ref p1x, .ref p2x, .ref p3x, .ref p4x, .int 0] : List V).length 4 = some 4 from rfl]
        simp only [Op_some]
        generalize hU5 : upd N5 tn (.lst (([.ref p1x, .ref p2x, .ref p3x, .ref p4x, .int 0] : List V).set 4 (.ref p5x))) = L4
        obtain ⟨l4, r4, f5⟩ := upd_step (l3.same m5.same) y5 n0 ntn hU5
        exact tail _ _ l4 r4 (f5 _ _ (m5.same _ _ q1)) (f5 _ _ (m5.same _ _ q2)) (f5 _ _ (m5.same _ _ q3)) (f5 _ _ (m5.same _ _ q4)) (f5 _ _ m5.it)
    · rintro σ H7 ⟨g7, x6, x7, x8, x9, x10, x11, rfl⟩
      walk_at "ev"
      exact q H7 (g0.trans g7)
end
end K32
namespace K32
open PySem PySem.Spec PyProof.Rows L2 Lw LamX
theorem okd_up : ∀ {m n : Nat} {d : PyData}, m ≤ n → okd m d = true → okd n d = true := by
  intro m
  induction m with
  | zero =>
    intro n d _ h
    cases d <;> first | (cases n <;> rfl) | (cases h)
  | succ m ih =>
    intro n d hn h
    obtain ⟨k, rfl⟩ : ∃ k, n = k + 1 := ⟨n - 1, by omega⟩
    have go : ∀ ds : List PyData, (decide (ds.length ≤ 1000000) && ds.all (okd m)) = true → (decide (ds.length ≤ 1000000) && ds.all (okd k)) = true := fun ds h => by
      obtain ⟨h1, h2⟩ := Bool.and_eq_true_iff.mp h
      rw [h1, Bool.true_and, List.all_eq_true]
      exact fun d hd => ih (by omega) (List.all_eq_true.mp h2 d hd)
    cases d with
    | list ds =>
      unfold okd at h ⊢
      exact go ds h
    | tuple ds =>
      unfold okd at h ⊢
      exact go ds h
    | none => rfl
    | bool _ => rfl
    | int _ => rfl
    | str _ => rfl
    | _ => exact absurd h (by unfold okd; decide)
/-- a new store and a new own one -/
theorem new_pair {C : Addr} {sz bl wi : Nat} {j x dx : Addr} {g : G} {o : Ow} {H H3 H4 : Hp} (J : JarAt H j) (hx : H x = none) (hdx : H dx = none) (B : BlAt C sz bl wi g (· ∈ g.s.2.1) H3) (gx : g.x = x) (gs : g.s = ([], [], 0, 0)) (gk : g.kp = List.replicate sz .non)
    (gR : ∀ a, g.R a → a = x ∨ (upd (upd H dx (.own x)) x (.ins C dx [])) a = none) (keep : ∀ a u, a ≠ x → (upd (upd H dx (.own x)) x (.ins C dx [])) a = some u → H3 a = some u) (O : OwnAt nE sz bl wi o H4) (os : o.s = ([], [], 0, 0)) (ok : o.kq = List.replicate sz .non) (oR : ∀ a, o.R a → H3 a = none) (s4 : Same H3 H4) :
    Wd C sz bl wi j g o H4 := by
  obtain ⟨d, t, c, ej, hb⟩ := J
  have njx : j ≠ x := fun z => by
    rw [z, hx] at ej
    cases ej
  have njd : j ≠ dx := fun z => by
    rw [z, hdx] at ej
    cases ej
  have em : (upd (upd H dx (.own x)) x (.ins C dx [])) j = some (.lst (jarL d t c)) := by rw [upd_ne njx, upd_ne njd]; exact ej
  have e3 := keep j _ njx em
  refine { B := B.same s4, O := O, J := ⟨d, t, c, s4 _ _ e3, hb⟩, l := by rw [gs, os], pm := by rw [gs, os], f := by rw [gs, os], kq := by rw [gk, ok]; exact Kq.rep _, d1 := fun a ha ho => ?_, d2 := fun z => ?_, d3 := fun z => ?_ }
  · obtain ⟨u, e, _⟩ := B.rg a ha
    rw [oR a ho] at e
    cases e
  · rcases gR j z with y | y
    · exact njx y
    · rw [em] at y
      cases y
  · rw [oR j z] at e3
    cases e3
def MkK (P : Program) (w : World) (K : PySem.W.Frag) (mg : Str → Option Value) (base : Heap) (x : Str) (C : Addr) (ps : List Str) (n : Nat) (ks : List Str) (gV : List V → List V → List V) (k : Nat) (sp : Sp) : Prop :=
  ∃ f fd g, Mk K C f ∧ FnOk P w K mg base CX0 k f fd ps sp ∧ mg x = some (.ref C) ∧ KBn K fd ps (n + 1) ks g gV
theorem pe_mkK {X : Cx} {x : Str} {C : Addr} {ps : List Str} {n k : Nat} {ks : List Str} {gV : List V → List V → List V} {sp : Sp} {p pos : Pos} {e : Expr} {es : List Expr} {kws : List Keyword} {t tk : TA} (c : MkK X.prog X.w X.K X.mg X.base x C ps n ks gV k sp) (hr : Room (k + 1) X.A) (hg : Gl X x)
    (ha : PA X (e :: es) t) (hkw : PK X kws tk) (hall : (backToKw pos (keywordEach kws X.env)).all (·.1.isSome) = true := by rfl) (hks : (backToKw pos (keywordEach kws X.env)).filterMap (·.1) = ks := by rfl)
    (hdb : (x == ("__debug__" : Str)) = false := by decide) (he : starEach (e :: es) X.env = (false, eval e X.env) :: starEach es X.env := by rfl)
    (hpl : ((backTo pos (starEach (e :: es) X.env)).any (·.1) || (backToKw pos (keywordEach kws X.env)).any (·.1.isNone)) = false := by rfl) :
    PE X (.Call (.Name x p) (e :: es) kws pos) (tMakeK C n ks.length sp gV E0 t tk) := by
  obtain ⟨f, fd, g, M, G, m, b⟩ := c
  exact pe_makeK M G hr hg m b pass0 ha hkw hall hks hdb he hpl
local macro_rules | `(tactic| walk_at "ev") => `(tactic| simp only [cxOf, tErrI, tErrSt, tKx, tMethX, tMkF, tMakeK, tMake, tDispF, tPairs, Kvs, okv_sizes, okv_line, okv_fresh, okv_kept, okv_fetched, okv_put, okv_fresh_, okv_line_, okv_fetched_, okv_put_, tNoS, tFldF, sFldF, sFldAugF, tMethF, Ix_upd, lk_eq, lk_ne, lk_nil, putF_nil, putF_eq, putF_ne, Str_lit, String.reduceEq, fsB, rListK, rDictD, rRevF, rLenD, rAllF, rSortF, rSortK, rLenI, tChain, Int.reduceMul, tPar3, tCallN, iKeysF, tLockE, tDisp1F, mergeK_one, tYes, iRng3, ex_ints, ex_any, tML, tML0, tMD, tTupN, tLstN, tDNewN, rSlL2, rCatF, rRepF, tRevF, rListF, rMaxF, tDGetF, tDGet1F, tDGet2F, tDPop1F, tDPop2F, sDPutF, tLenSetF, tSl, tPart, tNoPart, ipI, rIsiF, Tz_non, Tz_bl, Tz_int, Tz_str, Cl7_int, Cl7_bool, Cl7_str, Cl7_list, Cl7_tuple, Cl7_dict, T7.isa, iListF, iTupF, cpow12, cpow60, tFor_eq, tLc_eq, iRng1, iRng2, wipe, Cx.nox, Cx.wish, tSeq, tIfS, tTest, tOp, tVar, tC, tRet, tRetN, tCB, tCons, tNil, tB, tNot, tAnd, tOr, tAndV, tOrV, tNotV, tIf, rEq, rNe, scal_ii, scal_bb, scal_ss, scal_nn, scal_si, scal_is, scal_in, scal_ni, Bool.or_true, Bool.true_or, Bool.or_false, Bool.false_or, Bool.and_true, Bool.true_and, Bool.and_false, Bool.false_and, rI, rI0, rU, tUn, t2I, tAsg, gName, tPar, tDrop, tLst, tTup, tCall, tNext, tBreak, tCont, tAug, rAdd, gTup, gTupF, gCons, gNil, gSub, rIxF, rLenF, rSetF, rAppF, rExtF, rPop0, rRemF, rInF, rDUpd, Nt_int, Op_some, Ky_int, Ky_str,
  List.map_cons, List.map_nil, List.cons_append, List.nil_append, List.append_nil, List.getElem?_cons_zero, List.getElem?_cons_succ, List.set_cons_zero, List.set_cons_succ, List.length_cons, List.length_nil, Option.some.injEq, exists_eq_left', exists_eq_left, exists_eq_right, V.int.injEq, V.ref.injEq, V.bl.injEq, V.str.injEq, V.ty.injEq, List.cons.injEq, and_true, true_and, and_assoc, reduceCtorEq, decide_eq_true_eq, decide_true, decide_false, if_true, if_false, ite_true, ite_false, Bool.false_eq_true, false_and, and_false, exists_false, exists_const, or_false, false_or, Bool.not_eq_true', decide_eq_false_iff_not, List.replicate_succ, List.replicate_zero, Nat.reduceSub, Nat.reduceAdd, Int.reducePow, Int.reduceNeg, exists_and_left, exists_and_right, atI_0, atI_1, atI_2, ixN_0, ixN_1, ixN_2, L2.start, upd_upd, Sq_upd, Sq_updT, Tp_upd, Ls_upd, Dk_upd, Int.reduceLT, Int.reduceLE, Nat.reduceLT, Nat.reduceLeDiff, forall_eq', forall_eq, id, Int.zero_add, Bool.not_true, Bool.not_false, not_true_eq_false, not_false_eq_true, ne_eq])

section
variable {P : Program} {w : World} {K : PySem.W.Frag} {mg : Str → Option Value} {base : Heap} {C CE CL CC CW : Addr}
def kwB : List (Str × V) := [("block", .int 4), ("within", .int 4)]
theorem mk_K {f : Addr} {fd : FuncData} (F : FunD K "__init__" "Blocks.__init__" (defArgs sInit) (defBody sInit) (defScope sInit) [] kwB f fd) (M : Mk K C f) (hm : mg "Blocks" = some (.ref C)) (G : FnOk P w K mg base CX0 4 f fd ["self", "size", "block", "within"] (spInit C)) :
    MkK P w K mg base "Blocks" C ["self", "size", "block", "within"] 1 ["block", "within"] (fun vs zs => vs ++ zs) 4 (spInit C) := by
  obtain ⟨mv, b⟩ := F.kbinds0 (ps := ["self", "size", "block", "within"]) 2 ["block", "within"] [] (fun us _ ws => us ++ ws) (by decide) (fun q hq => nomatch hq) (fun r1 _ r3 => r1.append r3) (fun D doc pm an cdv ct us mv ws h1 h2 h3 => match us, mv, ws, h1, h2, h3 with
    | [_, _], [], [_, _], _, _, _ => rfl)
  exact ⟨f, fd, _, M, G, hm, b⟩
theorem mk_KX {f : Addr} {fd : FuncData} (F : FunD K "__init__" "Blocks.__init__" (defArgs sInit) (defBody sInit) (defScope sInit) [] kwB f fd) (M : Mk K C f) (hm : mg "Blocks" = some (.ref C)) (G : FnOk P w K mg base (L2.CX P w) 5 f fd ["self", "size", "block", "within"] (spInitX C CL)) :
    MkKX P w K mg base "Blocks" C ["self", "size", "block", "within"] 1 ["block", "within"] (fun vs zs => vs ++ zs) 5 (spInitX C CL) := by
  obtain ⟨mv, b⟩ := F.kbinds0 (ps := ["self", "size", "block", "within"]) 2 ["block", "within"] [] (fun us _ ws => us ++ ws) (by decide) (fun q hq => nomatch hq) (fun r1 _ r3 => r1.append r3) (fun D doc pm an cdv ct us mv ws h1 h2 h3 => match us, mv, ws, h1, h2, h3 with
    | [_, _], [], [_, _], _, _, _ => rfl)
  exact ⟨f, fd, _, M, G, hm, b⟩
theorem mk_DX {f : Addr} {fd : FuncData} (F : FunD K "__init__" "Blocks.__init__" (defArgs sInit) (defBody sInit) (defScope sInit) [] kwB f fd) (M : Mk K C f) (hm : mg "Blocks" = some (.ref C)) (G : FnOk P w K mg base (L2.CX P w) 5 f fd ["self", "size", "block", "within"] (spInitX C CL)) :
    MkDX P w K mg base "Blocks" C ["self", "size", "block", "within"] [.int 4, .int 4] 5 (spInitX C CL) := by
  obtain ⟨ds, r, b⟩ := F.binds0 (ps := ["self", "size", "block", "within"]) 2 (by decide) rfl (fun D doc pm an cdv ct us mv h1 h2 => match us, mv, h1, h2 with
    | [_, _], [_, _], _, _ => ⟨_, _, _, _, _, _, rfl, rfl, _, _, _, _, _, _, rfl, rfl, rfl⟩)
  exact ⟨f, fd, ds, M, G, hm, b, r⟩
theorem tabs_fr {R : Addr → Prop} {T : List (Addr × Str)} {H H' : Hp} (t : Tabs T H) (g : Rg R H) (f : Fr R H H') : Tabs T H' := fun p hp => by
  obtain ⟨ps, h1, h2, h3⟩ := t p hp
  have k : ∀ a o, H a = some o → ¬ NT o → H' a = some o := fun a o e n => f a o (fun z => by
    obtain ⟨u, e2, n2⟩ := g a z
    rw [e] at e2
    cases e2
    exact n n2) e
  refine ⟨ps, k _ _ h1 (fun z => z), h2, fun pos cv hc => ?_⟩
  obtain ⟨c', e1, e2⟩ := h3 pos cv hc
  exact ⟨c', e1, k _ _ e2 fun z => z⟩
theorem wq_eq {H : Hp} {x y : V} (h : Wq H x y) : Eq2 H 4 x y := by
  obtain ⟨d, h1, h2, h3⟩ := wq_dq h
  exact Eq2.dq h1 h2 (okd_up (by decide) h3)
def spLaw (K : PySem.W.Frag) (P1 P2 P3 : Addr) : Sp := fun vs H Q _ => ∃ (a : Addr) (ns : List Int), vs = [.ref a] ∧ SqL K H a (ns.map V.int) ∧ ns.length ≤ 63 ∧ Tabs (tt P1 P2 P3) H ∧ ∀ H', Q (.bl true) H'
theorem scLaw : FnScope ["script", "jar", "go", "size", "width", "most_in", "store", "own", "k", "at"] ["script"] (defScope sLaw) := ⟨rfl, rfl, rfl, by decide +kernel, rfl, by decide +kernel, by decide +kernel⟩
theorem ok_law {P1 P2 P3 : Addr} {f : Addr} {fd : FuncData} {kws : List (Str × V)} (F : FunD K "law" "law" (defArgs sLaw) (defBody sLaw) (defScope sLaw) [] kws f fd) (T : Tb K mg C) (c_pool : Kn P w K mg base "_law_pool" ["script"] 1 (spPool K)) (c_take : Kn P w K mg base "_law_take" ["jar", "many"] 1 spTake) (c_one : Kn P w K mg base "_law_one" ["jar", "things"] 2 (spOne K)) (c_yq_same : Kn P w K mg base "_law_yq_same" ["heard_one", "owed"] 6 (spSame2 4))
    (c_mz_store : Kn P w K mg base "_law_mz_store" ["size", "width", "most_in"] 1 spMzStore) (c_mz_asked : Kn P w K mg base "_law_mz_asked" ["store", "at"] 1 spMzAsked) (c_mz_written : Kn P w K mg base "_law_mz_written" ["store", "at", "worth"] 2 spMzWritten) (c_sr_doors_right : Kn P w K mg base "_law_sr_doors_right" ["jar"] 10 (spDoors P1 P2 P3)) (c_sr_cells_right : Kn P w K mg base "_law_sr_cells_right" ["jar", "store", "own"] 10 (spCells C P1 P2 P3))
    (m_write : KnM P w K mg base C "write" ["self", "at", "worth"] 4 (spWrite C)) (m_read : KnM P w K mg base C "read" ["self", "at"] 4 (spRead C)) (m_Blocks_bw : MkK P w K mg base "Blocks" C ["self", "size", "block", "within"] 1 ["block", "within"] (fun vs zs => vs ++ zs) 4 (spInit C)) :
    FnOk P w K mg base CX0 11 f fd ["script"] (spLaw K P1 P2 P3) := by
  refine F.ok scLaw (fun vs H Q E h => ?_) (fun cdv A outer s H vs Q E hr h => ?_)
  · obtain ⟨a, ns, rfl, _⟩ := h
    rfl
  · refine nox_of ?_
    obtain ⟨a, ns, rfl, ha, hl, hT, q⟩ := h
    refine ⟨_, (pss_cons (ps_set (i := 1) scLaw.nd rfl (Or.inl rfl) (pe_kn c_pool (hr.mono (by decide)) (by rfl) (pa_cons (pv 0) pa_nil)))
      (pss_cons (ps_if (pt_not (pt_val (pe_kn c_sr_doors_right (hr.mono (by decide)) (by rfl) (pa_cons (pv 1) pa_nil)))) (pss_one (ps_ret pe_bl)) pss_nil)
      (pss_cons (ps_for PassesOwn.never rfl (pi_range1 (by rfl) T.range (pa_cons pe_int pa_nil)) (pg_name (i := 2) scLaw.nd rfl (Or.inl rfl)) (pss_cons (ps_par3 (i := 3) (j := 4) (l := 5) (by rfl) scLaw.nd rfl rfl rfl (by decide) (by decide) (by decide) rfl rfl rfl (pa_cons (pe_kn c_one (hr.mono (by decide)) (by rfl) (pa_cons (pv 1) (pa_cons (pe_lstN (pa_cons pe_int (pa_cons pe_int (pa_cons pe_int (pa_cons pe_int (pa_cons pe_int pa_nil)))))) pa_nil))) (pa_cons (pe_op op_add pe_int (pe_kn c_take (hr.mono (by decide)) (by rfl) (pa_cons (pv 1) (pa_cons pe_int pa_nil)))) (pa_cons (pe_op op_add pe_int (pe_kn c_take (hr.mono (by decide)) (by rfl) (pa_cons (pv 1) (pa_cons pe_int pa_nil)))) pa_nil))) (by rfl))
      (pss_cons (ps_par (i := 6) (j := 7) (by rfl) scLaw.nd rfl rfl (by decide) rfl rfl (pa_cons (pe_mkK m_Blocks_bw (hr.mono (by decide)) (by rfl) (pa_cons (pv 3) pa_nil) (pk_cons (pv 4) (pk_cons (pv 5) pk_nil))) (pa_cons (pe_kn c_mz_store (hr.mono (by decide)) (by rfl) (pa_cons (pv 3) (pa_cons (pv 4) (pa_cons (pv 5) pa_nil)))) pa_nil)) (by rfl))
      (pss_one (ps_for PassesOwn.never rfl (pi_range1 (by rfl) T.range (pa_cons pe_int pa_nil)) (pg_name (i := 8) scLaw.nd rfl (Or.inl rfl)) (pss_cons (ps_if (pt_not (pt_val (pe_kn c_sr_cells_right (hr.mono (by decide)) (by rfl) (pa_cons (pv 1) (pa_cons (pv 6) (pa_cons (pv 7) pa_nil)))))) (pss_one (ps_ret pe_bl)) pss_nil)
      (pss_cons (ps_set (i := 9) scLaw.nd rfl (Or.inl rfl) (pe_kn c_take (hr.mono (by decide)) (by rfl) (pa_cons (pv 1) (pa_cons (pe_callB (call_max2 rfl) (by rfl) T.max (by decide +kernel) (pa_cons pe_int (pa_cons (pv 3) pa_nil))) pa_nil))))
      (pss_one (ps_if (PW.pt (pw_and (pt_cmpR op_gt (pv 3) pe_int (nomark _)) (pw_and1 (pt_cmpR op_eq (pe_op op_mod (pv 8) pe_int) pe_int (nomark _))))) (pss_cons (ps_expr (pe_kn c_mz_written (hr.mono (by decide)) (by rfl) (pa_cons (pv 7) (pa_cons (pv 9) (pa_cons (pe_tupN (pa_cons (pv 8) (pa_cons pe_int pa_nil))) pa_nil)))))
      (pss_one (ps_expr (pe_km m_write T.cl (hr.mono (by decide)) (pv 6) (pa_cons (pv 9) (pa_cons (pe_tupN (pa_cons (pv 8) (pa_cons pe_int pa_nil))) pa_nil)))))) (pss_one (ps_if (pt_cmpR op_gt (pv 3) pe_int (nomark _)) (pss_cons (ps_expr (pe_kn c_mz_asked (hr.mono (by decide)) (by rfl) (pa_cons (pv 7) (pa_cons (pv 9) pa_nil))))
      (pss_one (ps_if (pt_not (pt_val (pe_kn c_yq_same (hr.mono (by decide)) (by rfl) (pa_cons (pe_km m_read T.cl (hr.mono (by decide)) (pv 6) (pa_cons (pv 9) pa_nil)) (pa_cons (pe_ix ix_f (pe_dgetF (hu_of hr) (pv 7) pe_str (fun _ _ => rfl)) (pv 9) (fun _ _ => rfl)) pa_nil))))) (pss_one (ps_ret pe_bl)) pss_nil))) pss_nil)))))))))))
      (pss_one (ps_ret pe_bl))))), ?_⟩
    walk_at "ev"
    refine ⟨a, ns, rfl, ha, hl, fun H1 j d t s1 nj hj hb => ?_⟩
    have J1 : JarAt H1 j := ⟨d, t, 0, hj, hb⟩
    have T1 : Tabs (tt P1 P2 P3) H1 := hT.ext s1
    walk_at "ev"
    refine ⟨j, rfl, J1, T1, fun H2 k2 J2 T2 => ⟨true, rfl, ?_⟩⟩
    rw [if_neg (by decide)]
    refine lp_range (fun i σ H' => JarAt H' j ∧ Tabs (tt P1 P2 P3) H' ∧ ∃ x2 x3 x4 x5 x6 x7 x8 x9, σ = [some (.ref a), some (.ref j), x2, x3, x4, x5, x6, x7, x8, x9]) ?_ ?_ ?_
    · exact ⟨J2, T2, _, _, _, _, _, _, _, _, rfl⟩
    · rintro i σ H' hi ⟨J, T0, x2, x3, x4, x5, x6, x7, x8, x9, rfl⟩
      walk_at "ev"
      refine ⟨by decide, one_new (H0 := H') (Go.refl J T0) (by simp) (by decide) fun v1 G1 hv1 g1 => ?_⟩
      refine ⟨j, 5, rfl, g1.J, by decide, by decide, fun r1 G2 a1 a2 t2 => ?_⟩
      have g2 := g1.jar t2
      refine ⟨r1, rfl, j, 3, rfl, g2.J, by decide, by decide, fun r2 G3 b1 b2 t3 => ?_⟩
      have g3 := g2.jar t3
      obtain ⟨sz, rfl, hsz⟩ : ∃ sz : Nat, v1 = .int sz ∧ sz ≤ 30 := by
        simp only [List.mem_cons, List.not_mem_nil, or_false] at hv1
        rcases hv1 with rfl | rfl | rfl | rfl | rfl
        · exact ⟨0, rfl, by decide⟩
        · exact ⟨1, rfl, by decide⟩
        · exact ⟨5, rfl, by decide⟩
        · exact ⟨12, rfl, by decide⟩
        · exact ⟨30, rfl, by decide⟩
      obtain ⟨bl, ebl, hb1, hb2⟩ : ∃ bl : Nat, 1 + r1 = (bl : Int) ∧ 1 ≤ bl ∧ bl ≤ 64 := ⟨(1 + r1).toNat, by omega, by omega, by omega⟩
      obtain ⟨wi, ewi, hw1, hw2⟩ : ∃ wi : Nat, 1 + r2 = (wi : Int) ∧ 1 ≤ wi ∧ wi ≤ 64 := ⟨(1 + r2).toNat, by omega, by omega, by omega⟩
      refine ⟨r2, rfl, fun x dx hx hdx hne => ?_⟩
      rw [ebl, ewi]
      refine ⟨x, dx, sz, bl, wi, rfl, upd_same, by omega, hb1, hb2, hw1, hw2, fun g H5 B gx gs gk gN gR keep => ⟨rfl, ?_⟩⟩
      refine ⟨sz, bl, wi, rfl, by omega, fun o H6 O os ok oR s6 => ?_⟩
      have W := new_pair g3.J hx hdx B gx gs gk gR keep O os ok oR s6
      have sT : Same G3 H6 := fun b u e => by
        refine s6 _ _ (keep b u (ne_of_none e hx) ?_)
        rw [upd_ne (ne_of_none e hx), upd_ne (ne_of_none e hdx)]
        exact e
      have T6 := g3.t.ext sT
      rw [← gx]
      refine lp_range (fun k σ H' => (∃ (g2 : G) (o2 : Ow) (y8 y9 : Option V), Wd C sz bl wi j g2 o2 H' ∧ g2.x = g.x ∧ o2.x = o.x ∧ g2.N ≤ 2 * k ∧ σ = [some (.ref a), some (.ref j), some (.int i), some (.int sz), some (.int bl), some (.int wi), some (.ref g.x), some (.ref o.x), y8, y9]) ∧ Tabs (tt P1 P2 P3) H') ⟨⟨g, o, x8, x9, W, rfl, rfl, by omega, rfl⟩, T6⟩ ?_ ?_
      · rintro k σ H7 hk ⟨⟨g2, o2, y8, y9, W7, hgx, hox, hN, rfl⟩, T7⟩
        have hk8 : k < 8 := hk
        walk_at "ev"
        rw [← hgx, ← hox]
        refine ⟨j, g2, o2, sz, bl, wi, rfl, W7, by omega, hb1, hb2, hw1, hw2, T7, fun H8 g8 => ⟨true, rfl, ?_⟩⟩
        rw [if_neg (by decide)]
        have W8 := W7.go g8
        refine ⟨j, _, rfl, W8.J, by split <;> omega, by split <;> omega, fun r H9 r0 r1 t9 => ?_⟩
        have W9 := W8.jar t9
        have T9 := tabs_jar g8.t g8.J t9
        obtain ⟨at_, rfl⟩ : ∃ n : Nat, r = (n : Int) := ⟨r.toNat, by omega⟩
        have ha : 0 < (sz : Int) → at_ < sz := fun h => by
          split at r1 <;> omega
        have hget : ∀ (l : List V) (h : at_ < l.length), l[at_]? = some (l.getD at_ .non) := fun l h => by
          rw [List.getD_eq_getElem?_getD, List.getElem?_eq_getElem h]
          rfl
        dsimp only
        by_cases hz : 0 < (sz : Int)
        · have ha := ha hz
          rw [if_pos hz]
          by_cases hk2 : (k : Int) % 2 = 0
          · rw [if_pos hk2]
            refine ⟨by decide, Nw.intro fun p1 K1 m1 => ?_⟩
            have W10 := W9.same m1.same
            refine ⟨o2, sz, bl, wi, at_, .ref p1, rfl, W10.O, ha, by omega, hb1, hb2, hw1, hw2, fun o1 G1 O1 hx1 hs1 hk1 hr1 hr1' f1 => ?_⟩
            have B1 := W10.B.fr f1 W10.d1
            obtain ⟨dx', ex⟩ := B1.x
            simp only [Ix_ins ex]
            refine ⟨by rfl, by decide, Nw.intro fun p2 G2 m2 => ?_⟩
            have B2 := B1.same m2.same
            refine ⟨g2, sz, bl, wi, at_, .ref p2, rfl, B2, ha, by omega, .inr (.inr ⟨p2, k, 1, rfl, m2.it, by decide, by simp⟩), by omega, hb1, hb2, hw1, hw2, fun g4 G3 B3 hx2 hs2 hk2 hN2 hR2 hR2' f2 => ?_⟩
            obtain ⟨e1, e2, e3⟩ := wrt_rel (m := wi) W10.l W10.pm W10.f ((at_ : Int) / (bl : Int)) (by
              have := B3.nT
              rw [hs2] at this
              have h5 : (addT (ask wi g2.s ((at_ : Int) / (bl : Int))).2.1 ((at_ : Int) / (bl : Int))).Nodup := this
              unfold addT at h5
              split at h5
              · exact h5
              · exact (List.nodup_append.mp h5).1)
            have up : ∀ t us, K1 t = some (.tup us) → G3 t = some (.tup us) := fun t us e => f2.tup B2.rg (m2.same _ _ (f1.tup W10.O.rg e))
            have W11 := W10.step O1 hr1 hr1' f1 B3 (fun a h => (hR2 a h).imp id fun n => by
              cases q : G1 a with
              | none => rfl
              | some u =>
                rw [m2.same _ _ q] at n
                cases n) hR2' ((Fr.of m2.same).trans f2) (by rw [hs2, hs1]; exact e1) (by rw [hs2, hs1]; exact e2) (by rw [hs2, hs1]; exact e3) (by
              rw [hk2, hk1]
              exact (W10.kq.map up).set at_ (.inr (.inr ⟨p2, p1, k, 1, rfl, rfl, f2.tup B2.rg m2.it, up _ _ m1.it⟩)))
            exact ⟨⟨g4, o1, W11, hx2, hx1, by omega⟩, tabs_fr ((tabs_fr (T9.ext m1.same) W10.O.rg f1).ext m2.same) B2.rg f2⟩
          · rw [if_neg hk2, if_pos hz]
            refine ⟨o2, sz, bl, wi, at_, rfl, W9.O, ha, by omega, hb1, hb2, hw1, hw2, fun o1 G1 O1 hx1 hs1 hk1 hr1 hr1' f1 => ?_⟩
            have B1 := W9.B.fr f1 W9.d1
            obtain ⟨dx', ex⟩ := B1.x
            simp only [Ix_ins ex]
            refine ⟨by rfl, g2, sz, bl, wi, at_, rfl, B1, ha, by omega, by omega, hb1, hb2, hw1, hw2, fun g4 G2 B2 hx2 hs2 hk2 hN2 hR2 hR2' f2 => ?_⟩
            obtain ⟨e1, e2, e3⟩ := ask_rel (m := wi) W9.l W9.pm W9.f ((at_ : Int) / (bl : Int))
            have W10 := W9.step O1 hr1 hr1' f1 B2 hR2 hR2' f2 (by rw [hs2, hs1]; exact e1) (by rw [hs2, hs1]; exact e2) (by rw [hs2, hs1]; exact e3) (by
              rw [hk2, hk1]
              exact W9.kq.map fun t us e => f2.tup B1.rg (f1.tup W9.O.rg e))
            rw [← hx1]
            simp only [Dr_dK W10.O.x]
            walk_at "ev"
            have hl1 : at_ < o1.kq.length := by rw [W10.O.kl]; exact ha
            have hl2 : at_ < g2.kp.length := by rw [← hk2, W10.B.kl]; exact ha
            simp only [Sq_lst W10.O.kp, atI_natE, hget _ hl1, Op_some]
            refine ⟨_, _, rfl, wq_eq (W10.kq.2 at_ _ _ (by rw [hk2]; exact hget _ hl2) (hget _ hl1)), true, rfl, ?_⟩
            rw [if_neg (by decide)]
            exact ⟨⟨g4, o1, W10, hx2, rfl, by omega⟩, tabs_fr (tabs_fr T9 W9.O.rg f1) B1.rg f2⟩
        · rw [if_neg hz, if_neg hz]
          exact ⟨⟨g2, o2, W9, rfl, rfl, by omega⟩, T9⟩
      · rintro σ H7 ⟨⟨g2, o2, y8, y9, W7, hgx, hox, hN, rfl⟩, T7⟩
        walk_at "ev"
        exact ⟨W7.J, T7⟩
    · rintro σ H' ⟨J, T0, x2, x3, x4, x5, x6, x7, x8, x9, rfl⟩
      walk_at "ev"
      exact q H'
end
end K32
namespace K32
open PySem PySem.Spec PyProof.Rows L2 Lw LamX
def dfd (x : Str) (st : Stmt) (kw : List (Str × He.Dv) := []) : He.DefD := ⟨(x, none), x, x, defArgs st, defBody st, defScope st, [], kw⟩
def dLaw := dfd "law" sLaw
def dfm (c x q : Str) (st : Stmt) (kw : List (Str × He.Dv) := []) : He.DefD := ⟨(c, some x), x, q, defArgs st, defBody st, defScope st, [], kw⟩
def fn : List He.DefD := [dfd "is_whole" sIsWhole, dfd "divisor_of" sDivisor, dfd "is_number" sIsNumber, dfd "is_worth" sIsWorth, dfd "is_from" sIsFrom, dfd "look_at_sizes" sLookSizes, dfd "_law_yq_is_whole" sWhole, dfd "_law_yq_same" sSame, dfd "_law_pool" sPool, dfd "_law_take" sTake, dfd "_law_one" sOne, dfd "_law_mz_store" sMzStore, dfd "_law_mz_asked" sMzAsked, dfd "_law_mz_written" sMzWritten, dfd "_law_mz_store_shown" sMzShown, dfd "_law_sr_heard" sSrHeard, dfd "_law_sr_made" sSrMade, dfd "_law_sr_shown" sSrShown, dfd "_law_sr_doors_right" sSrDoors, dfd "_law_sr_cells_right" sSrCells, dfd "law" sLaw, dfm "Blocks" "sizes" "Blocks.sizes" sSizes, dfm "Blocks" "look_at_cell" "Blocks.look_at_cell" sLookCell, dfm "Blocks" "fetch" "Blocks.fetch" sFetch, dfm "Blocks" "put_away" "Blocks.put_away" sPutAway, dfm "Blocks" "write" "Blocks.write" sWrite, dfm "Blocks" "read" "Blocks.read" sRead, dfm "Blocks" "seen" "Blocks.seen" sSeen, dfm "Blocks" "within" "Blocks.within" sWithin, dfm "Blocks" "written" "Blocks.written" sWritten, dfm "Blocks" "counts" "Blocks.counts" sCounts, dfm "Blocks" "worths" "Blocks.worths" sWorths, dfm "Blocks" "__len__" "Blocks.__len__" sLen, dfm "Blocks" "__init__" "Blocks.__init__" sInit [("block", .int 4), ("within", .int 4)], dfm "NoLanes" "__init__" "NoLanes.__init__" sNlInit, dfm "NoCell" "__init__" "NoCell.__init__" sNcInit]
def names : List Str := ["_wall", "CellError", "NoWorth", "NoLanes", "NoCell", "MOST_CELLS", "MOST_BLOCK", "MOST_WITHIN", "is_whole", "divisor_of", "is_number", "is_worth", "is_from", "look_at_sizes", "_law_yq_is_whole", "_law_yq_same", "_law_pool", "_law_take", "_law_one", "_law_mz_store", "_law_mz_asked", "_law_mz_written", "_law_mz_store_shown", "_law_sr_heard", "_law_sr_made", "_law_sr_shown", "_law_sr_doors_right", "_law_sr_cells_right", "Blocks"]
def fa : List He.Fa := [.glo "is_whole", .glo "divisor_of", .glo "is_number", .glo "is_worth", .glo "is_from", .glo "look_at_sizes", .glo "_law_yq_is_whole", .glo "_law_yq_same", .glo "_law_pool", .glo "_law_take", .glo "_law_one", .glo "_law_mz_store", .glo "_law_mz_asked", .glo "_law_mz_written", .glo "_law_mz_store_shown", .glo "_law_sr_heard", .glo "_law_sr_made", .glo "_law_sr_shown", .glo "_law_sr_doors_right", .glo "_law_sr_cells_right", .glo "law", .free "len", .free "int", .free "isinstance", .free "bool", .free "str", .free "tuple", .free "list", .free "range", .free "max", .free "min", .free "set", .free "dict", .free "abs", .free "all", .free "sorted", .free "ValueError", .free "IndexError", .glo "Blocks", .cls "Blocks", .mkr "Blocks", .noat "Blocks" "cells_many", .noat "Blocks" "block_size", .noat "Blocks" "within_most", .noat "Blocks" "outside", .noat "Blocks" "inside", .noat "Blocks" "turned", .noat "Blocks" "fetched_many", .noat "Blocks" "put_many", .meth "Blocks" "sizes", .meth "Blocks" "look_at_cell", .meth "Blocks" "fetch", .meth "Blocks" "put_away", .meth "Blocks" "write", .meth "Blocks" "read", .meth "Blocks" "seen", .meth "Blocks" "within", .meth "Blocks" "written", .meth "Blocks" "counts", .meth "Blocks" "worths", .meth "Blocks" "__len__", .int "MOST_CELLS" 20000, .int "MOST_BLOCK" 64, .int "MOST_WITHIN" 64, .glo "CellError", .glo "NoLanes", .glo "NoCell", .glo "NoWorth", .exc "NoWorth"]
def tf : List He.Defn := [("_law_sr_made", none), ("_law_sr_doors_right", none), ("_law_sr_cells_right", none)]
abbrev gE (K : PySem.W.Frag) : Addr := He.ga K "CellError"
abbrev gL (K : PySem.W.Frag) : Addr := He.ga K "NoLanes"
abbrev gC (K : PySem.W.Frag) : Addr := He.ga K "NoCell"
abbrev gW (K : PySem.W.Frag) : Addr := He.ga K "NoWorth"
def ex (K : PySem.W.Frag) : Bool := errCB K (gL K) "ValueError.__new__" veT && (errCB K (gC K) "IndexError.__new__" ieT && (initB K (gE K) "ValueError.__init__" && (ownInitB K (gL K) (He.ma K (gL K) "__init__") ["what"] && (ownInitB K (gC K) (He.ma K (gC K) "__init__") ["name", "cell"] && (excCB K (gL K) && (excCB K (gC K) && (excCB K (gW K) && (decide (PySem.W.exmOne K (.ref (gL K)) (.ref (gL K)) = some true) && (decide (PySem.W.exmOne K (.ref (gC K)) (.ref (gL K)) = some false) && (decide (PySem.W.exmOne K (.ref (gC K)) (.ref (gC K)) = some true) && (decide (PySem.W.exmOne K (.ref (gW K)) (.ref (gL K)) = some false) && (decide (PySem.W.exmOne K (.ref (gW K)) (.ref (gC K)) = some false) && (decide (PySem.W.exmOne K (.ref (gW K)) (.ref (gW K)) = some true) && (decide (PySem.W.kitOne K (.ref (gL K)) (.ref (gE K)) = some true) && (decide (PySem.W.kitOne K (.ref (gL K)) (.type "ValueError") = some true) && (decide (PySem.W.kitOne K (.ref (gC K)) (.type "IndexError") = some true) && (decide (PySem.W.kitOne K (.ref (gW K)) (.ref (gE K)) = some true) && (decide (PySem.W.kitOne K (.ref (gW K)) (.type "ValueError") = some true) && (decide ((He.cT K ("_law_sr_made", none)).2 ≠ (He.cT K ("_law_sr_doors_right", none)).2) && (decide ((He.cT K ("_law_sr_made", none)).2 ≠ (He.cT K ("_law_sr_cells_right", none)).2) && (decide ((He.cT K ("_law_sr_doors_right", none)).2 ≠ (He.cT K ("_law_sr_cells_right", none)).2))))))))))))))))))))))
abbrev R : PySem.W.OpenRow := PySem.W.OpenLaw.row PySem.Challenge.rw_fewestsent_k32_stores_refuse
abbrev hk : PySem.W.Hook := hookW (asS 4) fa fn [] tf ex
def ob (s : PySem.W.SharedT) : He.AlX := obsW (asS 4) fa fn [] tf ex (HandSHeadRun.getT s)
theorem ob_eq (s : PySem.W.SharedT) : ob s = hk.obs s.abs := obsW_eq (HandSHeadRun.getT_eq s)
theorem run (w : World) : HandSHeadRun.RunEq R (PySem.W.view R.prog [33]) hk ob 3000 names w := by
  intro os
  kernel_rfl
theorem code_at {K : PySem.W.Frag} {x : Str} {st : Stmt} {fd : FuncData} (F : FunD K x x (defArgs st) (defBody st) (defScope st) [] [] (He.fAd K (x, none)) fd) : fd.code = .ref (He.codeOf K (x, none)) := by
  obtain ⟨oc, od, dV, kV, doc, pm, an, cdv, ct, osl, rfl, lk, hcd, _, _⟩ := F.ex
  obtain ⟨c, hc⟩ := He.codeIn_ref hcd
  have e : (PySem.W.fnOf x x (defArgs st) (defBody st) (defScope st) dV kV doc pm an cdv ct).code = .ref c := hc
  rw [He.codeOf_eq lk e]
  exact e
theorem facts {P : Program} {w : World} {K : PySem.W.Frag} {h : Heap} {mg : Str → Option Value} {f : Addr} (X : K.In h) (G : h.Ns mainGlobals mg) (hfa : mg ("law" : Str) = some (.ref f)) (c : He.SaysX fa fn [] tf ex w h K) :
    ∃ fd : FuncData, (∀ (s : Shared) (v : Value), BindsTo s fd ⟨[v], []⟩ [("script", v)]) ∧ ∀ base : Heap, K.In base → base.Ns mainGlobals mg → (∀ p ∈ tf.map (He.cT K), TabB base mg p.1 p.2) → FnOk P w K mg base CX0 40 f fd ["script"] (spLaw K (He.cT K ("_law_sr_made", none)).2 (He.cT K ("_law_sr_doors_right", none)).2 (He.cT K ("_law_sr_cells_right", none)).2) := by
  have cd := c.t.d
  have more := c.more
  unfold ex at more
  obtain ⟨z0, more⟩ := Bool.and_eq_true_iff.mp more
  obtain ⟨z1, more⟩ := Bool.and_eq_true_iff.mp more
  obtain ⟨z2, more⟩ := Bool.and_eq_true_iff.mp more
  obtain ⟨z3, more⟩ := Bool.and_eq_true_iff.mp more
  obtain ⟨z4, more⟩ := Bool.and_eq_true_iff.mp more
  obtain ⟨z5, more⟩ := Bool.and_eq_true_iff.mp more
  obtain ⟨z6, more⟩ := Bool.and_eq_true_iff.mp more
  obtain ⟨z7, more⟩ := Bool.and_eq_true_iff.mp more
  obtain ⟨z8, more⟩ := Bool.and_eq_true_iff.mp more
  obtain ⟨z9, more⟩ := Bool.and_eq_true_iff.mp more
  obtain ⟨z10, more⟩ := Bool.and_eq_true_iff.mp more
  obtain ⟨z11, more⟩ := Bool.and_eq_true_iff.mp more
  obtain ⟨z12, more⟩ := Bool.and_eq_true_iff.mp more
  obtain ⟨z13, more⟩ := Bool.and_eq_true_iff.mp more
  obtain ⟨z14, more⟩ := Bool.and_eq_true_iff.mp more
  obtain ⟨z15, more⟩ := Bool.and_eq_true_iff.mp more
  obtain ⟨z16, more⟩ := Bool.and_eq_true_iff.mp more
  obtain ⟨z17, more⟩ := Bool.and_eq_true_iff.mp more
  obtain ⟨z18, more⟩ := Bool.and_eq_true_iff.mp more
  obtain ⟨z19, more⟩ := Bool.and_eq_true_iff.mp more
  obtain ⟨z20, more⟩ := Bool.and_eq_true_iff.mp more
  have z21 := more
  obtain ⟨fd, F⟩ := cd.def_ 20 (d := dLaw) rfl
  have e := hfa.symm.trans (He.glo_ok X G (cd.fact 20 (f := .glo "law") rfl))
  cases e
  have b := FunD.bindsA (ps := ["script"]) F fun _ _ _ _ _ _ us hl => match us, hl with | [_], _ => rfl
  refine ⟨fd, fun s v => b s [v] rfl, fun base _ _ hTB => ?_⟩
  have T : Tb K mg (He.ga K "Blocks") := ⟨⟨He.free_ok X G (cd.fact 21 rfl), He.free_ok X G (cd.fact 22 rfl), He.free_ok X G (cd.fact 23 rfl), He.free_ok X G (cd.fact 24 rfl), He.free_ok X G (cd.fact 25 rfl), He.free_ok X G (cd.fact 26 rfl), He.free_ok X G (cd.fact 27 rfl), He.free_ok X G (cd.fact 28 rfl), He.free_ok X G (cd.fact 29 rfl), He.free_ok X G (cd.fact 30 rfl), He.free_ok X G (cd.fact 31 rfl)⟩, He.cls_ok (cd.fact 39 rfl), He.noat_ok (cd.fact 41 rfl), He.noat_ok (cd.fact 42 rfl), He.noat_ok (cd.fact 43 rfl), He.noat_ok (cd.fact 44 rfl), He.noat_ok (cd.fact 45 rfl), He.noat_ok (cd.fact 46 rfl), He.noat_ok (cd.fact 47 rfl), He.noat_ok (cd.fact 48 rfl), He.free_ok X G (cd.fact 32 rfl), He.free_ok X G (cd.fact 33 rfl), He.free_ok X G (cd.fact 34 rfl), He.free_ok X G (cd.fact 35 rfl), He.int_ok X G (cd.fact 61 rfl), He.int_ok X G (cd.fact 62 rfl), He.int_ok X G (cd.fact 63 rfl)⟩
  have d1 : ∀ {x : Str} {st : Stmt} (i j : Nat), fn[i]? = some (dfd x st) → fa[j]? = some (.glo x) → Def1 K mg x st := fun i j h1 h2 => by
    obtain ⟨fd, F⟩ := cd.def_ i h1
    exact ⟨_, fd, F, He.glo_ok X G (cd.fact j h2)⟩
  have dl : ∀ {x : Str} {st : Stmt} (i j : Nat), fn[i]? = some (dfd x st) → fa[j]? = some (.glo x) → Def1L K mg x st (He.cT K (x, none)).1 := fun i j h1 h2 => by
    obtain ⟨fd, F⟩ := cd.def_ i h1
    exact ⟨_, fd, F, He.glo_ok X G (cd.fact j h2), code_at F⟩
  have dm : ∀ {x q : Str} {st : Stmt} (i j : Nat), fn[i]? = some (dfm "Blocks" x q st) → fa[j]? = some (.meth "Blocks" x) → DefM K (He.ga K "Blocks") x q st := fun i j h1 h2 => by
    obtain ⟨fd, F⟩ := cd.def_ i h1
    exact ⟨_, fd, F, He.meth_ok (cd.fact j h2)⟩
  have mB := He.glo_ok X G (cd.fact 38 (f := .glo "Blocks") rfl)
  have mE := He.glo_ok X G (cd.fact 64 (f := .glo "CellError") rfl)
  have mL := He.glo_ok X G (cd.fact 65 (f := .glo "NoLanes") rfl)
  have mC := He.glo_ok X G (cd.fact 66 (f := .glo "NoCell") rfl)
  have mW := He.glo_ok X G (cd.fact 67 (f := .glo "NoWorth") rfl)
  have vE : mg "ValueError" = none := He.free_ok X G (cd.fact 36 rfl)
  have iE : mg "IndexError" = none := He.free_ok X G (cd.fact 37 rfl)
  have ow := He.exc_ok (cd.fact 68 (f := .exc "NoWorth") rfl)
  obtain ⟨fdL, FL⟩ := cd.def_ 34 (d := dfm "NoLanes" "__init__" "NoLanes.__init__" sNlInit) rfl
  obtain ⟨fdC, FC⟩ := cd.def_ 35 (d := dfm "NoCell" "__init__" "NoCell.__init__" sNcInit) rfl
  have gL0 := ok_nl_init (P := P) (w := w) (base := base) FL mE z2
  have gC0 := ok_nc_init (P := P) (w := w) (base := base) FC iE
  have o3 := ownInitB_ok z3
  have o4 := ownInitB_ok z4
  have Z : Er P w K mg base (gE K) (gL K) (gC K) (gW K) := ⟨⟨eb_Value, errCB_ok z0, by decide, ⟨_, fdL, o3.1, o3.2.1, gL0, FL.bindsN fun _ _ _ _ _ _ us hl => match us, hl with | [_, _], _ => rfl⟩, o3.2.2, mL⟩, ⟨eb_Index, errCB_ok z1, by decide, ⟨_, fdC, o4.1, o4.2.1, gC0, FC.bindsN fun _ _ _ _ _ _ us hl => match us, hl with | [_, _, _], _ => rfl⟩, o4.2.2, mC⟩, mW, ow.1, ow.2.1, ow.2.2.1, ow.2.2.2⟩
  have ZH : Hx K mg (gE K) (gL K) (gC K) (gW K) := ⟨mE, mL, mC, mW, vE, iE, excCB_ok z5, excCB_ok z6, excCB_ok z7, o3.2.2 _ (by simp), o4.2.2 _ (by simp), o4.2.2 _ (by simp), of_decide_eq_true z8, of_decide_eq_true z9, of_decide_eq_true z10, of_decide_eq_true z11, of_decide_eq_true z12, of_decide_eq_true z13, of_decide_eq_true z14, of_decide_eq_true z15, of_decide_eq_true z16, of_decide_eq_true z17, of_decide_eq_true z18⟩
  have t3 : TT base mg (He.cT K ("_law_sr_made", none)).1 (He.cT K ("_law_sr_made", none)).2 (He.cT K ("_law_sr_doors_right", none)).1 (He.cT K ("_law_sr_doors_right", none)).2 (He.cT K ("_law_sr_cells_right", none)).1 (He.cT K ("_law_sr_cells_right", none)).2 := ⟨hTB _ (by simp [tf]), hTB _ (by simp [tf]), hTB _ (by simp [tf]), of_decide_eq_true z19, of_decide_eq_true z20, of_decide_eq_true z21⟩
  have cIsW := ok_is_whole (P := P) (w := w) (base := base) (d1 0 0 rfl rfl) T
  have cDiv := ok_divisor_of (P := P) (w := w) (base := base) (d1 1 1 rfl rfl) T
  have cNum := ok_is_number (d1 2 2 rfl rfl) T cIsW cDiv
  have cWor := ok_is_worth (d1 3 3 rfl rfl) T cNum
  have cFrom := ok_is_from (d1 4 4 rfl rfl) T cIsW
  have cLook := ok_look_at_sizes (d1 5 5 rfl rfl) T cFrom
  have cFromG := ok_is_fromG (d1 4 4 rfl rfl) T cIsW
  have cNumG := ok_is_numberG (d1 2 2 rfl rfl) T cIsW cDiv
  have cWorG := ok_is_worthG (d1 3 3 rfl rfl) T cNumG
  have cLookX := ok_lookX (d1 5 5 rfl rfl) T Z cFromG
  have mSizes := ok_sizes (P := P) (w := w) (base := base) (dm 21 49 rfl rfl) T
  have mLookC := ok_look_at_cell (dm 22 50 rfl rfl) T cFrom
  have mLookR := ok_look_at_cellR (dm 22 50 rfl rfl) T Z cFromG
  have mPut := ok_put_away (P := P) (w := w) (base := base) (dm 24 52 rfl rfl) T
  have mFetch := ok_fetch (dm 23 51 rfl rfl) T mPut
  have mWrite := ok_write (dm 25 53 rfl rfl) T mLookC mFetch cWor
  have mRead := ok_read (dm 26 54 rfl rfl) T mLookC mFetch
  have mSeen := ok_seen (dm 27 55 rfl rfl) T mLookC
  have rWrite := ok_writeR (dm 25 53 rfl rfl) T mLookR
  have rRead := ok_readR (dm 26 54 rfl rfl) T mLookR
  have rSeen := ok_seenR (dm 27 55 rfl rfl) T mLookR
  have wWrite := ok_writeW (dm 25 53 rfl rfl) T Z mLookC cWorG
  have mWithin := ok_within (P := P) (w := w) (base := base) (dm 28 56 rfl rfl) T
  have mWritten := ok_written (P := P) (w := w) (base := base) (dm 29 57 rfl rfl) T
  have mCounts := ok_counts (P := P) (w := w) (base := base) (dm 30 58 rfl rfl) T
  have mWorths := ok_worths (dm 31 59 rfl rfl) T mSeen
  have mLen := ok_len (P := P) (w := w) (base := base) (dm 32 60 rfl rfl) T
  obtain ⟨fdI, FI⟩ := cd.def_ 33 (d := dfm "Blocks" "__init__" "Blocks.__init__" sInit [("block", .int 4), ("within", .int 4)]) rfl
  have MI := He.mkr_ok (cd.fact 40 (f := .mkr "Blocks") rfl)
  have GI := ok_init FI T cLook
  have GX := ok_initX FI T cLookX GI
  have mkK := mk_K FI MI mB GI
  have mkKX := mk_KX FI MI mB GX
  have mkDX := mk_DX FI MI mB GX
  have cWhole := ok_whole (P := P) (w := w) (base := base) (d1 6 6 rfl rfl) T.toBt
  have cSame := ok_same2 (d1 7 7 rfl rfl) T.toBt cWhole 4
  have cPool := ok_pool (P := P) (w := w) (base := base) (d1 8 8 rfl rfl) T.toBt
  have cTake := ok_take (P := P) (w := w) (base := base) (d1 9 9 rfl rfl) T.toBt
  have cOne := ok_one (d1 10 10 rfl rfl) T.toBt cTake
  have cMs := ok__law_mz_store (P := P) (w := w) (base := base) (d1 11 11 rfl rfl) T
  have cMa := ok__law_mz_asked (P := P) (w := w) (base := base) (d1 12 12 rfl rfl) T
  have cMw := ok__law_mz_written (d1 13 13 rfl rfl) T cMa
  have cMsh := ok__law_mz_store_shown (P := P) (w := w) (base := base) (d1 14 14 rfl rfl) T
  have cSh := ok__law_sr_shown (d1 17 17 rfl rfl) T mWithin mWritten mCounts mSizes mWorths mLen
  have cHeard := ok_sr_heard (P := P) (w := w) (base := base) (ka := 7) (d1 15 15 rfl rfl) T ZH
  have cMade := ok_sr_made (dl 16 16 rfl rfl) T t3 cHeard mkKX
  have cDoors := ok_sr_doors (dl 18 18 rfl rfl) T t3 cSame cOne cHeard cMade mSizes mkDX
  have cCells := ok_sr_cells (dl 19 19 rfl rfl) T t3 cSame cTake cOne cHeard cSh cMsh rWrite rRead rSeen wWrite
  exact (ok_law F T cPool cTake cOne cSame cMs cMa cMw cDoors cCells mWrite mRead mkK).mono (by decide)
end K32
open PySem PySem.W PySem.Calls PyProof.Rows
theorem PySem.Challenge.cw_fewestsent_k32_stores_refuse_holds : PySem.Challenge.rw_fewestsent_k32_stores_refuse.Holds := by
  w_on; o_law
  refine HandSHeadRun.head_any (r := OpenLaw.row PySem.Challenge.rw_fewestsent_k32_stores_refuse) (q := view (OpenLaw.row PySem.Challenge.rw_fewestsent_k32_stores_refuse).prog [33]) (H := K32.hk) (ob := K32.ob) (M := 3000) (loose := K32.names) (d := HandSHeadRun.topDef (OpenLaw.row PySem.Challenge.rw_fewestsent_k32_stores_refuse).prog 33) (kwd := []) K32.ob_eq
    (by kernel_rfl) (fun s => by kernel_rfl) K32.run (by kernel_rfl) (by kernel_rfl) (by kernel_rfl) (by rfl) (by first | assumption | decide +kernel) (by decide +kernel) ⟨rfl, rfl, rfl, rfl, rfl, by decide +kernel⟩ ?hw ?hc
  case hw => w_witness2
  case hc =>
    refine LamX.walk_ofTsE (l := PySem.Challenge.rw_fewestsent_k32_stores_refuse) (n := 63) (k := 40) (x := "script") (CX := fun _ => L2.CX0) rfl (by decide) (by kernel_rfl) ⟨rfl, by decide, by decide⟩ ?F (fun _ _ _ _ _ z => z)
    intro w mg fa h Y G hmg0
    obtain ⟨K, KX, c⟩ := Y
    have hmg : mg ("law" : PySem.Str) = some (.ref fa) := by
      have e : (HandSHeadRun.topDef (OpenLaw.row PySem.Challenge.rw_fewestsent_k32_stores_refuse).prog 33).name = ("law" : PySem.Str) := by kernel_rfl
      rw [← e]
      exact hmg0
    obtain ⟨fd, hb, hF⟩ := K32.facts (P := (PySem.Challenge.rw_fewestsent_k32_stores_refuse).prog) (w := w) KX G hmg c
    have up : ∀ {Z : PySem.Addr × PySem.Addr → Prop}, (∀ p ∈ K32.tf, Z (He.cT K p)) → ∀ p ∈ K32.tf.map (He.cT K), Z p := fun hz p hp => by
      obtain ⟨q, hq, e⟩ := List.mem_map.mp hp
      rw [← e]
      exact hz q hq
    refine ⟨K, KX, fd, K32.tf.map (He.cT K), K32.spLaw K _ _ _, up fun p hp => c.empty p hp, up fun p hp => c.out p hp, up fun p hp => PySem.W.codeHd_of_K KX (c.hd p hp), hb, fun H a ns hl _ hT hS => ⟨a, ns, rfl, hS, hl, fun p hp => ?_, fun _ => rfl⟩, hF⟩
    have ht : H p.1 = some (.tbl #[]) := by
      rcases List.mem_cons.mp hp with rfl | hp
      · exact hT _ (by simp [K32.tf])
      · rcases List.mem_cons.mp hp with rfl | hp
        · exact hT _ (by simp [K32.tf])
        · rcases List.mem_cons.mp hp with rfl | hp
          · exact hT _ (by simp [K32.tf])
          · cases hp
    exact ⟨#[], ht, by simp [PySem.TriplesOk], fun pos cv hc => by simp [codeAmong] at hc⟩
