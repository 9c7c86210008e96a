import PyProof.Rows.All
import Wide.All
import OpenK.AllK
import Wide.FinOn
import KE.KStateDown
import Lean
import PyProof.DictUpdate
import HandS.Base
import HandS.Call
import HandS.List
import HandS.Comp
import HandS.Ends
import HandS.Dict
import HandS.Iter
import HandS.Text
import HandS.More
import HandS.Words
import HandS.WordsList
import HandS.WordsDict
import HandS.WordsExc
import HandS.Defaults
import HandS.MakeKwOnly
import HandS.Wide
import HandS.IsInst
import HandS.TupLe
import HandS.TupAny
import HandS.Zip
import HandS.Flow
import HandS.Style
import HandS.SortInts
import HandS.SetFor
import HandS.Head0
import HandS.Head1
import HandS.Head2
import HandS.HeadEnd
import HandS.HeadHook1
import HandS.HeadHook2
import PySem.Challenge.RW_fewestsent_k33_foretold_by_distances
set_option Elab.async false
set_option linter.all false
set_option maxRecDepth 100000
set_option maxHeartbeats 0
/-! Lw: our own short layer over HandS: readings that are worked out by simp. -/
namespace Lw
open PySem PySem.Spec PyProof.Rows L2
/-! ### weaker readings -/
theorem OpR.imp {X : Cx} {f : Value → Value → Sem Value} {r r' : R2} (h : OpR X f r) (i : ∀ x y H Q, r' x y H Q → r x y H Q) : OpR X f r' := fun pins s σ H x y v u Q I rx ry q => h pins s σ H x y v u Q I rx ry (i _ _ _ _ q)
theorem CallR.imp {X : Cx} {f : Value} {r r' : List V → Hp → VK → Prop} (h : CallR X f r) (i : ∀ xs H Q, r' xs H Q → r xs H Q) : CallR X f r' := fun pins s σ H xs us Q I rx q => h pins s σ H xs us Q I rx (i _ _ _ q)
theorem IxR.imp {X : Cx} {r r' : R2} (h : IxR X r) (i : ∀ x y H Q, r' x y H Q → r x y H Q) : IxR X r' := fun a b pins s σ H x y v u Q I rx ry q hs => h a b pins s σ H x y v u Q I rx ry (i _ _ _ _ q) hs
theorem MtR.imp {X : Cx} {id : String} {r r' : V → List V → Hp → VK → Prop} (h : MtR X id r) (i : ∀ x xs H Q, r' x xs H Q → r x xs H Q) : MtR X id r' := fun pins s σ H x xs v us Q I rx ry q => h pins s σ H x xs v us Q I rx ry (i _ _ _ _ q)
theorem PSet.imp {X : Cx} {t t' : TSet} (h : PSet X t) (i : ∀ o k v H Q, t' o k v H Q → t o k v H Q) : PSet X t' := fun pins s σ H o k v ov kv u Q I r1 r2 r3 q => h pins s σ H o k v ov kv u Q I r1 r2 r3 (i _ _ _ _ _ q)
/-! ### what a sequence holds -/
/-- v is a list or a tuple that is tracked; k is said of its items -/
def Sq (H : Hp) (v : V) (k : List V → Prop) : Prop := match v with
  | .ref p => (match H p with
    | some (.lst xs) => k xs
    | some (.tup xs) => k xs
    | some (.frz _ (.lst xs)) => k xs
    | some (.frz _ (.tup xs)) => k xs
    | _ => False)
  | _ => False
theorem Sq_lst {H : Hp} {p : Addr} {xs : List V} {k : List V → Prop} (h : H p = some (.lst xs)) : Sq H (.ref p) k = k xs := by unfold Sq; simp only [h]
theorem Sq_tup {H : Hp} {p : Addr} {xs : List V} {k : List V → Prop} (h : H p = some (.tup xs)) : Sq H (.ref p) k = k xs := by unfold Sq; simp only [h]
theorem Sq.out {K : PySem.W.Frag} {H : Hp} {v : V} {k : List V → Prop} (h : Sq H v k) : ∃ p xs, v = .ref p ∧ (SqL K H p xs ∨ SqT K H p xs) ∧ k xs := by
  unfold Sq at h
  split at h
  · rename_i p
    split at h
    · rename_i xs e
      exact ⟨p, xs, rfl, .inl (.inl (.inl e)), h⟩
    · rename_i xs e
      exact ⟨p, xs, rfl, .inr (.inl (.inl e)), h⟩
    · rename_i o xs e
      exact ⟨p, xs, rfl, .inl (.inl (.inr ⟨o, e⟩)), h⟩
    · rename_i o xs e
      exact ⟨p, xs, rfl, .inr (.inl (.inr ⟨o, e⟩)), h⟩
    · exact h.elim
  · exact h.elim
/-- v is a list that may be changed -/
def Ls (H : Hp) (v : V) (k : Addr → List V → Prop) : Prop := match v with
  | .ref p => (match H p with
    | some (.lst xs) => k p xs
    | _ => False)
  | _ => False
theorem Ls_lst {H : Hp} {p : Addr} {xs : List V} {k : Addr → List V → Prop} (h : H p = some (.lst xs)) : Ls H (.ref p) k = k p xs := by unfold Ls; simp only [h]
theorem Ls.out {H : Hp} {v : V} {k : Addr → List V → Prop} (h : Ls H v k) : ∃ p xs, v = .ref p ∧ H p = some (.lst xs) ∧ k p xs := by
  unfold Ls at h
  split at h
  · rename_i p
    split at h
    · rename_i xs e
      exact ⟨p, xs, rfl, e, h⟩
    · exact h.elim
  · exact h.elim
/-- v is a dict with int and text keys -/
def Dk (H : Hp) (v : V) (k : Addr → List (Key × V) → Prop) : Prop := match v with
  | .ref p => (match H p with
    | some (.dK kvs) => k p kvs
    | _ => False)
  | _ => False
theorem Dk_dK {H : Hp} {p : Addr} {kvs : List (Key × V)} {k : Addr → List (Key × V) → Prop} (h : H p = some (.dK kvs)) : Dk H (.ref p) k = k p kvs := by unfold Dk; simp only [h]
theorem Dk.out {H : Hp} {v : V} {k : Addr → List (Key × V) → Prop} (h : Dk H v k) : ∃ p kvs, v = .ref p ∧ H p = some (.dK kvs) ∧ k p kvs := by
  unfold Dk at h
  split at h
  · rename_i p
    split at h
    · rename_i kvs e
      exact ⟨p, kvs, rfl, e, h⟩
    · exact h.elim
  · exact h.elim
/-- a key -/
def Ky (v : V) (k : Key → Prop) : Prop := match v with
  | .int i => k (.inl i)
  | .str x => k (.inr x)
  | _ => False
theorem Ky_int {i : Int} {k : Key → Prop} : Ky (.int i) k = k (.inl i) := rfl
theorem Ky_str {x : Str} {k : Key → Prop} : Ky (.str x) k = k (.inr x) := rfl
theorem Ky.out {v : V} {k : Key → Prop} (h : Ky v k) : ∃ y, v = kV y ∧ k y := by
  unfold Ky at h
  split at h
  · exact ⟨.inl _, rfl, h⟩
  · exact ⟨.inr _, rfl, h⟩
  · exact h.elim
/-- an int -/
def Nt (v : V) (k : Int → Prop) : Prop := match v with
  | .int i => k i
  | _ => False
theorem Nt_int {i : Int} {k : Int → Prop} : Nt (.int i) k = k i := rfl
theorem Nt.out {v : V} {k : Int → Prop} (h : Nt v k) : ∃ i, v = .int i ∧ k i := by
  unfold Nt at h
  split at h
  · exact ⟨_, rfl, h⟩
  · exact h.elim
/-- what is there -/
def Op {α : Type} (o : Option α) (k : α → Prop) : Prop := match o with
  | some x => k x
  | none => False
theorem Op_some {α : Type} {x : α} {k : α → Prop} : Op (some x) k = k x := rfl
theorem Op.out {α : Type} {o : Option α} {k : α → Prop} (h : Op o k) : ∃ x, o = some x ∧ k x := by
  unfold Op at h
  split at h
  · exact ⟨_, rfl, h⟩
  · exact h.elim
/-- v is a tuple that is tracked -/
def Tp (H : Hp) (v : V) (k : List V → Prop) : Prop := match v with
  | .ref p => (match H p with
    | some (.tup xs) => k xs
    | _ => False)
  | _ => False
theorem Tp_tup {H : Hp} {p : Addr} {xs : List V} {k : List V → Prop} (h : H p = some (.tup xs)) : Tp H (.ref p) k = k xs := by unfold Tp; simp only [h]
theorem Tp_upd {H : Hp} {p : Addr} {xs : List V} {k : List V → Prop} : Tp (upd H p (.tup xs)) (.ref p) k = k xs := Tp_tup upd_same
theorem Tp_ne {H : Hp} {p q : Addr} {o : HO} {k : List V → Prop} (h : q ≠ p) : Tp (upd H p o) (.ref q) k = Tp H (.ref q) k := by unfold Tp; simp only [upd_ne h]
theorem Tp.out {H : Hp} {v : V} {k : List V → Prop} (h : Tp H v k) : ∃ p xs, v = .ref p ∧ H p = some (.tup xs) ∧ k xs := by
  unfold Tp at h
  split at h
  · rename_i p
    split at h
    · rename_i xs e
      exact ⟨p, xs, rfl, e, h⟩
    · exact h.elim
  · exact h.elim
section
variable {X : Cx}
/-! ### items, lengths, stores -/
def rIxF : R2 := fun x y H Q => Sq H x fun xs => Nt y fun i => Op (atI xs i) fun v => Q v H
theorem ix_f : IxR X rIxF := IxR.imp (IxR.or ix_list ix_tup) fun x y H Q h => by
  obtain ⟨p, xs, rfl, hs, h⟩ := Sq.out (K := X.K) h
  obtain ⟨i, rfl, h⟩ := Nt.out h
  obtain ⟨v, e, h⟩ := Op.out h
  rcases hs with hs | hs
  · exact .inl ⟨p, xs, i, v, rfl, rfl, hs, e, h⟩
  · exact .inr ⟨p, xs, i, v, rfl, rfl, hs, e, h⟩
def rLenF : List V → Hp → VK → Prop := fun vs H Q => match vs with
  | [v] => Sq H v fun xs => Q (.int xs.length) H
  | _ => False
theorem call_lenF : CallR X (.builtin "len") rLenF := CallR.imp call_len_seq fun vs H Q h => by
  unfold rLenF at h
  split at h
  · obtain ⟨p, xs, rfl, hs, h⟩ := Sq.out (K := X.K) h
    exact ⟨p, xs, rfl, hs, h⟩
  · exact h.elim
def rSetF : TSet := fun o k v H Q => Ls H o fun p xs => Nt k fun i => Op (ixN xs.length i) fun j => Q (upd H p (.lst (xs.set j v)))
theorem set_f : PSet X rSetF := PSet.imp set_list fun o k v H Q h => by
  obtain ⟨p, xs, rfl, e, h⟩ := Ls.out h
  obtain ⟨i, rfl, h⟩ := Nt.out h
  obtain ⟨j, ej, h⟩ := Op.out h
  exact ⟨p, xs, i, j, rfl, rfl, e, ej, h⟩
/-- a, b = e, e a tuple -/
def gTupF (n : Nat) (t : TGs) : TG := fun v σ H Q => Tp H v fun xs => xs.length = n ∧ t xs σ H Q
theorem PG.imp {e : Expr} {t t' : TG} (h : PG X e t) (i : ∀ v σ H Q, t' v σ H Q → t v σ H Q) : PG X e t' := ⟨fun pins s σ H v u Q I r q => h.run pins s σ H v u Q I r (i _ _ _ _ q)⟩
theorem pg_tupF {es : List Expr} {k : Nat} {pos : Pos} {t : TGs} (n : Nat) (hc : X.calm = true) (h : PGs X es t)
    (hn : (assignEach es X.env).length = n := by rfl) (hst : (assignEach es X.env).findIdx? (·.1) = none := by rfl) : PG X (.Tuple es k pos) (gTupF n t) := PG.imp (pg_tup hc h hn hst) fun v σ H Q q => by
  obtain ⟨p, xs, rfl, e, q⟩ := Tp.out q
  exact ⟨p, xs, rfl, .inl (.inl e), q.1, q.2⟩
/-! ### list methods -/
def rAppF : V → List V → Hp → VK → Prop := fun x vs H Q => match vs with
  | [y] => Ls H x fun l xs => xs.length < sizeLine ∧ Q .non (upd H l (.lst (xs ++ [y])))
  | _ => False
theorem mt_app : MtR X "list.append" rAppF := MtR.imp mt_append fun x vs H Q h => by
  unfold rAppF at h
  split at h
  · obtain ⟨l, xs, rfl, e, h1, h2⟩ := Ls.out h
    exact ⟨l, xs, _, rfl, rfl, e, h1, h2⟩
  · exact h.elim
def rExtF : V → List V → Hp → VK → Prop := fun x vs H Q => match vs with
  | [y] => Ls H x fun l xs => Ls H y fun _ zs => xs.length + zs.length ≤ sizeLine ∧ Q .non (upd H l (.lst (xs ++ zs)))
  | _ => False
theorem mt_extF : MtR X "list.extend" rExtF := MtR.imp mt_extend fun x vs H Q h => by
  unfold rExtF at h
  split at h
  · obtain ⟨l, xs, rfl, e, h⟩ := Ls.out h
    obtain ⟨b, zs, rfl, e2, h1, h2⟩ := Ls.out h
    exact ⟨l, b, xs, zs, rfl, rfl, e, e2, h1, h2⟩
  · exact h.elim
/-- pop(0) of a list that is not empty -/
def rPop0 : V → List V → Hp → VK → Prop := fun x vs H Q => match vs with
  | [.int 0] => Ls H x fun l xs => (match xs with
    | y :: ys => Q y (upd H l (.lst ys))
    | [] => False)
  | _ => False
theorem mt_pop0 : MtR X "list.pop" rPop0 := MtR.imp mt_popAt fun x vs H Q h => by
  unfold rPop0 at h
  split at h
  · obtain ⟨l, xs, rfl, e, h⟩ := Ls.out h
    split at h
    · rename_i y ys
      refine ⟨l, _, 0, 0, y, rfl, rfl, e, by decide, by decide, ?_, rfl, h⟩
      simp [seqIndex?]
    · exact h.elim
  · exact h.elim
/-- remove of an int from a list of ints, in which it stands -/
def rRemF : V → List V → Hp → VK → Prop := fun x vs H Q => match vs with
  | [.int k] => Ls H x fun l xs => ∃ ns : List Int, xs = ns.map V.int ∧ k ∈ ns ∧ Q .non (upd H l (.lst ((ns.erase k).map V.int)))
  | _ => False
theorem first_at {k : Int} : ∀ {ns : List Int}, k ∈ ns → ∃ j, ns[j]? = some k ∧ (∀ m : Nat, m < j → ns[m]? ≠ some k) ∧ ns.eraseIdx j = ns.erase k
  | [], h => by cases h
  | n :: ns, h => by
    by_cases e : n = k
    · subst e
      exact ⟨0, rfl, fun m hm => absurd hm (Nat.not_lt_zero _), by simp⟩
    · have h' : k ∈ ns := by
        rcases List.mem_cons.mp h with q | q
        · exact absurd q.symm e
        · exact q
      obtain ⟨j, h1, h2, h3⟩ := first_at h'
      refine ⟨j + 1, by simpa using h1, fun m hm => ?_, ?_⟩
      · cases m with
        | zero => simpa using e
        | succ m => simpa using h2 m (by omega)
      · rw [List.eraseIdx_cons_succ, h3, List.erase_cons_tail (by simpa using e)]
theorem mt_remF : MtR X "list.remove" rRemF := MtR.imp mt_remove fun x vs H Q h => by
  unfold rRemF at h
  split at h
  · obtain ⟨l, xs, rfl, e, ns, rfl, hk, h⟩ := Ls.out h
    obtain ⟨j, h1, h2, h3⟩ := first_at hk
    exact ⟨l, ns, _, j, rfl, rfl, e, h1, h2, by rw [h3]; exact h⟩
  · exact h.elim
/-! ### in -/
/-- an int in a list (or tuple) of ints -/
def rInF (f : Bool → Bool) : R2 := fun x y H Q => Nt x fun k => Sq H y fun xs => ∃ ns : List Int, xs = ns.map V.int ∧ Q (.bl (f (decide (k ∈ ns)))) H
theorem inV_int {k : Int} : ∀ {ns : List Int}, inV (.int k) (ns.map V.int) = decide (k ∈ ns)
  | [] => rfl
  | n :: ns => by
    have ih := inV_int (k := k) (ns := ns)
    unfold inV at *
    rw [List.map_cons, List.any_cons, ih]
    by_cases e : n = k
    · subst e
      simp [eqV]
    · have e2 : ¬ k = n := fun z => e z.symm
      simp [eqV, e, e2]
theorem flat_ints : ∀ ns : List Int, (ns.map V.int).all flatV = true
  | [] => rfl
  | n :: ns => by rw [List.map_cons, List.all_cons, flat_ints ns]; rfl
theorem op_inF : OpR X (compareOp .In) (rInF id) := OpR.imp op_in_seq fun x y H Q h => by
  obtain ⟨k, rfl, h⟩ := Nt.out h
  obtain ⟨p, xs, rfl, hs, ns, rfl, h⟩ := Sq.out (K := X.K) h
  exact ⟨p, _, rfl, hs, rfl, flat_ints ns, by rw [if_neg (by decide), inV_int]; exact h⟩
theorem op_notInF : OpR X (compareOp .NotIn) (rInF not) := OpR.imp op_notIn_seq fun x y H Q h => by
  obtain ⟨k, rfl, h⟩ := Nt.out h
  obtain ⟨p, xs, rfl, hs, ns, rfl, h⟩ := Sq.out (K := X.K) h
  exact ⟨p, _, rfl, hs, rfl, flat_ints ns, by rw [if_pos rfl, inV_int]; exact h⟩
/-! ### dicts -/
def rDUpd : V → List V → Hp → VK → Prop := fun x vs H Q => match vs with
  | [y] => Dk H x fun d kvs => Dk H y fun o more => d ≠ o ∧ kvs.length + more.length ≤ sizeLine ∧ Q .non (upd H d (.dK (mergeK kvs more)))
  | _ => False
theorem mt_dupd : MtR X "dict.update" rDUpd := by
  intro pins s σ H x vs v us Q I rx rv h
  unfold rDUpd at h
  split at h
  · obtain ⟨d, kvs, rfl, e, h⟩ := Dk.out h
    obtain ⟨o, more, rfl, e2, hne, hl, q⟩ := Dk.out h
    obtain rfl : v = Value.ref d := rx
    obtain ⟨u, rfl, ru⟩ := rv.one
    obtain rfl : u = Value.ref o := ru
    obtain ⟨z, hd, ws, rel, dd⟩ := dk_of I.hok e
    obtain ⟨z2, hd2, ws2, rel2, dd2⟩ := dk_of I.hok e2
    refine call_meetsIn PySem.F.slot_dict_update dd.typeIs PySem.F.entry_dict_update (PySem.F.args_dict_update_2 _ _) (meets_dict_update (mixKind X.prog X.w) d o hne hd2)
      ⟨ws, ws2, dd, dd2, by rw [← rel.length, ← rel2.length]; exact hl, fun h' dd' _ hs => ?_⟩
    have I' := d_write (t' := s.toks) (ob := .dK (mergeK kvs more)) I (by rw [e]; exact True.intro) hs (by obtain ⟨ob, _, _, q, _⟩ := id dd'; exact ⟨ob, q⟩)
      (dk_new (Nat.le_trans (length_mergeK _ _) hl) hd (rel2.merge rel) dd')
    exact ⟨.non, _, I', rfl, q⟩
  · exact h.elim
/-- k in d -/
def tDInF (ty td : TE) : TE := fun σ H Q => ty σ H fun y H1 => td σ H1 fun x H2 => Dk H2 x fun _ kvs => Ky y fun k => Q (.bl (valV kvs k).isSome) H2
theorem PC.imp {op : CmpOp} {a b : Expr} {t t' : TE} (h : PC X op a b t) (i : ∀ σ H Q, t' σ H Q → t σ H Q) : PC X op a b t' := ⟨fun pins s σ H Q I q => h.run pins s σ H Q I (i _ _ _ q)⟩
theorem PE.imp {e : Expr} {t t' : TE} (h : PE X e t) (i : ∀ σ H Q, t' σ H Q → t σ H Q) : PE X e t' := ⟨fun pins s σ H Q I q => h.run pins s σ H Q I (i _ _ _ q)⟩
theorem PS.imp {e : Stmt} {t t' : TS} (h : PS X e t) (i : ∀ D σ H, t' D σ H → t D σ H) : PS X e t' := ⟨fun pins s σ H D I q => h.run pins s σ H D I (i _ _ _ q)⟩
/-- a value's reading, where what is wanted of it may be weakened (every reading is so; each rule's own) -/
def Mono (t : TE) : Prop := ∀ σ H (Q Q' : VK), (∀ v H', Q v H' → Q' v H') → t σ H Q → t σ H Q'
end
/-! ### new objects -/
/-- a new object: the heap behind it keeps what stood, p is none of the old ones -/
theorem alloc {H : Hp} {o : HO} {G : Addr → Hp → Prop} (h : ∀ p H', Same H H' → H' p = some o → (∀ b u, H b = some u → b ≠ p) → (∀ b, b ≠ p → H' b = H b) → G p H') : ∀ p, H p = none → G p (upd H p o) := fun p hp =>
  h p _ (fun b u e => by rw [upd_ne (ne_of_none e hp)]; exact e) upd_same (fun b u e => ne_of_none e hp) fun b hb => upd_ne hb
theorem newf {H H1 : Hp} {p : Addr} {o : HO} (hp : H p = none) (hH : upd H p o = H1) : Same H H1 ∧ H1 p = some o ∧ (∀ b u, H b = some u → b ≠ p) ∧ (∀ b, b ≠ p → H1 b = H b) := by
  subst hH
  exact ⟨fun b u e => by rw [upd_ne (ne_of_none e hp)]; exact e, upd_same, fun b u e => ne_of_none e hp, fun b hb => upd_ne hb⟩
theorem chgf {H H1 : Hp} {a : Addr} {o : HO} (hH : upd H a o = H1) : H1 a = some o ∧ (∀ b, b ≠ a → H1 b = H b) := by
  subst hH
  exact ⟨upd_same, fun b hb => upd_ne hb⟩
/-- a change: the heap behind it keeps all else -/
theorem change {H : Hp} {a : Addr} {o : HO} {G : Hp → Prop} (h : ∀ H', H' a = some o → (∀ b, b ≠ a → H' b = H b) → G H') : G (upd H a o) := h _ upd_same fun _ hb => upd_ne hb
theorem atI_natE {α : Type} (xs : List α) (j : Nat) : atI xs (j : Int) = xs[j]? := by
  unfold atI ixN
  rw [if_pos (by omega)]
  by_cases h : j < xs.length
  · rw [if_pos (by omega)]
    simp
  · rw [if_neg (by omega)]
    rw [List.getElem?_eq_none (by omega)]
    rfl
theorem atI_0 {α : Type} (x : α) (xs : List α) : atI (x :: xs) 0 = some x := by rw [show (0 : Int) = ((0 : Nat) : Int) from rfl, atI_natE]; rfl
theorem atI_1 {α : Type} (x y : α) (xs : List α) : atI (x :: y :: xs) 1 = some y := by rw [show (1 : Int) = ((1 : Nat) : Int) from rfl, atI_natE]; rfl
theorem atI_2 {α : Type} (x y z : α) (xs : List α) : atI (x :: y :: z :: xs) 2 = some z := by rw [show (2 : Int) = ((2 : Nat) : Int) from rfl, atI_natE]; rfl
theorem ixN_natE (n j : Nat) : ixN n (j : Int) = if j < n then some j else none := by
  unfold ixN
  rw [if_pos (by omega)]
  by_cases h : j < n
  · rw [if_pos (by omega), if_pos h]; rfl
  · rw [if_neg (by omega), if_neg h]
theorem ixN_0 (n : Nat) : ixN (n + 1) 0 = some 0 := by rw [show (0 : Int) = ((0 : Nat) : Int) from rfl, ixN_natE, if_pos (by omega)]
theorem ixN_1 (n : Nat) : ixN (n + 2) 1 = some 1 := by rw [show (1 : Int) = ((1 : Nat) : Int) from rfl, ixN_natE, if_pos (by omega)]
theorem ixN_2 (n : Nat) : ixN (n + 3) 2 = some 2 := by rw [show (2 : Int) = ((2 : Nat) : Int) from rfl, ixN_natE, if_pos (by omega)]
/-! ### what stands behind a change -/
theorem Sq_upd {H : Hp} {p : Addr} {xs : List V} {k : List V → Prop} : Sq (upd H p (.lst xs)) (.ref p) k = k xs := Sq_lst upd_same
theorem Sq_updT {H : Hp} {p : Addr} {xs : List V} {k : List V → Prop} : Sq (upd H p (.tup xs)) (.ref p) k = k xs := Sq_tup upd_same
theorem Ls_upd {H : Hp} {p : Addr} {xs : List V} {k : Addr → List V → Prop} : Ls (upd H p (.lst xs)) (.ref p) k = k p xs := Ls_lst upd_same
theorem Dk_upd {H : Hp} {p : Addr} {xs : List (Key × V)} {k : Addr → List (Key × V) → Prop} : Dk (upd H p (.dK xs)) (.ref p) k = k p xs := Dk_dK upd_same
theorem Sq_ne {H : Hp} {p q : Addr} {o : HO} {k : List V → Prop} (h : q ≠ p) : Sq (upd H p o) (.ref q) k = Sq H (.ref q) k := by unfold Sq; simp only [upd_ne h]
theorem Ls_ne {H : Hp} {p q : Addr} {o : HO} {k : Addr → List V → Prop} (h : q ≠ p) : Ls (upd H p o) (.ref q) k = Ls H (.ref q) k := by unfold Ls; simp only [upd_ne h]
theorem Dk_ne {H : Hp} {p q : Addr} {o : HO} {k : Addr → List (Key × V) → Prop} (h : q ≠ p) : Dk (upd H p o) (.ref q) k = Dk H (.ref q) k := by unfold Dk; simp only [upd_ne h]
/-! ### loops -/
/-- what a loop asks -/
def lp (J : It) (g : TG) (tb : TS) (D : Ends) (σ : L2.St) (H1 : Hp) : Prop := ∃ W : Nat → Nat → L2.St → Hp → Prop, (∃ m, W 0 m σ H1) ∧ ∀ i m σ H, W i m σ H →
    (J.stop i H ∧ D.nx σ H) ∨ (J.go i H ∧ ∃ N : L2.St → Hp → Prop, (∀ σ' H', N σ' H' → ∃ m', m' < m ∧ W (i + 1) m' σ' H') ∧ ∀ x H', J.yld i H x H' → g x σ H' fun σ2 H2 => tb { D with nx := N, ct := N, bk := D.nx } σ2 H2)
theorem tFor_eq {wi : TI} {g : TG} {tb : TS} {D : Ends} {σ : L2.St} {H : Hp} : tFor wi g tb D σ H = wi σ H fun J H1 => lp J g tb D σ H1 := rfl
theorem lp_range {lo : Int} {n : Nat} {g : TG} {tb : TS} {D : Ends} {σ : L2.St} {H : Hp} (Pv : Nat → L2.St → Hp → Prop) (h0 : Pv 0 σ H)
    (hs : ∀ i σ H, i < n → Pv i σ H → g (.int (lo + i)) σ H fun σ2 H2 => tb { D with nx := Pv (i + 1), ct := Pv (i + 1), bk := D.nx } σ2 H2) (hd : ∀ σ H, Pv n σ H → D.nx σ H) : lp (Itr lo n) g tb D σ H := for_range Pv h0 hs hd
theorem lp_list {K : PySem.W.Frag} {a : Addr} {xs : List V} {g : TG} {tb : TS} {D : Ends} {σ : L2.St} {H : Hp} (Pv : Nat → L2.St → Hp → Prop) (h0 : Pv 0 σ H) (hl : ∀ i σ H, i ≤ xs.length → Pv i σ H → H a = some (.lst xs))
    (hs : ∀ i x σ H, xs[i]? = some x → Pv i σ H → g x σ H fun σ2 H2 => tb { D with nx := Pv (i + 1), ct := Pv (i + 1), bk := D.nx } σ2 H2) (hd : ∀ σ H, Pv xs.length σ H → D.nx σ H) : lp (Itl K a) g tb D σ H := for_list Pv h0 (fun i σ H hi p => .inl (.inl (hl i σ H hi p))) hs hd
theorem lp_rangeC {lo c : Int} {n : Nat} {g : TG} {tb : TS} {D : Ends} {σ : L2.St} {H : Hp} (Pv : Nat → L2.St → Hp → Prop) (h0 : Pv 0 σ H)
    (hs : ∀ i σ H, i < n → Pv i σ H → g (.int (lo + (i : Nat) * c)) σ H fun σ2 H2 => tb { D with nx := Pv (i + 1), ct := Pv (i + 1), bk := D.nx } σ2 H2) (hd : ∀ σ H, Pv n σ H → D.nx σ H) : lp (Itc lo c n) g tb D σ H := for_rangeC Pv h0 hs hd
/-- what a comprehension asks -/
def lcp (J : It) (g : TG) (tt : TT) (te : TE) (vs : List Nat) (Q : VK) (σ : L2.St) (H1 : Hp) : Prop := ∀ D, H1 D = none → ∃ W : Nat → Nat → Hp → Prop, (∃ m, W 0 m (upd H1 D (.lst []))) ∧ ∀ i m H, W i m H →
  (J.stop i H ∧ Q (.ref D) H) ∨ (J.go i H ∧ ∃ Nx : Hp → Prop, (∀ H', Nx H' → ∃ m', m' < m ∧ W (i + 1) m' H') ∧ ∀ x H', J.yld i H x H' → g x (wipe σ vs) H' fun σ2 H2 => wipe σ2 vs = wipe σ vs ∧ tt σ2 H2 fun b H3 =>
    if b = true then te σ2 H3 fun y H4 => ∃ acc, H4 D = some (.lst acc) ∧ acc.length < sizeLine ∧ Nx (upd H4 D (.lst (acc ++ [y]))) else Nx H3)
theorem tLc_eq {wi : TI} {g : TG} {tt : TT} {te : TE} {vs : List Nat} {σ : L2.St} {H : Hp} {Q : VK} : tLc wi g tt te vs σ H Q = wi σ H fun J H1 => lcp J g tt te vs Q σ H1 := rfl
theorem lcp_range {lo : Int} {n : Nat} {g : TG} {tt : TT} {te : TE} {vs : List Nat} {σ : L2.St} {H1 : Hp} {Q : VK} (Pv : Addr → Nat → Hp → Prop) (h0 : ∀ D, H1 D = none → Pv D 0 (upd H1 D (.lst [])))
    (hs : ∀ D i H, H1 D = none → i < n → Pv D i H → g (.int (lo + i)) (wipe σ vs) H fun σ2 H2 => wipe σ2 vs = wipe σ vs ∧ tt σ2 H2 fun b H3 =>
      if b = true then te σ2 H3 fun y H4 => ∃ acc, H4 D = some (.lst acc) ∧ acc.length < sizeLine ∧ Pv D (i + 1) (upd H4 D (.lst (acc ++ [y]))) else Pv D (i + 1) H3)
    (hd : ∀ D H, H1 D = none → Pv D n H → Q (.ref D) H) : lcp (Itr lo n) g tt te vs Q σ H1 := fun D hD => lc_range (Pv D) (h0 D hD) (fun i H hi p => hs D i H hD hi p) (fun H p => hd D H hD p)
theorem lcp_list {K : PySem.W.Frag} {a : Addr} {xs : List V} {g : TG} {tt : TT} {te : TE} {vs : List Nat} {σ : L2.St} {H1 : Hp} {Q : VK} (Pv : Addr → Nat → Hp → Prop) (h0 : ∀ D, H1 D = none → Pv D 0 (upd H1 D (.lst [])))
    (hl : ∀ D i H, i ≤ xs.length → Pv D i H → H a = some (.lst xs))
    (hs : ∀ D i x H, H1 D = none → xs[i]? = some x → Pv D i H → g x (wipe σ vs) H fun σ2 H2 => wipe σ2 vs = wipe σ vs ∧ tt σ2 H2 fun b H3 =>
      if b = true then te σ2 H3 fun y H4 => ∃ acc, H4 D = some (.lst acc) ∧ acc.length < sizeLine ∧ Pv D (i + 1) (upd H4 D (.lst (acc ++ [y]))) else Pv D (i + 1) H3)
    (hd : ∀ D H, H1 D = none → Pv D xs.length H → Q (.ref D) H) : lcp (Itl K a) g tt te vs Q σ H1 := fun D hD => lc_list (Pv D) (h0 D hD) (fun i H hi p => .inl (.inl (hl D i H hi p))) (fun i x H hx p => hs D i x H hD hx p) (fun H p => hd D H hD p)
theorem cpow12 : CPow 10 12 := ⟨by decide, by decide, by decide⟩
theorem cpow60 : CPow 10 60 := ⟨by decide, by decide, by decide⟩
section
variable {X : Cx}
theorem PI.imp {tg e : Expr} {t t' : TI} (h : PI X tg e t) (i : ∀ σ H R, t' σ H R → t σ H R) : PI X tg e t' := ⟨fun pins s σ H R I q => h.run pins s σ H R I (i _ _ _ q)⟩
/-- a reading may be used for less -/
theorem PE.up {e : Expr} {t : TE} (h : PE X e t) : PE X e (fun σ H Q => ∃ Q0 : VK, t σ H Q0 ∧ ∀ x H1, Q0 x H1 → Q x H1) :=
  ⟨fun pins s σ H Q I ⟨Q0, q, w⟩ => thn (h.run pins s σ H Q0 I q) fun u s1 ⟨v, H1, I1, r, z⟩ => ⟨v, H1, I1, r, w _ _ z⟩⟩
/-- for x in a tracked list -/
def iListF (K : PySem.W.Frag) (tl : TE) : TI := fun σ H R => tl σ H fun x H1 => Ls H1 x fun a _ => R (Itl K a) H1
theorem pi_listF {tg l : Expr} {tl : TE} (hl : PE X l tl) : PI X tg l (iListF X.K tl) := PI.imp (pi_list (PE.up hl)) fun σ H R q => ⟨_, q, fun x H1 z => by
  obtain ⟨a, xs, rfl, e, z⟩ := Ls.out z
  exact ⟨a, rfl, ⟨xs, .inl (.inl e)⟩, z⟩⟩
/-- for x in a tracked tuple -/
def iTupF (K : PySem.W.Frag) (tl : TE) : TI := fun σ H R => tl σ H fun x H1 => Tp H1 x fun _ => ∀ a, x = .ref a → R (Itt K a) H1
theorem pi_tupF {tg l : Expr} {tl : TE} (hl : PE X l tl) : PI X tg l (iTupF X.K tl) := PI.imp (pi_tup (PE.up hl)) fun σ H R q => ⟨_, q, fun x H1 z => by
  obtain ⟨a, xs, rfl, e, z⟩ := Tp.out z
  exact ⟨a, rfl, ⟨xs, .inl (.inl e)⟩, z a rfl⟩⟩
end
theorem lp_tup {K : PySem.W.Frag} {a : Addr} {xs : List V} {g : TG} {tb : TS} {D : Ends} {σ : L2.St} {H : Hp} (Pv : Nat → L2.St → Hp → Prop) (h0 : Pv 0 σ H) (hl : ∀ i σ H, i ≤ xs.length → Pv i σ H → H a = some (.tup xs))
    (hs : ∀ i x σ H, xs[i]? = some x → Pv i σ H → g x σ H fun σ2 H2 => tb { D with nx := Pv (i + 1), ct := Pv (i + 1), bk := D.nx } σ2 H2) (hd : ∀ σ H, Pv xs.length σ H → D.nx σ H) : lp (Itt K a) g tb D σ H := for_tup Pv h0 (fun i σ H hi p => .inl (.inl (hl i σ H hi p))) hs hd
/-! ### types -/
inductive T7 where
  | non | bool | int | str | list | tuple | dict
  deriving DecidableEq
def T7.name : T7 → String
  | .non => "NoneType" | .bool => "bool" | .int => "int" | .str => "str" | .list => "list" | .tuple => "tuple" | .dict => "dict"
def T7.isa (a b : T7) : Bool := decide (a = b) || (decide (a = .bool) && decide (b = .int))
theorem kit7 (a b : T7) : kitB a.name b.name = some (a.isa b) := by cases a <;> cases b <;> decide +kernel
/-- v's type -/
def Tz (H : Hp) (v : V) (k : T7 → Prop) : Prop := match v with
  | .non => k .non
  | .bl _ => k .bool
  | .int _ => k .int
  | .str _ => k .str
  | .ref p => (match H p with
    | some (.lst _) => k .list
    | some (.tup _) => k .tuple
    | some (.dK _) => k .dict
    | _ => False)
  | _ => False
section
variable {H : Hp} {k : T7 → Prop} {p : Addr}
theorem Tz_non : Tz H .non k = k .non := rfl
theorem Tz_bl {b : Bool} : Tz H (.bl b) k = k .bool := rfl
theorem Tz_int {i : Int} : Tz H (.int i) k = k .int := rfl
theorem Tz_str {x : Str} : Tz H (.str x) k = k .str := rfl
theorem Tz_lst {xs : List V} (h : H p = some (.lst xs)) : Tz H (.ref p) k = k .list := by unfold Tz; simp only [h]
theorem Tz_tup {xs : List V} (h : H p = some (.tup xs)) : Tz H (.ref p) k = k .tuple := by unfold Tz; simp only [h]
theorem Tz_dK {kvs : List (Key × V)} (h : H p = some (.dK kvs)) : Tz H (.ref p) k = k .dict := by unfold Tz; simp only [h]
theorem Tz.out {K : PySem.W.Frag} {v : V} (h : Tz H v k) : ∃ t : T7, TyX K H v (.type t.name) ∧ k t := by
  unfold Tz at h
  split at h
  · exact ⟨.non, .base .non, h⟩
  · exact ⟨.bool, .base (.bl _), h⟩
  · exact ⟨.int, .base (.int _), h⟩
  · exact ⟨.str, .base (.str _), h⟩
  · split at h
    · rename_i e
      exact ⟨.list, .base (.lst e), h⟩
    · rename_i e
      exact ⟨.tuple, .base (.tup e), h⟩
    · rename_i e
      exact ⟨.dict, .base (.dK e), h⟩
    · exact h.elim
  · exact h.elim
end
/-- a class as an argument -/
def Cl7 (v : V) (k : T7 → Prop) : Prop := match v with
  | .ty n => if n = "int" then k .int else if n = "bool" then k .bool else if n = "str" then k .str else if n = "list" then k .list else if n = "tuple" then k .tuple else if n = "dict" then k .dict else False
  | _ => False
section
variable {k : T7 → Prop}
theorem Cl7_int : Cl7 (.ty "int") k = k .int := rfl
theorem Cl7_bool : Cl7 (.ty "bool") k = k .bool := rfl
theorem Cl7_str : Cl7 (.ty "str") k = k .str := rfl
theorem Cl7_list : Cl7 (.ty "list") k = k .list := rfl
theorem Cl7_tuple : Cl7 (.ty "tuple") k = k .tuple := rfl
theorem Cl7_dict : Cl7 (.ty "dict") k = k .dict := rfl
theorem Cl7.out {v : V} (h : Cl7 v k) : ∃ t : T7, v = .ty t.name ∧ k t := by
  unfold Cl7 at h
  split at h
  · repeat' (split at h)
    · rename_i e; subst e; exact ⟨.int, rfl, h⟩
    · rename_i e; subst e; exact ⟨.bool, rfl, h⟩
    · rename_i e; subst e; exact ⟨.str, rfl, h⟩
    · rename_i e; subst e; exact ⟨.list, rfl, h⟩
    · rename_i e; subst e; exact ⟨.tuple, rfl, h⟩
    · rename_i e; subst e; exact ⟨.dict, rfl, h⟩
    · exact h.elim
  · exact h.elim
end
def rIsiF : List V → Hp → VK → Prop := fun vs H Q => match vs with
  | [v, c] => Tz H v fun t => Cl7 c fun u => Q (.bl (t.isa u)) H
  | _ => False
theorem call_isiF {X : Cx} : CallR X (.builtin "isinstance") rIsiF := CallR.imp call_isi fun vs H Q h => by
  unfold rIsiF at h
  split at h
  · obtain ⟨t, ht, h⟩ := Tz.out (K := X.K) h
    obtain ⟨u, e, h2⟩ := Cl7.out h
    subst e
    exact ⟨_, _, .type t.name, .type u.name, _, rfl, .ty _, ht, kit_ty (kit7 t u), h2⟩
  · exact h.elim
/-! ### data -/
mutual
/-- at v stands the datum d, tracked -/
inductive Dq (H : Hp) : V → PyData → Prop
  | non : Dq H .non .none
  | bl (b : Bool) : Dq H (.bl b) (.bool b)
  | int (i : Int) : Dq H (.int i) (.int i)
  | str (x : Str) : Dq H (.str x) (.str x)
  | lst {a : Addr} {xs : List V} {ds : List PyData} : H a = some (.lst xs) → DqAll H xs ds → Dq H (.ref a) (.list ds)
  | tup {a : Addr} {xs : List V} {ds : List PyData} : H a = some (.tup xs) → DqAll H xs ds → Dq H (.ref a) (.tuple ds)
inductive DqAll (H : Hp) : List V → List PyData → Prop
  | nil : DqAll H [] []
  | cons {v : V} {vs : List V} {d : PyData} {ds : List PyData} : Dq H v d → DqAll H vs ds → DqAll H (v :: vs) (d :: ds)
end
mutual
theorem Dq.dp {K : PySem.W.Frag} {H : Hp} : ∀ {v : V} {d : PyData}, Dq H v d → Dp K H v d
  | _, _, .non => .non
  | _, _, .bl b => .bl b
  | _, _, .int i => .int i
  | _, _, .str x => .str x
  | _, _, .lst e h => .lst (.inl (.inl e)) (DqAll.dp h)
  | _, _, .tup e h => .tup (.inl (.inl e)) (DqAll.dp h)
theorem DqAll.dp {K : PySem.W.Frag} {H : Hp} : ∀ {vs : List V} {ds : List PyData}, DqAll H vs ds → DpAll K H vs ds
  | _, _, .nil => .nil
  | _, _, .cons h t => .cons (Dq.dp h) (DqAll.dp t)
end
mutual
theorem Dq.same {H H' : Hp} (s : Same H H') : ∀ {v : V} {d : PyData}, Dq H v d → Dq H' v d
  | _, _, .non => .non
  | _, _, .bl b => .bl b
  | _, _, .int i => .int i
  | _, _, .str x => .str x
  | _, _, .lst e h => .lst (s _ _ e) (DqAll.same s h)
  | _, _, .tup e h => .tup (s _ _ e) (DqAll.same s h)
theorem DqAll.same {H H' : Hp} (s : Same H H') : ∀ {vs : List V} {ds : List PyData}, DqAll H vs ds → DqAll H' vs ds
  | _, _, .nil => .nil
  | _, _, .cons h t => .cons (Dq.same s h) (DqAll.same s t)
end
/-- data of at most this depth, no dict in it -/
def okd : Nat → PyData → Bool
  | _, .none => true | _, .bool _ => true | _, .int _ => true | _, .str _ => true
  | n + 1, .list ds => decide (ds.length ≤ 1000000) && ds.all (okd n)
  | n + 1, .tuple ds => decide (ds.length ≤ 1000000) && ds.all (okd n)
  | _, _ => false
theorem dqAll_get {H : Hp} : ∀ {xs : List V} {ds : List PyData} {i : Nat} {d : PyData}, DqAll H xs ds → ds[i]? = some d → ∃ v, xs[i]? = some v ∧ Dq H v d
  | _, _, 0, _, .cons h _, e => ⟨_, rfl, by
    have e := Option.some.inj e
    subst e
    exact h⟩
  | _, _, i + 1, _, .cons _ t, e => by
    obtain ⟨v, h1, h2⟩ := dqAll_get (i := i) t (by simpa using e)
    exact ⟨v, by simpa using h1, h2⟩
  | _, _, i, _, .nil, e => by simp at e
theorem dqAll_len {H : Hp} : ∀ {xs : List V} {ds : List PyData}, DqAll H xs ds → xs.length = ds.length
  | _, _, .nil => rfl
  | _, _, .cons _ t => congrArg Nat.succ (dqAll_len t)
theorem scal_ii {i j : Int} : scal (.int i) (.int j) = true := rfl
theorem scal_bb {i j : Bool} : scal (.bl i) (.bl j) = true := rfl
theorem scal_ss {i j : Str} : scal (.str i) (.str j) = true := rfl
theorem scal_nn : scal .non .non = true := rfl
theorem scal_si {i : Str} {j : Int} : scal (.str i) (.int j) = true := rfl
theorem scal_is {i : Int} {j : Str} : scal (.int i) (.str j) = true := rfl
theorem scal_in {i : Int} : scal (.int i) .non = true := rfl
theorem scal_ni {i : Int} : scal .non (.int i) = true := rfl
theorem okd_l {n : Nat} {ds : List PyData} (h : (decide (ds.length ≤ 1000000) && ds.all (okd n)) = true) : ds.length ≤ 1000000 ∧ ∀ (i : Nat) (d : PyData), ds[i]? = some d → okd n d = true := by
  obtain ⟨h1, h2⟩ := Bool.and_eq_true_iff.mp h
  exact ⟨of_decide_eq_true h1, fun i d e => List.all_eq_true.mp h2 d (List.mem_of_getElem? e)⟩
end Lw
/-! Lw, part B: new objects, dicts, slices, sums of lists, sets' lengths. -/
namespace Lw
open PySem PySem.Spec PyProof.Rows L2
/-- a new object o: k is said of its address and the heap behind it -/
def Nw (H : Hp) (o : HO) (k : Addr → Hp → Prop) : Prop := ∀ p, H p = none → k p (upd H p o)
/-- what is known of a heap to which the object at p came -/
structure Came (H : Hp) (p : Addr) (o : HO) (H' : Hp) : Prop where
  same : Same H H'
  new : H p = none
  it : H' p = some o
  off : ∀ b u, H b = some u → b ≠ p
  out : ∀ b, b ≠ p → H' b = H b
theorem Nw.intro {H : Hp} {o : HO} {k : Addr → Hp → Prop} (h : ∀ p H', Came H p o H' → k p H') : Nw H o k := fun p hp =>
  h p _ ⟨fun b u e => by rw [upd_ne (ne_of_none e hp)]; exact e, hp, upd_same, fun b u e => ne_of_none e hp, fun b hb => upd_ne hb⟩
/-- a change of the object at a: k is said of the heap behind it -/
def Ch (H : Hp) (a : Addr) (o : HO) (k : Hp → Prop) : Prop := k (upd H a o)
structure Turned (H : Hp) (a : Addr) (o : HO) (H' : Hp) : Prop where
  it : H' a = some o
  out : ∀ b, b ≠ a → H' b = H b
theorem Ch.intro {H : Hp} {a : Addr} {o : HO} {k : Hp → Prop} (h : ∀ H', Turned H a o H' → k H') : Ch H a o k := h _ ⟨upd_same, fun b hb => upd_ne hb⟩
section
variable {X : Cx}
def tTupN (t : TA) : TE := fun σ H Q => t σ H fun xs H1 => xs.length ≤ sizeLine ∧ Nw H1 (.tup xs) fun p H' => Q (.ref p) H'
def tLstN (t : TA) : TE := fun σ H Q => t σ H fun xs H1 => xs.length ≤ sizeLine ∧ Nw H1 (.lst xs) fun p H' => Q (.ref p) H'
theorem pe_tupN {es : List Expr} {t : TA} {x1} {pos : Pos} (h : PA X es t) : PE X (.Tuple es x1 pos) (tTupN t) := pe_tup h
theorem pe_lstN {es : List Expr} {t : TA} {pos : Pos} (h : PA X es t) : PE X (.List es pos) (tLstN t) := pe_lst h
def tDNewN : TE := fun _ H Q => Nw H (.dK []) fun p H' => Q (.ref p) H'
theorem pe_dnewN {pos : Pos} : PE X (.Dict [] [] pos) tDNewN := pe_dnewK
/-! ### lists -/
def rSlF : V → Option Int → Option Int → Hp → VK → Prop := fun x lo hi H Q => Sq H x fun xs => (∃ p, x = .ref p ∧ ∃ ys, H p = some (.lst ys)) ∧ Nw H (.lst (cutV xs lo hi)) fun p H' => Q (.ref p) H'
theorem SlR.imp {r r' : V → Option Int → Option Int → Hp → VK → Prop} (h : SlR X r) (i : ∀ x l u H Q, r' x l u H Q → r x l u H Q) : SlR X r' := fun pins s σ H x v vl vu lo hi sl Q I rx hs pl pu q => h pins s σ H x v vl vu lo hi sl Q I rx hs pl pu (i _ _ _ _ _ q)
/-- the items of a tracked list -/
def rSlL2 : V → Option Int → Option Int → Hp → VK → Prop := fun x lo hi H Q => Ls H x fun _ xs => Nw H (.lst (cutV xs lo hi)) fun p H' => Q (.ref p) H'
theorem sl_f : SlR X rSlL2 := SlR.imp sl_list fun x l u H Q h => by
  obtain ⟨p, xs, rfl, e, h⟩ := Ls.out h
  exact ⟨p, xs, rfl, .inl (.inl e), h⟩
def rCatF : R2 := fun x y H Q => Ls H x fun _ xs => Ls H y fun _ ys => xs.length + ys.length ≤ sizeLine ∧ Nw H (.lst (xs ++ ys)) fun p H' => Q (.ref p) H'
theorem op_catF : OpR X (binaryOp .Add) rCatF := OpR.imp op_cat fun x y H Q h => by
  obtain ⟨p, xs, rfl, e, h⟩ := Ls.out h
  obtain ⟨q, ys, rfl, e2, h1, h2⟩ := Ls.out h
  exact ⟨p, q, xs, ys, rfl, rfl, e, e2, h1, h2⟩
def rRepF : R2 := fun x y H Q => Ls H x fun _ xs => Nt y fun k => (-(2 ^ 63) ≤ k ∧ k < 2 ^ 63 ∧ xs.length * k.toNat ≤ sizeLine) ∧ Nw H (.lst (List.replicate k.toNat xs).flatten) fun p H' => Q (.ref p) H'
theorem op_repF : OpR X (binaryOp .Mult) rRepF := OpR.imp op_rep fun x y H Q h => by
  obtain ⟨p, xs, rfl, e, h⟩ := Ls.out h
  obtain ⟨k, rfl, ⟨h1, h2, h3⟩, h4⟩ := Nt.out h
  exact ⟨p, k, xs, rfl, rfl, e, h1, h2, h3, h4⟩
def tRevF (te : TE) : TE := fun σ H Q => te σ H fun x H1 => Ls H1 x fun _ xs => Nw H1 (.lst xs.reverse) fun p H' => Q (.ref p) H'
theorem pe_rev {e : Expr} {te : TE} {k : Nat} {p1 p2 p3 pos : Pos} (he : PE X e te) : PE X (.Subscript e (.Slice none none (some (.UnaryOp .USub (.Constant (.int 1) k p1) p2)) p3) pos) (tRevF te) := PE.imp (pe_revL (PE.up he)) fun σ H Q q => ⟨_, q, fun x H1 h => by
  obtain ⟨p, xs, rfl, e, h⟩ := Ls.out h
  exact ⟨p, xs, rfl, .inl (.inl e), h⟩⟩
/-- list(xs) of a list or tuple -/
def rListF : List V → Hp → VK → Prop := fun vs H Q => match vs with
  | [v] => Sq H v fun xs => Nw H (.lst xs) fun p H' => Q (.ref p) H'
  | _ => False
theorem call_listF : CallR X (.type "list") rListF := CallR.imp call_list_of fun vs H Q h => by
  unfold rListF at h
  split at h
  · obtain ⟨p, xs, rfl, hs, h⟩ := Sq.out (K := X.K) h
    exact ⟨p, xs, rfl, hs, h⟩
  · exact h.elim
/-- max(xs) of ints -/
def rMaxF : List V → Hp → VK → Prop := fun vs H Q => match vs with
  | [v] => Sq H v fun xs => (∃ p ys, v = .ref p ∧ H p = some (.lst ys)) ∧ ∃ ns : List Int, xs = ns.map V.int ∧ 0 < ns.length ∧ ∀ m, m ∈ ns → (∀ y, y ∈ ns → y ≤ m) → Q (.int m) H
  | _ => False
theorem cr_maxF : CallR X (.builtin "max") (fun vs H Q => X.calm = true ∧ rMaxF vs H Q) := by
  intro pins s σ H xs us Q I rx q
  obtain ⟨hc, h⟩ := q
  unfold rMaxF at h
  split at h
  · rename_i v
    obtain ⟨p, ys, rfl, hs, ⟨p', zs, e, e'⟩, ns, e2, h1, h2⟩ := Sq.out (K := X.K) h
    cases e
    subst e2
    refine cr_max hc pins s σ H _ us Q I rx ⟨p, ns, rfl, ?_, h1, h2⟩
    rcases hs with hs | hs
    · exact hs
    · exact absurd hs fun hs => by
        rcases hs with (hs | ⟨o, hs⟩) | ⟨o, its, n, hk, hc2, _⟩
        · rw [e'] at hs; cases hs
        · rw [e'] at hs; cases hs
        · obtain ⟨its', r', ⟨o2, n2, e3, e4, _⟩, _⟩ := I.list (.inl (.inl e'))
          have := I.kIn p o hk
          rw [e3] at this
          cases this
          rw [e4] at hc2
          exact absurd hc2 (by decide)
  · exact h.elim
/-! ### dicts -/
/-- v is a dict that may be read (also while it is walked) -/
def Dr (H : Hp) (v : V) (k : List (Key × V) → Prop) : Prop := match v with
  | .ref p => (match H p with
    | some (.dK kvs) => k kvs
    | some (.frz _ (.dK kvs)) => k kvs
    | _ => False)
  | _ => False
theorem Dr_dK {H : Hp} {p : Addr} {kvs : List (Key × V)} {k : List (Key × V) → Prop} (h : H p = some (.dK kvs)) : Dr H (.ref p) k = k kvs := by unfold Dr; simp only [h]
theorem Dr_frz {H : Hp} {p : Addr} {o : Obj} {kvs : List (Key × V)} {k : List (Key × V) → Prop} (h : H p = some (.frz o (.dK kvs))) : Dr H (.ref p) k = k kvs := by unfold Dr; simp only [h]
theorem Dr.out {H : Hp} {v : V} {k : List (Key × V) → Prop} (h : Dr H v k) : ∃ p kvs, v = .ref p ∧ Rd H p (.dK kvs) ∧ k kvs := by
  unfold Dr at h
  split at h
  · rename_i p
    split at h
    · rename_i kvs e
      exact ⟨p, kvs, rfl, .inl e, h⟩
    · rename_i o kvs e
      exact ⟨p, kvs, rfl, .inr ⟨o, e⟩, h⟩
    · exact h.elim
  · exact h.elim
variable {o e f i value : Expr} {td ty tx tv : TE} {apos cpos pos pos' : Pos}
/-- d[k], there -/
def tDGetF (td ty : TE) : TE := fun σ H Q => td σ H fun x H1 => ty σ H1 fun y H2 => Dr H2 x fun kvs => Ky y fun k => Op (valV kvs k) fun v => Q v H2
theorem pe_dgetF (hu : X.A.units + 1 < cLine) (ho : PE X o td) (hi : PE X i ty) (hs : NoSl i) : PE X (.Subscript o i pos) (tDGetF td ty) := PE.imp (pe_dget hu (PE.up ho) (PE.up hi) hs) fun σ H Q q => ⟨_, q, fun x H1 h => ⟨_, h, fun y H2 h => by
  obtain ⟨p, kvs, rfl, e, h⟩ := Dr.out h
  obtain ⟨k, ek, hk⟩ := Ky.out h
  subst ek
  obtain ⟨v, ev, hk⟩ := Op.out hk
  exact ⟨p, v, rfl, .inl ⟨kvs, k, e, rfl, ev.symm⟩, hk⟩⟩⟩
/-- d.get(k, x) -/
def tDGet2F (td ty tx : TE) : TE := fun σ H Q => td σ H fun x H1 => Dr H1 x fun _ => ty σ H1 fun y H2 => tx σ H2 fun z H3 => Dr H3 x fun kvs => Ky y fun k => Q ((valV kvs k).getD z) H3
theorem pe_dget2F (hu : X.A.units + 1 < cLine) (ho : PE X o td) (he : PE X e ty) (hf : PE X f tx) (m : M2 X o "get" apos e f cpos) : PE X (.Call (.Attribute o "get" apos) [e, f] [] cpos) (tDGet2F td ty tx) := PE.imp (pe_dget2 hu (PE.up ho) (PE.up he) (PE.up hf) m) fun σ H Q q => ⟨_, q, fun x H1 h => by
  obtain ⟨p, kvs, rfl, e, h⟩ := Dr.out h
  refine ⟨p, rfl, .inl ⟨kvs, e⟩, _, h, fun y H2 h => ⟨_, h, fun z H3 h => ?_⟩⟩
  obtain ⟨p', kvs', e', e2, h⟩ := Dr.out h
  cases e'
  obtain ⟨k, ek, hk⟩ := Ky.out h
  subst ek
  exact ⟨_, .inl ⟨kvs', k, e2, rfl, rfl⟩, hk⟩⟩
/-- d.get(k) -/
def tDGet1F (td ty : TE) : TE := fun σ H Q => td σ H fun x H1 => Dr H1 x fun _ => ty σ H1 fun y H2 => Dr H2 x fun kvs => Ky y fun k => Q ((valV kvs k).getD .non) H2
theorem pe_dget1F (hu : X.A.units + 1 < cLine) (ho : PE X o td) (he : PE X e ty) (m : M1 X o "get" apos e cpos) : PE X (.Call (.Attribute o "get" apos) [e] [] cpos) (tDGet1F td ty) := PE.imp (pe_dget1 hu (PE.up ho) (PE.up he) m) fun σ H Q q => ⟨_, q, fun x H1 h => by
  obtain ⟨p, kvs, rfl, e, h⟩ := Dr.out h
  refine ⟨p, rfl, .inl ⟨kvs, e⟩, _, h, fun y H2 h => ?_⟩
  obtain ⟨p', kvs', e', e2, h⟩ := Dr.out h
  cases e'
  obtain ⟨k, ek, hk⟩ := Ky.out h
  subst ek
  exact ⟨_, .inl ⟨kvs', k, e2, rfl, rfl⟩, hk⟩⟩
/-- d.pop(k, x) -/
def tDPop2F (td ty tx : TE) : TE := fun σ H Q => td σ H fun x H1 => Dk H1 x fun a _ => ty σ H1 fun y H2 => tx σ H2 fun z H3 => Dk H3 (.ref a) fun _ kvs => Ky y fun k => match valV kvs k with
  | some v => Q v (upd H3 a (.dK (dropK kvs k)))
  | none => Q z H3
theorem pe_dpop2F (ho : PE X o td) (he : PE X e ty) (hf : PE X f tx) (m : M2 X o "pop" apos e f cpos) : PE X (.Call (.Attribute o "pop" apos) [e, f] [] cpos) (tDPop2F td ty tx) := PE.imp (pe_dpop2 (PE.up ho) (PE.up he) (PE.up hf) m) fun σ H Q q => ⟨_, q, fun x H1 h => by
  obtain ⟨p, kvs, rfl, e, h⟩ := Dk.out h
  refine ⟨p, rfl, .inl ⟨kvs, .inl e⟩, _, h, fun y H2 h => ⟨_, h, fun z H3 h => ?_⟩⟩
  obtain ⟨p', kvs', e', e2, h⟩ := Dk.out h
  cases e'
  obtain ⟨k, ek, hk⟩ := Ky.out h
  subst ek
  refine ⟨kvs', k, e2, rfl, fun v ev => ?_, fun ev => ?_⟩
  · rw [ev] at hk; exact hk
  · rw [ev] at hk; exact hk⟩
/-- d.pop(k), there -/
def tDPop1F (td ty : TE) : TE := fun σ H Q => td σ H fun x H1 => Dk H1 x fun a _ => ty σ H1 fun y H2 => Dk H2 (.ref a) fun _ kvs => Ky y fun k => Op (valV kvs k) fun v => Q v (upd H2 a (.dK (dropK kvs k)))
theorem pe_dpop1F (ho : PE X o td) (he : PE X e ty) (m : M1 X o "pop" apos e cpos) : PE X (.Call (.Attribute o "pop" apos) [e] [] cpos) (tDPop1F td ty) := PE.imp (pe_dpop1 (PE.up ho) (PE.up he) m) fun σ H Q q => ⟨_, q, fun x H1 h => by
  obtain ⟨p, kvs, rfl, e, h⟩ := Dk.out h
  refine ⟨p, rfl, .inl ⟨kvs, .inl e⟩, _, h, fun y H2 h => ?_⟩
  obtain ⟨p', kvs', e', e2, h⟩ := Dk.out h
  cases e'
  obtain ⟨k, ek, hk⟩ := Ky.out h
  subst ek
  obtain ⟨v, ev, hk⟩ := Op.out hk
  exact ⟨kvs', k, v, e2, rfl, ev, hk⟩⟩
/-- d[k] = v -/
def sDPutF (td ty tv : TE) : TS := fun D σ H => tv σ H fun v H1 => td σ H1 fun x H2 => ty σ H2 fun y H3 => Dk H3 x fun a kvs => Ky y fun k => kvs.length < sizeLine ∧ D.nx σ (upd H3 a (.dK (putK kvs k v)))
theorem ps_dputF (hu : X.A.units + 1 < cLine) (ho : PE X o td) (hi : PE X i ty) (hv : PE X value tv) (hs : swapsWith value (some (.Subscript o i pos')) pos.line X.env = pure false) :
    PS X (.Assign [.Subscript o i pos'] value pos) (sDPutF td ty tv) := PS.imp (ps_dput hu (PE.up ho) (PE.up hi) (PE.up hv) hs) fun D σ H q => ⟨_, q, fun v H1 h => ⟨_, h, fun x H2 h => ⟨_, h, fun y H3 h => by
  obtain ⟨a, kvs, rfl, e, h⟩ := Dk.out h
  obtain ⟨k, rfl, h1, h2⟩ := Ky.out h
  exact ⟨a, _, rfl, .inl ⟨kvs, k, e, rfl, h1, rfl⟩, h2⟩⟩⟩⟩
/-- k in d, k not in d -/
theorem pc_dinF (hu : X.A.units + 1 < cLine) (hi : PE X i ty) (ho : PE X o td) : PC X .In i o (fun σ H Q => ty σ H fun y H1 => td σ H1 fun x H2 => Dr H2 x fun kvs => Ky y fun k => Q (.bl (valV kvs k).isSome) H2) := PC.imp (pc_din hu (PE.up hi) (PE.up ho)) fun σ H Q q => ⟨_, q, fun y H1 h => ⟨_, h, fun x H2 h => by
  obtain ⟨p, kvs, rfl, e, h⟩ := Dr.out h
  obtain ⟨k, ek, hk⟩ := Ky.out h
  subst ek
  exact ⟨p, _, rfl, .inl ⟨kvs, k, e, rfl, rfl⟩, hk⟩⟩⟩
theorem pc_dnotinF (hu : X.A.units + 1 < cLine) (hi : PE X i ty) (ho : PE X o td) : PC X .NotIn i o (fun σ H Q => ty σ H fun y H1 => td σ H1 fun x H2 => Dr H2 x fun kvs => Ky y fun k => Q (.bl (!(valV kvs k).isSome)) H2) := PC.imp (pc_dnotin hu (PE.up hi) (PE.up ho)) fun σ H Q q => ⟨_, q, fun y H1 h => ⟨_, h, fun x H2 h => by
  obtain ⟨p, kvs, rfl, e, h⟩ := Dr.out h
  obtain ⟨k, ek, hk⟩ := Ky.out h
  subst ek
  exact ⟨p, _, rfl, .inl ⟨kvs, k, e, rfl, rfl⟩, hk⟩⟩⟩
/-- {k: v} -/
def tDisp1F (tk tv : TE) : TE := fun σ H Q => Nw H (.dK []) fun p H1 => tk σ H1 fun x H2 => tv σ H2 fun y H3 => Ky x fun k => H3 p = some (.dK []) ∧ Q (.ref p) (upd H3 p (.dK [(k, y)]))
theorem pe_disp1 {k v : Expr} {tk tv : TE} (hk : PE X k tk) (hv : PE X v tv) : PE X (.Dict [some k] [v] pos) (tDisp1F tk tv) :=
  PE.imp (pe_disp (pps_cons (PE.up hk) (PE.up hv) pps_nil) rfl rfl (fun z => nomatch z) (by show 1 ≤ 15; decide)) fun σ H Q q => fun p hp => ⟨_, q p hp, fun x H1 h => ⟨_, h, fun y H2 h => by
    obtain ⟨z, ez, hz⟩ := Ky.out h
    exact ⟨hz.1, [(z, y)], by rw [ez]; rfl, (by show 1 ≤ 15; decide), hz.2⟩⟩⟩
theorem mergeK_one {kvs : List (Key × V)} {k : Key} {v : V} : mergeK kvs [(k, v)] = putK kvs k v := rfl
/-! ### len(set(xs)) -/
def card (ns : List Int) : Nat := (ns.foldl step_dedup []).length
def tLenSetF (ta : TE) : TE := fun σ H Q => ta σ H fun x H1 => Ls H1 x fun _ xs => ∃ ns : List Int, xs = ns.map V.int ∧ ns.length ≤ 4000 ∧ Q (.int (card ns : Nat)) H1
theorem range_getD : ∀ ns : List Int, (List.range ns.length).map (fun i => ns.getD i 0) = ns := fun ns => by
  refine List.ext_getElem (by simp) fun i h1 h2 => ?_
  simp [h2]
theorem pe_lenSet {a : Expr} {ta : TE} {p p2 q pos : Pos} (hg : Gl X "len") (hm : X.mg "len" = none) (hg2 : Gl X "set") (hm2 : X.mg "set" = none) (ha : PE X a ta) (hc : X.calm = true := by rfl)
    (na : starEach [a] X.env = (false, eval a X.env) :: starEach [] X.env := by rfl) : PE X (.Call (.Name "len" p) [.Call (.Name "set" p2) [a] [] q] [] pos) (tLenSetF ta) := by
  refine ⟨fun pins s σ H Q I h => ?_⟩
  refine Call_ (ld_blt I hg hm boot_len ?_)
  refine PyProof.Rows.callWith_builtin1 (PyProof.Rows.args_cons ?_ rfl) rfl rfl
  refine Call_ (ld_blt I hg2 hm2 boot_set ?_)
  refine PyProof.Rows.callWith_type1 (PyProof.Rows.args_cons (thn (ha.run pins s σ H _ I h) fun v s1 ⟨x, H1, I1, r1, q1⟩ => PyProof.Rows.args_nil ?_) na) na rfl
  obtain ⟨l, xs, rfl, hq, ns, rfl, hl, q1⟩ := Ls.out q1
  cases r1
  obtain ⟨its, r, pl, hz⟩ := I1.list (.inl (.inl hq))
  have hlen : its.toArray.size = ns.length := by rw [List.size_toArray, ← r.length, List.length_map]
  refine call_set_list (I1.ok.hd hc) pl.isList (by simpa using RZ.intsAre_vals r) (by rw [hlen]; unfold scanBound; omega) fun h' tk hS hk => ?_
  refine PyProof.Rows.args_nil ?_
  have ec : (firstMet (fun i => ns.getD i 0) ns.length).length = card ns := by
    unfold firstMet card
    rw [range_getD]
  have ecl : card ns ≤ ns.length := by
    rw [← ec]
    exact firstMet_length_le _ _
  rw [hlen] at hS
  obtain ⟨o, es, ep, t, ho, hex, hd, _, _, _, hf, hn⟩ := hS
  rw [ec] at hn
  have I2 : Inv X pins σ H1 { s1 with heap := h', toks := tk } := I1.kept fun b o e => hk b o (Heap.lt_size e) e
  exact call_len_set ho hex hd hf (by rw [hn] <;> omega) ⟨.int (card ns : Nat), H1, I2.tok _, ⟨_, by rw [hn]⟩, q1⟩
/-! ### a method of a list, of a dict -/
def tML (r : V → List V → Hp → VK → Prop) (to : TE) (t : TA) : TE := fun σ H Q => to σ H fun x H1 => Ls H1 x fun _ _ => t σ H1 fun xs H2 => r x xs H2 Q
def tML0 (r : V → List V → Hp → VK → Prop) (to : TE) : TE := fun σ H Q => to σ H fun x H1 => Ls H1 x fun _ _ => r x [] H1 Q
def tMD (r : V → List V → Hp → VK → Prop) (to : TE) (t : TA) : TE := fun σ H Q => to σ H fun x H1 => Dk H1 x fun _ _ => t σ H1 fun xs H2 => r x xs H2 Q
theorem pe_mL {name : Str} {id : String} {r : V → List V → Hp → VK → Prop} {es : List Expr} {to : TE} {t : TA} (slot : Slot "list" name id) (hty : typeOf (.builtin id) = pure (.type "method_descriptor")) (hm : MtR X id r) (ho : PE X o to) (ha : PA X (e :: es) t)
    (hbase : attributeBase o name X.env (eval o X.env) = eval o X.env := by rfl)
    (hfew : ((backTo cpos (starEach (e :: es) X.env)).all (fun x => !x.1) && (backToKw cpos (keywordEach [] X.env)).all (fun x => x.1.isSome)
      && decide ((e :: es).length + ([] : List Keyword).length + (if ([] : List Keyword).isEmpty then 0 else 1) < 30)) = true := by rfl) (hline : (apos.endLine == cpos.line) = true := by rfl) (hs : starEach (e :: es) X.env = (false, eval e X.env) :: starEach es X.env := by rfl) (hplain : (backTo cpos (starEach es X.env)).any (·.1) = false := by rfl) :
    PE X (.Call (.Attribute o name apos) (e :: es) [] cpos) (tML r to t) := PE.imp (pe_bm PySem.F.plainAttrs_list slot hty hm (PE.up ho) ha hbase hfew hline hs hplain) fun σ H Q q => ⟨_, q, fun x H1 h => by
  obtain ⟨l, xs, rfl, e, h⟩ := Ls.out h
  exact ⟨.inl ⟨rfl, _, .inl (.inl e)⟩, h⟩⟩
theorem pe_mL0 {name : Str} {id : String} {r : V → List V → Hp → VK → Prop} {to : TE} (slot : Slot "list" name id) (hty : typeOf (.builtin id) = pure (.type "method_descriptor")) (hm : MtR X id r) (ho : PE X o to)
    (hbase : attributeBase o name X.env (eval o X.env) = eval o X.env := by rfl) (hline : (apos.endLine == cpos.line) = true := by rfl) :
    PE X (.Call (.Attribute o name apos) [] [] cpos) (tML0 r to) := PE.imp (pe_bm0 PySem.F.plainAttrs_list slot hty hm (PE.up ho) hbase hline) fun σ H Q q => ⟨_, q, fun x H1 h => by
  obtain ⟨l, xs, rfl, e, h⟩ := Ls.out h
  exact ⟨.inl ⟨rfl, _, .inl (.inl e)⟩, h⟩⟩
theorem pe_mD {name : Str} {id : String} {r : V → List V → Hp → VK → Prop} {es : List Expr} {to : TE} {t : TA} (slot : Slot "dict" name id) (hty : typeOf (.builtin id) = pure (.type "method_descriptor")) (hm : MtR X id r) (ho : PE X o to) (ha : PA X (e :: es) t)
    (hbase : attributeBase o name X.env (eval o X.env) = eval o X.env := by rfl)
    (hfew : ((backTo cpos (starEach (e :: es) X.env)).all (fun x => !x.1) && (backToKw cpos (keywordEach [] X.env)).all (fun x => x.1.isSome)
      && decide ((e :: es).length + ([] : List Keyword).length + (if ([] : List Keyword).isEmpty then 0 else 1) < 30)) = true := by rfl) (hline : (apos.endLine == cpos.line) = true := by rfl) (hs : starEach (e :: es) X.env = (false, eval e X.env) :: starEach es X.env := by rfl) (hplain : (backTo cpos (starEach es X.env)).any (·.1) = false := by rfl) :
    PE X (.Call (.Attribute o name apos) (e :: es) [] cpos) (tMD r to t) := PE.imp (pe_bm PySem.F.plainAttrs_dict slot hty hm (PE.up ho) ha hbase hfew hline hs hplain) fun σ H Q q => ⟨_, q, fun x H1 h => by
  obtain ⟨l, kvs, rfl, e, h⟩ := Dk.out h
  exact ⟨.inr (.inr (.inl ⟨rfl, .inl ⟨_, e⟩⟩)), h⟩⟩
end
theorem ints_inj : ∀ {a b : List Int}, a.map V.int = b.map V.int → a = b
  | [], [], _ => rfl
  | [], _ :: _, e => by simp at e
  | _ :: _, [], e => by simp at e
  | x :: xs, y :: ys, e => by
    rw [List.map_cons, List.map_cons] at e
    injection e with e1 e2
    injection e1 with e1
    rw [e1, ints_inj e2]
theorem ex_ints {L : List Int} {P : List Int → Prop} : (∃ ns : List Int, L.map V.int = ns.map V.int ∧ P ns) = P L := propext
  ⟨fun ⟨ns, e, h⟩ => by rw [ints_inj e]; exact h, fun h => ⟨L, rfl, h⟩⟩
theorem ex_any {α : Type} {a : α} : (∃ x, a = x) = True := eq_true ⟨a, rfl⟩
theorem same_chg {H H' : Hp} {l : Addr} {o : HO} (s : Same H H') (n : ∀ b u, H b = some u → b ≠ l) : Same H (upd H' l o) := fun b u e => by
  rw [upd_ne (n b u e)]
  exact s b u e
/-! ### slices -/
theorem cut_from (xs : List V) (n : Nat) : cutV xs (some (n : Int)) none = xs.drop n := by
  unfold cutV
  rw [HT.sIx_nat, HT.sIx_none]
  by_cases h : n ≤ xs.length
  · rw [Nat.min_eq_left h, List.take_of_length_le (by rw [List.length_drop]; omega)]
  · rw [Nat.min_eq_right (by omega), List.drop_eq_nil_of_le (Nat.le_refl _), List.drop_eq_nil_of_le (by omega), List.take_nil]
theorem cut_to (xs : List V) (n : Nat) : cutV xs none (some (n : Int)) = xs.take n := by
  unfold cutV
  rw [HT.sIx_nat, HT.sIx_none]
  by_cases h : n ≤ xs.length
  · rw [Nat.min_eq_left h]; rfl
  · rw [Nat.min_eq_right (by omega), List.take_of_length_le (show xs.length ≤ n by omega)]
    show (xs.drop 0).take (xs.length - 0) = xs
    rw [List.drop_zero, Nat.sub_zero, List.take_length]
theorem cut_mid (xs : List V) (m n : Nat) : cutV xs (some (m : Int)) (some (n : Int)) = (xs.drop m).take (n - m) := by
  unfold cutV
  rw [HT.sIx_nat, HT.sIx_nat]
  by_cases h : m ≤ xs.length
  · rw [Nat.min_eq_left h]
    by_cases h2 : n ≤ xs.length
    · rw [Nat.min_eq_left h2]
    · rw [Nat.min_eq_right (by omega), List.take_of_length_le (by rw [List.length_drop]; omega), List.take_of_length_le (by rw [List.length_drop]; omega)]
  · rw [Nat.min_eq_right (show xs.length ≤ m by omega), List.drop_eq_nil_of_le (Nat.le_refl _), List.drop_eq_nil_of_le (show xs.length ≤ m by omega), List.take_nil, List.take_nil]
end Lw
/-! Lw, part C: walks over dicts. -/
namespace Lw
open PySem PySem.Spec PyProof.Rows L2
theorem lcp_keys {d : Addr} {o : Obj} {kvs : List (Key × V)} {g : TG} {tt : TT} {te : TE} {vs : List Nat} {σ : L2.St} {H1 : Hp} {Q : VK} (Pv : Addr → Nat → Hp → Prop) (h0 : ∀ D, H1 D = none → Pv D 0 (upd H1 D (.lst [])))
    (hl : ∀ D i H, i ≤ kvs.length → Pv D i H → H d = some (.frz o (.dK kvs)))
    (hs : ∀ D i k v H, H1 D = none → kvs[i]? = some (k, v) → Pv D i H → g (kV k) (wipe σ vs) H fun σ2 H2 => wipe σ2 vs = wipe σ vs ∧ tt σ2 H2 fun b H3 =>
      if b = true then te σ2 H3 fun y H4 => ∃ acc, H4 D = some (.lst acc) ∧ acc.length < sizeLine ∧ Pv D (i + 1) (upd H4 D (.lst (acc ++ [y]))) else Pv D (i + 1) H3)
    (hd : ∀ D H, H1 D = none → Pv D kvs.length H → Q (.ref D) H) : lcp (Itk d o kvs) g tt te vs Q σ H1 := fun D hD => by
  refine ⟨fun i m H => m = kvs.length - i ∧ i ≤ kvs.length ∧ Pv D i H, ⟨kvs.length, by simp, Nat.zero_le _, h0 D hD⟩, ?_⟩
  rintro i m H ⟨rfl, hi, p⟩
  have q := hl D i H hi p
  by_cases hlt : i < kvs.length
  · refine .inr ⟨⟨q, hlt⟩, Pv D (i + 1), fun H' p' => ⟨kvs.length - (i + 1), by omega, rfl, hlt, p'⟩, fun x H' y => ?_⟩
    obtain ⟨e, k, v, e1, e2⟩ := y
    subst e
    subst e2
    exact hs D i k v _ hD e1 p
  · have e : i = kvs.length := by omega
    subst e
    exact .inl ⟨⟨q, Nat.le_refl _⟩, hd D H hD p⟩
theorem lp_keys {d : Addr} {o : Obj} {kvs : List (Key × V)} {g : TG} {tb : TS} {D : Ends} {σ : L2.St} {H : Hp} (Pv : Nat → L2.St → Hp → Prop) (h0 : Pv 0 σ H) (hl : ∀ i σ H, i ≤ kvs.length → Pv i σ H → H d = some (.frz o (.dK kvs)))
    (hs : ∀ i k v σ H, kvs[i]? = some (k, v) → Pv i σ H → g (kV k) σ H fun σ2 H2 => tb { D with nx := Pv (i + 1), ct := Pv (i + 1), bk := D.nx } σ2 H2) (hd : ∀ σ H, Pv kvs.length σ H → D.nx σ H) : lp (Itk d o kvs) g tb D σ H := by
  refine ⟨fun i m σ H => m = kvs.length - i ∧ i ≤ kvs.length ∧ Pv i σ H, ⟨kvs.length, by simp, Nat.zero_le _, h0⟩, ?_⟩
  rintro i m σ H ⟨rfl, hi, p⟩
  have q := hl i σ H hi p
  by_cases hlt : i < kvs.length
  · refine .inr ⟨⟨q, hlt⟩, Pv (i + 1), fun σ' H' p' => ⟨kvs.length - (i + 1), by omega, rfl, hlt, p'⟩, fun x H' y => ?_⟩
    obtain ⟨e, k, v, e1, e2⟩ := y
    subst e
    subst e2
    exact hs i k v σ _ e1 p
  · have e : i = kvs.length := by omega
    subst e
    exact .inl ⟨⟨q, Nat.le_refl _⟩, hd σ H p⟩
/-- a walk over a locked dict -/
def iKeysF (td : TE) : TI := fun σ H R => td σ H fun x H1 => match x with
  | .ref d => (match H1 d with
    | some (.frz o (.dK kvs)) => R (Itk d o kvs) H1
    | _ => False)
  | _ => False
theorem pi_keysF {X : Cx} {tg e : Expr} {td : TE} (he : PE X e td) : PI X tg e (iKeysF td) := PI.imp (pi_keys (PE.up he)) fun σ H R q => ⟨_, q, fun x H1 h => by
  split at h
  · rename_i d
    split at h
    · rename_i o kvs e
      exact ⟨d, o, rfl, .inl ⟨kvs, e, h⟩⟩
    · exact h.elim
  · exact h.elim⟩
/-- a dict is locked meanwhile -/
def LkE (H : Hp) (d : Addr) (k : (Obj → Hp) → HO → Prop) : Prop := ∃ u, H d = some u ∧ Mut (some u) ∧ k (fun od => upd H d (.frz od u)) u
/-- a statement, then the rest, with a word between them -/
def tCutL (t u : TS) : TS := fun D σ H => ∃ Mid : L2.St → Hp → Prop, t { D with nx := Mid } σ H ∧ ∀ σ' H', Mid σ' H' → u D σ' H'
theorem pss_cutL {X : Cx} {st : Stmt} {rest : List Stmt} {t u : TS} (h1 : PS X st t) (h2 : PSs X rest u) : PSs X (st :: rest) (tCutL t u) := by
  refine ⟨fun pins s σ H D I h => ?_⟩
  obtain ⟨Mid, hm, hu⟩ := h
  refine wpAny_execs_cons (thn (h1.run pins s σ H { D with nx := Mid } I hm) fun f s1 q => ?_)
  cases f with
  | next =>
    obtain ⟨σ', H', I', q⟩ := q
    exact h2.run pins s1 σ' H' D I' (hu σ' H' q)
  | ret v => exact q
  | brk => exact q
  | cont => exact q
theorem snoc_at {H : Hp} {D : Addr} {cs : List Int} (z : Int) : upd H D (.lst (cs.map V.int ++ [V.int z])) D = some (.lst ((cs ++ [z]).map V.int)) := by
  rw [upd_same, List.map_append]
  rfl
end Lw
namespace K33
open PySem PySem.Spec PyProof.Rows L2 Lw
/-! ### the text by places -/
def topS (i : Nat) : Stmt := PySem.Challenge.pw_fewestsent_k33_foretold_by_distances.main.body.getD i (.Pass ⟨0, 0, 0, 0⟩)
abbrev sForetold : Stmt := topS 1
abbrev sWhole : Stmt := topS 3
abbrev sSame : Stmt := topS 4
abbrev sPool : Stmt := topS 5
abbrev sTake : Stmt := topS 6
abbrev sOne : Stmt := topS 7
abbrev sDist : Stmt := topS 8
abbrev sBehind : Stmt := topS 9
abbrev sCounts : Stmt := topS 10
abbrev sDrawn : Stmt := topS 11
abbrev sRow : Stmt := topS 12
abbrev sForm : Stmt := topS 13
abbrev sLaw : Stmt := topS 14
local macro_rules | `(tactic| walk_at "ev") => `(tactic| simp only [cxOf, rIsiF, Tz_non, Tz_bl, Tz_int, Tz_str, Cl7_int, Cl7_bool, Cl7_str, Cl7_list, Cl7_tuple, Cl7_dict, T7.isa, iListF, iTupF, cpow12, cpow60, tFor_eq, tLc_eq, iRng1, iRng2, wipe, Cx.nox, Cx.wish, tSeq, tIfS, tTest, tOp, tVar, tC, tRet, tRetN, tCB, tCons, tNil, tB, tNot, tAnd, tOr, tAndV, tOrV, tNotV, tIf, rEq, rNe, scal_ii, scal_bb, scal_ss, scal_nn, scal_si, scal_is, scal_in, scal_ni, Bool.or_true, Bool.true_or, Bool.or_false, Bool.false_or, Bool.and_true, Bool.true_and, Bool.and_false, Bool.false_and, rI, rI0, rU, tUn, t2I, tAsg, gName, tPar, tDrop, tLst, tTup, tCall, tNext, tBreak, tCont, tAug, rAdd, gTup, gTupF, gCons, gNil, gSub, rIxF, rLenF, rSetF, rAppF, rExtF, rPop0, rRemF, rInF, rDUpd, Nt_int, Op_some, Ky_int, Ky_str,
  List.map_cons, List.map_nil, List.cons_append, List.nil_append, List.append_nil, List.getElem?_cons_zero, List.getElem?_cons_succ, List.set_cons_zero, List.set_cons_succ, List.length_cons, List.length_nil, Option.some.injEq, exists_eq_left', exists_eq_left, exists_eq_right, V.int.injEq, V.ref.injEq, V.bl.injEq, V.str.injEq, V.ty.injEq, List.cons.injEq, and_true, true_and, and_assoc, reduceCtorEq, decide_eq_true_eq, decide_true, decide_false, if_true, if_false, ite_true, ite_false, Bool.false_eq_true, false_and, and_false, exists_false, exists_const, or_false, false_or, Bool.not_eq_true', decide_eq_false_iff_not, List.replicate_succ, List.replicate_zero, Nat.reduceSub, Nat.reduceAdd, Int.reducePow, Int.reduceNeg, exists_and_left, exists_and_right, atI_0, atI_1, atI_2, ixN_0, ixN_1, ixN_2, L2.start, upd_upd, Sq_upd, Sq_updT, Tp_upd, Ls_upd, Dk_upd, Int.reduceLT, Int.reduceLE, Nat.reduceLT, Nat.reduceLeDiff, forall_eq', forall_eq, id, Int.zero_add, Bool.not_true, Bool.not_false, not_true_eq_false, not_false_eq_true, ne_eq])
/-! ### short words of our own -/
/-- a def without defaults that stands in the module under its name -/
def Def1 (K : PySem.W.Frag) (mg : Str → Option Value) (x : Str) (st : Stmt) : Prop :=
  ∃ f fd, FunD K x x (defArgs st) (defBody st) (defScope st) [] [] f fd ∧ mg x = some (.ref f)
/-- a module's name stands for a def that keeps the promise sp -/
def Kn (P : Program) (w : World) (K : PySem.W.Frag) (mg : Str → Option Value) (base : Heap) (x : Str) (ps : List Str) (k : Nat) (sp : Sp) : Prop :=
  ∃ f fd, FnOk P w K mg base CX0 k f fd ps sp ∧ mg x = some (.ref f) ∧ PySem.W.keepIn K (.ref f) = true ∧ Binds K fd ps []
section
variable {P : Program} {w : World} {K : PySem.W.Frag} {mg : Str → Option Value} {base : Heap}
theorem Kn.imp {x : Str} {ps : List Str} {k : Nat} {sp sp' : Sp} (c : Kn P w K mg base x ps k sp) (h : ∀ vs H Q E, sp' vs H Q E → sp vs H Q E) : Kn P w K mg base x ps k sp' := by
  obtain ⟨f, fd, G, r⟩ := c
  exact ⟨f, fd, G.imp h, r⟩
theorem Kn.mono {x : Str} {ps : List Str} {j k : Nat} {sp : Sp} (c : Kn P w K mg base x ps j sp) (h : j ≤ k) : Kn P w K mg base x ps k sp := by
  obtain ⟨f, fd, G, r⟩ := c
  exact ⟨f, fd, G.mono h, r⟩
theorem kn_of {x : Str} {st : Stmt} {N ps : List Str} {k : Nat} {sp : Sp} (F : Def1 K mg x st) (S : FnScope N ps (defScope st)) (len : ∀ vs H Q E, sp vs H Q E → vs.length = ps.length)
    (hb : ∀ (kV doc pm : Value) (an : Option Addr) (cdv ct : Value) (us : List Value), us.length = ps.length → bindArgs (PySem.W.fnOf x x (defArgs st) (defBody st) (defScope st) .none kV doc pm an cdv ct) ⟨us, []⟩ = pure (ps.zip us))
    (hbody : ∀ (f : Addr) (cdv : Value) (A : Around) (outer : List Env) (s : Shared) (H : Hp) (vs : List V) (Q : VK) (E : XK), Room k (A.deeper (envOfC x (defScope st) s.heap.objs.size f cdv)) → sp vs H Q E →
      ∃ t, PSs (cxOf CX0 P w K mg base N x (defScope st) f cdv A outer s H E).nox (defBody st) t ∧ t { nx := fun _ H' => Q .non H', rt := Q } (start N vs) H) : Kn P w K mg base x ps (k + 1) sp := by
  obtain ⟨f, fd, F, m⟩ := F
  refine ⟨f, fd, F.ok S len (fun cdv A outer s H vs Q E hr hsp => ?_), m, F.kp, F.bindsN hb⟩
  obtain ⟨t, h, q⟩ := hbody f cdv A outer s H vs Q E hr hsp
  exact ⟨t, h.nox, q⟩
end
theorem pe_kn {X : Cx} {x : Str} {ps : List Str} {k : Nat} {sp : Sp} {p pos : Pos} {e : Expr} {es : List Expr} {t : TA} (c : Kn X.prog X.w X.K X.mg X.base x ps k sp) (hr : Room k X.A) (hg : Gl X x)
    (ha : PA X (e :: es) t) (hdb : (x == ("__debug__" : Str)) = false := by decide) (he : starEach (e :: es) X.env = (false, eval e X.env) :: starEach es X.env := by rfl) (hpl : (backTo pos (starEach es X.env)).any (·.1) = false := by rfl) :
    PE X (.Call (.Name x p) (e :: es) [] pos) (tCall sp [] E0 t) := by
  obtain ⟨f, fd, G, m, kp, b⟩ := c
  exact pe_call G hr hg m kp b .nil pass0 ha hdb he hpl
theorem pe_kn0 {X : Cx} {x : Str} {ps : List Str} {k : Nat} {sp : Sp} {p pos : Pos} (c : Kn X.prog X.w X.K X.mg X.base x ps k sp) (hr : Room k X.A) (hg : Gl X x)
    (hdb : (x == ("__debug__" : Str)) = false := by decide) : PE X (.Call (.Name x p) [] [] pos) (tCall sp [] E0 tNil) := by
  obtain ⟨f, fd, G, m, kp, b⟩ := c
  exact pe_call0 G hr hg m kp b .nil pass0 hdb
/-- the built-ins' names stand for themselves -/
structure Bt (mg : Str → Option Value) : Prop where
  len : mg "len" = none
  int : mg "int" = none
  isinstance : mg "isinstance" = none
  bool : mg "bool" = none
  str : mg "str" = none
  tuple : mg "tuple" = none
  list : mg "list" = none
  range : mg "range" = none
  max : mg "max" = none
  min : mg "min" = none
  set : mg "set" = none
section
variable {P : Program} {w : World} {K : PySem.W.Frag} {mg : Str → Option Value} {base : Heap}
/-! ### _law_yq_is_whole -/
def spWhole : Sp := fun vs H Q _ => match vs with
  | [v] => Tz H v fun t => Q (.bl (decide (t = .int))) H
  | _ => False
theorem scWhole : FnScope ["thing"] ["thing"] (defScope sWhole) := ⟨rfl, rfl, rfl, by decide +kernel, rfl, by decide +kernel, by decide +kernel⟩
theorem ok_whole (F : Def1 K mg "_law_yq_is_whole" sWhole) (T : Bt mg) : Kn P w K mg base "_law_yq_is_whole" ["thing"] 1 spWhole := by
  refine kn_of F scWhole (fun vs H Q E h => ?_) (fun _ _ _ _ _ _ us hl => match us, hl with | [_], _ => rfl) (fun f cdv A outer s H vs Q E hr h => ?_)
  · unfold spWhole at h
    split at h
    · rfl
    · exact h.elim
  · unfold spWhole at h
    split at h
    · rename_i v
      refine ⟨_, (pss_one (ps_ret (pe_and (pe_callB call_isiF (by rfl) T.isinstance (by decide +kernel) (pa_cons (pv 0) (pa_cons (pe_bltn (v := .ty "int") (by rfl) T.int (by decide +kernel) rfl) pa_nil))) (pe_one (pe_not (pe_callB call_isiF (by rfl) T.isinstance (by decide +kernel) (pa_cons (pv 0) (pa_cons (pe_bltn (v := .ty "bool") (by rfl) T.bool (by decide +kernel) rfl) pa_nil)))))))), ?_⟩
      walk_at "ev"
      unfold Tz at h ⊢
      split at h <;> (try split at h) <;> (try exact h.elim) <;> walk_at "ev" <;> first | exact h | (simp only [*]; exact h)
    · exact h.elim
/-! ### _law_yq_same -/
def spSame : Nat → Sp
  | 0 => fun _ _ _ _ => False
  | n + 1 => fun vs H Q _ => ∃ v u d, vs = [v, u] ∧ Dq H v d ∧ Dq H u d ∧ okd n d = true ∧ Q (.bl true) H
theorem scSame : FnScope ["heard_one", "owed", "at"] ["heard_one", "owed"] (defScope sSame) := ⟨rfl, rfl, rfl, by decide +kernel, rfl, by decide +kernel, by decide +kernel⟩
theorem ok_same (F : Def1 K mg "_law_yq_same" sSame) (T : Bt mg) (c_yq_is_whole : Kn P w K mg base "_law_yq_is_whole" ["thing"] 1 spWhole) : ∀ n, Kn P w K mg base "_law_yq_same" ["heard_one", "owed"] (n + 2) (spSame n)
  | 0 => by
    refine kn_of F scSame (fun vs H Q E h => h.elim) (fun _ _ _ _ _ _ us hl => match us, hl with | [_, _], _ => rfl) (fun f cdv A outer s H vs Q E hr h => h.elim)
  | n + 1 => by
    have c_yq_same := ok_same F T c_yq_is_whole n
    refine kn_of F scSame (fun vs H Q E h => ?_) (fun _ _ _ _ _ _ us hl => match us, hl with | [_, _], _ => rfl) (fun f cdv A outer s H vs Q E hr h => ?_)
    · obtain ⟨v, u, d, rfl, _⟩ := h
      rfl
    · obtain ⟨v, u, d, rfl, hv, hu, hd, q⟩ := h
      refine ⟨_, (pss_cons (ps_if (pt_cmpR op_isN (pv 1) pe_non (nomark _)) (pss_one (ps_ret (pe_cmpR op_isN (pv 0) pe_non (nomark _)))) pss_nil)
      (pss_cons (ps_if (pt_val (pe_callB call_isiF (by rfl) T.isinstance (by decide +kernel) (pa_cons (pv 1) (pa_cons (pe_bltn (v := .ty "bool") (by rfl) T.bool (by decide +kernel) rfl) pa_nil)))) (pss_one (ps_ret (pe_ifExp (pt_val (pv 1)) (pe_cmpR op_is_bl (pv 0) pe_bl (nomark _)) (pe_cmpR op_is_bl (pv 0) pe_bl (nomark _))))) pss_nil)
      (pss_cons (ps_if (pt_val (pe_callB call_isiF (by rfl) T.isinstance (by decide +kernel) (pa_cons (pv 1) (pa_cons (pe_bltn (v := .ty "int") (by rfl) T.int (by decide +kernel) rfl) pa_nil)))) (pss_one (ps_ret (pe_and (pe_kn c_yq_is_whole (hr.mono (by omega)) (by rfl) (pa_cons (pv 0) pa_nil)) (pe_one (pe_cmpR op_eq (pv 0) (pv 1) (nomark _)))))) pss_nil)
      (pss_cons (ps_if (pt_val (pe_callB call_isiF (by rfl) T.isinstance (by decide +kernel) (pa_cons (pv 1) (pa_cons (pe_bltn (v := .ty "str") (by rfl) T.str (by decide +kernel) rfl) pa_nil)))) (pss_one (ps_ret (pe_and (pe_callB call_isiF (by rfl) T.isinstance (by decide +kernel) (pa_cons (pv 0) (pa_cons (pe_bltn (v := .ty "str") (by rfl) T.str (by decide +kernel) rfl) pa_nil))) (pe_one (pe_cmpR op_eq (pv 0) (pv 1) (nomark _)))))) pss_nil)
      (pss_cons (ps_if (PW.pt (pw_and (pt_not (pt_val (pe_callB call_isiF (by rfl) T.isinstance (by decide +kernel) (pa_cons (pv 1) (pa_cons (pe_bltn (v := .ty "tuple") (by rfl) T.tuple (by decide +kernel) rfl) pa_nil))))) (pw_and1 (pt_not (pt_val (pe_callB call_isiF (by rfl) T.isinstance (by decide +kernel) (pa_cons (pv 1) (pa_cons (pe_bltn (v := .ty "list") (by rfl) T.list (by decide +kernel) rfl) pa_nil)))))))) (pss_one (ps_ret (pe_callTy call_bool1 (by rfl) T.bool (by decide +kernel) (pa_cons (pe_cmpR op_eq (pv 0) (pv 1) (nomark _)) pa_nil)))) pss_nil)
      (pss_cons (ps_if (pt_cmpR op_ne (pe_callB call_isiF (by rfl) T.isinstance (by decide +kernel) (pa_cons (pv 1) (pa_cons (pe_bltn (v := .ty "tuple") (by rfl) T.tuple (by decide +kernel) rfl) pa_nil))) (pe_callB call_isiF (by rfl) T.isinstance (by decide +kernel) (pa_cons (pv 0) (pa_cons (pe_bltn (v := .ty "tuple") (by rfl) T.tuple (by decide +kernel) rfl) pa_nil))) (nomark _)) (pss_one (ps_ret pe_bl)) pss_nil)
      (pss_cons (ps_if (pt_cmpR op_ne (pe_callB call_isiF (by rfl) T.isinstance (by decide +kernel) (pa_cons (pv 1) (pa_cons (pe_bltn (v := .ty "list") (by rfl) T.list (by decide +kernel) rfl) pa_nil))) (pe_callB call_isiF (by rfl) T.isinstance (by decide +kernel) (pa_cons (pv 0) (pa_cons (pe_bltn (v := .ty "list") (by rfl) T.list (by decide +kernel) rfl) pa_nil))) (nomark _)) (pss_one (ps_ret pe_bl)) pss_nil)
      (pss_cons (ps_if (pt_cmpR op_ne (pe_callB call_lenF (by rfl) T.len (by decide +kernel) (pa_cons (pv 0) pa_nil)) (pe_callB call_lenF (by rfl) T.len (by decide +kernel) (pa_cons (pv 1) pa_nil)) (nomark _)) (pss_one (ps_ret pe_bl)) pss_nil)
      (pss_cons (ps_for PassesOwn.never rfl (pi_range1 (by rfl) T.range (pa_cons (pe_callB call_lenF (by rfl) T.len (by decide +kernel) (pa_cons (pv 1) pa_nil)) pa_nil)) (pg_name (i := 2) scSame.nd rfl (Or.inl rfl)) (pss_one (ps_if (pt_not (pt_val (pe_kn c_yq_same (hr.mono (by omega)) (by rfl) (pa_cons (pe_ix ix_f (pv 0) (pv 2) (fun _ _ => rfl)) (pa_cons (pe_ix ix_f (pv 1) (pv 2) (fun _ _ => rfl)) pa_nil))))) (pss_one (ps_ret pe_bl)) pss_nil)))
      (pss_one (ps_ret pe_bl))))))))))), ?_⟩
      cases hu with
      | non => cases hv; walk_at "ev"; exact q
      | bl b => cases hv; walk_at "ev"; cases b <;> (walk_at "ev"; exact q)
      | int i =>
        cases hv
        walk_at "ev"
        simp only [spWhole]
        walk_at "ev"
        exact q
      | str x => cases hv; walk_at "ev"; exact q
      | @lst a xs ds ha hs =>
        cases hv with
        | @lst b ys es hb ht =>
          walk_at "ev"
          simp only [Tz_lst ha, Tz_lst hb, Sq_lst ha, Sq_lst hb]
          walk_at "ev"
          have el : ys.length = xs.length := (dqAll_len ht).trans (dqAll_len hs).symm
          cases n with
          | zero => cases hd
          | succ m =>
          obtain ⟨hd1, hd2⟩ := okd_l (n := m) hd
          have el2 := dqAll_len hs
          rw [if_neg (by rw [el]; simp)]
          refine ⟨by omega, by omega, lp_range (fun i σ H' => H' = H ∧ ∃ x, σ = [some (.ref b), some (.ref a), x]) ⟨rfl, _, rfl⟩ ?_ ?_⟩
          · rintro i σ H' hi ⟨rfl, x, rfl⟩
            have hi2 : i < ds.length := by omega
            obtain ⟨vx, e1, q1⟩ := dqAll_get hs (List.getElem?_eq_getElem hi2)
            obtain ⟨vy, e2, q2⟩ := dqAll_get ht (List.getElem?_eq_getElem hi2)
            walk_at "ev"
            simp only [Sq_lst ha, Sq_lst hb, Nt_int, atI_natE, e1, e2, Op_some]
            refine ⟨vy, vx, _, rfl, q2, q1, hd2 i _ (List.getElem?_eq_getElem hi2), ?_⟩
            walk_at "ev"
            exact ⟨_, rfl⟩
          · rintro σ H' ⟨rfl, x, rfl⟩
            exact q
      | @tup a xs ds ha hs =>
        cases hv with
        | @tup b ys es hb ht =>
          walk_at "ev"
          simp only [Tz_tup ha, Tz_tup hb, Sq_tup ha, Sq_tup hb]
          walk_at "ev"
          have el : ys.length = xs.length := (dqAll_len ht).trans (dqAll_len hs).symm
          cases n with
          | zero => cases hd
          | succ m =>
          obtain ⟨hd1, hd2⟩ := okd_l (n := m) hd
          have el2 := dqAll_len hs
          rw [if_neg (by rw [el]; simp)]
          refine ⟨by omega, by omega, lp_range (fun i σ H' => H' = H ∧ ∃ x, σ = [some (.ref b), some (.ref a), x]) ⟨rfl, _, rfl⟩ ?_ ?_⟩
          · rintro i σ H' hi ⟨rfl, x, rfl⟩
            have hi2 : i < ds.length := by omega
            obtain ⟨vx, e1, q1⟩ := dqAll_get hs (List.getElem?_eq_getElem hi2)
            obtain ⟨vy, e2, q2⟩ := dqAll_get ht (List.getElem?_eq_getElem hi2)
            walk_at "ev"
            simp only [Sq_tup ha, Sq_tup hb, Nt_int, atI_natE, e1, e2, Op_some]
            refine ⟨vy, vx, _, rfl, q2, q1, hd2 i _ (List.getElem?_eq_getElem hi2), ?_⟩
            walk_at "ev"
            exact ⟨_, rfl⟩
          · rintro σ H' ⟨rfl, x, rfl⟩
            exact q
/-! ### the jar -/
def JarB (d s c : Int) : Prop := 0 ≤ d ∧ d < 10 ^ 121 ∧ 0 ≤ s ∧ s < 2147483647
def jarL (d s c : Int) : List V := [.int d, .int s, .int c]
/-- the jar stands at j -/
def JarAt (H : Hp) (j : Addr) : Prop := ∃ d s c, H j = some (.lst (jarL d s c)) ∧ JarB d s c
/-- the jar at j has been drawn from; all else is as it was -/
def JarTo (j : Addr) (H H' : Hp) : Prop := ∃ d s c, H' = upd H j (.lst (jarL d s c)) ∧ JarB d s c
def spTake : Sp := fun vs H Q _ => ∃ (j : Addr) (m : Int), vs = [.ref j, .int m] ∧ JarAt H j ∧ 1 ≤ m ∧ m < 1073741824 ∧ ∀ r H', 0 ≤ r → r < m → JarTo j H H' → Q (.int r) H'
theorem scTake : FnScope ["jar", "many", "made"] ["jar", "many"] (defScope sTake) := ⟨rfl, rfl, rfl, by decide +kernel, rfl, by decide +kernel, by decide +kernel⟩
theorem ok_take (F : Def1 K mg "_law_take" sTake) (T : Bt mg) : Kn P w K mg base "_law_take" ["jar", "many"] 1 spTake := by
  refine kn_of F scTake (fun vs H Q E h => ?_) (fun _ _ _ _ _ _ us hl => match us, hl with | [_, _], _ => rfl) (fun f cdv A outer s H vs Q E hr h => ?_)
  · obtain ⟨j, m, rfl, _⟩ := h
    rfl
  · obtain ⟨j, m, rfl, ⟨d, t, c, hj, hb⟩, h1, h2, q⟩ := h
    obtain ⟨b1, b2, b3, b4⟩ := id hb
    refine ⟨_, (pss_cons (ps_if (pt_cmpR op_gt (pe_ix ix_f (pv 0) pe_int (fun _ _ => rfl)) pe_int (nomark _)) (pss_cons (ps_set (i := 2) scTake.nd rfl (Or.inl rfl) (pe_op op_mod (pe_callTy call_int1 (by rfl) T.int (by decide +kernel) (pa_cons (pe_ix ix_f (pv 0) pe_int (fun _ _ => rfl)) pa_nil)) (pv 1)))
      (pss_cons (ps_asg (pe_op op_fdivW (pe_ix ix_f (pv 0) pe_int (fun _ _ => rfl)) (pv 1)) (pg_sub (pv 0) pe_int set_f))
      (pss_one (ps_ret (pv 2))))) pss_nil)
      (pss_cons (ps_asg (pe_op op_add (pe_ix ix_f (pv 0) pe_int (fun _ _ => rfl)) pe_int) (pg_sub (pv 0) pe_int set_f))
      (pss_cons (ps_asg (pe_op op_mod (pe_callTy call_int1 (by rfl) T.int (by decide +kernel) (pa_cons (pe_op op_add (pe_op op_add (pe_op op_mul (pe_ix ix_f (pv 0) pe_int (fun _ _ => rfl)) pe_int) (pe_op op_mul pe_int (pe_ix ix_f (pv 0) pe_int (fun _ _ => rfl)))) pe_int) pa_nil)) pe_int) (pg_sub (pv 0) pe_int set_f))
      (pss_one (ps_ret (pe_op op_mod (pe_callTy call_int1 (by rfl) T.int (by decide +kernel) (pa_cons (pe_op op_fdivW (pe_op op_mod (pe_callTy call_int1 (by rfl) T.int (by decide +kernel) (pa_cons (pe_op op_mul (pe_ix ix_f (pv 0) pe_int (fun _ _ => rfl)) (pe_ix ix_f (pv 0) pe_int (fun _ _ => rfl))) pa_nil)) pe_int) pe_int) pa_nil)) (pv 1))))))), ?_⟩
    walk_at "ev"
    simp only [Sq_lst hj, Ls_lst hj, jarL]
    walk_at "ev"
    have m0 : 0 < m := by omega
    refine ite2 (fun hd => ?_) (fun hd => ?_)
    · refine ⟨m0, ⟨m0, ?_⟩, q _ _ (Int.emod_nonneg _ (by omega)) (Int.emod_lt_of_pos _ m0) ⟨d / m, t, c, rfl, Int.ediv_nonneg b1 (by omega), ?_, b3, b4⟩⟩
      · exact Nat.lt_of_lt_of_le (PySem.Flt.log2_lt_of (k := 30) (by decide) (by omega)) (by decide)
      · exact Int.lt_of_le_of_lt (Int.ediv_le_self _ b1) b2
    · have e1 : 0 ≤ (t * 39373 + 7919 * (c + 1) + 7) % 2147483647 := Int.emod_nonneg _ (by decide)
      have e2 : (t * 39373 + 7919 * (c + 1) + 7) % 2147483647 < 2147483647 := Int.emod_lt_of_pos _ (by decide)
      have e3 : 0 ≤ (t * 39373 + 7919 * (c + 1) + 7) % 2147483647 * ((t * 39373 + 7919 * (c + 1) + 7) % 2147483647) % 2147483629 / 32 := Int.ediv_nonneg (Int.emod_nonneg _ (by decide)) (by decide)
      refine ⟨.inr (by decide), .inl (by decide), .inl ⟨by omega, by omega⟩, ⟨by decide, by decide⟩, m0, ?_⟩
      exact q _ _ (Int.emod_nonneg _ (by omega)) (Int.emod_lt_of_pos _ m0) ⟨d, _, c + 1, rfl, b1, b2, e1, e2⟩
/-! ### _law_one -/
def spOne (K : PySem.W.Frag) : Sp := fun vs H Q _ => ∃ (j a : Addr) (xs : List V), vs = [.ref j, .ref a] ∧ JarAt H j ∧ a ≠ j ∧ H a = some (.lst xs) ∧ xs ≠ [] ∧ xs.length < 1000 ∧ ∀ (i : Nat) (v : V) H', xs[i]? = some v → JarTo j H H' → Q v H'
theorem scOne : FnScope ["jar", "things"] ["jar", "things"] (defScope sOne) := ⟨rfl, rfl, rfl, by decide +kernel, rfl, by decide +kernel, by decide +kernel⟩
theorem ok_one (F : Def1 K mg "_law_one" sOne) (T : Bt mg) (c_take : Kn P w K mg base "_law_take" ["jar", "many"] 1 spTake) : Kn P w K mg base "_law_one" ["jar", "things"] 2 (spOne K) := by
  refine kn_of F scOne (fun vs H Q E h => ?_) (fun _ _ _ _ _ _ us hl => match us, hl with | [_, _], _ => rfl) (fun f cdv A outer s H vs Q E hr h => ?_)
  · obtain ⟨j, m, xs, rfl, _⟩ := h
    rfl
  · obtain ⟨j, a, xs, rfl, hj, ne, ha, h0, hl, q⟩ := h
    have hlen : 0 < xs.length := List.length_pos_iff.mpr h0
    refine ⟨_, (pss_one (ps_ret (pe_ix ix_f (pv 1) (pe_kn c_take (hr.mono (by decide)) (by rfl) (pa_cons (pv 0) (pa_cons (pe_callB call_lenF (by rfl) T.len (by decide +kernel) (pa_cons (pv 1) pa_nil)) pa_nil))) (fun _ _ => rfl)))), ?_⟩
    walk_at "ev"
    simp only [Sq_lst ha]
    refine ⟨j, xs.length, rfl, hj, by omega, by omega, fun r H' r0 r1 hto => ?_⟩
    obtain ⟨d, t, c, rfl, hb⟩ := hto
    obtain ⟨i, rfl⟩ : ∃ i : Nat, r = (i : Int) := ⟨r.toNat, by omega⟩
    have hi : i < xs.length := by omega
    rw [Sq_ne ne, Sq_lst ha, Nt_int, atI_natE, List.getElem?_eq_getElem hi, Op_some]
    exact q i _ _ (List.getElem?_eq_getElem hi) ⟨d, t, c, rfl, hb⟩
/-! ### _law_pool -/
def spPool (K : PySem.W.Frag) : Sp := fun vs H Q _ => ∃ (a : Addr) (ns : List Int), vs = [.ref a] ∧ SqL K H a (ns.map V.int) ∧ ns.length ≤ 63 ∧ ∀ H' p d t, Same H H' → H p = none → H' p = some (.lst (jarL d t 0)) → JarB d t 0 → Q (.ref p) H'
theorem scPool : FnScope ["script", "digits", "stirred", "at", "cell"] ["script"] (defScope sPool) := ⟨rfl, rfl, rfl, by decide +kernel, rfl, by decide +kernel, by decide +kernel⟩
theorem ok_pool (F : Def1 K mg "_law_pool" sPool) (T : Bt mg) : Kn P w K mg base "_law_pool" ["script"] 1 (spPool K) := by
  refine kn_of F scPool (fun vs H Q E h => ?_) (fun _ _ _ _ _ _ us hl => match us, hl with | [_], _ => rfl) (fun f cdv A outer s H vs Q E hr h => ?_)
  · obtain ⟨a, ns, rfl, _⟩ := h
    rfl
  · obtain ⟨a, ns, rfl, hS, hl, q⟩ := h
    refine ⟨_, (pss_cons (ps_asg (pe_tup (pa_cons pe_int (pa_cons pe_int pa_nil))) (pg_tupF 2 (by rfl) (pgs_cons (pg_name (i := 1) scPool.nd rfl (Or.inl rfl)) (pgs_cons (pg_name (i := 2) scPool.nd rfl (Or.inl rfl)) pgs_nil))))
      (pss_cons (ps_for PassesOwn.never rfl (pi_range1 (by rfl) T.range (pa_cons (pe_callB call_len_seq (by rfl) T.len (by decide +kernel) (pa_cons (pv 0) pa_nil)) pa_nil)) (pg_name (i := 3) scPool.nd rfl (Or.inl rfl)) (pss_cons (ps_set (i := 4) scPool.nd rfl (Or.inl rfl) (pe_callTy call_int1 (by rfl) T.int (by decide +kernel) (pa_cons (pe_callB (call_max2 rfl) (by rfl) T.max (by decide +kernel) (pa_cons (pe_ix ix_list (pv 0) (pv 3) (fun _ _ => rfl)) (pa_cons (pe_op op_sub (pe_un un_neg pe_int) (pe_ix ix_list (pv 0) (pv 3) (fun _ _ => rfl))) pa_nil))) pa_nil)))
      (pss_cons (ps_set (i := 2) scPool.nd rfl (Or.inl rfl) (pe_op op_mod (pe_callTy call_int1 (by rfl) T.int (by decide +kernel) (pa_cons (pe_op op_add (pe_op op_add (pe_op op_mul (pv 2) pe_int) (pe_op op_mod (pv 4) pe_int)) pe_int) pa_nil)) pe_int))
      (pss_one (ps_set (i := 1) scPool.nd rfl (Or.inl rfl) (pe_ifExp (PW.pt (pw_and (pt_cmpR op_ge (pv 4) (pe_op op_pow pe_int pe_int) (nomark _)) (pw_and1 (pt_cmpR op_lt (pv 1) (pe_op op_pow pe_int pe_int) (nomark _))))) (pe_callTy call_int1 (by rfl) T.int (by decide +kernel) (pa_cons (pe_op op_add (pe_op op_mulW (pv 1) (pe_op op_pow pe_int pe_int)) (pe_op op_mod (pv 4) (pe_op op_pow pe_int pe_int))) pa_nil)) (pv 1)))))))
      (pss_one (ps_ret (pe_lst (pa_cons (pv 1) (pa_cons (pv 2) (pa_cons pe_int pa_nil)))))))), ?_⟩
    walk_at "ev"
    refine ⟨by decide, fun p0 hp0 => ?_⟩
    generalize hH1 : upd H p0 _ = H1
    obtain ⟨s1, e1, n1, k1⟩ := newf hp0 hH1
    have hS1 := s1.seq hS
    refine ⟨_, .inl hS1, ?_, ?_, ?_⟩
    · omega
    · rw [List.length_map]
      omega
    · refine lp_range (fun i σ H' => H' = H1 ∧ ∃ d t x y, JarB d t 0 ∧ σ = [some (.ref a), some (.int d), some (.int t), x, y]) ?_ ?_ ?_
      · exact ⟨rfl, 0, 7, _, _, ⟨by decide, by decide, by decide, by decide⟩, rfl⟩
      · rintro i σ H' hi ⟨rfl, d, t, x, y, ⟨b1, b2, b3, b4⟩, rfl⟩
        have hi' : i < ns.length := by
          rw [List.length_map] at hi
          omega
        have hg : atI (ns.map V.int) ((i : Nat) : Int) = some (V.int ns[i]) := by
          rw [atI_natE, List.getElem?_map, List.getElem?_eq_getElem hi']
          rfl
        unfold rIxL
        walk_at "ev"
        have t1 : ∀ z : Int, 0 ≤ z % 2147483647 ∧ z % 2147483647 < 2147483647 := fun z => ⟨Int.emod_nonneg _ (by decide), Int.emod_lt_of_pos _ (by decide)⟩
        refine ⟨_, hS1, _, hg, _, hS1, _, hg, _, rfl, _, rfl, .inl ⟨by omega, by omega⟩, ?_⟩
        refine ite2 (fun _ => ite2 (fun h60 => ?_) (fun _ => ?_)) (fun _ => ?_)
        · have h60 : d < 10 ^ 60 := h60
          have r1 := Int.emod_nonneg (if -1 - ns[i] > ns[i] then -1 - ns[i] else ns[i]) (show (10 ^ Int.toNat 60 : Int) ≠ 0 by decide)
          have r2 := Int.emod_lt_of_pos (if -1 - ns[i] > ns[i] then -1 - ns[i] else ns[i]) (show (0 : Int) < 10 ^ Int.toNat 60 by decide)
          have r2 : _ < (10 ^ 60 : Int) := r2
          refine ⟨wide_mul (a := 201) (b := 200) (by omega) (by decide) (by decide) (by decide) (by decide), by decide, _, _, ⟨?_, ?_, (t1 _).1, (t1 _).2⟩, rfl, rfl, _, rfl⟩
          · show 0 ≤ d * 10 ^ 60 + _
            omega
          · show d * 10 ^ 60 + _ < _
            omega
        · exact ⟨_, _, ⟨b1, b2, (t1 _).1, (t1 _).2⟩, rfl, rfl, _, rfl⟩
        · exact ⟨_, _, ⟨b1, b2, (t1 _).1, (t1 _).2⟩, rfl, rfl, _, rfl⟩
      · rintro σ H' ⟨rfl, d, t, x, y, hb, rfl⟩
        walk_at "ev"
        refine ⟨by decide, fun p hp => ?_⟩
        generalize hH2 : upd H' p _ = H2
        obtain ⟨s2, e2, n2, k2⟩ := newf hp hH2
        exact q _ _ _ _ (s1.trans s2) (s1.free hp) e2 hb
end
end K33
namespace K33
open PySem PySem.Spec PyProof.Rows L2 Lw
local macro_rules | `(tactic| walk_at "ev") => `(tactic| simp only [cxOf, ex_ints, ex_any, tML, tML0, tMD, tTupN, tLstN, tDNewN, rSlL2, rCatF, rRepF, tRevF, rListF, rMaxF, tDGetF, tDGet1F, tDGet2F, tDPop1F, tDPop2F, sDPutF, tLenSetF, tSl, tPart, tNoPart, ipI, rIsiF, Tz_non, Tz_bl, Tz_int, Tz_str, Cl7_int, Cl7_bool, Cl7_str, Cl7_list, Cl7_tuple, Cl7_dict, T7.isa, iListF, iTupF, cpow12, cpow60, tFor_eq, tLc_eq, iRng1, iRng2, wipe, Cx.nox, Cx.wish, tSeq, tIfS, tTest, tOp, tVar, tC, tRet, tRetN, tCB, tCons, tNil, tB, tNot, tAnd, tOr, tAndV, tOrV, tNotV, tIf, rEq, rNe, scal_ii, scal_bb, scal_ss, scal_nn, scal_si, scal_is, scal_in, scal_ni, Bool.or_true, Bool.true_or, Bool.or_false, Bool.false_or, Bool.and_true, Bool.true_and, Bool.and_false, Bool.false_and, rI, rI0, rU, tUn, t2I, tAsg, gName, tPar, tDrop, tLst, tTup, tCall, tNext, tBreak, tCont, tAug, rAdd, gTup, gTupF, gCons, gNil, gSub, rIxF, rLenF, rSetF, rAppF, rExtF, rPop0, rRemF, rInF, rDUpd, Nt_int, Op_some, Ky_int, Ky_str,
  List.map_cons, List.map_nil, List.cons_append, List.nil_append, List.append_nil, List.getElem?_cons_zero, List.getElem?_cons_succ, List.set_cons_zero, List.set_cons_succ, List.length_cons, List.length_nil, Option.some.injEq, exists_eq_left', exists_eq_left, exists_eq_right, V.int.injEq, V.ref.injEq, V.bl.injEq, V.str.injEq, V.ty.injEq, List.cons.injEq, and_true, true_and, and_assoc, reduceCtorEq, decide_eq_true_eq, decide_true, decide_false, if_true, if_false, ite_true, ite_false, Bool.false_eq_true, false_and, and_false, exists_false, exists_const, or_false, false_or, Bool.not_eq_true', decide_eq_false_iff_not, List.replicate_succ, List.replicate_zero, Nat.reduceSub, Nat.reduceAdd, Int.reducePow, Int.reduceNeg, exists_and_left, exists_and_right, atI_0, atI_1, atI_2, ixN_0, ixN_1, ixN_2, L2.start, upd_upd, Sq_upd, Sq_updT, Tp_upd, Ls_upd, Dk_upd, Int.reduceLT, Int.reduceLE, Nat.reduceLT, Nat.reduceLeDiff, forall_eq', forall_eq, id, Int.zero_add, Bool.not_true, Bool.not_false, not_true_eq_false, not_false_eq_true, ne_eq])
/-! ### foretold, as a function of the blocks -/
def addT (T : List Int) (k : Int) : List Int := if k ∈ T then T else T ++ [k]
abbrev Fst := List Int × List Int × Int × Int
/-- the line and the turned ones where k is asked -/
def fline (m : Nat) (s : Fst) (k : Int) : Fst :=
  if k ∈ s.1 then (s.1.erase k, s.2.1, s.2.2.1, s.2.2.2)
  else if s.1.length = m then (s.1.tail, s.2.1.filter (fun j => decide (j ≠ s.1.headD 0)), s.2.2.1 + 1, s.2.2.2 + if s.1.headD 0 ∈ s.2.1 then 1 else 0)
  else (s.1, s.2.1, s.2.2.1 + 1, s.2.2.2)
def fstep (m : Nat) (s : Fst) (q : Bool × Int) : Fst :=
  let r := fline m s q.2
  (r.1 ++ [q.2], if q.1 then addT r.2.1 q.2 else r.2.1, r.2.2.1, r.2.2.2)
def fore (m : Nat) (qs : List (Bool × Int)) : Fst := qs.foldl (fstep m) ([], [], 0, 0)
/-- a dict of truths -/
def tkv (T : List Int) : List (Key × V) := T.map fun k => (Sum.inl k, V.bl true)
theorem tkv_val (T : List Int) (k : Int) : valV (tkv T) (.inl k) = if k ∈ T then some (.bl true) else none := by
  induction T with
  | nil => rfl
  | cons j T ih =>
    show valV ((Sum.inl j, V.bl true) :: tkv T) (.inl k) = _
    by_cases e : j = k
    · subst e
      rw [valV_pos rfl, if_pos (List.mem_cons_self ..)]
    · have e2 : ¬ k = j := fun z => e z.symm
      rw [valV_neg (fun z => e (Sum.inl.inj z)), ih]
      simp only [List.mem_cons, e2, false_or]
theorem tkv_put (T : List Int) (k : Int) : putK (tkv T) (.inl k) (.bl true) = tkv (addT T k) := by
  unfold putK addT
  rw [valV_any, tkv_val]
  by_cases h : k ∈ T
  · rw [if_pos h, if_pos h]
    simp only [Option.isSome_some, if_true, tkv, List.map_map]
    refine List.map_congr_left fun j _ => ?_
    show (if (Sum.inl j : Key) = Sum.inl k then ((Sum.inl j : Key), V.bl true) else (Sum.inl j, V.bl true)) = _
    split <;> rfl
  · rw [if_neg h, if_neg h]
    simp [tkv]
theorem tkv_drop (T : List Int) (k : Int) : dropK (tkv T) (.inl k) = tkv (T.filter fun j => decide (j ≠ k)) := by
  unfold dropK tkv
  rw [List.filter_map]
  congr 1
  refine List.filter_congr fun j _ => ?_
  simp [Function.comp_def]
theorem tkv_len (T : List Int) : (tkv T).length = T.length := List.length_map ..
theorem addT_len (T : List Int) (k : Int) : (addT T k).length ≤ T.length + 1 := by
  unfold addT
  split
  · omega
  · simp
theorem fline_T (m : Nat) (s : Fst) (k : Int) : (fline m s k).2.1.length ≤ s.2.1.length := by
  unfold fline
  split
  · exact Nat.le_refl _
  · split
    · exact List.length_filter_le ..
    · exact Nat.le_refl _
theorem fline_L (m : Nat) (s : Fst) (k : Int) : (fline m s k).1.length ≤ s.1.length := by
  unfold fline
  split
  · exact List.length_erase_le ..
  · split
    · simp
    · exact Nat.le_refl _
theorem fore_lens (m : Nat) : ∀ (qs : List (Bool × Int)) (s : Fst), (qs.foldl (fstep m) s).1.length ≤ s.1.length + qs.length ∧ (qs.foldl (fstep m) s).2.1.length ≤ s.2.1.length + qs.length
  | [], s => ⟨Nat.le_refl _, Nat.le_refl _⟩
  | q :: qs, s => by
    obtain ⟨h1, h2⟩ := fore_lens m qs (fstep m s q)
    have e1 : (fstep m s q).1.length ≤ s.1.length + 1 := by
      show ((fline m s q.2).1 ++ [q.2]).length ≤ _
      have := fline_L m s q.2
      simp
      omega
    have e2 : (fstep m s q).2.1.length ≤ s.2.1.length + 1 := by
      show (if q.1 then addT (fline m s q.2).2.1 q.2 else (fline m s q.2).2.1).length ≤ _
      have := fline_T m s q.2
      have := addT_len (fline m s q.2).2.1 q.2
      split <;> omega
    simp only [List.foldl_cons, List.length_cons]
    omega
theorem fstep_hit {m : Nat} {L D : List Int} {f p : Int} {wr : Bool} {k : Int} (h : k ∈ L) : fstep m (L, D, f, p) (wr, k) = (L.erase k ++ [k], if wr then addT D k else D, f, p) := by
  unfold fstep fline
  simp only [if_pos h]
theorem fstep_full {m : Nat} {y : Int} {L D : List Int} {f p : Int} {wr : Bool} {k : Int} (h : ¬ k ∈ y :: L) (hm : (y :: L).length = m) :
    fstep m (y :: L, D, f, p) (wr, k) = (L ++ [k], if wr then addT (D.filter fun j => decide (j ≠ y)) k else D.filter fun j => decide (j ≠ y), f + 1, p + if y ∈ D then 1 else 0) := by
  unfold fstep fline
  simp only [if_neg h, if_pos hm, List.tail_cons, List.headD_cons]
  rfl
theorem fstep_more {m : Nat} {L D : List Int} {f p : Int} {wr : Bool} {k : Int} (h : ¬ k ∈ L) (hm : ¬ L.length = m) : fstep m (L, D, f, p) (wr, k) = (L ++ [k], if wr then addT D k else D, f + 1, p) := by
  unfold fstep fline
  simp only [if_neg h, if_neg hm]
/-- an asking, a row of them -/
def wd (b : Bool) : Str := if b then "write" else "read"
theorem wd_write (b : Bool) : (wd b = Str.ofString "write") = (b = true) := by
  cases b
  · exact propext ⟨fun h => absurd h (by decide +kernel), fun h => nomatch h⟩
  · exact propext ⟨fun _ => rfl, fun _ => rfl⟩
def AskIs (H : Hp) (v : V) (q : Bool × Int) : Prop := ∃ t, v = .ref t ∧ H t = some (.tup [.str (wd q.1), .int q.2])
def Asks (H : Hp) (vs : List V) (qs : List (Bool × Int)) : Prop := vs.length = qs.length ∧ ∀ (i : Nat) (q : Bool × Int), qs[i]? = some q → ∃ v, vs[i]? = some v ∧ AskIs H v q
theorem Asks.same {H H' : Hp} {vs : List V} {qs : List (Bool × Int)} (h : Asks H vs qs) (s : Same H H') : Asks H' vs qs := ⟨h.1, fun i q e => by
  obtain ⟨v, e1, t, e2, e3⟩ := h.2 i q e
  exact ⟨v, e1, t, e2, s _ _ e3⟩⟩
def keyed (b : Int) (qs : List (Bool × Int)) : List (Bool × Int) := qs.map fun q => (q.1, q.2 / b)
theorem nox_of {X : Cx} {body : List Stmt} {D : Ends} {σ : L2.St} {H : Hp} (h : ∃ t, PSs X.nox body t ∧ t D σ H) : ∃ t, PSs X body t ∧ t D σ H := by
  obtain ⟨t, h1, h2⟩ := h
  exact ⟨t, h1.nox, h2⟩
section
variable {P : Program} {w : World} {K : PySem.W.Frag} {mg : Str → Option Value} {base : Heap}
def spFore : Sp := fun vs H Q _ => ∃ (a : Addr) (b : Int) (m : Nat) (ys : List V) (qs : List (Bool × Int)), vs = [.ref a, .int b, .int m] ∧ H a = some (.lst ys) ∧ Asks H ys qs ∧ qs.length ≤ 100000 ∧ 1 ≤ b ∧ b < 1073741824 ∧ 1 ≤ m ∧ m ≤ 1000 ∧
  ∀ p H', Same H H' → H p = none → H' p = some (.tup [.int (fore m (keyed b qs)).2.2.1, .int (fore m (keyed b qs)).2.2.2]) → Q (.ref p) H'
theorem scFore : FnScope ["asks", "block", "within", "line", "turned", "fetched", "put", "word", "at", "key"] ["asks", "block", "within"] (defScope sForetold) := ⟨rfl, rfl, rfl, by decide +kernel, rfl, by decide +kernel, by decide +kernel⟩
theorem body_fore {f : Addr} {fd : FuncData} {kws : List (Str × V)} (F : FunD K "foretold" "foretold" (defArgs sForetold) (defBody sForetold) (defScope sForetold) [] kws f fd) (T : Bt mg) : FnOk P w K mg base CX0 1 f fd ["asks", "block", "within"] spFore := by
  refine F.ok scFore (fun vs H Q E h => ?_) (fun cdv A outer s H vs Q E hr h => ?_)
  · obtain ⟨a, b, m, ys, qs, rfl, _⟩ := h
    rfl
  · refine nox_of ?_
    obtain ⟨a, b, m, ys, qs, rfl, ha, hq, hlq, b1, b2, m1, m2, q⟩ := h
    refine ⟨_, (pss_cons (ps_par (i := 3) (j := 4) (by rfl) scFore.nd rfl rfl (by decide) rfl rfl (pa_cons (pe_lstN pa_nil) (pa_cons pe_dnewN pa_nil)) (by rfl))
      (pss_cons (ps_asg (pe_tupN (pa_cons pe_int (pa_cons pe_int pa_nil))) (pg_tupF 2 (by rfl) (pgs_cons (pg_name (i := 5) scFore.nd rfl (Or.inl rfl)) (pgs_cons (pg_name (i := 6) scFore.nd rfl (Or.inl rfl)) pgs_nil))))
      (pss_cons (ps_for PassesOwn.never rfl (pi_listF (pv 0)) (pg_tupF 2 (by rfl) (pgs_cons (pg_name (i := 7) scFore.nd rfl (Or.inl rfl)) (pgs_cons (pg_name (i := 8) scFore.nd rfl (Or.inl rfl)) pgs_nil))) (pss_cons (ps_set (i := 9) scFore.nd rfl (Or.inl rfl) (pe_op op_fdivW (pv 8) (pv 1)))
      (pss_cons (ps_if (pt_cmpR op_inF (pv 9) (pv 3) (by rfl)) (pss_one (ps_expr (pe_mL PySem.F.slot_list_remove PySem.F.type_list_remove mt_remF (pv 3) (pa_cons (pv 9) pa_nil)))) (pss_cons (ps_aug (i := 5) scFore.nd rfl (Or.inl rfl) pe_int ip_add)
      (pss_one (ps_if (pt_cmpR op_eq (pe_callB call_lenF (by rfl) T.len (by decide +kernel) (pa_cons (pv 3) pa_nil)) (pv 2) (nomark _)) (pss_one (ps_aug (i := 6) scFore.nd rfl (Or.inl rfl) (pe_callTy call_int1 (by rfl) T.int (by decide +kernel) (pa_cons (pe_dpop2F (pv 4) (pe_mL PySem.F.slot_list_pop PySem.F.type_list_pop mt_pop0 (pv 3) (pa_cons pe_int pa_nil)) pe_bl ⟨rfl, rfl, rfl, rfl⟩) pa_nil)) ip_add)) pss_nil))))
      (pss_cons (ps_expr (pe_mL PySem.F.slot_list_append PySem.F.type_list_append mt_app (pv 3) (pa_cons (pv 9) pa_nil)))
      (pss_one (ps_if (pt_cmpR op_eq (pv 7) pe_str (nomark _)) (pss_one (ps_dputF (hu_of hr) (pv 4) (pv 9) pe_bl rfl)) pss_nil))))))
      (pss_one (ps_ret (pe_tupN (pa_cons (pv 5) (pa_cons (pv 6) pa_nil)))))))), ?_⟩
    walk_at "ev"
    refine ⟨Nat.zero_le _, Nw.intro fun l H1 c1 => Nw.intro fun t H2 c2 => ⟨by decide, Nw.intro fun p0 H3 c3 => ?_⟩⟩
    have s3 : Same H H3 := c1.same.trans (c2.same.trans c3.same)
    have hlt : l ≠ t := c2.off _ _ c1.it
    have hl3 : H3 l = some (.lst []) := c3.same _ _ (c2.same _ _ c1.it)
    have ht3 : H3 t = some (.dK []) := c3.same _ _ c2.it
    simp only [Tp_tup c3.it, Ls_lst (s3 _ _ ha)]
    walk_at "ev"
    have nl : ∀ b o, H b = some o → b ≠ l := c1.off
    have nt : ∀ b o, H b = some o → b ≠ t := fun b o e => c2.off _ _ (c1.same _ _ e)
    refine lp_list (xs := ys) (fun i σ H' => Same H H' ∧ ∃ x7 x8 x9, H' l = some (.lst ((fore m ((keyed b qs).take i)).1.map V.int)) ∧ H' t = some (.dK (tkv (fore m ((keyed b qs).take i)).2.1)) ∧
      σ = [some (.ref a), some (.int b), some (.int m), some (.ref l), some (.ref t), some (.int (fore m ((keyed b qs).take i)).2.2.1), some (.int (fore m ((keyed b qs).take i)).2.2.2), x7, x8, x9]) ?_ ?_ ?_ ?_
    · exact ⟨s3, _, _, _, hl3, ht3, rfl⟩
    · rintro i σ H' hi ⟨sm, _⟩
      exact sm _ _ ha
    · rintro i x σ H' hx ⟨sm, x7, x8, x9, hl, ht, rfl⟩
      have hi : i < ys.length := (List.getElem?_eq_some_iff.mp hx).1
      have hi2 : i < qs.length := by rw [← hq.1]; exact hi
      obtain ⟨y, e1, tt, rfl, e2⟩ := (hq.same sm).2 i qs[i] (List.getElem?_eq_getElem hi2)
      rw [hx] at e1
      cases e1
      have htake : (keyed b qs).take (i + 1) = (keyed b qs).take i ++ [(qs[i].1, qs[i].2 / b)] := by
        rw [List.take_add_one]
        unfold keyed
        rw [List.getElem?_map, List.getElem?_eq_getElem hi2]
        rfl
      have hstep : fore m ((keyed b qs).take (i + 1)) = fstep m (fore m ((keyed b qs).take i)) (qs[i].1, qs[i].2 / b) := by
        rw [htake]
        unfold fore
        rw [List.foldl_append]
        rfl
      have hlens := fore_lens m ((keyed b qs).take i) ([], [], 0, 0)
      have hlen1 : ((keyed b qs).take i).length ≤ 100000 := by
        rw [List.length_take]
        unfold keyed
        rw [List.length_map]
        omega
      rw [hstep]
      generalize hS : fore m ((keyed b qs).take i) = S at *
      have hS1 : S.1.length ≤ 100000 ∧ S.2.1.length ≤ 100000 := by
        rw [← hS]
        unfold fore
        simp only [List.length_nil] at hlens
        omega
      clear hS hlens
      obtain ⟨L, D, f0, p0'⟩ := S
      generalize hk : qs[i].2 / b = k
      walk_at "ev"
      simp only [Tp_tup e2]
      walk_at "ev"
      simp only [Sq_lst hl, Ls_lst hl, Dk_dK ht]
      walk_at "ev"
      have htl : t ≠ l := fun z => hlt z.symm
      have big : (100001 : Nat) < sizeLine := by decide
      obtain ⟨g1, g2⟩ := hS1
      have g1 : L.length ≤ 100000 := g1
      have g2 : D.length ≤ 100000 := g2
      have hl : H' l = some (.lst (L.map V.int)) := hl
      have ht : H' t = some (.dK (tkv D)) := ht
      have gt : (tkv D).length < sizeLine := by rw [tkv_len]; omega
      have sm1 : ∀ o, Same H (upd H' l o) := fun o => same_chg sm nl
      have sm2 : ∀ o u, Same H (upd (upd H' l o) t u) := fun o u => same_chg (sm1 o) nt
      have sm3 : ∀ o u v, Same H (upd (upd (upd H' l o) t u) l v) := fun o u v => same_chg (sm2 o u) nl
      have sm4 : ∀ o u v x, Same H (upd (upd (upd (upd H' l o) t u) l v) t x) := fun o u v x => same_chg (sm3 o u v) nt
      simp only [hk, wd_write, Dk_ne htl, Dk_dK ht, Ls_ne hlt]
      refine ⟨⟨by omega, ?_⟩, ?_⟩
      · exact Nat.lt_of_lt_of_le (PySem.Flt.log2_lt_of (k := 30) (by decide) (by omega)) (by decide)
      · by_cases hkL : k ∈ L
        · rw [if_pos hkL, fstep_hit hkL]
          refine ⟨hkL, ?_, ?_⟩
          · have := List.length_erase_le (l := L) (a := k)
            rw [List.length_map]
            omega
          · by_cases hw : qs[i].1 = true
            · simp only [hw, if_true, sm2, tkv_put, upd_ne hlt, upd_same, List.map_append, List.map_cons, List.map_nil, and_self, gt, ex_any, and_true]
            · simp only [hw, if_false, sm1, hl, ht, upd_ne htl, upd_same, List.map_append, List.map_cons, List.map_nil, and_self, ex_any, and_true, Bool.false_eq_true]
        · rw [if_neg hkL]
          have more : ¬ L.length = m → _ := fun hm => fstep_more (m := m) (D := D) (f := f0) (p := p0') (wr := qs[i].1) hkL hm
          cases L with
          | nil =>
            rw [if_neg (by simp; omega), more (by simp; omega)]
            refine ⟨by simp; omega, ?_⟩
            by_cases hw : qs[i].1 = true
            · simp only [hw, if_true, sm2, tkv_put, upd_ne hlt, upd_same, List.map_append, List.map_cons, List.map_nil, and_self, gt, ex_any, and_true]
            · simp only [hw, if_false, sm1, hl, ht, upd_ne htl, upd_same, List.map_append, List.map_cons, List.map_nil, and_self, ex_any, and_true, Bool.false_eq_true]
          | cons y L =>
            by_cases hm : (y :: L).length = m
            · have g3 : L.length < sizeLine := by simp at g1; omega
              have gt2 : ∀ j : Int, (tkv (D.filter fun z => decide (z ≠ j))).length < sizeLine := fun j => by
                rw [tkv_len]
                have := List.length_filter_le (fun z => decide (z ≠ j)) D
                omega
              rw [if_pos (by rw [List.length_map, hm]), fstep_full hkL hm]
              simp only [List.map_cons, Ky_int, tkv_val]
              by_cases hy : y ∈ D
              · simp only [if_pos hy]
                walk_at "ev"
                simp only [if_true, Ls_ne hlt, Ls_upd, Dk_ne htl, Dk_upd, tkv_drop, tkv_put, List.length_map, g3, gt2, sm3, sm4, upd_same, upd_ne hlt, upd_ne htl, true_and, if_true, List.map_append, List.map_cons, List.map_nil, and_true]
                by_cases hw : qs[i].1 = true
                · simp only [hw, if_true]
                · simp only [hw, if_false, and_self, Bool.false_eq_true]
              · simp only [if_neg hy]
                walk_at "ev"
                have ed : (D.filter fun z => decide (z ≠ y)) = D := List.filter_eq_self.mpr fun z hz => decide_eq_true fun e => hy (by rw [← e]; exact hz)
                simp only [if_false, Ls_ne hlt, Ls_upd, Dk_ne htl, Dk_upd, Dk_dK ht, tkv_drop, tkv_put, List.length_map, g3, gt, sm1, sm2, upd_same, upd_ne hlt, upd_ne htl, true_and, if_true, List.map_append, List.map_cons, List.map_nil, and_true, ed, ht, Int.add_zero, Bool.false_eq_true]
                by_cases hw : qs[i].1 = true
                · simp only [hw, if_true]
                · simp only [hw, if_false, and_self, Bool.false_eq_true]
            · rw [if_neg (by rw [List.length_map]; omega), more hm]
              refine ⟨by rw [List.length_map]; omega, ?_⟩
              by_cases hw : qs[i].1 = true
              · simp only [hw, if_true, sm2, tkv_put, upd_ne hlt, upd_same, List.map_append, List.map_cons, List.map_nil, and_self, gt, ex_any, and_true]
              · simp only [hw, if_false, sm1, hl, ht, upd_ne htl, upd_same, List.map_append, List.map_cons, List.map_nil, and_self, ex_any, and_true, Bool.false_eq_true]
    · rintro σ H' ⟨sm, x7, x8, x9, hl, ht, rfl⟩
      walk_at "ev"
      refine ⟨by decide, Nw.intro fun p H4 c4 => q p H4 (sm.trans c4.same) (sm.free c4.new) ?_⟩
      have e : (keyed b qs).take ys.length = keyed b qs := List.take_of_length_le (by unfold keyed; rw [List.length_map, hq.1]; exact Nat.le_refl _)
      rw [← e]
      exact c4.it
end
end K33
namespace K33
open PySem PySem.Spec PyProof.Rows L2 Lw
local macro_rules | `(tactic| walk_at "ev") => `(tactic| simp only [cxOf, tDisp1F, mergeK_one, tYes, iRng3, ex_ints, ex_any, tML, tML0, tMD, tTupN, tLstN, tDNewN, rSlL2, rCatF, rRepF, tRevF, rListF, rMaxF, tDGetF, tDGet1F, tDGet2F, tDPop1F, tDPop2F, sDPutF, tLenSetF, tSl, tPart, tNoPart, ipI, rIsiF, Tz_non, Tz_bl, Tz_int, Tz_str, Cl7_int, Cl7_bool, Cl7_str, Cl7_list, Cl7_tuple, Cl7_dict, T7.isa, iListF, iTupF, cpow12, cpow60, tFor_eq, tLc_eq, iRng1, iRng2, wipe, Cx.nox, Cx.wish, tSeq, tIfS, tTest, tOp, tVar, tC, tRet, tRetN, tCB, tCons, tNil, tB, tNot, tAnd, tOr, tAndV, tOrV, tNotV, tIf, rEq, rNe, scal_ii, scal_bb, scal_ss, scal_nn, scal_si, scal_is, scal_in, scal_ni, Bool.or_true, Bool.true_or, Bool.or_false, Bool.false_or, Bool.and_true, Bool.true_and, Bool.and_false, Bool.false_and, rI, rI0, rU, tUn, t2I, tAsg, gName, tPar, tDrop, tLst, tTup, tCall, tNext, tBreak, tCont, tAug, rAdd, gTup, gTupF, gCons, gNil, gSub, rIxF, rLenF, rSetF, rAppF, rExtF, rPop0, rRemF, rInF, rDUpd, Nt_int, Op_some, Ky_int, Ky_str,
  List.map_cons, List.map_nil, List.cons_append, List.nil_append, List.append_nil, List.getElem?_cons_zero, List.getElem?_cons_succ, List.set_cons_zero, List.set_cons_succ, List.length_cons, List.length_nil, Option.some.injEq, exists_eq_left', exists_eq_left, exists_eq_right, V.int.injEq, V.ref.injEq, V.bl.injEq, V.str.injEq, V.ty.injEq, List.cons.injEq, and_true, true_and, and_assoc, reduceCtorEq, decide_eq_true_eq, decide_true, decide_false, if_true, if_false, ite_true, ite_false, Bool.false_eq_true, false_and, and_false, exists_false, exists_const, or_false, false_or, Bool.not_eq_true', decide_eq_false_iff_not, List.replicate_succ, List.replicate_zero, Nat.reduceSub, Nat.reduceAdd, Int.reducePow, Int.reduceNeg, exists_and_left, exists_and_right, atI_0, atI_1, atI_2, ixN_0, ixN_1, ixN_2, L2.start, upd_upd, Sq_upd, Sq_updT, Tp_upd, Ls_upd, Dk_upd, Int.reduceLT, Int.reduceLE, Nat.reduceLT, Nat.reduceLeDiff, forall_eq', forall_eq, id, Int.zero_add, Bool.not_true, Bool.not_false, not_true_eq_false, not_false_eq_true, ne_eq])

/-! ### _law_fd_distances -/
/-- how many other blocks since k was asked last, of what was asked so far, the last first -/
def dist (pre : List Int) (k : Int) : Option Nat := if k ∈ pre then some (card (pre.takeWhile fun j => decide (j ≠ k))) else none
def distV (pre : List Int) (k : Int) : V := match dist pre k with
  | some n => .int n
  | none => .non
def dists (bs : List Int) : List V := (List.range bs.length).map fun i => distV (bs.take i).reverse (bs.getD i 0)
theorem tw_at {k : Int} : ∀ {l : List Int} {n : Nat}, l[n]? = some k → k ∉ l.take n → k ∈ l ∧ l.takeWhile (fun j => decide (j ≠ k)) = l.take n
  | [], n, h, _ => by simp at h
  | x :: l, 0, h, _ => by
    have e : x = k := by simpa using h
    subst e
    exact ⟨List.mem_cons_self .., by simp⟩
  | x :: l, n + 1, h, hn => by
    have h1 : l[n]? = some k := by simpa using h
    have h2 : ¬ k = x ∧ k ∉ l.take n := by simpa using hn
    obtain ⟨i1, i2⟩ := tw_at h1 h2.2
    refine ⟨List.mem_cons_of_mem _ i1, ?_⟩
    have h3 : decide (x ≠ k) = true := decide_eq_true fun z => h2.1 z.symm
    rw [List.takeWhile_cons, if_pos h3, i2]
    rfl
section
variable {P : Program} {w : World} {K : PySem.W.Frag} {mg : Str → Option Value} {base : Heap}
def spDist : Sp := fun vs H Q _ => ∃ (a : Addr) (bs : List Int), vs = [.ref a] ∧ H a = some (.lst (bs.map V.int)) ∧ bs.length ≤ 1000 ∧ ∀ p H', Same H H' → H p = none → H' p = some (.lst (dists bs)) → Q (.ref p) H'
theorem scDist : FnScope ["blocks_now", "made", "at", "seen", "is_found", "back"] ["blocks_now"] (defScope sDist) := ⟨rfl, rfl, rfl, by decide +kernel, rfl, by decide +kernel, by decide +kernel⟩
theorem ok_dist (F : Def1 K mg "_law_fd_distances" sDist) (T : Bt mg) : Kn P w K mg base "_law_fd_distances" ["blocks_now"] 1 spDist := by
  refine kn_of F scDist (fun vs H Q E h => ?_) (fun _ _ _ _ _ _ us hl => match us, hl with | [_], _ => rfl) (fun f cdv A outer s H vs Q E hr h => ?_)
  · obtain ⟨a, bs, rfl, _⟩ := h
    rfl
  · obtain ⟨a, bs, rfl, ha, hl, q⟩ := h
    refine ⟨_, (pss_cons (ps_set (i := 1) scDist.nd rfl (Or.inl rfl) (pe_lstN pa_nil))
      (pss_cons (ps_for PassesOwn.never rfl (pi_range1 (by rfl) T.range (pa_cons (pe_callB call_lenF (by rfl) T.len (by decide +kernel) (pa_cons (pv 0) pa_nil)) pa_nil)) (pg_name (i := 2) scDist.nd rfl (Or.inl rfl)) (pss_cons (ps_par (i := 3) (j := 4) (by rfl) scDist.nd rfl rfl (by decide) rfl rfl (pa_cons (pe_lstN pa_nil) (pa_cons pe_bl pa_nil)) (by rfl))
      (pss_cons (ps_for PassesOwn.never rfl (pi_range3 (by rfl) T.range (pa_cons (pe_op op_sub (pv 2) pe_int) (pa_cons (pe_un un_neg pe_int) (pa_cons (pe_un un_neg pe_int) pa_nil)))) (pg_name (i := 5) scDist.nd rfl (Or.inl rfl)) (pss_cons (ps_if (pt_cmpR op_eq (pe_ix ix_f (pv 0) (pv 5) (fun _ _ => rfl)) (pe_ix ix_f (pv 0) (pv 2) (fun _ _ => rfl)) (nomark _)) (pss_cons (ps_set (i := 4) scDist.nd rfl (Or.inl rfl) pe_bl)
      (pss_one ps_break)) pss_nil)
      (pss_one (ps_expr (pe_mL PySem.F.slot_list_append PySem.F.type_list_append mt_app (pv 3) (pa_cons (pe_ix ix_f (pv 0) (pv 5) (fun _ _ => rfl)) pa_nil))))))
      (pss_one (ps_expr (pe_mL PySem.F.slot_list_append PySem.F.type_list_append mt_app (pv 1) (pa_cons (pe_ifExp (pt_val (pv 4)) (pe_lenSet (by rfl) T.len (by rfl) T.set (pv 3)) pe_non) pa_nil)))))))
      (pss_one (ps_ret (pv 1))))), ?_⟩
    walk_at "ev"
    refine ⟨by decide, Nw.intro fun d H1 c1 => ?_⟩
    simp only [Sq_lst (c1.same _ _ ha), List.length_map]
    have nd : ∀ b o, H b = some o → b ≠ d := c1.off
    refine ⟨by omega, by omega, lp_range (fun i σ H' => Same H H' ∧ H' d = some (.lst ((dists bs).take i)) ∧ ∃ x2 x3 x4 x5, σ = [some (.ref a), some (.ref d), x2, x3, x4, x5]) ?_ ?_ ?_⟩
    · exact ⟨c1.same, c1.it, _, _, _, _, rfl⟩
    · rintro i σ H' hi ⟨sm, hd, x2, x3, x4, x5, rfl⟩
      have hi2 : i < bs.length := by omega
      walk_at "ev"
      refine ⟨by decide, Nw.intro fun l H2 c2 => ?_⟩
      have sm2 : Same H H2 := sm.trans c2.same
      have nl : ∀ b o, H b = some o → b ≠ l := fun b o e => c2.off _ _ (sm _ _ e)
      have hdl : d ≠ l := c2.off _ _ hd
      have hd2 : H2 d = some (.lst ((dists bs).take i)) := c2.same _ _ hd
      refine ⟨i, ⟨by decide, by decide, ?_, ?_⟩, ?_⟩
      · exact PySem.W.small_down (by omega) (by omega) (by omega) (by omega)
      · rw [PySem.W.rangeSize_downNat]
        omega
      have hgi : (bs.map V.int)[i]? = some (.int (bs.getD i 0)) := by
        rw [List.getElem?_map, List.getElem?_eq_getElem hi2]
        simp [hi2]
      have hdg : (dists bs)[i]? = some (distV (bs.take i).reverse (bs.getD i 0)) := by
        unfold dists
        rw [List.getElem?_map, List.getElem?_range hi2]
        rfl
      have hlenr : (bs.take i).reverse.length = i := by
        rw [List.length_reverse, List.length_take]
        omega
      have big : (100001 : Nat) < sizeLine := by decide
      have hdl0 : ((dists bs).take i).length < sizeLine := by
        rw [List.length_take]
        omega
      generalize hk : bs.getD i 0 = k at *
      -- what stands behind the inner loop
      have fin : ∀ (n : Nat) (fd : Bool) (x5 : Option V) (H' : Hp), Same H H' → H' d = some (.lst ((dists bs).take i)) → H' l = some (.lst (((bs.take i).reverse.take n).map V.int)) → n ≤ i →
          (fd = true → k ∈ (bs.take i).reverse ∧ (bs.take i).reverse.takeWhile (fun j => decide (j ≠ k)) = (bs.take i).reverse.take n) → (fd = false → k ∉ (bs.take i).reverse) →
          Same H (upd H' d (.lst ((dists bs).take i ++ [if fd then .int (card ((bs.take i).reverse.take n)) else .non]))) ∧ upd H' d (.lst ((dists bs).take i ++ [if fd then .int (card ((bs.take i).reverse.take n)) else .non])) d = some (.lst ((dists bs).take (i + 1))) := fun n fd x5 H' s4 e1 e2 hn f1 f2 => by
        refine ⟨same_chg s4 nd, ?_⟩
        rw [upd_same, List.take_add_one, hdg]
        congr 3
        unfold distV dist
        cases fd with
        | true =>
          obtain ⟨f3, f4⟩ := f1 rfl
          rw [if_pos f3, f4]
          rfl
        | false =>
          rw [if_neg (f2 rfl)]
          rfl
      refine lp_rangeC (fun n σ H' => Same H H' ∧ H' d = some (.lst ((dists bs).take i)) ∧ H' l = some (.lst (((bs.take i).reverse.take n).map V.int)) ∧ n ≤ i ∧ k ∉ (bs.take i).reverse.take n ∧ ∃ x5, σ = [some (.ref a), some (.ref d), some (.int i), some (.ref l), some (.bl false), x5]) ?_ ?_ ?_
      · exact ⟨sm2, hd2, c2.it, Nat.zero_le _, by simp, _, rfl⟩
      · rintro n σ H' hn ⟨s4, e1, e2, hni, hnk, x5, rfl⟩
        have ej : (i : Int) - 1 + (n : Int) * (-1) = ((i - 1 - n : Nat) : Int) := by omega
        have hj : (bs.map V.int)[i - 1 - n]? = some (.int ((bs.take i).reverse.getD n 0)) := by
          rw [List.getElem?_map, List.getElem?_eq_getElem (by omega)]
          have : n < (bs.take i).reverse.length := by omega
          rw [List.getD_eq_getElem?_getD, List.getElem?_eq_getElem this, List.getElem_reverse, List.getElem_take]
          simp only [Option.map_some, Option.getD_some]
          congr 3
          rw [List.length_take]
          omega
        have hrn : (bs.take i).reverse[n]? = some ((bs.take i).reverse.getD n 0) := by
          have : n < (bs.take i).reverse.length := by omega
          rw [List.getD_eq_getElem?_getD, List.getElem?_eq_getElem this]
          rfl
        generalize hx : (bs.take i).reverse.getD n 0 = x at *
        walk_at "ev"
        simp only [Sq_lst (s4 _ _ ha), ej, atI_natE, hj, hgi, Op_some, Ls_lst e2, Sq_lst e2, Ls_lst e1]
        walk_at "ev"
        have lt : ((bs.take i).reverse.take n).length ≤ 1000 := by
          rw [List.length_take]
          omega
        refine ite2 (fun e => ?_) (fun e => ?_)
        · subst e
          obtain ⟨f1, f2⟩ := tw_at hrn hnk
          obtain ⟨r1, r2⟩ := fin n true x5 H' s4 e1 e2 hni (fun _ => ⟨f1, f2⟩) (fun z => nomatch z)
          exact ⟨by omega, hdl0, r1, r2⟩
        · have ne : d ≠ l := hdl
          refine ⟨by rw [List.length_map]; omega, same_chg s4 nl, ?_, ?_, by omega, ?_⟩
          · rw [upd_ne ne]
            exact e1
          · rw [upd_same, List.take_add_one, hrn, List.map_append]
            rfl
          · rw [List.take_add_one, hrn, List.mem_append]
            intro z
            rcases z with z | z
            · exact hnk z
            · exact e ((by simpa using z : k = x).symm)
      · rintro σ H' ⟨s4, e1, e2, hni, hnk, x5, rfl⟩
        walk_at "ev"
        simp only [Ls_lst e1]
        have en : (bs.take i).reverse.take i = (bs.take i).reverse := List.take_of_length_le (by omega)
        obtain ⟨r1, r2⟩ := fin i false x5 H' s4 e1 e2 hni (fun z => nomatch z) (fun _ => by rw [← en]; exact hnk)
        exact ⟨hdl0, r1, r2⟩
    · rintro σ H' ⟨sm, hd, x2, x3, x4, x5, rfl⟩
      walk_at "ev"
      refine q d H' sm c1.new ?_
      rw [hd, List.take_of_length_le]
      unfold dists
      simp
/-! ### _law_fd_behind -/
/-- how many other blocks behind the last asking of b -/
def behindOf (bs : List Int) (b : Int) : Nat := card (bs.reverse.takeWhile fun j => decide (j ≠ b)).reverse
theorem tw_app {b : Int} {r : List Int} : ∀ {l : List Int}, (∀ x ∈ l, x ≠ b) → (l ++ b :: r).takeWhile (fun j => decide (j ≠ b)) = l
  | [], _ => by simp
  | x :: l, h => by
    have h1 : decide (x ≠ b) = true := decide_eq_true (h x (List.mem_cons_self ..))
    rw [List.cons_append, List.takeWhile_cons, if_pos h1, tw_app fun y hy => h y (List.mem_cons_of_mem _ hy)]
theorem last_drop {bs : List Int} {b : Int} {m : Nat} (hm : m < bs.length) (e : bs.getD m 0 = b) (h : ∀ j, j < bs.length → bs.getD j 0 = b → j ≤ m) : bs.drop (m + 1) = (bs.reverse.takeWhile fun j => decide (j ≠ b)).reverse := by
  have e1 : bs = bs.take m ++ b :: bs.drop (m + 1) := by
    have e2 : bs[m] = b := by
      rw [← e]
      simp [hm]
    rw [← e2, List.getElem_cons_drop, List.take_append_drop]
  have e3 : bs.reverse = (bs.drop (m + 1)).reverse ++ b :: (bs.take m).reverse := by
    conv => lhs; rw [e1]
    simp
  rw [e3, tw_app, List.reverse_reverse]
  intro x hx ex
  subst ex
  obtain ⟨n, hn, e4⟩ := List.mem_iff_getElem.mp (List.mem_reverse.mp hx)
  rw [List.length_drop] at hn
  rw [List.getElem_drop] at e4
  have := h (m + 1 + n) (by omega) (by
    rw [List.getD_eq_getElem?_getD, List.getElem?_eq_getElem (by omega), e4]
    rfl)
  omega
def spBehind : Sp := fun vs H Q _ => ∃ (a : Addr) (bs : List Int), vs = [.ref a] ∧ H a = some (.lst (bs.map V.int)) ∧ bs.length ≤ 1000 ∧ ∀ p H' kvs, Same H H' → H p = none → H' p = some (.dK kvs) → (∀ b ∈ bs, valV kvs (.inl b) = some (.int (behindOf bs b))) → Q (.ref p) H'
theorem scBehind : FnScope ["blocks_now", "made", "block", "at", "k"] ["blocks_now"] (defScope sBehind) := ⟨rfl, rfl, rfl, by decide +kernel, rfl, by decide +kernel, by decide +kernel⟩
theorem ok_behind (F : Def1 K mg "_law_fd_behind" sBehind) (T : Bt mg) : Kn P w K mg base "_law_fd_behind" ["blocks_now"] 1 spBehind := by
  refine kn_of F scBehind (fun vs H Q E h => ?_) (fun _ _ _ _ _ _ us hl => match us, hl with | [_], _ => rfl) (fun f cdv A outer s H vs Q E hr h => ?_)
  · obtain ⟨a, bs, rfl, _⟩ := h
    rfl
  · obtain ⟨a, bs, rfl, ha, hl, q⟩ := h
    refine ⟨_, (pss_cons (ps_set (i := 1) scBehind.nd rfl (Or.inl rfl) pe_dnewN)
      (pss_cons (ps_for PassesOwn.never rfl (pi_listF (pv 0)) (pg_name (i := 2) scBehind.nd rfl (Or.inr rfl)) (pss_cons (ps_set (i := 3) scBehind.nd rfl (Or.inl rfl) (pe_callB cr_maxF (by rfl) T.max (by decide +kernel) (pa_cons (pe_lc (own := [("k", 4)]) (by rfl) scBehind.nd (pi_range1 (by rfl) T.range (pa_cons (pe_callB call_lenF (by rfl) T.len (by decide +kernel) (pa_cons (pv 0) pa_nil)) pa_nil)) (blkOk_by (N := ["blocks_now", "made", "block", "at", "k"]) (sc := defScope sBehind) (by decide +kernel)) (fun _ _ _ _ _ => (pg_name (i := 4) scBehind.nd rfl (Or.inl rfl))) (fun _ _ _ _ _ => (pts_one (pt_cmpR op_eq (pe_ix ix_f (pv 0) (pv 4) (fun _ _ => rfl)) (pv 2) (nomark _)))) (fun _ _ _ _ _ => (pv 4))) pa_nil)))
      (pss_one (ps_expr (pe_mD PySem.F.slot_dict_update PySem.F.type_dict_update mt_dupd (pv 1) (pa_cons (pe_disp1 (pv 2) (pe_lenSet (by rfl) T.len (by rfl) T.set (pe_slice sl_f (pv 0) (po_some (pe_op op_add (pv 3) pe_int)) po_none))) pa_nil))))))
      (pss_one (ps_ret (pv 1))))), ?_⟩
    walk_at "ev"
    refine Nw.intro fun d H1 c1 => ?_
    simp only [Ls_lst (c1.same _ _ ha)]
    have nd : ∀ b o, H b = some o → b ≠ d := c1.off
    refine lp_list (xs := bs.map V.int) (fun i σ H' => Same H H' ∧ (∃ kvs, H' d = some (.dK kvs) ∧ kvs.length ≤ i ∧ ∀ b ∈ bs.take i, valV kvs (.inl b) = some (.int (behindOf bs b))) ∧ ∃ x2 x3 x4, σ = [some (.ref a), some (.ref d), x2, x3, x4]) ?_ ?_ ?_ ?_
    · exact ⟨c1.same, ⟨[], c1.it, Nat.le_refl _, fun b hb => by simp at hb⟩, _, _, _, rfl⟩
    · rintro i σ H' hi ⟨sm, _⟩
      exact sm _ _ ha
    · rintro i x σ H' hx ⟨sm, ⟨kvs, hd, hkl, hkv⟩, x2, x3, x4, rfl⟩
      have hi : i < bs.length := by
        have := (List.getElem?_eq_some_iff.mp hx).1
        rw [List.length_map] at this
        exact this
      have ex : x = .int bs[i] := by
        rw [List.getElem?_map, List.getElem?_eq_getElem hi] at hx
        exact (Option.some.inj hx).symm
      subst ex
      generalize hb : bs[i] = b
      walk_at "ev"
      simp only [Sq_lst (sm _ _ ha), List.length_map]
      refine ⟨by omega, by omega, lcp_range (fun D n H2 => Same H' H2 ∧ H2 D = some (.lst ((((List.range n).filter fun k => decide (bs.getD k 0 = b)).map Int.ofNat).map V.int))) ?_ ?_ ?_⟩
      · exact fun D hD => ⟨(newf hD rfl).1, upd_same⟩
      · intro D n H2 hD hn ⟨s2, e2⟩
        have hn2 : n < bs.length := by omega
        have hg : (bs.map V.int)[n]? = some (.int (bs.getD n 0)) := by
          rw [List.getElem?_map, List.getElem?_eq_getElem hn2]
          simp [hn2]
        have nD : ∀ b o, H' b = some o → b ≠ D := fun b o e => ne_of_none e hD
        walk_at "ev"
        simp only [Sq_lst (s2 _ _ (sm _ _ ha)), atI_natE, hg, Op_some]
        walk_at "ev"
        have big : (100001 : Nat) < sizeLine := by decide
        by_cases e : bs.getD n 0 = b
        · rw [if_pos e]
          refine ⟨_, e2, ?_, same_chg s2 nD, ?_⟩
          · rw [List.length_map, List.length_map]
            have := List.length_filter_le (fun k => decide (bs.getD k 0 = b)) (List.range n)
            rw [List.length_range] at this
            omega
          · rw [upd_same, List.range_succ, List.filter_append, List.filter_cons, if_pos (decide_eq_true e), List.map_append, List.map_append]
            rfl
        · rw [if_neg e]
          refine ⟨s2, ?_⟩
          rw [e2, List.range_succ, List.filter_append, List.filter_cons, if_neg (by simpa using e), List.map_append, List.map_append]
          simp
      · intro D H2 hD ⟨s2, e2⟩
        have s3 : Same H H2 := sm.trans s2
        have ne : d ≠ D := ne_of_none hd hD
        walk_at "ev"
        simp only [Sq_lst e2, Dk_dK (s2 _ _ hd), e2]
        walk_at "ev"
        have hne : i ∈ (List.range (bs.length : Int).toNat).filter fun k => decide (bs.getD k 0 = b) := by
          rw [List.mem_filter, List.mem_range]
          refine ⟨by omega, decide_eq_true ?_⟩
          rw [← hb]
          simp [hi]
        refine ⟨⟨_, rfl⟩, ?_, fun m hm hmax => ?_⟩
        · rw [List.length_map]
          exact List.length_pos_iff.mpr fun z => by rw [z] at hne; cases hne
        · obtain ⟨n, hn, rfl⟩ := List.mem_map.mp hm
          obtain ⟨hn1, hn2⟩ := List.mem_filter.mp hn
          have hn1 := List.mem_range.mp hn1
          have hn2 := of_decide_eq_true hn2
          have hn3 : n < bs.length := by omega
          have last := last_drop hn3 hn2 fun j hj ej => by
            have := hmax (Int.ofNat j) (List.mem_map_of_mem (List.mem_filter.mpr ⟨List.mem_range.mpr (by omega), decide_eq_true ej⟩))
            exact Int.ofNat_le.mp this
          refine Nw.intro fun p H3 c3 => ?_
          have nd3 := c3.off
          simp only [Ls_lst (c3.same _ _ (s3 _ _ ha))]
          refine Nw.intro fun l H4 c4 => ?_
          have ec : cutV (bs.map V.int) (some (Int.ofNat n + 1)) none = (bs.drop (n + 1)).map V.int := by
            rw [show (Int.ofNat n + 1 : Int) = ((n + 1 : Nat) : Int) from rfl, cut_from, List.map_drop]
          rw [ec] at c4
          have hd4 : H4 d = some (.dK kvs) := c4.same _ _ (c3.same _ _ (s2 _ _ hd))
          have np : ∀ b o, H b = some o → b ≠ p := fun b o e => nd3 _ _ (s3 _ _ e)
          have dp : d ≠ p := nd3 _ _ (s2 _ _ hd)
          have s4 : Same H H4 := s3.trans (c3.same.trans c4.same)
          simp only [Ls_lst c4.it, ex_ints, Dk_ne dp, Dk_dK hd4]
          have big : (100001 : Nat) < sizeLine := by decide
          refine ⟨by rw [List.length_drop]; omega, c4.same _ _ c3.it, dp, by omega, same_chg (same_chg s4 np) nd, _, upd_same, ?_, fun b' hb' => ?_⟩
          · have := length_putK kvs (Sum.inl b) (V.int ↑(card (List.drop (n + 1) bs)))
            omega
          · rw [valV_put]
            by_cases e : b' = b
            · subst e
              rw [if_pos rfl]
              unfold behindOf
              rw [← last]
            · rw [if_neg (fun z => e (Sum.inl.inj z))]
              refine hkv b' ?_
              rw [List.take_add_one, List.getElem?_eq_getElem hi, hb] at hb'
              rcases List.mem_append.mp hb' with z | z
              · exact z
              · exact absurd (by simpa using z) e
    · rintro σ H' ⟨sm, ⟨kvs, hd, hkl, hkv⟩, x2, x3, x4, rfl⟩
      walk_at "ev"
      refine q d H' kvs sm c1.new hd fun b hb => hkv b ?_
      rw [List.length_map, List.take_length]
      exact hb
end
end K33
namespace K33
open PySem PySem.Spec PyProof.Rows L2 Lw
local macro_rules | `(tactic| walk_at "ev") => `(tactic| simp only [cxOf, iKeysF, tLockE, tDisp1F, mergeK_one, tYes, iRng3, ex_ints, ex_any, tML, tML0, tMD, tTupN, tLstN, tDNewN, rSlL2, rCatF, rRepF, tRevF, rListF, rMaxF, tDGetF, tDGet1F, tDGet2F, tDPop1F, tDPop2F, sDPutF, tLenSetF, tSl, tPart, tNoPart, ipI, rIsiF, Tz_non, Tz_bl, Tz_int, Tz_str, Cl7_int, Cl7_bool, Cl7_str, Cl7_list, Cl7_tuple, Cl7_dict, T7.isa, iListF, iTupF, cpow12, cpow60, tFor_eq, tLc_eq, iRng1, iRng2, wipe, Cx.nox, Cx.wish, tSeq, tIfS, tTest, tOp, tVar, tC, tRet, tRetN, tCB, tCons, tNil, tB, tNot, tAnd, tOr, tAndV, tOrV, tNotV, tIf, rEq, rNe, scal_ii, scal_bb, scal_ss, scal_nn, scal_si, scal_is, scal_in, scal_ni, Bool.or_true, Bool.true_or, Bool.or_false, Bool.false_or, Bool.and_true, Bool.true_and, Bool.and_false, Bool.false_and, rI, rI0, rU, tUn, t2I, tAsg, gName, tPar, tDrop, tLst, tTup, tCall, tNext, tBreak, tCont, tAug, rAdd, gTup, gTupF, gCons, gNil, gSub, rIxF, rLenF, rSetF, rAppF, rExtF, rPop0, rRemF, rInF, rDUpd, Nt_int, Op_some, Ky_int, Ky_str,
  List.map_cons, List.map_nil, List.cons_append, List.nil_append, List.append_nil, List.getElem?_cons_zero, List.getElem?_cons_succ, List.set_cons_zero, List.set_cons_succ, List.length_cons, List.length_nil, Option.some.injEq, exists_eq_left', exists_eq_left, exists_eq_right, V.int.injEq, V.ref.injEq, V.bl.injEq, V.str.injEq, V.ty.injEq, List.cons.injEq, and_true, true_and, and_assoc, reduceCtorEq, decide_eq_true_eq, decide_true, decide_false, if_true, if_false, ite_true, ite_false, Bool.false_eq_true, false_and, and_false, exists_false, exists_const, or_false, false_or, Bool.not_eq_true', decide_eq_false_iff_not, List.replicate_succ, List.replicate_zero, Nat.reduceSub, Nat.reduceAdd, Int.reducePow, Int.reduceNeg, exists_and_left, exists_and_right, atI_0, atI_1, atI_2, ixN_0, ixN_1, ixN_2, L2.start, upd_upd, Sq_upd, Sq_updT, Tp_upd, Ls_upd, Dk_upd, Int.reduceLT, Int.reduceLE, Nat.reduceLT, Nat.reduceLeDiff, forall_eq', forall_eq, id, Int.zero_add, Bool.not_true, Bool.not_false, not_true_eq_false, not_false_eq_true, ne_eq])

/-! ### _law_fd_counts -/
def missV (m : Nat) : V → Bool
  | .int n => decide ((m : Int) ≤ n)
  | _ => true
def cfetched (m : Nat) (bs : List Int) : Nat := ((dists bs).filter (missV m)).length
def setF (F : Int → Bool) (k : Int) (b : Bool) : Int → Bool := fun j => if j = k then b else F j
/-- (put, which blocks are fresh, all blocks) -/
abbrev Cst := Int × (Int → Bool) × List Int
def cstep (m : Nat) (k : Int) (d : V) (wr : Bool) (s : Cst) : Cst :=
  let s1 : Cst := if missV m d then (s.1 + (if s.2.1 k then 1 else 0), setF s.2.1 k false, addT s.2.2 k) else s
  (s1.1, setF s1.2.1 k (s1.2.1 k || wr), addT s1.2.2 k)
def cst (m : Nat) (ws : List Bool) (bs : List Int) : Nat → Cst
  | 0 => (0, fun _ => false, [])
  | i + 1 => cstep m (bs.getD i 0) ((dists bs).getD i .non) (ws.getD i false) (cst m ws bs i)
def cput (m : Nat) (ws : List Bool) (bs : List Int) : Int :=
  let s := cst m ws bs bs.length
  s.1 + ((s.2.2.filter fun k => s.2.1 k && decide (m ≤ behindOf bs k)).length : Nat)
def fkv (F : Int → Bool) (ks : List Int) : List (Key × V) := ks.map fun k => (Sum.inl k, V.bl (F k))
theorem fkv_val (F : Int → Bool) (ks : List Int) (k : Int) : valV (fkv F ks) (.inl k) = if k ∈ ks then some (.bl (F k)) else none := by
  induction ks with
  | nil => rfl
  | cons j T ih =>
    show valV ((Sum.inl j, V.bl (F j)) :: fkv F T) (.inl k) = _
    by_cases e : j = k
    · subst e
      rw [valV_pos rfl, if_pos (List.mem_cons_self ..)]
    · have e2 : ¬ k = j := fun z => e z.symm
      rw [valV_neg (fun z => e (Sum.inl.inj z)), ih]
      simp only [List.mem_cons, e2, false_or]
theorem fkv_put (F : Int → Bool) (ks : List Int) (k : Int) (b : Bool) : putK (fkv F ks) (.inl k) (.bl b) = fkv (setF F k b) (addT ks k) := by
  unfold putK addT
  rw [valV_any, fkv_val]
  by_cases h : k ∈ ks
  · rw [if_pos h, if_pos h]
    simp only [Option.isSome_some, if_true, fkv, List.map_map]
    refine List.map_congr_left fun j _ => ?_
    show (if (Sum.inl j : Key) = Sum.inl k then ((Sum.inl j : Key), V.bl b) else (Sum.inl j, V.bl (F j))) = (Sum.inl j, V.bl (setF F k b j))
    unfold setF
    by_cases e : j = k
    · subst e
      rw [if_pos rfl, if_pos rfl]
    · rw [if_neg (fun z => e (Sum.inl.inj z)), if_neg e]
  · rw [if_neg h, if_neg h]
    simp only [Option.isSome_none, Bool.false_eq_true, if_false, fkv, List.map_append, List.map_cons, List.map_nil]
    congr 1
    · refine List.map_congr_left fun j hj => ?_
      unfold setF
      rw [if_neg (fun z => h (by rw [← z]; exact hj))]
    · unfold setF
      rw [if_pos rfl]
theorem fkv_len (F : Int → Bool) (ks : List Int) : (fkv F ks).length = ks.length := List.length_map ..
theorem cstep_miss {m : Nat} {k : Int} {d : V} {wr : Bool} {p : Int} {F : Int → Bool} {ks : List Int} (h : missV m d = true) : cstep m k d wr (p, F, ks) = (p + (if F k then 1 else 0), setF (setF F k false) k (setF F k false k || wr), addT (addT ks k) k) := by
  unfold cstep
  simp only [h, if_true]
theorem cstep_hit {m : Nat} {k : Int} {d : V} {wr : Bool} {p : Int} {F : Int → Bool} {ks : List Int} (h : missV m d = false) : cstep m k d wr (p, F, ks) = (p, setF F k (F k || wr), addT ks k) := by
  unfold cstep
  simp only [h, if_false, Bool.false_eq_true]
theorem addT_mem (T : List Int) (k : Int) : k ∈ addT T k := by
  unfold addT
  split
  · assumption
  · simp
theorem addT_of {T : List Int} {k : Int} (h : k ∈ T) : addT T k = T := by unfold addT; rw [if_pos h]
theorem mem_addT {T : List Int} {k j : Int} : j ∈ addT T k ↔ j ∈ T ∨ j = k := by
  unfold addT
  split
  · exact ⟨.inl, fun h => h.elim id fun e => by rw [e]; assumption⟩
  · simp
theorem wd_dec (b : Bool) : decide (V.str (wd b) = V.str (Str.ofString "write")) = b := by
  cases b
  · decide +kernel
  · decide +kernel
section
variable {P : Program} {w : World} {K : PySem.W.Frag} {mg : Str → Option Value} {base : Heap}
def spCounts : Sp := fun vs H Q _ => ∃ (aq ab ad ah : Addr) (m : Nat) (ys : List V) (qs : List (Bool × Int)) (bs : List Int) (kvs : List (Key × V)), vs = [.ref aq, .ref ab, .ref ad, .ref ah, .int m] ∧ H aq = some (.lst ys) ∧ Asks H ys qs ∧ H ab = some (.lst (bs.map V.int)) ∧ bs.length = qs.length ∧ qs.length ≤ 1000 ∧
  H ad = some (.lst (dists bs)) ∧ H ah = some (.dK kvs) ∧ (∀ b ∈ bs, valV kvs (.inl b) = some (.int (behindOf bs b))) ∧
  ∀ p H', Same H H' → H p = none → H' p = some (.tup [.int (cfetched m bs : Nat), .int (cput m (qs.map (·.1)) bs)]) → Q (.ref p) H'
theorem scCounts : FnScope ["asks", "blocks_now", "distances", "behind_now", "most_in", "fetched", "put", "fresh", "at", "block", "one"] ["asks", "blocks_now", "distances", "behind_now", "most_in"] (defScope sCounts) := ⟨rfl, rfl, rfl, by decide +kernel, rfl, by decide +kernel, by decide +kernel⟩
theorem ok_counts (F : Def1 K mg "_law_fd_counts" sCounts) (T : Bt mg) : Kn P w K mg base "_law_fd_counts" ["asks", "blocks_now", "distances", "behind_now", "most_in"] 1 spCounts := by
  refine kn_of F scCounts (fun vs H Q E h => ?_) (fun _ _ _ _ _ _ us hl => match us, hl with | [_, _, _, _, _], _ => rfl) (fun f cdv A outer s H vs Q E hr h => ?_)
  · obtain ⟨aq, ab, ad, ah, m, ys, qs, bs, kvs, rfl, _⟩ := h
    rfl
  · obtain ⟨aq, ab, ad, ah, m, ys, qs, bs, kvs, rfl, haq, hq, hab, hlb, hl, had, hah, hbe, q⟩ := h
    refine ⟨_, (pss_cons (ps_set (i := 5) scCounts.nd rfl (Or.inl rfl) (pe_callB call_lenF (by rfl) T.len (by decide +kernel) (pa_cons (pe_lc (own := [("one", 10)]) (by rfl) scCounts.nd (pi_listF (pv 2)) (blkOk_by (N := ["asks", "blocks_now", "distances", "behind_now", "most_in", "fetched", "put", "fresh", "at", "block", "one"]) (sc := defScope sCounts) (by decide +kernel)) (fun _ _ _ _ _ => (pg_name (i := 10) scCounts.nd rfl (Or.inl rfl))) (fun _ _ _ _ _ => (pts_one (PW.pt (pw_or (pt_cmpR op_isN (pv 10) pe_non (nomark _)) (pw_or1 (pt_cmpR op_ge (pv 10) (pv 4) (nomark _))))))) (fun _ _ _ _ _ => (pv 10))) pa_nil)))
      (pss_cons (ps_asg (pe_tupN (pa_cons pe_int (pa_cons pe_dnewN pa_nil))) (pg_tupF 2 (by rfl) (pgs_cons (pg_name (i := 6) scCounts.nd rfl (Or.inl rfl)) (pgs_cons (pg_name (i := 7) scCounts.nd rfl (Or.inr rfl)) pgs_nil))))
      (pss_cons (ps_for PassesOwn.never rfl (pi_range1 (by rfl) T.range (pa_cons (pe_callB call_lenF (by rfl) T.len (by decide +kernel) (pa_cons (pv 0) pa_nil)) pa_nil)) (pg_name (i := 8) scCounts.nd rfl (Or.inl rfl)) (pss_cons (ps_set (i := 9) scCounts.nd rfl (Or.inl rfl) (pe_ix ix_f (pv 1) (pv 8) (fun _ _ => rfl)))
      (pss_cons (ps_if (PW.pt (pw_or (pt_cmpR op_isN (pe_ix ix_f (pv 2) (pv 8) (fun _ _ => rfl)) pe_non (nomark _)) (pw_or1 (pt_cmpR op_ge (pe_ix ix_f (pv 2) (pv 8) (fun _ _ => rfl)) (pv 4) (nomark _))))) (pss_cons (ps_set (i := 6) scCounts.nd rfl (Or.inl rfl) (pe_op op_add (pv 6) (pe_callTy call_int1 (by rfl) T.int (by decide +kernel) (pa_cons (pe_dget2F (hu_of hr) (pv 7) (pv 9) pe_bl ⟨rfl, rfl, rfl, rfl⟩) pa_nil))))
      (pss_one (ps_expr (pe_mD PySem.F.slot_dict_update PySem.F.type_dict_update mt_dupd (pv 7) (pa_cons (pe_disp1 (pv 9) pe_bl) pa_nil))))) pss_nil)
      (pss_one (ps_expr (pe_mD PySem.F.slot_dict_update PySem.F.type_dict_update mt_dupd (pv 7) (pa_cons (pe_disp1 (pv 9) (pe_or (pe_dgetF (hu_of hr) (pv 7) (pv 9) (fun _ _ => rfl)) (pe_one (pe_cmpR op_eq (pe_ix ix_f (pe_ix ix_f (pv 0) (pv 8) (fun _ _ => rfl)) pe_int (fun _ _ => rfl)) pe_str (nomark _))))) pa_nil)))))))
      (pss_cons (ps_set (i := 6) scCounts.nd rfl (Or.inl rfl) (pe_op op_add (pv 6) (pe_callB call_lenF (by rfl) T.len (by decide +kernel) (pa_cons (pe_lock (pe_lc (own := [("block", 9)]) (by rfl) scCounts.nd (pi_keysF (pv 7)) (blkOk_by (N := ["asks", "blocks_now", "distances", "behind_now", "most_in", "fetched", "put", "fresh", "at", "block", "one"]) (sc := defScope sCounts) (by decide +kernel)) (fun _ _ _ _ _ => (pg_name (i := 9) scCounts.nd rfl (Or.inl rfl))) (fun _ _ _ _ _ => (pts_one (PW.pt (pw_and (pt_val (pe_dgetF (hu_of hr) (pv 7) (pv 9) (fun _ _ => rfl))) (pw_and1 (pt_cmpR op_ge (pe_dgetF (hu_of hr) (pv 3) (pv 9) (fun _ _ => rfl)) (pv 4) (nomark _))))))) (fun _ _ _ _ _ => (pv 9)))) pa_nil))))
      (pss_one (ps_ret (pe_tupN (pa_cons (pv 5) (pa_cons (pv 6) pa_nil))))))))), ?_⟩
    walk_at "ev"
    simp only [Ls_lst had]
    have big : (100001 : Nat) < sizeLine := by decide
    have ldist : (dists bs).length = bs.length := by unfold dists; simp
    refine lcp_list (xs := dists bs) (fun D n H2 => Same H H2 ∧ H2 D = some (.lst (((dists bs).take n).filter (missV m)))) ?_ ?_ ?_ ?_
    · exact fun D hD => ⟨(newf hD rfl).1, upd_same⟩
    · exact fun D i H2 hi ⟨sm, _⟩ => sm _ _ had
    · rintro D i x H2 hD hx ⟨sm, e⟩
      have nD : ∀ b o, H b = some o → b ≠ D := fun b o e => ne_of_none e hD
      walk_at "ev"
      have hi : i < (dists bs).length := (List.getElem?_eq_some_iff.mp hx).1
      have hlt : (((dists bs).take i).filter (missV m)).length < sizeLine := by
        have := List.length_filter_le (missV m) ((dists bs).take i)
        rw [List.length_take] at this
        omega
      have et : ((dists bs).take (i + 1)).filter (missV m) = ((dists bs).take i).filter (missV m) ++ if missV m x then [x] else [] := by
        rw [List.take_add_one, hx, List.filter_append]
        congr 1
        show [x].filter (missV m) = _
        rw [List.filter_cons]
        split <;> rfl
      rw [et]
      have hxv : x = .non ∨ ∃ n : Nat, x = .int n := by
        unfold dists at hx
        rw [List.getElem?_map] at hx
        rw [ldist] at hi
        rw [List.getElem?_range hi] at hx
        have hx : distV (bs.take i).reverse (bs.getD i 0) = x := Option.some.inj hx
        unfold distV at hx
        split at hx
        · exact .inr ⟨_, hx.symm⟩
        · exact .inl hx.symm
      rcases hxv with rfl | ⟨n, rfl, hbt⟩
      · exact ⟨_, e, hlt, same_chg sm nD, upd_same⟩
      · walk_at "ev"
        unfold missV
        by_cases hm : (m : Int) ≤ n
        · rw [if_pos hm, if_pos (decide_eq_true hm)]
          exact ⟨_, e, hlt, same_chg sm nD, upd_same⟩
        · rw [if_neg hm, if_neg (by simpa using hm), List.append_nil]
          exact ⟨sm, e⟩
    · intro D H2 hD ⟨sm, e⟩
      rw [List.take_length] at e
      simp only [Sq_lst e]
      refine Nw.intro fun fr H3 c3 => ⟨by decide, Nw.intro fun p0 H4 c4 => ?_⟩
      have s4 : Same H H4 := sm.trans (c3.same.trans c4.same)
      have nfr : ∀ b o, H b = some o → b ≠ fr := fun b o e => c3.off _ _ (sm _ _ e)
      simp only [Tp_tup c4.it]
      walk_at "ev"
      simp only [Sq_lst (s4 _ _ haq)]
      have lys : ys.length = qs.length := hq.1
      generalize hft : (((dists bs).filter (missV m)).length : Int) = ft
      refine ⟨by omega, by omega, lp_range (fun i σ H' => Same H H' ∧ H' fr = some (.dK (fkv (cst m (qs.map (·.1)) bs i).2.1 (cst m (qs.map (·.1)) bs i).2.2)) ∧ (∀ k, k ∉ (cst m (qs.map (·.1)) bs i).2.2 → (cst m (qs.map (·.1)) bs i).2.1 k = false) ∧ (cst m (qs.map (·.1)) bs i).2.2.length ≤ i ∧ (∀ k ∈ (cst m (qs.map (·.1)) bs i).2.2, k ∈ bs) ∧ (∀ k ∈ bs.take i, k ∈ (cst m (qs.map (·.1)) bs i).2.2) ∧
        ∃ x8 x9 x10, σ = [some (.ref aq), some (.ref ab), some (.ref ad), some (.ref ah), some (.int m), some (.int ft), some (.int (cst m (qs.map (·.1)) bs i).1), some (.ref fr), x8, x9, x10]) ?_ ?_ ?_⟩
      · exact ⟨s4, c4.same _ _ c3.it, fun _ _ => rfl, Nat.le_refl _, (fun k hk => nomatch hk), (fun k hk => by simp at hk), _, _, _, rfl⟩
      · rintro i σ H' hi ⟨sm, hfr, hF, hln, hin, hal, x8, x9, x10, rfl⟩
        have hi2 : i < bs.length := by omega
        have hi3 : i < qs.length := by omega
        have hgb : (bs.map V.int)[i]? = some (.int (bs.getD i 0)) := by
          rw [List.getElem?_map, List.getElem?_eq_getElem hi2]
          simp [hi2]
        have hgd : (dists bs)[i]? = some ((dists bs).getD i .non) := by
          have : i < (dists bs).length := by omega
          rw [List.getElem?_eq_getElem this]
          simp [this]
        have hbm : bs.getD i 0 ∈ bs := by
          rw [show bs.getD i 0 = bs[i] by simp [hi2]]
          exact List.getElem_mem hi2
        obtain ⟨y, e1, tt, rfl, e2⟩ := (hq.same sm).2 i qs[i] (List.getElem?_eq_getElem hi3)
        have hws : (qs.map (·.1)).getD i false = qs[i].1 := by simp [hi3]
        have hxv : ((dists bs).getD i .non) = .non ∨ ∃ n : Nat, ((dists bs).getD i .non) = .int n ∧ bs.getD i 0 ∈ bs.take i := by
          unfold dists at hgd
          rw [List.getElem?_map, List.getElem?_range hi2] at hgd
          have hx : distV (bs.take i).reverse (bs.getD i 0) = _ := Option.some.inj hgd
          unfold dists
          rw [← hx]
          unfold distV dist
          by_cases h : bs.getD i 0 ∈ (bs.take i).reverse
          · rw [if_pos h]
            exact .inr ⟨_, rfl, List.mem_reverse.mp h⟩
          · rw [if_neg h]
            exact .inl rfl
        have hst : cst m (qs.map (·.1)) bs (i + 1) = cstep m (bs.getD i 0) ((dists bs).getD i .non) qs[i].1 (cst m (qs.map (·.1)) bs i) := by
          rw [← hws]
          rfl
        rw [hst]
        have htk : bs.take (i + 1) = bs.take i ++ [bs.getD i 0] := by
          rw [List.take_add_one, List.getElem?_eq_getElem hi2, show bs.getD i 0 = bs[i] by simp [hi2]]
          rfl
        rw [htk]
        generalize bs.take i = bt at *
        generalize cst m (qs.map (·.1)) bs i = S at *
        obtain ⟨p, F, ks⟩ := S
        dsimp only at hfr hF hln hin hal
        generalize bs.getD i 0 = k at *
        generalize (dists bs).getD i .non = dx at *
        generalize qs[i].1 = wr at *
        walk_at "ev"
        simp only [Sq_lst (sm _ _ hab), Sq_lst (sm _ _ had), atI_natE, hgb, hgd, Op_some]
        walk_at "ev"
        rcases hxv with rfl | ⟨n, rfl, hbt⟩
        · rw [if_pos rfl]
          simp only [Dr_dK hfr, fkv_val, Dk_dK hfr]
          have egd : (if k ∈ ks then some (V.bl (F k)) else none).getD (V.bl false) = V.bl (F k) := by
            by_cases h : k ∈ ks
            · rw [if_pos h]
              rfl
            · rw [if_neg h, hF k h]
              rfl
          simp only [egd]
          walk_at "ev"
          refine Nw.intro fun p1 H5 c5 => ?_
          have h5 := c5.same _ _ hfr
          have n5 : fr ≠ p1 := c5.off _ _ hfr
          have big : (100001 : Nat) < sizeLine := by decide
          have s5 : Same H H5 := sm.trans c5.same
          have np5 : ∀ b o, H b = some o → b ≠ p1 := fun b o e => c5.off _ _ (sm _ _ e)
          simp only [Dk_ne n5, Dk_dK h5, c5.it, true_and, fkv_put]
          refine ⟨n5, by rw [fkv_len]; omega, ?_⟩
          have sG : Same H (upd (upd H5 p1 (.dK [(Sum.inl k, V.bl false)])) fr (.dK (fkv (setF F k false) (addT ks k)))) := same_chg (same_chg s5 np5) nfr
          have eG : ∀ b xs, H' b = some (.tup xs) → upd (upd H5 p1 (.dK [(Sum.inl k, V.bl false)])) fr (.dK (fkv (setF F k false) (addT ks k))) b = some (.tup xs) := fun b xs e => by
            have nb : b ≠ fr := fun z => by
              rw [z, hfr] at e
              cases e
            rw [upd_ne nb, upd_ne (c5.off _ _ e)]
            exact c5.same _ _ e
          have hG : upd (upd H5 p1 (.dK [(Sum.inl k, V.bl false)])) fr (.dK (fkv (setF F k false) (addT ks k))) fr = some (.dK (fkv (setF F k false) (addT ks k))) := upd_same
          generalize upd (upd H5 p1 (.dK [(Sum.inl k, V.bl false)])) fr (.dK (fkv (setF F k false) (addT ks k))) = G at *
          have ecs : cstep m k .non wr (p, F, ks) = (p + (if F k then 1 else 0), setF (setF F k false) k (setF F k false k || wr), addT (addT ks k) k) := cstep_miss (rfl : missV m .non = true)
          rw [addT_of (addT_mem ks k)] at ecs
          have hk1 : k ∈ addT ks k := addT_mem ks k
          have hF1 : ∀ j, j ∉ addT ks k → setF F k false j = false := fun j hj => by
            unfold setF
            rw [if_neg (fun z => hj (by rw [z]; exact hk1))]
            exact hF j fun z => hj (mem_addT.mpr (.inl z))
          have hl1 : (addT ks k).length ≤ i + 1 := by
            have := addT_len ks k
            omega
          have ha1 : ∀ j ∈ bt ++ [k], j ∈ addT ks k := fun j hj => (List.mem_append.mp hj).elim (fun z => mem_addT.mpr (.inl (hal j z))) fun z => mem_addT.mpr (.inr (by simpa using z))
          have hm1 : ∀ j ∈ addT ks k, j ∈ bs := fun j hj => (mem_addT.mp hj).elim (hin j) fun z => by rw [z]; exact hbm
          generalize addT ks k = ks1 at *
          generalize setF F k false = F1 at *
          simp only [Dk_dK hG]
          refine Nw.intro fun p2 H6 c6 => ?_
          have s6 : Same H H6 := sG.trans c6.same
          have hG6 := c6.same _ _ hG
          have nf6 : fr ≠ p2 := c6.off _ _ hG
          have np6 : ∀ b o, H b = some o → b ≠ p2 := fun b o e => c6.off _ _ (sG _ _ e)
          have e26 := c6.same _ _ (eG _ _ e2)
          simp only [Dr_dK hG6, fkv_val, if_pos hk1, Op_some, V.bl.injEq, exists_eq_left', Sq_lst (s6 _ _ haq), e1, Sq_tup e26, atI_0, scal_ss, Dk_ne nf6, Dk_dK hG6, c6.it, true_and, wd_dec, fkv_put, addT_of hk1]
          have big : (100001 : Nat) < sizeLine := by decide
          have szl : (fkv F1 ks1).length + 1 ≤ sizeLine := by rw [fkv_len]; omega
          have oth : ∀ (j : Int) (c : Bool), j ∉ ks1 → setF F1 k c j = false := fun j c hj => by
            unfold setF
            rw [if_neg (fun z => hj (by rw [z]; exact hk1))]
            exact hF1 j hj
          refine ite2 (fun hc => ?_) (fun hc => ?_)
          · refine ⟨nf6, szl, same_chg (same_chg s6 np6) nfr, ?_, ?_, ?_, ?_, ?_, ?_⟩
            · rw [upd_same, ecs, hc]
              rfl
            · rw [ecs]
              exact fun j hj => oth j _ hj
            · rw [ecs]
              exact hl1
            · rw [ecs]
              exact hm1
            · rw [ecs]
              exact ha1
            · rw [ecs]
          · have hc : F1 k = false := by simpa using hc
            refine ⟨nf6, szl, same_chg (same_chg s6 np6) nfr, ?_, ?_, ?_, ?_, ?_, ?_⟩
            · rw [upd_same, ecs, hc]
              rfl
            · rw [ecs]
              exact fun j hj => oth j _ hj
            · rw [ecs]
              exact hl1
            · rw [ecs]
              exact hm1
            · rw [ecs]
              exact ha1
            · rw [ecs]
        · walk_at "ev"
          by_cases hm : (m : Int) ≤ n
          · rw [if_pos hm]
            simp only [Dr_dK hfr, fkv_val, Dk_dK hfr]
            have egd : (if k ∈ ks then some (V.bl (F k)) else none).getD (V.bl false) = V.bl (F k) := by
              by_cases h : k ∈ ks
              · rw [if_pos h]
                rfl
              · rw [if_neg h, hF k h]
                rfl
            simp only [egd]
            walk_at "ev"
            refine Nw.intro fun p1 H5 c5 => ?_
            have h5 := c5.same _ _ hfr
            have n5 : fr ≠ p1 := c5.off _ _ hfr
            have big : (100001 : Nat) < sizeLine := by decide
            have s5 : Same H H5 := sm.trans c5.same
            have np5 : ∀ b o, H b = some o → b ≠ p1 := fun b o e => c5.off _ _ (sm _ _ e)
            simp only [Dk_ne n5, Dk_dK h5, c5.it, true_and, fkv_put]
            refine ⟨n5, by rw [fkv_len]; omega, ?_⟩
            have sG : Same H (upd (upd H5 p1 (.dK [(Sum.inl k, V.bl false)])) fr (.dK (fkv (setF F k false) (addT ks k)))) := same_chg (same_chg s5 np5) nfr
            have eG : ∀ b xs, H' b = some (.tup xs) → upd (upd H5 p1 (.dK [(Sum.inl k, V.bl false)])) fr (.dK (fkv (setF F k false) (addT ks k))) b = some (.tup xs) := fun b xs e => by
              have nb : b ≠ fr := fun z => by
                rw [z, hfr] at e
                cases e
              rw [upd_ne nb, upd_ne (c5.off _ _ e)]
              exact c5.same _ _ e
            have hG : upd (upd H5 p1 (.dK [(Sum.inl k, V.bl false)])) fr (.dK (fkv (setF F k false) (addT ks k))) fr = some (.dK (fkv (setF F k false) (addT ks k))) := upd_same
            generalize upd (upd H5 p1 (.dK [(Sum.inl k, V.bl false)])) fr (.dK (fkv (setF F k false) (addT ks k))) = G at *
            have ecs : cstep m k (.int n) wr (p, F, ks) = (p + (if F k then 1 else 0), setF (setF F k false) k (setF F k false k || wr), addT (addT ks k) k) := cstep_miss (decide_eq_true hm : missV m (.int n) = true)
            rw [addT_of (addT_mem ks k)] at ecs
            have hk1 : k ∈ addT ks k := addT_mem ks k
            have hF1 : ∀ j, j ∉ addT ks k → setF F k false j = false := fun j hj => by
              unfold setF
              rw [if_neg (fun z => hj (by rw [z]; exact hk1))]
              exact hF j fun z => hj (mem_addT.mpr (.inl z))
            have hl1 : (addT ks k).length ≤ i + 1 := by
              have := addT_len ks k
              omega
            have ha1 : ∀ j ∈ bt ++ [k], j ∈ addT ks k := fun j hj => (List.mem_append.mp hj).elim (fun z => mem_addT.mpr (.inl (hal j z))) fun z => mem_addT.mpr (.inr (by simpa using z))
            have hm1 : ∀ j ∈ addT ks k, j ∈ bs := fun j hj => (mem_addT.mp hj).elim (hin j) fun z => by rw [z]; exact hbm
            generalize addT ks k = ks1 at *
            generalize setF F k false = F1 at *
            simp only [Dk_dK hG]
            refine Nw.intro fun p2 H6 c6 => ?_
            have s6 : Same H H6 := sG.trans c6.same
            have hG6 := c6.same _ _ hG
            have nf6 : fr ≠ p2 := c6.off _ _ hG
            have np6 : ∀ b o, H b = some o → b ≠ p2 := fun b o e => c6.off _ _ (sG _ _ e)
            have e26 := c6.same _ _ (eG _ _ e2)
            simp only [Dr_dK hG6, fkv_val, if_pos hk1, Op_some, V.bl.injEq, exists_eq_left', Sq_lst (s6 _ _ haq), e1, Sq_tup e26, atI_0, scal_ss, Dk_ne nf6, Dk_dK hG6, c6.it, true_and, wd_dec, fkv_put, addT_of hk1]
            have big : (100001 : Nat) < sizeLine := by decide
            have szl : (fkv F1 ks1).length + 1 ≤ sizeLine := by rw [fkv_len]; omega
            have oth : ∀ (j : Int) (c : Bool), j ∉ ks1 → setF F1 k c j = false := fun j c hj => by
              unfold setF
              rw [if_neg (fun z => hj (by rw [z]; exact hk1))]
              exact hF1 j hj
            refine ite2 (fun hc => ?_) (fun hc => ?_)
            · refine ⟨nf6, szl, same_chg (same_chg s6 np6) nfr, ?_, ?_, ?_, ?_, ?_, ?_⟩
              · rw [upd_same, ecs, hc]
                rfl
              · rw [ecs]
                exact fun j hj => oth j _ hj
              · rw [ecs]
                exact hl1
              · rw [ecs]
                exact hm1
              · rw [ecs]
                exact ha1
              · rw [ecs]
            · have hc : F1 k = false := by simpa using hc
              refine ⟨nf6, szl, same_chg (same_chg s6 np6) nfr, ?_, ?_, ?_, ?_, ?_, ?_⟩
              · rw [upd_same, ecs, hc]
                rfl
              · rw [ecs]
                exact fun j hj => oth j _ hj
              · rw [ecs]
                exact hl1
              · rw [ecs]
                exact hm1
              · rw [ecs]
                exact ha1
              · rw [ecs]
          · rw [if_neg hm]
            have hm2 : missV m (.int n) = false := decide_eq_false hm
            have hkk : k ∈ ks := hal k hbt
            have ecs := cstep_hit (m := m) (k := k) (d := .int n) (wr := wr) (p := p) (F := F) (ks := ks) hm2
            rw [addT_of hkk] at ecs
            have sG := sm
            have hG := hfr
            have eG : ∀ b xs, H' b = some (.tup xs) → H' b = some (.tup xs) := fun b xs e => e
            have hk1 := hkk
            have hF1 := hF
            have hl1 : ks.length ≤ i + 1 := by omega
            have hm1 := hin
            have ha1 : ∀ j ∈ bt ++ [k], j ∈ ks := fun j hj => (List.mem_append.mp hj).elim (hal j) fun z => by rw [show j = k by simpa using z]; exact hkk
            generalize hks : ks = ks1 at *
            generalize hFF : F = F1 at *
            simp only [Dk_dK hG]
            refine Nw.intro fun p2 H6 c6 => ?_
            have s6 : Same H H6 := sG.trans c6.same
            have hG6 := c6.same _ _ hG
            have nf6 : fr ≠ p2 := c6.off _ _ hG
            have np6 : ∀ b o, H b = some o → b ≠ p2 := fun b o e => c6.off _ _ (sG _ _ e)
            have e26 := c6.same _ _ (eG _ _ e2)
            simp only [Dr_dK hG6, fkv_val, if_pos hk1, Op_some, V.bl.injEq, exists_eq_left', Sq_lst (s6 _ _ haq), e1, Sq_tup e26, atI_0, scal_ss, Dk_ne nf6, Dk_dK hG6, c6.it, true_and, wd_dec, fkv_put, addT_of hk1]
            have big : (100001 : Nat) < sizeLine := by decide
            have szl : (fkv F1 ks1).length + 1 ≤ sizeLine := by rw [fkv_len]; omega
            have oth : ∀ (j : Int) (c : Bool), j ∉ ks1 → setF F1 k c j = false := fun j c hj => by
              unfold setF
              rw [if_neg (fun z => hj (by rw [z]; exact hk1))]
              exact hF1 j hj
            refine ite2 (fun hc => ?_) (fun hc => ?_)
            · refine ⟨nf6, szl, same_chg (same_chg s6 np6) nfr, ?_, ?_, ?_, ?_, ?_, ?_⟩
              · rw [upd_same, ecs, hc]
                rfl
              · rw [ecs]
                exact fun j hj => oth j _ hj
              · rw [ecs]
                exact hl1
              · rw [ecs]
                exact hm1
              · rw [ecs]
                exact ha1
              · rw [ecs]
            · have hc : F1 k = false := by simpa using hc
              refine ⟨nf6, szl, same_chg (same_chg s6 np6) nfr, ?_, ?_, ?_, ?_, ?_, ?_⟩
              · rw [upd_same, ecs, hc]
                rfl
              · rw [ecs]
                exact fun j hj => oth j _ hj
              · rw [ecs]
                exact hl1
              · rw [ecs]
                exact hm1
              · rw [ecs]
                exact ha1
              · rw [ecs]
      · rintro σ H' ⟨sm, hfr, hF, hln, hin, hal, x8, x9, x10, rfl⟩
        walk_at "ev"
        have ely : (ys.length : Int).toNat = bs.length := by omega
        rw [ely] at hfr hF hln hin hal ⊢
        unfold cput at q
        generalize cst m (qs.map (·.1)) bs bs.length = S at *
        obtain ⟨p, F, ks⟩ := S
        dsimp only at hfr hF hln hin hal q ⊢
        refine ⟨fr, _, hfr, True.intro, fun od => ?_⟩
        have hL : upd H' fr (.frz od (.dK (fkv F ks))) fr = some (.frz od (.dK (fkv F ks))) := upd_same
        have sL : Same H (upd H' fr (.frz od (.dK (fkv F ks)))) := same_chg sm nfr
        generalize upd H' fr (.frz od (.dK (fkv F ks))) = L at *
        simp only [hL]
        refine lcp_keys (fun D n H2 => Same L H2 ∧ H2 D = some (.lst (((ks.take n).filter fun k => F k && decide (m ≤ behindOf bs k)).map V.int))) ?_ ?_ ?_ ?_
        · exact fun D hD => ⟨(newf hD rfl).1, upd_same⟩
        · exact fun D n H2 _ ⟨s2, _⟩ => s2 _ _ hL
        · rintro D n k v H2 hD hkv ⟨s2, e2⟩
          have nD : ∀ b o, L b = some o → b ≠ D := fun b o e => ne_of_none e hD
          have hk3 : ∃ k0, ks[n]? = some k0 ∧ k = .inl k0 ∧ v = .bl (F k0) := by
            unfold fkv at hkv
            rw [List.getElem?_map] at hkv
            cases hz : ks[n]? with
            | none => rw [hz] at hkv; cases hkv
            | some k0 =>
              rw [hz] at hkv
              have := Option.some.inj hkv
              injection this with h1 h2
              exact ⟨k0, rfl, h1.symm, h2.symm⟩
          obtain ⟨k0, hk0, rfl, rfl⟩ := hk3
          have hkm : k0 ∈ ks := List.mem_of_getElem? hk0
          have et : ((ks.take (n + 1)).filter fun k => F k && decide (m ≤ behindOf bs k)) = ((ks.take n).filter fun k => F k && decide (m ≤ behindOf bs k)) ++ if (F k0 && decide (m ≤ behindOf bs k0)) = true then [k0] else [] := by
            rw [List.take_add_one, hk0, List.filter_append]
            congr 1
            show [k0].filter _ = _
            rw [List.filter_cons]
            split <;> rfl
          have hlt : (((ks.take n).filter fun k => F k && decide (m ≤ behindOf bs k)).map V.int).length < sizeLine := by
            rw [List.length_map]
            have := List.length_filter_le (fun k => F k && decide (m ≤ behindOf bs k)) (ks.take n)
            rw [List.length_take] at this
            omega
          rw [et]
          show gName 9 (V.int k0) _ _ _
          walk_at "ev"
          simp only [Dr_frz (s2 _ _ hL), fkv_val, if_pos hkm, Op_some, Dr_dK (s2 _ _ (sL _ _ hah)), hbe k0 (hin k0 hkm)]
          walk_at "ev"
          cases hFk : F k0 with
          | false =>
            simp only [Bool.false_and, if_false, Bool.false_eq_true, List.append_nil]
            exact ⟨s2, e2⟩
          | true =>
            by_cases hm : m ≤ behindOf bs k0
            · rw [if_pos rfl, if_pos (by omega), if_pos (by rw [decide_eq_true hm]; rfl), List.map_append]
              exact ⟨_, e2, hlt, same_chg s2 nD, upd_same⟩
            · rw [if_pos rfl, if_neg (by omega), if_neg (by rw [decide_eq_false hm]; exact Bool.false_ne_true), List.append_nil]
              exact ⟨s2, e2⟩
        · intro D H2 hD ⟨s2, e2⟩
          have nfD : fr ≠ D := ne_of_none hL hD
          rw [fkv_len, List.take_length] at e2
          refine ⟨s2 _ _ hL, ?_⟩
          simp only [Sq_ne nfD.symm, Sq_lst e2, List.length_map]
          refine ⟨by decide, Nw.intro fun p5 H5 c5 => q p5 H5 ((same_chg (sL.trans s2) nfr).trans c5.same) ?_ ?_⟩
          · exact (same_chg (sL.trans s2) nfr).free c5.new
          · rw [c5.it, ← hft]
            rfl
end
end K33
namespace K33
open PySem PySem.Spec PyProof.Rows L2 Lw
local macro_rules | `(tactic| walk_at "ev") => `(tactic| simp only [cxOf, iKeysF, tLockE, tDisp1F, mergeK_one, tYes, iRng3, ex_ints, ex_any, tML, tML0, tMD, tTupN, tLstN, tDNewN, rSlL2, rCatF, rRepF, tRevF, rListF, rMaxF, tDGetF, tDGet1F, tDGet2F, tDPop1F, tDPop2F, sDPutF, tLenSetF, tSl, tPart, tNoPart, ipI, rIsiF, Tz_non, Tz_bl, Tz_int, Tz_str, Cl7_int, Cl7_bool, Cl7_str, Cl7_list, Cl7_tuple, Cl7_dict, T7.isa, iListF, iTupF, cpow12, cpow60, tFor_eq, tLc_eq, iRng1, iRng2, wipe, Cx.nox, Cx.wish, tSeq, tIfS, tTest, tOp, tVar, tC, tRet, tRetN, tCB, tCons, tNil, tB, tNot, tAnd, tOr, tAndV, tOrV, tNotV, tIf, rEq, rNe, scal_ii, scal_bb, scal_ss, scal_nn, scal_si, scal_is, scal_in, scal_ni, Bool.or_true, Bool.true_or, Bool.or_false, Bool.false_or, Bool.and_true, Bool.true_and, Bool.and_false, Bool.false_and, rI, rI0, rU, tUn, t2I, tAsg, gName, tPar, tDrop, tLst, tTup, tCall, tNext, tBreak, tCont, tAug, rAdd, gTup, gTupF, gCons, gNil, gSub, rIxF, rLenF, rSetF, rAppF, rExtF, rPop0, rRemF, rInF, rDUpd, Nt_int, Op_some, Ky_int, Ky_str,
  List.map_cons, List.map_nil, List.cons_append, List.nil_append, List.append_nil, List.getElem?_cons_zero, List.getElem?_cons_succ, List.set_cons_zero, List.set_cons_succ, List.length_cons, List.length_nil, Option.some.injEq, exists_eq_left', exists_eq_left, exists_eq_right, V.int.injEq, V.ref.injEq, V.bl.injEq, V.str.injEq, V.ty.injEq, List.cons.injEq, and_true, true_and, and_assoc, reduceCtorEq, decide_eq_true_eq, decide_true, decide_false, if_true, if_false, ite_true, ite_false, Bool.false_eq_true, false_and, and_false, exists_false, exists_const, or_false, false_or, Bool.not_eq_true', decide_eq_false_iff_not, List.replicate_succ, List.replicate_zero, Nat.reduceSub, Nat.reduceAdd, Int.reducePow, Int.reduceNeg, exists_and_left, exists_and_right, atI_0, atI_1, atI_2, ixN_0, ixN_1, ixN_2, L2.start, upd_upd, Sq_upd, Sq_updT, Tp_upd, Ls_upd, Dk_upd, Int.reduceLT, Int.reduceLE, Nat.reduceLT, Nat.reduceLeDiff, forall_eq', forall_eq, id, Int.zero_add, Bool.not_true, Bool.not_false, not_true_eq_false, not_false_eq_true, ne_eq])

/-- all but the jar is kept -/
def Kb (j : Addr) (H H' : Hp) : Prop := ∀ b o, b ≠ j → H b = some o → H' b = some o
theorem Kb.refl (j : Addr) (H : Hp) : Kb j H H := fun _ _ _ h => h
theorem Kb.trans {j : Addr} {H H1 H2 : Hp} (a : Kb j H H1) (b : Kb j H1 H2) : Kb j H H2 := fun c o n h => b c o n (a c o n h)
theorem Kb.of {j : Addr} {H H' : Hp} (s : Same H H') : Kb j H H' := fun b o _ h => s b o h
theorem JarTo.kb {j : Addr} {H H' : Hp} (t : JarTo j H H') : Kb j H H' ∧ JarAt H' j ∧ ∀ b, b ≠ j → H' b = H b := by
  obtain ⟨d, s, c, rfl, hb⟩ := t
  exact ⟨fun b o n h => by rw [upd_ne n]; exact h, ⟨d, s, c, upd_same, hb⟩, fun b n => upd_ne n⟩
theorem JarAt.same {H H' : Hp} {j : Addr} (h : JarAt H j) (s : Same H H') : JarAt H' j := by
  obtain ⟨d, t, c, e, hb⟩ := h
  exact ⟨d, t, c, s _ _ e, hb⟩
theorem JarAt.some {H : Hp} {j : Addr} (h : JarAt H j) : ∃ o, H j = some o := by
  obtain ⟨d, t, c, e, hb⟩ := h
  exact ⟨_, e⟩
section
variable {P : Program} {w : World} {K : PySem.W.Frag} {mg : Str → Option Value} {base : Heap}
/-- one of some ints -/
def spOneI : Sp := fun vs H Q _ => ∃ (j a : Addr) (ns : List Int), vs = [.ref j, .ref a] ∧ JarAt H j ∧ a ≠ j ∧ H a = some (.lst (ns.map V.int)) ∧ ns ≠ [] ∧ ns.length < 1000 ∧ ∀ n H', n ∈ ns → JarTo j H H' → Q (.int n) H'
theorem one_ints (c : Kn P w K mg base "_law_one" ["jar", "things"] 2 (spOne K)) : Kn P w K mg base "_law_one" ["jar", "things"] 2 spOneI := c.imp fun vs H Q E h => by
  obtain ⟨j, a, ns, rfl, hj, ne, ha, h0, hl, q⟩ := h
  refine ⟨j, a, ns.map V.int, rfl, hj, ne, ha, by simpa using h0, by rw [List.length_map]; exact hl, fun i v H' hv to => ?_⟩
  rw [List.getElem?_map] at hv
  cases hz : ns[i]? with
  | none => rw [hz] at hv; cases hv
  | some n =>
    rw [hz] at hv
    cases hv
    exact q n H' (List.mem_of_getElem? hz) to
def spDrawn : Sp := fun vs H Q _ => ∃ j : Addr, vs = [.ref j] ∧ JarAt H j ∧ ∀ p a (wd : Int) ys qs H', Kb j H H' → JarAt H' j → H p = none → H' p = some (.tup [.ref a, .int wd]) → H a = none → H' a = some (.lst ys) → Asks H' ys qs → qs.length ≤ 150 → 1 ≤ wd → wd ≤ 64 → Q (.ref p) H'
theorem scDrawn : FnScope ["jar", "width", "sort", "many", "high", "cells_now", "at", "go", "there", "step", "few", "often", "asks", "is_put", "k"] ["jar"] (defScope sDrawn) := ⟨rfl, rfl, rfl, by decide +kernel, rfl, by decide +kernel, by decide +kernel⟩
theorem ok_drawn (F : Def1 K mg "_law_fd_drawn" sDrawn) (T : Bt mg) (c_take : Kn P w K mg base "_law_take" ["jar", "many"] 1 spTake) (c_one : Kn P w K mg base "_law_one" ["jar", "things"] 2 spOneI) : Kn P w K mg base "_law_fd_drawn" ["jar"] 3 spDrawn := by
  refine kn_of F scDrawn (fun vs H Q E h => ?_) (fun _ _ _ _ _ _ us hl => match us, hl with | [_], _ => rfl) (fun f cdv A outer s H vs Q E hr h => ?_)
  · obtain ⟨j, rfl, _⟩ := h
    rfl
  · obtain ⟨j, rfl, hj, q⟩ := h
    refine ⟨_, (pss_cons (ps_asg (pe_tupN (pa_cons (pe_kn c_one (hr.mono (by decide)) (by rfl) (pa_cons (pv 0) (pa_cons (pe_lstN (pa_cons pe_int (pa_cons pe_int (pa_cons pe_int (pa_cons pe_int (pa_cons pe_int (pa_cons pe_int pa_nil))))))) pa_nil))) (pa_cons (pe_kn c_take (hr.mono (by decide)) (by rfl) (pa_cons (pv 0) (pa_cons pe_int pa_nil))) pa_nil))) (pg_tupF 2 (by rfl) (pgs_cons (pg_name (i := 1) scDrawn.nd rfl (Or.inr rfl)) (pgs_cons (pg_name (i := 2) scDrawn.nd rfl (Or.inl rfl)) pgs_nil))))
      (pss_cons (ps_asg (pe_tupN (pa_cons (pe_kn c_one (hr.mono (by decide)) (by rfl) (pa_cons (pv 0) (pa_cons (pe_lstN (pa_cons pe_int (pa_cons pe_int (pa_cons pe_int (pa_cons pe_int (pa_cons pe_int pa_nil)))))) pa_nil))) (pa_cons (pe_kn c_one (hr.mono (by decide)) (by rfl) (pa_cons (pv 0) (pa_cons (pe_lstN (pa_cons pe_int (pa_cons pe_int (pa_cons pe_int (pa_cons pe_int (pa_cons pe_int pa_nil)))))) pa_nil))) pa_nil))) (pg_tupF 2 (by rfl) (pgs_cons (pg_name (i := 3) scDrawn.nd rfl (Or.inl rfl)) (pgs_cons (pg_name (i := 4) scDrawn.nd rfl (Or.inr rfl)) pgs_nil))))
      (pss_cutL (ps_if (pt_cmpR op_eq (pv 2) pe_int (nomark _)) (pss_one (ps_setLc (i := 5) (own := [("go", 7)]) (by rfl) scDrawn.nd rfl rfl (sw_true rfl rfl rfl (by decide +kernel)) (pi_range1 (by rfl) T.range (pa_cons (pv 3) pa_nil)) (blkOk_by (N := ["jar", "width", "sort", "many", "high", "cells_now", "at", "go", "there", "step", "few", "often", "asks", "is_put", "k"]) (sc := defScope sDrawn) (by decide +kernel)) (fun _ _ _ _ _ => (pg_name (i := 7) scDrawn.nd rfl (Or.inl rfl))) (fun _ _ _ _ _ => pts_nil) (fun _ _ _ _ _ => (pe_kn c_take (hr.mono (by decide)) (by rfl) (pa_cons (pv 0) (pa_cons (pv 4) pa_nil)))))) (pss_one (ps_if (pt_cmpR op_eq (pv 2) pe_int (nomark _)) (pss_cons (ps_par (i := 5) (j := 6) (by rfl) scDrawn.nd rfl rfl (by decide) rfl rfl (pa_cons (pe_lstN pa_nil) (pa_cons (pe_kn c_take (hr.mono (by decide)) (by rfl) (pa_cons (pv 0) (pa_cons (pv 4) pa_nil))) pa_nil)) (by rfl))
      (pss_one (ps_for PassesOwn.never rfl (pi_range1 (by rfl) T.range (pa_cons (pv 3) pa_nil)) (pg_name (i := 7) scDrawn.nd rfl (Or.inl rfl)) (pss_cons (ps_set (i := 6) scDrawn.nd rfl (Or.inl rfl) (pe_callB (call_max2 rfl) (by rfl) T.max (by decide +kernel) (pa_cons pe_int (pa_cons (pe_callB (call_min2 rfl) (by rfl) T.min (by decide +kernel) (pa_cons (pe_op op_sub (pv 4) pe_int) (pa_cons (pe_op op_sub (pe_op op_add (pv 6) (pe_kn c_take (hr.mono (by decide)) (by rfl) (pa_cons (pv 0) (pa_cons (pe_op op_add (pe_op op_mul pe_int (pv 1)) pe_int) pa_nil)))) (pe_op op_mul pe_int (pv 1))) pa_nil))) pa_nil))))
      (pss_one (ps_expr (pe_mL PySem.F.slot_list_append PySem.F.type_list_append mt_app (pv 5) (pa_cons (pv 6) pa_nil)))))))) (pss_one (ps_if (pt_cmpR op_eq (pv 2) pe_int (nomark _)) (pss_one (ps_setLc (i := 5) (own := [("k", 14)]) (by rfl) scDrawn.nd rfl rfl (sw_true rfl rfl rfl (by decide +kernel)) (pi_range1 (by rfl) T.range (pa_cons (pv 3) pa_nil)) (blkOk_by (N := ["jar", "width", "sort", "many", "high", "cells_now", "at", "go", "there", "step", "few", "often", "asks", "is_put", "k"]) (sc := defScope sDrawn) (by decide +kernel)) (fun _ _ _ _ _ => (pg_name (i := 14) scDrawn.nd rfl (Or.inl rfl))) (fun _ _ _ _ _ => pts_nil) (fun _ _ _ _ _ => (pe_op op_mul (pe_op op_mod (pv 14) (pe_callB (call_max2 rfl) (by rfl) T.max (by decide +kernel) (pa_cons pe_int (pa_cons (pe_callB (call_min2 rfl) (by rfl) T.min (by decide +kernel) (pa_cons (pv 4) (pa_cons pe_int pa_nil))) pa_nil)))) (pv 1))))) (pss_one (ps_if (pt_cmpR op_eq (pv 2) pe_int (nomark _)) (pss_cons (ps_setLc (i := 8) (own := [("k", 14)]) (by rfl) scDrawn.nd rfl rfl (sw_true rfl rfl rfl (by decide +kernel)) (pi_range1 (by rfl) T.range (pa_cons (pe_callB (call_max2 rfl) (by rfl) T.max (by decide +kernel) (pa_cons pe_int (pa_cons (pe_callB (call_min2 rfl) (by rfl) T.min (by decide +kernel) (pa_cons (pv 4) (pa_cons pe_int pa_nil))) pa_nil))) pa_nil)) (blkOk_by (N := ["jar", "width", "sort", "many", "high", "cells_now", "at", "go", "there", "step", "few", "often", "asks", "is_put", "k"]) (sc := defScope sDrawn) (by decide +kernel)) (fun _ _ _ _ _ => (pg_name (i := 14) scDrawn.nd rfl (Or.inl rfl))) (fun _ _ _ _ _ => pts_nil) (fun _ _ _ _ _ => (pe_op op_mul (pv 14) (pv 1))))
      (pss_one (ps_set (i := 5) scDrawn.nd rfl (Or.inl rfl) (pe_slice sl_f (pe_op op_repF (pe_op op_catF (pv 8) (pe_rev (pv 8))) pe_int) po_none (po_some (pv 3)))))) (pss_one (ps_if (pt_cmpR op_eq (pv 2) pe_int (nomark _)) (pss_cons (ps_set (i := 9) scDrawn.nd rfl (Or.inr rfl) (pe_op op_add pe_int (pe_kn c_take (hr.mono (by decide)) (by rfl) (pa_cons (pv 0) (pa_cons (pe_op op_mul pe_int (pv 1)) pa_nil)))))
      (pss_one (ps_setLc (i := 5) (own := [("k", 14)]) (by rfl) scDrawn.nd rfl rfl (sw_true rfl rfl rfl (by decide +kernel)) (pi_range1 (by rfl) T.range (pa_cons (pv 3) pa_nil)) (blkOk_by (N := ["jar", "width", "sort", "many", "high", "cells_now", "at", "go", "there", "step", "few", "often", "asks", "is_put", "k"]) (sc := defScope sDrawn) (by decide +kernel)) (fun _ _ _ _ _ => (pg_name (i := 14) scDrawn.nd rfl (Or.inl rfl))) (fun _ _ _ _ _ => pts_nil) (fun _ _ _ _ _ => (pe_op op_mod (pe_op op_mul (pv 14) (pv 9)) (pv 4)))))) (pss_cons (ps_set (i := 10) scDrawn.nd rfl (Or.inr rfl) (pe_lc (own := [("go", 7)]) (by rfl) scDrawn.nd (pi_range1 (by rfl) T.range (pa_cons (pe_op op_add pe_int (pe_kn c_take (hr.mono (by decide)) (by rfl) (pa_cons (pv 0) (pa_cons pe_int pa_nil)))) pa_nil)) (blkOk_by (N := ["jar", "width", "sort", "many", "high", "cells_now", "at", "go", "there", "step", "few", "often", "asks", "is_put", "k"]) (sc := defScope sDrawn) (by decide +kernel)) (fun _ _ _ _ _ => (pg_name (i := 7) scDrawn.nd rfl (Or.inl rfl))) (fun _ _ _ _ _ => pts_nil) (fun _ _ _ _ _ => (pe_kn c_take (hr.mono (by decide)) (by rfl) (pa_cons (pv 0) (pa_cons (pv 4) pa_nil))))))
      (pss_one (ps_setLc (i := 5) (own := [("go", 7)]) (by rfl) scDrawn.nd rfl rfl (sw_true rfl rfl rfl (by decide +kernel)) (pi_range1 (by rfl) T.range (pa_cons (pv 3) pa_nil)) (blkOk_by (N := ["jar", "width", "sort", "many", "high", "cells_now", "at", "go", "there", "step", "few", "often", "asks", "is_put", "k"]) (sc := defScope sDrawn) (by decide +kernel)) (fun _ _ _ _ _ => (pg_name (i := 7) scDrawn.nd rfl (Or.inl rfl))) (fun _ _ _ _ _ => pts_nil) (fun _ _ _ _ _ => (pe_kn c_one (hr.mono (by decide)) (by rfl) (pa_cons (pv 0) (pa_cons (pv 10) pa_nil))))))))))))))))
      (pss_cons (ps_set (i := 11) scDrawn.nd rfl (Or.inl rfl) (pe_kn c_one (hr.mono (by decide)) (by rfl) (pa_cons (pv 0) (pa_cons (pe_lstN (pa_cons pe_int (pa_cons pe_int (pa_cons pe_int (pa_cons pe_int pa_nil))))) pa_nil))))
      (pss_cons (ps_set (i := 12) scDrawn.nd rfl (Or.inl rfl) (pe_lstN pa_nil))
      (pss_cons (ps_for PassesOwn.never rfl (pi_listF (pv 5)) (pg_name (i := 6) scDrawn.nd rfl (Or.inl rfl)) (pss_cons (ps_set (i := 13) scDrawn.nd rfl (Or.inl rfl) (pe_or (pe_cmpR op_eq (pv 11) pe_int (nomark _)) (pe_one (pe_and (pe_cmpR op_lt (pv 11) pe_int (nomark _)) (pe_one (pe_cmpR op_eq (pe_kn c_take (hr.mono (by decide)) (by rfl) (pa_cons (pv 0) (pa_cons (pe_op op_add (pv 11) pe_int) pa_nil))) pe_int (nomark _)))))))
      (pss_one (ps_expr (pe_mL PySem.F.slot_list_append PySem.F.type_list_append mt_app (pv 12) (pa_cons (pe_tupN (pa_cons (pe_ifExp (pt_val (pv 13)) pe_str pe_str) (pa_cons (pe_op op_mod (pv 6) pe_int) pa_nil))) pa_nil))))))
      (pss_one (ps_ret (pe_tupN (pa_cons (pv 12) (pa_cons (pv 1) pa_nil))))))))))), ?_⟩
    walk_at "ev"
    obtain ⟨oj, ej⟩ := hj.some
    refine ⟨by decide, Nw.intro fun p1 H1 c1 => ?_⟩
    have n1 : p1 ≠ j := (c1.off _ _ ej).symm
    refine ⟨j, p1, [1, 2, 3, 5, 8, 64], rfl, hj.same c1.same, n1, c1.it, by simp, by simp, fun wd H2 hwd t2 => ?_⟩
    obtain ⟨k2, J2, o2⟩ := t2.kb
    refine ⟨j, 6, rfl, J2, by decide, by decide, fun sort H3 r0 r1 t3 => ?_⟩
    obtain ⟨k3, J3, o3⟩ := t3.kb
    refine ⟨by decide, Nw.intro fun p4 H4 c4 => ?_⟩
    simp only [Tp_tup c4.it]
    walk_at "ev"
    have K4 : Kb j H H4 := (Kb.of c1.same).trans (k2.trans (k3.trans (Kb.of c4.same)))
    have J4 : JarAt H4 j := J3.same c4.same
    clear t2 t3 k2 k3 o2 o3 J2 J3 c1 c4
    obtain ⟨oj4, ej4⟩ := J4.some
    refine ⟨by decide, Nw.intro fun p5 H5 c5 => ?_⟩
    have n5 : p5 ≠ j := (c5.off _ _ ej4).symm
    refine ⟨j, p5, [0, 1, 20, 60, 150], rfl, J4.same c5.same, n5, c5.it, by simp, by simp, fun many H6 hmany t6 => ?_⟩
    obtain ⟨k6, J6, o6⟩ := t6.kb
    obtain ⟨oj6, ej6⟩ := J6.some
    refine ⟨by decide, Nw.intro fun p7 H7 c7 => ?_⟩
    have n7 : p7 ≠ j := (c7.off _ _ ej6).symm
    refine ⟨j, p7, [4, 12, 40, 400, 20000], rfl, J6.same c7.same, n7, c7.it, by simp, by simp, fun high H8 hhigh t8 => ?_⟩
    obtain ⟨k8, J8, o8⟩ := t8.kb
    refine ⟨by decide, Nw.intro fun p9 H9 c9 => ?_⟩
    simp only [Tp_tup c9.it]
    walk_at "ev"
    have K9 : Kb j H H9 := K4.trans ((Kb.of c5.same).trans (k6.trans ((Kb.of c7.same).trans (k8.trans (Kb.of c9.same)))))
    have J9 : JarAt H9 j := J8.same c9.same
    clear t6 t8 k6 k8 o6 o8 J6 J8 c5 c7 c9 K4 J4 ej4 ej6
    have w1 : 1 ≤ wd ∧ wd ≤ 64 := by
      simp only [List.mem_cons, List.not_mem_nil, or_false] at hwd
      omega
    have w2 : ∃ mn : Nat, many = mn ∧ mn ≤ 150 := by
      simp only [List.mem_cons, List.not_mem_nil, or_false] at hmany
      exact ⟨many.toNat, by omega, by omega⟩
    obtain ⟨mn, rfl, hmn⟩ := w2
    have w3 : 4 ≤ high ∧ high ≤ 20000 := by
      simp only [List.mem_cons, List.not_mem_nil, or_false] at hhigh
      omega
    clear hwd hmany hhigh
    have big : (100001 : Nat) < sizeLine := by decide
    have nH : ∀ b, H b = none → ∀ o, H9 b = some o → True := fun _ _ _ _ => True.intro
    refine ⟨fun σ' H' => ∃ (a : Addr) (cs : List Int) (x6 x7 x8 x9 x10 x11 x12 x13 x14 : Option V), Kb j H9 H' ∧ JarAt H' j ∧ H9 a = none ∧ H' a = some (.lst (cs.map V.int)) ∧ cs.length ≤ 150 ∧
      σ' = [some (.ref j), some (.int wd), some (.int sort), some (.int mn), some (.int high), some (.ref a), x6, x7, x8, x9, x10, x11, x12, x13, x14], ?_, ?_⟩
    · walk_at "ev"
      have mint : ∀ x y : Int, 1 ≤ x → 1 ≤ (if (if y < x then y else x) > 1 then (if y < x then y else x) else 1) := fun x y h => by
        split <;> split <;> omega
      refine ite2 (fun e0 => ?_) (fun e0 => ite2 (fun e1 => ?_) (fun e1 => ite2 (fun e2 => ?_) (fun e2 => ite2 (fun e3 => ?_) (fun e3 => ite2 (fun e4 => ?_) (fun e4 => ?_)))))
      · refine ⟨by omega, by omega, ?_⟩
        refine lcp_range (fun D i H' => Kb j H9 H' ∧ JarAt H' j ∧ ∃ cs : List Int, H' D = some (.lst (cs.map V.int)) ∧ cs.length = i) ?_ ?_ ?_
        · exact fun D hD => ⟨Kb.of (newf hD rfl).1, J9.same (newf hD rfl).1, [], upd_same, rfl⟩
        · rintro D i H' hD hi ⟨kb, J, cs, e, hl⟩
          have nj : D ≠ j := fun z => by
            rw [z] at hD
            obtain ⟨o, eo⟩ := J9.some
            rw [hD] at eo
            cases eo
          walk_at "ev"
          refine ⟨j, high, rfl, J, by omega, by omega, fun r H2 r0 r1 to => ?_⟩
          obtain ⟨k2, J2, o2⟩ := to.kb
          refine ⟨_, k2 _ _ nj e, by rw [List.length_map]; omega, fun b o n h => ?_, ?_, cs ++ [r], ?_, by simp [hl]⟩
          · rw [upd_ne (ne_of_none h hD)]
            exact k2 _ _ n (kb _ _ n h)
          · obtain ⟨d, t, c, ej, hb⟩ := J2
            exact ⟨d, t, c, by rw [upd_ne nj.symm]; exact ej, hb⟩
          · rw [upd_same, List.map_append]
            rfl
        · rintro D H' hD ⟨kb, J, cs, e, hl⟩
          exact ⟨kb, J, D, hD, cs, e, by omega, rfl⟩
      · refine ⟨Nat.zero_le _, Nw.intro fun l HA cA => ?_⟩
        refine ⟨j, high, rfl, J9.same cA.same, by omega, by omega, fun r HB r0 r1 to => ?_⟩
        obtain ⟨kB, JB, oB⟩ := to.kb
        have nlj : l ≠ j := (cA.off _ _ J9.some.choose_spec).symm
        refine ⟨by omega, by omega, lp_range (fun i σ H' => Kb j H9 H' ∧ JarAt H' j ∧ ∃ (cs : List Int) (a : Int) (x7 : Option V), H' l = some (.lst (cs.map V.int)) ∧ cs.length = i ∧
          σ = [some (.ref j), some (.int wd), some (.int sort), some (.int mn), some (.int high), some (.ref l), some (.int a), x7, none, none, none, none, none, none, none]) ?_ ?_ ?_⟩
        · exact ⟨(Kb.of cA.same).trans kB, JB, [], r, _, kB _ _ nlj cA.it, rfl, rfl⟩
        · rintro i σ H' hi ⟨kb, J, cs, a, x7, e, hl, rfl⟩
          walk_at "ev"
          refine ⟨.inl ⟨by decide, by decide⟩, j, 4 * wd + 1, rfl, J, by omega, by omega, fun r2 HC r20 r21 to2 => ?_⟩
          obtain ⟨kC, JC, oC⟩ := to2.kb
          have eC := kC _ _ nlj e
          refine ⟨_, rfl, .inl ⟨by decide, by decide⟩, ?_⟩
          simp only [Ls_lst eC]
          have ee : ∀ z : Int, upd HC l (.lst (cs.map V.int ++ [V.int z])) l = some (.lst ((cs ++ [z]).map V.int)) := fun z => by
            rw [upd_same, List.map_append]
            rfl
          refine ⟨by rw [List.length_map]; omega, fun b o n h => ?_, ?_, _, ee _, by simp [hl]⟩
          · rw [upd_ne (cA.off _ _ h)]
            exact kC _ _ n (kb _ _ n h)
          · obtain ⟨d, t, c, ej, hb⟩ := JC
            exact ⟨d, t, c, by rw [upd_ne nlj.symm]; exact ej, hb⟩
        · rintro σ H' ⟨kb, J, cs, a, x7, e, hl, rfl⟩
          exact ⟨kb, J, l, cA.new, cs, e, by omega, _, _, _, _, _, _, _, _, _, rfl⟩
      · refine ⟨by omega, by omega, ?_⟩
        refine lcp_range (fun D i H' => Same H9 H' ∧ ∃ cs : List Int, H' D = some (.lst (cs.map V.int)) ∧ cs.length = i) ?_ ?_ ?_
        · exact fun D hD => ⟨(newf hD rfl).1, [], upd_same, rfl⟩
        · rintro D i H' hD hi ⟨sm, cs, e, hl⟩
          walk_at "ev"
          refine ⟨by have := mint 40 high; omega, .inr ⟨by omega, by omega⟩, _, e, by rw [List.length_map]; omega, same_chg sm fun b o h => ne_of_none h hD, _, snoc_at _, by simp [hl]⟩
        · rintro D H' hD ⟨sm, cs, e, hl⟩
          exact ⟨Kb.of sm, J9.same sm, D, hD, cs, e, by omega, rfl⟩
      · have hmx : (if (if 20 < high then 20 else high) > 1 then (if 20 < high then 20 else high) else 1) ≤ 20 ∧ 1 ≤ (if (if 20 < high then 20 else high) > 1 then (if 20 < high then 20 else high) else 1) := by
          split <;> split <;> omega
        generalize (if (if 20 < high then 20 else high) > 1 then (if 20 < high then 20 else high) else 1) = mx at *
        refine ⟨by omega, by omega, ?_⟩
        refine lcp_range (fun D i H' => Same H9 H' ∧ ∃ cs : List Int, H' D = some (.lst (cs.map V.int)) ∧ cs.length = i) ?_ ?_ ?_
        · exact fun D hD => ⟨(newf hD rfl).1, [], upd_same, rfl⟩
        · rintro D i H' hD hi ⟨sm, cs, e, hl⟩
          walk_at "ev"
          refine ⟨.inr ⟨by omega, by omega⟩, _, e, by rw [List.length_map]; omega, same_chg sm fun b o h => ne_of_none h hD, _, snoc_at _, by simp [hl]⟩
        · rintro D H' hD ⟨sm, cs, e, hl⟩
          simp only [Ls_lst e]
          refine Nw.intro fun q1 G1 d1 => ?_
          simp only [Ls_lst (d1.same _ _ e), Ls_lst d1.it]
          have lr : cs.length ≤ 20 := by omega
          refine ⟨by rw [List.length_reverse, List.length_map]; omega, Nw.intro fun q2 G2 d2 => ?_⟩
          simp only [Ls_lst d2.it]
          have e9 : Int.toNat 9 = 9 := rfl
          rw [e9]
          refine ⟨by rw [List.length_append, List.length_reverse, List.length_map]; omega, Nw.intro fun q3 G3 d3 => ?_⟩
          simp only [Ls_lst d3.it, cut_to]
          refine Nw.intro fun q4 G4 d4 => ?_
          have s4 : Same H9 G4 := sm.trans (d1.same.trans (d2.same.trans (d3.same.trans d4.same)))
          refine ⟨Kb.of s4, J9.same s4, q4, (sm.trans (d1.same.trans (d2.same.trans d3.same))).free d4.new, ((List.replicate 9 (cs ++ cs.reverse)).flatten).take mn, ?_, ?_, rfl⟩
          · rw [d4.it, List.map_take, List.map_flatten, List.map_replicate, List.map_append, List.map_reverse]
          · rw [List.length_take]
            omega
      · refine ⟨.inl ⟨by decide, by decide⟩, j, 3 * wd, rfl, J9, by omega, by omega, fun r H2 r0 r1 to => ?_⟩
        obtain ⟨k2, J2, o2⟩ := to.kb
        refine ⟨r, rfl, by omega, by omega, ?_⟩
        refine lcp_range (fun D i H' => Same H2 H' ∧ ∃ cs : List Int, H' D = some (.lst (cs.map V.int)) ∧ cs.length = i) ?_ ?_ ?_
        · exact fun D hD => ⟨(newf hD rfl).1, [], upd_same, rfl⟩
        · rintro D i H' hD hi ⟨sm, cs, e, hl⟩
          walk_at "ev"
          refine ⟨.inr ⟨by omega, by omega⟩, by omega, _, e, by rw [List.length_map]; omega, same_chg sm fun b o h => ne_of_none h hD, _, snoc_at _, by simp [hl]⟩
        · rintro D H' hD ⟨sm, cs, e, hl⟩
          have hD9 : H9 D = none := by
            cases z : H9 D with
            | none => rfl
            | some o =>
              by_cases zj : D = j
              · rw [zj] at hD
                obtain ⟨o, eo⟩ := J2.some
                rw [hD] at eo
                cases eo
              · rw [k2 _ _ zj z] at hD
                cases hD
          exact ⟨k2.trans (Kb.of sm), J2.same sm, D, hD9, cs, e, by omega, rfl⟩
      · refine ⟨j, 9, rfl, J9, by decide, by decide, fun r H2 r0 r1 to => ?_⟩
        obtain ⟨k2, J2, o2⟩ := to.kb
        refine ⟨r, rfl, by omega, by omega, ?_⟩
        refine lcp_range (fun D i H' => Kb j H2 H' ∧ JarAt H' j ∧ ∃ cs : List Int, H' D = some (.lst (cs.map V.int)) ∧ cs.length = i) ?_ ?_ ?_
        · exact fun D hD => ⟨Kb.of (newf hD rfl).1, J2.same (newf hD rfl).1, [], upd_same, rfl⟩
        · rintro D i H' hD hi ⟨kb, J, cs, e, hl⟩
          have nj : D ≠ j := fun z => by
            rw [z] at hD
            obtain ⟨o, eo⟩ := J2.some
            rw [hD] at eo
            cases eo
          walk_at "ev"
          refine ⟨j, high, rfl, J, by omega, by omega, fun r HD r0 r1 to => ?_⟩
          obtain ⟨kR, JR, oR⟩ := to.kb
          refine ⟨_, kR _ _ nj e, by rw [List.length_map]; omega, fun b o n h => ?_, ?_, cs ++ [r], ?_, by simp [hl]⟩
          · rw [upd_ne (ne_of_none h hD)]
            exact kR _ _ n (kb _ _ n h)
          · obtain ⟨d, t, c, ej, hb⟩ := JR
            exact ⟨d, t, c, by rw [upd_ne nj.symm]; exact ej, hb⟩
          · rw [upd_same, List.map_append]
            rfl
        · rintro F H3 hF ⟨kb3, J3, fs, e3, hl3⟩
          have nFj : F ≠ j := fun z => by
            rw [z] at hF
            obtain ⟨o, eo⟩ := J2.some
            rw [hF] at eo
            cases eo
          refine ⟨by omega, by omega, ?_⟩
          refine lcp_range (fun D i H' => Kb j H3 H' ∧ JarAt H' j ∧ ∃ cs : List Int, H' D = some (.lst (cs.map V.int)) ∧ cs.length = i) ?_ ?_ ?_
          · exact fun D hD => ⟨Kb.of (newf hD rfl).1, J3.same (newf hD rfl).1, [], upd_same, rfl⟩
          · rintro D i H' hD hi ⟨kb, J, cs, e, hl⟩
            have nj : D ≠ j := fun z => by
              rw [z] at hD
              obtain ⟨o, eo⟩ := J3.some
              rw [hD] at eo
              cases eo
            walk_at "ev"
            refine ⟨j, F, fs, rfl, J, nFj, kb _ _ nFj e3, by intro z; rw [z] at hl3; simp at hl3; omega, by omega, fun r HD r1 to => ?_⟩
            obtain ⟨kR, JR, oR⟩ := to.kb
            refine ⟨_, kR _ _ nj e, by rw [List.length_map]; omega, fun b o n h => ?_, ?_, cs ++ [r], ?_, by simp [hl]⟩
            · rw [upd_ne (ne_of_none h hD)]
              exact kR _ _ n (kb _ _ n h)
            · obtain ⟨d, t, c, ej, hb⟩ := JR
              exact ⟨d, t, c, by rw [upd_ne nj.symm]; exact ej, hb⟩
            · rw [upd_same, List.map_append]
              rfl
          · rintro D H' hD ⟨kb, J, cs, e, hl⟩
            have hD9 : H9 D = none := by
              cases z : H9 D with
              | none => rfl
              | some o =>
                by_cases zj : D = j
                · rw [zj] at hD
                  obtain ⟨o, eo⟩ := J3.some
                  rw [hD] at eo
                  cases eo
                · rw [kb3 _ _ zj (k2 _ _ zj z)] at hD
                  cases hD
            exact ⟨k2.trans (kb3.trans kb), J, D, hD9, cs, e, by omega, rfl⟩
    · rintro σ' H' ⟨a, cs, x6, x7, x8, x9, x10, x11, x12, x13, x14, kb, J, na, ha, hcs, rfl⟩
      walk_at "ev"
      obtain ⟨oj, ejj⟩ := J.some
      refine ⟨by decide, Nw.intro fun u1 G1 d1 => ?_⟩
      have nu1 : u1 ≠ j := (d1.off _ _ ejj).symm
      have naj : a ≠ j := fun z => by
        rw [z] at na
        obtain ⟨o, eo⟩ := J9.some
        rw [na] at eo
        cases eo
      refine ⟨j, u1, [0, 1, 2, 4], rfl, J.same d1.same, nu1, d1.it, by simp, by simp, fun often G2 hof t2 => ?_⟩
      obtain ⟨k2, J2, o2⟩ := t2.kb
      refine ⟨by decide, Nw.intro fun l G3 d3 => ?_⟩
      have nlj : l ≠ j := fun z => by
        have := d3.new
        rw [z] at this
        obtain ⟨o, eo⟩ := J2.some
        rw [this] at eo
        cases eo
      have ha3 : G3 a = some (.lst (cs.map V.int)) := d3.same _ _ (k2 _ _ naj (d1.same _ _ ha))
      have hal : a ≠ l := d3.off _ _ (k2 _ _ naj (d1.same _ _ ha))
      have KG : Kb j H G3 := K9.trans (kb.trans ((Kb.of d1.same).trans (k2.trans (Kb.of d3.same))))
      have KGl : ∀ b o, b ≠ j → H b = some o → b ≠ l := fun b o n h => d3.off _ _ (k2 _ _ n (d1.same _ _ (kb _ _ n (K9 _ _ n h))))
      have J3 : JarAt G3 j := J2.same d3.same
      have w4 : 0 ≤ often ∧ often ≤ 4 := by
        simp only [List.mem_cons, List.not_mem_nil, or_false] at hof
        omega
      have hGl : H l = none := by
        cases z : H l with
        | none => rfl
        | some o => exact absurd rfl (KGl l o nlj z)
      have hl3 := d3.it
      clear t2 hof
      simp only [Ls_lst ha3]
      refine lp_list (xs := cs.map V.int) (fun i σ H' => Kb j H H' ∧ JarAt H' j ∧ H' a = some (.lst (cs.map V.int)) ∧ ∃ (ys : List V) (qs : List (Bool × Int)) (x6 x13 : Option V), H' l = some (.lst ys) ∧ Asks H' ys qs ∧ qs.length = i ∧
        σ = [some (.ref j), some (.int wd), some (.int sort), some (.int mn), some (.int high), some (.ref a), x6, x7, x8, x9, x10, some (.int often), some (.ref l), x13, x14]) ?_ ?_ ?_ ?_
      · exact ⟨KG, J3, ha3, [], [], _, _, hl3, ⟨rfl, fun i q h => by simp at h⟩, rfl, rfl⟩
      · exact fun i σ H' _ ⟨_, _, h, _⟩ => h
      · rintro i x σ H' hx ⟨kb, J, ha, ys, qs, x6, x13, hl, hq, hlq, rfl⟩
        have hi : i < cs.length := by
          have := (List.getElem?_eq_some_iff.mp hx).1
          rw [List.length_map] at this
          exact this
        have ex : x = .int cs[i] := by
          rw [List.getElem?_map, List.getElem?_eq_getElem hi] at hx
          exact (Option.some.inj hx).symm
        subst ex
        -- what stands behind the truth of is_put
        have fin : ∀ (c : Bool) (G : Hp), Kb j H' G → JarAt G j → Nw G (.tup [.str (K33.wd c), .int (cs[i] % 20000)]) fun T G' => Ls G' (.ref l) fun l_1 xs => xs.length < sizeLine ∧ Kb j H (upd G' l_1 (.lst (xs ++ [.ref T]))) ∧ JarAt (upd G' l_1 (.lst (xs ++ [.ref T]))) j ∧ upd G' l_1 (.lst (xs ++ [.ref T])) a = some (.lst (cs.map V.int)) ∧
            ∃ ys, upd G' l_1 (.lst (xs ++ [.ref T])) l = some (.lst ys) ∧ ∃ x, Asks (upd G' l_1 (.lst (xs ++ [.ref T]))) ys x ∧ x.length = i + 1 := fun c G kG JG => by
          refine Nw.intro fun T G' c' => ?_
          have hlG : G l = some (.lst ys) := kG _ _ nlj hl
          simp only [Ls_lst (c'.same _ _ hlG)]
          have nb : ∀ b xs, G' b = some (.tup xs) → b ≠ l := fun b xs e z => by
            rw [z, c'.same _ _ hlG] at e
            cases e
          have hl2 := hq.1
          refine ⟨by omega, fun b o n h => ?_, ?_, ?_, ys ++ [.ref T], upd_same, qs ++ [(c, cs[i] % 20000)], ⟨?_, fun n q hn => ?_⟩, by simp [hlq]⟩
          · have : b ≠ l := fun z => by
              rw [z, hGl] at h
              cases h
            rw [upd_ne this]
            exact c'.same _ _ (kG _ _ n (kb _ _ n h))
          · obtain ⟨d, t, c, ej, hb⟩ := JG.same c'.same
            exact ⟨d, t, c, by rw [upd_ne nlj.symm]; exact ej, hb⟩
          · rw [upd_ne hal]
            exact c'.same _ _ (kG _ _ naj ha)
          · simp [hl2]
          · by_cases h : n < qs.length
            · rw [List.getElem?_append_left h] at hn
              obtain ⟨v, e1, t, e2, e3⟩ := hq.2 n q hn
              have e3' : G' t = _ := c'.same _ _ (kG _ _ (fun z => by
                obtain ⟨o1, o2, o3, oo, _⟩ := J
                rw [z, oo] at e3
                cases e3) e3)
              exact ⟨v, by rw [List.getElem?_append_left (by omega)]; exact e1, t, e2, by rw [upd_ne (nb _ _ e3')]; exact e3'⟩
            · have : n = qs.length := by
                have := (List.getElem?_eq_some_iff.mp hn).1
                simp at this
                omega
              subst this
              have eq : q = (c, cs[i] % 20000) := by simpa using hn.symm
              subst eq
              exact ⟨.ref T, by rw [← hl2]; simp, T, rfl, by rw [upd_ne (nb _ _ c'.it)]; exact c'.it⟩
        walk_at "ev"
        simp only [Ls_lst hl]
        refine ite2 (fun _ => ?_) (fun _ => ite2 (fun _ => ?_) (fun _ => ?_))
        · exact ⟨by decide, fin true H' (Kb.refl _ _) J⟩
        · refine ⟨j, often + 1, rfl, J, by omega, by omega, fun r HC r0 r1 to => ?_⟩
          obtain ⟨kC, JC, oC⟩ := to.kb
          simp only [Ls_lst (kC _ _ nlj hl)]
          refine ⟨rfl, ite2 (fun _ => ?_) (fun _ => ?_)⟩
          · exact ⟨by decide, fin true HC kC JC⟩
          · exact ⟨by decide, fin false HC kC JC⟩
        · exact ⟨by decide, fin false H' (Kb.refl _ _) J⟩
      · rintro σ H' ⟨kb, J, ha, ys, qs, x6, x13, hl, hq, hlq, rfl⟩
        walk_at "ev"
        refine ⟨by decide, Nw.intro fun p H4 d4 => q p l wd ys qs H4 (kb.trans (Kb.of d4.same)) (J.same d4.same) ?_ d4.it hGl (d4.same _ _ hl) (hq.same d4.same) (by rw [hlq, List.length_map]; exact hcs) w1.1 w1.2⟩
        cases z : H p with
        | none => rfl
        | some o =>
          by_cases zj : p = j
          · have := d4.new
            rw [zj] at this
            obtain ⟨o, eo⟩ := J.some
            rw [this] at eo
            cases eo
          · have := kb _ _ zj z
            rw [d4.new] at this
            cases this
end
end K33
namespace K33
open PySem PySem.Spec PyProof.Rows L2 Lw
/-! ### plain lists: the last asked first -/
/-- each once, at its first place -/
def dd : List Int → List Int
  | [] => []
  | x :: r => x :: (dd r).filter fun j => decide (j ≠ x)
theorem dd_c (x : Int) (r : List Int) : dd (x :: r) = x :: (dd r).filter fun j => decide (j ≠ x) := rfl
theorem mem_dd {k : Int} : ∀ {l : List Int}, k ∈ dd l ↔ k ∈ l
  | [] => Iff.rfl
  | x :: r => by
    have ih := mem_dd (k := k) (l := r)
    rw [dd_c, List.mem_cons, List.mem_filter, ih, List.mem_cons]
    constructor
    · rintro (h | ⟨h, _⟩)
      · exact .inl h
      · exact .inr h
    · rintro (h | h)
      · exact .inl h
      · by_cases e : k = x
        · exact .inl e
        · exact .inr ⟨h, decide_eq_true (show k ≠ x from e)⟩
theorem nodup_dd : ∀ l : List Int, (dd l).Nodup
  | [] => List.nodup_nil
  | x :: r => by
    rw [dd_c, List.nodup_cons]
    exact ⟨fun h => absurd rfl (of_decide_eq_true (List.mem_filter.mp h).2), (nodup_dd r).filter _⟩
theorem foldl_dd : ∀ (l acc : List Int), l.foldl step_dedup acc = acc ++ (dd l).filter fun j => decide (j ∉ acc)
  | [], acc => by simp [dd]
  | x :: r, acc => by
    rw [List.foldl_cons, foldl_dd r]
    unfold step_dedup
    by_cases h : x ∈ acc
    · have h1 : acc.any (· == x) = true := List.any_eq_true.mpr ⟨x, h, by simp⟩
      rw [if_pos h1]
      congr 1
      rw [dd_c, List.filter_cons, if_neg (by simpa using h), List.filter_filter]
      refine List.filter_congr fun j _ => ?_
      by_cases hj : j ∈ acc
      · simp [hj]
      · have : j ≠ x := fun z => hj (by rw [z]; exact h)
        simp [hj, this]
    · have h1 : ¬ acc.any (· == x) = true := fun z => by
        obtain ⟨y, hy, e⟩ := List.any_eq_true.mp z
        exact h (by rw [← eq_of_beq e]; exact hy)
      rw [if_neg h1, List.append_assoc]
      congr 1
      rw [dd_c, List.filter_cons, if_pos (by simpa using h), List.filter_filter]
      show [x] ++ _ = x :: _
      rw [List.singleton_append]
      congr 1
      refine List.filter_congr fun j _ => ?_
      by_cases hj : j = x
      · simp [hj]
      · simp [hj]
theorem card_dd (l : List Int) : card l = (dd l).length := by
  unfold card
  rw [foldl_dd, List.nil_append, List.filter_eq_self.mpr (fun _ _ => by simp)]
theorem card_rev (l : List Int) : card l.reverse = card l := by
  rw [card_dd, card_dd]
  exact ((List.perm_ext_iff_of_nodup (nodup_dd _) (nodup_dd _)).mpr fun a => by rw [mem_dd, mem_dd, List.mem_reverse]).length_eq
/-! ### where the last asking lies -/
theorem dd_split {k : Int} : ∀ {l : List Int}, k ∈ l → ∃ rest, dd l = dd (l.takeWhile fun j => decide (j ≠ k)) ++ k :: rest
  | [], h => by cases h
  | x :: r, h => by
    by_cases e : x = k
    · subst e
      exact ⟨_, by simp [dd]; rfl⟩
    · have h' : k ∈ r := by
        rcases List.mem_cons.mp h with z | z
        · exact absurd z.symm e
        · exact z
      obtain ⟨rest, ih⟩ := dd_split h'
      refine ⟨rest.filter fun j => decide (j ≠ x), ?_⟩
      rw [List.takeWhile_cons, if_pos (decide_eq_true (show x ≠ k from e))]
      show x :: (dd r).filter _ = x :: (dd _).filter _ ++ _
      rw [ih, List.filter_append, List.filter_cons, if_pos (decide_eq_true (show k ≠ x from fun z => e z.symm))]
      rfl
theorem not_tw {k : Int} {l : List Int} : k ∉ l.takeWhile fun j => decide (j ≠ k) := fun h => by
  have := List.all_eq_true.mp (List.all_takeWhile (p := fun j => decide (j ≠ k)) (l := l)) k h
  exact absurd rfl (of_decide_eq_true this)
theorem mem_take_split {k : Int} {a b : List Int} {m : Nat} (h : k ∉ a) (nd : (a ++ k :: b).Nodup) : k ∈ (a ++ k :: b).take m ↔ a.length < m := by
  constructor
  · intro hm
    apply Nat.lt_of_not_le
    intro hle
    rw [List.take_append_of_le_length hle] at hm
    exact h (List.mem_of_mem_take hm)
  · intro hlt
    rw [List.take_append, List.mem_append]
    right
    obtain ⟨n, hn⟩ : ∃ n, m - a.length = n + 1 := ⟨m - a.length - 1, by omega⟩
    rw [hn]
    exact List.mem_cons_self ..
theorem near_iff {k : Int} {l : List Int} {m : Nat} (h : k ∈ l) : k ∈ (dd l).take m ↔ card (l.takeWhile fun j => decide (j ≠ k)) < m := by
  obtain ⟨rest, e⟩ := dd_split h
  have nd := nodup_dd l
  rw [e] at nd
  rw [e, mem_take_split (fun z => not_tw (mem_dd.mp z)) nd, card_dd]
/-- missed: not among the m last ones -/
theorem miss_iff (m : Nat) (pre : List Int) (k : Int) : missV m (distV pre k) = decide (k ∉ (dd pre).take m) := by
  unfold distV dist
  by_cases h : k ∈ pre
  · rw [if_pos h]
    have := near_iff (m := m) h
    by_cases h2 : card (pre.takeWhile fun j => decide (j ≠ k)) < m
    · rw [decide_eq_false (show ¬ ¬ k ∈ (dd pre).take m from fun z => z (this.mpr h2))]
      exact decide_eq_false (by omega)
    · rw [decide_eq_true (show ¬ k ∈ (dd pre).take m from fun z => h2 (this.mp z))]
      exact decide_eq_true (by omega)
  · rw [if_neg h, decide_eq_true (show ¬ k ∈ (dd pre).take m from fun z => h (mem_dd.mp (List.mem_of_mem_take z)))]
    rfl
/-! ### the line -/
theorem take_filter_in {k : Int} : ∀ {l : List Int} {m : Nat}, l.Nodup → k ∈ l.take m → (l.take m).filter (fun j => decide (j ≠ k)) = (l.filter fun j => decide (j ≠ k)).take (m - 1)
  | [], m, _, h => by simp at h
  | x :: l, 0, _, h => by simp at h
  | x :: l, m + 1, nd, h => by
    obtain ⟨n1, n2⟩ := List.nodup_cons.mp nd
    rw [List.take_succ_cons]
    by_cases e : x = k
    · subst e
      rw [List.filter_cons, if_neg (by simp), List.filter_cons, if_neg (by simp), List.filter_eq_self.mpr fun j hj => decide_eq_true (show j ≠ x from fun z => n1 (by rw [← z]; exact List.mem_of_mem_take hj)), List.filter_eq_self.mpr fun j hj => decide_eq_true (show j ≠ x from fun z => n1 (by rw [← z]; exact hj))]
      rfl
    · have h' : k ∈ l.take m := by
        rw [List.take_succ_cons] at h
        rcases List.mem_cons.mp h with z | z
        · exact absurd z.symm e
        · exact z
      obtain ⟨n, rfl⟩ : ∃ n, m = n + 1 := by
        cases m with
        | zero => simp at h'
        | succ n => exact ⟨n, rfl⟩
      rw [List.filter_cons, if_pos (decide_eq_true (show x ≠ k from e)), List.filter_cons, if_pos (decide_eq_true (show x ≠ k from e)), take_filter_in n2 h']
      rfl
theorem take_filter_out {k : Int} : ∀ {l : List Int} {m : Nat}, k ∉ l.take m → (l.filter fun j => decide (j ≠ k)).take m = l.take m
  | [], m, _ => by simp
  | x :: l, 0, _ => by simp
  | x :: l, m + 1, h => by
    rw [List.take_succ_cons] at h
    have h1 : ¬ k = x ∧ k ∉ l.take m := by simpa using h
    rw [List.filter_cons, if_pos (decide_eq_true (show x ≠ k from fun z => h1.1 z.symm)), List.take_succ_cons, List.take_succ_cons, take_filter_out h1.2]
/-- the line, the last asked first -/
theorem line_step {m : Nat} (hm : 1 ≤ m) {pre : List Int} {s : Fst} {k : Int} {wr : Bool} (h : s.1.reverse = (dd pre).take m) : (fstep m s (wr, k)).1.reverse = (dd (k :: pre)).take m := by
  obtain ⟨L, D, f, p⟩ := s
  have h : L.reverse = (dd pre).take m := h
  have hmem : ∀ j, j ∈ L ↔ j ∈ (dd pre).take m := fun j => by rw [← h, List.mem_reverse]
  have nd : ((dd pre).take m).Nodup := (nodup_dd pre).sublist (List.take_sublist ..)
  have ndL : L.Nodup := by
    rw [← h] at nd
    exact (List.reverse_perm L).nodup_iff.mp nd
  obtain ⟨n, rfl⟩ : ∃ n, m = n + 1 := ⟨m - 1, by omega⟩
  show _ = (k :: (dd pre).filter _).take (n + 1)
  rw [List.take_succ_cons]
  by_cases hk : k ∈ L
  · rw [fstep_hit hk]
    show (L.erase k ++ [k]).reverse = _
    rw [List.reverse_append]
    show k :: (L.erase k).reverse = _
    congr 1
    rw [ndL.erase_eq_filter, ← List.filter_reverse, h]
    have := take_filter_in (nodup_dd pre) ((hmem k).mp hk)
    rw [show (n + 1 - 1) = n from rfl] at this
    rw [← this]
    refine List.filter_congr fun j _ => ?_
    by_cases e : j = k <;> simp [e]
  · have hk2 : k ∉ (dd pre).take (n + 1) := fun z => hk ((hmem k).mpr z)
    have hk3 : k ∉ (dd pre).take n := fun z => hk2 ((List.take_subset_take_left _ (Nat.le_succ n)) z)
    rw [take_filter_out hk3]
    by_cases hf : L.length = n + 1
    · cases L with
      | nil => simp at hf
      | cons y L =>
        rw [fstep_full hk hf]
        show (L ++ [k]).reverse = _
        rw [List.reverse_append]
        show k :: L.reverse = _
        congr 1
        have e : (L.reverse ++ [y]) = (dd pre).take (n + 1) := by rw [← h, List.reverse_cons]
        have hl : L.length = n := by simpa using hf
        have := congrArg (List.take n) e
        rw [List.take_take, Nat.min_eq_left (Nat.le_succ n), List.take_append_of_le_length (by rw [List.length_reverse, hl]; exact Nat.le_refl _), List.take_of_length_le (by rw [List.length_reverse, hl]; exact Nat.le_refl _)] at this
        exact this
    · rw [fstep_more hk hf]
      show (L ++ [k]).reverse = _
      rw [List.reverse_append]
      show k :: L.reverse = _
      congr 1
      have hl : L.length = ((dd pre).take (n + 1)).length := by rw [← h, List.length_reverse]
      rw [List.length_take] at hl
      rw [h, List.take_of_length_le (by omega), List.take_of_length_le (by omega)]
theorem fore_snoc (m : Nat) (qs : List (Bool × Int)) (q : Bool × Int) : fore m (qs ++ [q]) = fstep m (fore m qs) q := by
  unfold fore
  rw [List.foldl_append]
  rfl
/-- what was asked, the last first -/
def pre (qs : List (Bool × Int)) : List Int := (qs.map (·.2)).reverse
theorem pre_snoc (qs : List (Bool × Int)) (q : Bool × Int) : pre (qs ++ [q]) = q.2 :: pre qs := by
  unfold pre
  simp
theorem snoc_ind {α : Type} {C : List α → Prop} (h0 : C []) (hs : ∀ l x, C l → C (l ++ [x])) : ∀ l, C l := fun l => by
  rw [← List.reverse_reverse l]
  generalize l.reverse = r
  induction r with
  | nil => exact h0
  | cons x r ih => rw [List.reverse_cons]; exact hs _ _ ih
theorem line_is {m : Nat} (hm : 1 ≤ m) : ∀ qs, (fore m qs).1.reverse = (dd (pre qs)).take m := snoc_ind (by simp [fore, pre, dd]) fun qs q ih => by
  rw [fore_snoc, pre_snoc]
  exact line_step hm ih
theorem mem_line {m : Nat} (hm : 1 ≤ m) (qs : List (Bool × Int)) (k : Int) : k ∈ (fore m qs).1 ↔ k ∈ (dd (pre qs)).take m := by rw [← line_is hm, List.mem_reverse]
theorem nodup_line {m : Nat} (hm : 1 ≤ m) (qs : List (Bool × Int)) : (fore m qs).1.Nodup := by
  have := (nodup_dd (pre qs)).sublist (List.take_sublist m _)
  rw [← line_is hm] at this
  exact (List.reverse_perm _).nodup_iff.mp this
end K33
namespace K33
open PySem PySem.Spec PyProof.Rows L2 Lw
/-! ### counting -/
def cnt (ks : List Int) (P : Int → Bool) : Nat := (ks.filter P).length
def b01 (b : Bool) : Nat := if b then 1 else 0
theorem cnt_nil (P : Int → Bool) : cnt [] P = 0 := rfl
theorem cnt_cons (x : Int) (ks : List Int) (P : Int → Bool) : cnt (x :: ks) P = b01 (P x) + cnt ks P := by
  unfold cnt b01
  rw [List.filter_cons]
  cases P x
  · simp
  · simp [Nat.add_comm]
theorem cnt_congr {ks : List Int} {P P' : Int → Bool} (h : ∀ j ∈ ks, P' j = P j) : cnt ks P' = cnt ks P := by
  unfold cnt
  rw [List.filter_congr h]
theorem cnt_flip {y : Int} {P P' : Int → Bool} (h : ∀ j, j ≠ y → P' j = P j) : ∀ {ks : List Int}, ks.Nodup → y ∈ ks → cnt ks P' + b01 (P y) = cnt ks P + b01 (P' y)
  | [], _, hy => by cases hy
  | x :: ks, nd, hy => by
    obtain ⟨n1, n2⟩ := List.nodup_cons.mp nd
    rw [cnt_cons, cnt_cons]
    by_cases e : x = y
    · subst e
      have := cnt_congr (P := P) (P' := P') (ks := ks) fun j hj => h j fun z => n1 (by rw [← z]; exact hj)
      omega
    · have hy2 : y ∈ ks := by
        rcases List.mem_cons.mp hy with z | z
        · exact absurd z.symm e
        · exact z
      have := cnt_flip h n2 hy2
      rw [h x e]
      omega
theorem cnt_addT {k : Int} {P : Int → Bool} (h : P k = false) (ks : List Int) : cnt (addT ks k) P = cnt ks P := by
  unfold addT
  split
  · rfl
  · unfold cnt
    rw [List.filter_append, List.filter_cons, if_neg (by rw [h]; decide)]
    simp
theorem cnt_out {k : Int} {P P' : Int → Bool} {ks : List Int} (nd : ks.Nodup) (h : ∀ j, j ≠ k → P' j = P j) (h0 : P' k = false) (h1 : P k = true → k ∈ ks) : cnt (addT ks k) P' + b01 (P k) = cnt ks P := by
  rw [cnt_addT h0]
  by_cases hk : k ∈ ks
  · have := cnt_flip h nd hk
    rw [h0] at this
    exact this
  · have hp : P k = false := by
      cases z : P k with
      | false => rfl
      | true => exact absurd (h1 z) hk
    rw [hp]
    exact cnt_congr fun j hj => h j fun z => hk (by rw [← z]; exact hj)
theorem nodup_addT {ks : List Int} {k : Int} (h : ks.Nodup) : (addT ks k).Nodup := by
  unfold addT
  split
  · exact h
  · rename_i hk
    rw [List.nodup_append]
    exact ⟨h, by simp, fun a ha b hb => by
      rw [List.mem_singleton.mp hb]
      exact fun z => hk (by rw [← z]; exact ha)⟩
/-! ### the counts, one more asked -/
theorem getD_app1 {α : Type} {d : α} {a b : List α} {i : Nat} (h : i < a.length) : (a ++ b).getD i d = a.getD i d := by
  rw [List.getD_eq_getElem?_getD, List.getD_eq_getElem?_getD, List.getElem?_append_left h]
theorem getD_snoc {α : Type} {d x : α} {a : List α} {i : Nat} (h : i = a.length) : (a ++ [x]).getD i d = x := by
  subst h
  rw [List.getD_eq_getElem?_getD, List.getElem?_append_right (Nat.le_refl _)]
  simp
theorem dists_len (bs : List Int) : (dists bs).length = bs.length := by
  unfold dists
  rw [List.length_map, List.length_range]
theorem dists_snoc (bs : List Int) (b : Int) : dists (bs ++ [b]) = dists bs ++ [distV bs.reverse b] := by
  unfold dists
  rw [List.length_append, List.length_singleton, List.range_succ, List.map_append]
  congr 1
  · refine List.map_congr_left fun i hi => ?_
    have hi := List.mem_range.mp hi
    rw [getD_app1 hi, List.take_append_of_le_length (by omega)]
  · rw [List.map_singleton, getD_snoc rfl, List.take_append_of_le_length (Nat.le_refl _), List.take_length]
theorem cst_pre (m : Nat) {ws : List Bool} {bs : List Int} (w : Bool) (b : Int) (hl : ws.length = bs.length) : ∀ i, i ≤ bs.length → cst m (ws ++ [w]) (bs ++ [b]) i = cst m ws bs i
  | 0, _ => rfl
  | i + 1, hi => by
    show cstep m _ _ _ _ = cstep m _ _ _ _
    rw [cst_pre m w b hl i (by omega), getD_app1 (by omega), dists_snoc, getD_app1 (by rw [dists_len]; omega), getD_app1 (by omega)]
theorem cst_snoc (m : Nat) {ws : List Bool} {bs : List Int} (w : Bool) (b : Int) (hl : ws.length = bs.length) : cst m (ws ++ [w]) (bs ++ [b]) (bs ++ [b]).length = cstep m b (distV bs.reverse b) w (cst m ws bs bs.length) := by
  rw [List.length_append, List.length_singleton]
  show cstep m _ _ _ _ = _
  rw [cst_pre m w b hl _ (Nat.le_refl _), getD_snoc rfl, dists_snoc, getD_snoc (dists_len bs).symm, getD_snoc hl.symm]
theorem cfetched_snoc (m : Nat) (bs : List Int) (b : Int) : cfetched m (bs ++ [b]) = cfetched m bs + b01 (missV m (distV bs.reverse b)) := by
  unfold cfetched b01
  rw [dists_snoc, List.filter_append, List.length_append, List.filter_cons]
  cases missV m (distV bs.reverse b) <;> simp
/-- what one asking changes -/
structure InvS (s : Fst) (cf : Nat) (c : Cst) (pr : List Int) : Prop where
  f : s.2.2.1 = (cf : Nat)
  t : ∀ j, j ∈ s.2.1 ↔ j ∈ s.1 ∧ c.2.1 j = true
  p : s.2.2.2 = c.1 + (cnt c.2.2 (fun j => c.2.1 j && decide (j ∉ s.1)) : Nat)
  k1 : c.2.2.Nodup
  k2 : ∀ j, j ∈ c.2.2 ↔ j ∈ pr
  k3 : ∀ j, c.2.1 j = true → j ∈ c.2.2
theorem b01_if (b : Bool) : (if b then (1 : Int) else 0) = (b01 b : Nat) := by cases b <;> rfl
theorem setF_same (F : Int → Bool) (k : Int) (b : Bool) : setF F k b k = b := by unfold setF; rw [if_pos rfl]
theorem setF_ne {F : Int → Bool} {k j : Int} {b : Bool} (h : j ≠ k) : setF F k b j = F j := by unfold setF; rw [if_neg h]
theorem setF_set (F : Int → Bool) (k : Int) (a b : Bool) : setF (setF F k a) k b = setF F k b := by
  funext j
  unfold setF
  split <;> rfl
theorem addT_add (T : List Int) (k : Int) : addT (addT T k) k = addT T k := addT_of (addT_mem T k)
theorem mem_wr {D : List Int} {k j : Int} {wr : Bool} : (j ∈ if wr then addT D k else D) ↔ j ∈ D ∨ (wr = true ∧ j = k) := by
  cases wr
  · simp
  · simp [mem_addT]
theorem inv_step {m : Nat} (hm : 1 ≤ m) {s : Fst} {cf : Nat} {c : Cst} {pr : List Int} {wr : Bool} {k : Int} {d : V} (I : InvS s cf c pr) (nd : s.1.Nodup) (sub : ∀ j, j ∈ s.1 → j ∈ pr) (mis : missV m d = decide (k ∉ s.1)) :
    InvS (fstep m s (wr, k)) (cf + b01 (decide (k ∉ s.1))) (cstep m k d wr c) (k :: pr) := by
  obtain ⟨L, D, f, p⟩ := s
  obtain ⟨cp, F, ks⟩ := c
  obtain ⟨f1, t1, p1, k1, k2, k3⟩ := I
  have f1 : f = (cf : Nat) := f1
  have t1 : ∀ j, j ∈ D ↔ j ∈ L ∧ F j = true := t1
  have p1 : p = cp + (cnt ks (fun j => F j && decide (j ∉ L)) : Nat) := p1
  have k1 : ks.Nodup := k1
  have k2 : ∀ j, j ∈ ks ↔ j ∈ pr := k2
  have k3 : ∀ j, F j = true → j ∈ ks := k3
  have nd : L.Nodup := nd
  have sub : ∀ j, j ∈ L → j ∈ pr := sub
  by_cases hk : k ∈ L
  · have e0 : decide (k ∉ L) = false := decide_eq_false fun y => y hk
    have e1 : decide (k ∉ ((L, D, f, p) : Fst).1) = false := e0
    rw [e1] at mis
    rw [e1, fstep_hit hk, cstep_hit mis, addT_of ((k2 k).mpr (sub k hk))]
    have mL : ∀ j, j ∈ L.erase k ++ [k] ↔ j ∈ L := fun j => by
      rw [List.mem_append, List.mem_singleton, nd.mem_erase_iff]
      by_cases e : j = k
      · subst e
        simp [hk]
      · simp [e]
    refine ⟨?_, fun j => ?_, ?_, k1, fun j => ?_, fun j h => ?_⟩
    · exact f1
    · show (j ∈ if wr then addT D k else D) ↔ j ∈ L.erase k ++ [k] ∧ setF F k (F k || wr) j = true
      rw [mL, mem_wr, t1]
      by_cases e : j = k
      · subst e
        rw [setF_same]
        cases F j <;> cases wr <;> simp [hk]
      · rw [setF_ne e]
        simp [e]
    · show p = cp + (cnt ks (fun j => setF F k (F k || wr) j && decide (j ∉ L.erase k ++ [k])) : Nat)
      rw [p1]
      congr 2
      refine (cnt_congr fun j _ => ?_).symm
      have : decide (j ∉ L.erase k ++ [k]) = decide (j ∉ L) := decide_eq_decide.mpr (not_congr (mL j))
      rw [this]
      by_cases e : j = k
      · subst e
        rw [e0]
        simp
      · rw [setF_ne e]
    · show j ∈ ks ↔ j ∈ k :: pr
      rw [k2, List.mem_cons]
      exact ⟨.inr, fun h => h.elim (fun e => by rw [e]; exact sub k hk) id⟩
    · show j ∈ ks
      have h : setF F k (F k || wr) j = true := h
      by_cases e : j = k
      · subst e
        exact (k2 j).mpr (sub j hk)
      · rw [setF_ne e] at h
        exact k3 j h
  · have e0 : decide (k ∉ L) = true := decide_eq_true hk
    have e1 : decide (k ∉ ((L, D, f, p) : Fst).1) = true := e0
    rw [e1] at mis
    rw [e1, cstep_miss mis, setF_same, setF_set, addT_add, Bool.false_or, b01_if]
    have nd' := nodup_addT (k := k) k1
    have K2 : ∀ j, j ∈ addT ks k ↔ j ∈ k :: pr := fun j => by
      rw [mem_addT, k2, List.mem_cons]
      exact ⟨fun h => h.elim .inr .inl, fun h => h.elim .inr .inl⟩
    have K3 : ∀ j, setF F k wr j = true → j ∈ addT ks k := fun j h => by
      rw [mem_addT]
      by_cases e : j = k
      · exact .inr e
      · rw [setF_ne e] at h
        exact .inl (k3 j h)
    have base : cnt (addT ks k) (fun j => setF F k wr j && decide (j ∉ L ++ [k])) + b01 (F k) = cnt ks (fun j => F j && decide (j ∉ L)) := by
      have := cnt_out (k := k) (P := fun j => F j && decide (j ∉ L)) (P' := fun j => setF F k wr j && decide (j ∉ L ++ [k])) k1 (fun j e => by
        show (setF F k wr j && decide (j ∉ L ++ [k])) = (F j && decide (j ∉ L))
        rw [setF_ne e, decide_eq_decide.mpr (show j ∉ L ++ [k] ↔ j ∉ L by simp [e])]) (by simp) (fun h => k3 k (Bool.and_eq_true_iff.mp h).1)
      rw [← this]
      simp [e0]
    by_cases hf : L.length = m
    · cases L with
      | nil =>
        have : 0 = m := hf
        omega
      | cons y L =>
        rw [fstep_full hk hf]
        obtain ⟨n1, n2⟩ := List.nodup_cons.mp nd
        have hky : ¬ k = y := fun z => hk (by rw [z]; exact List.mem_cons_self ..)
        have hky' : ¬ y = k := fun z => hky z.symm
        have hkL : k ∉ L := fun z => hk (List.mem_cons_of_mem _ z)
        have hyks : y ∈ ks := (k2 y).mpr (sub y (List.mem_cons_self ..))
        have flip := cnt_flip (y := y) (P := fun j => setF F k wr j && decide (j ∉ (y :: L) ++ [k])) (P' := fun j => setF F k wr j && decide (j ∉ L ++ [k])) (fun j e => by
          show (setF F k wr j && decide (j ∉ L ++ [k])) = (setF F k wr j && decide (j ∉ (y :: L) ++ [k]))
          rw [decide_eq_decide.mpr (show j ∉ L ++ [k] ↔ j ∉ (y :: L) ++ [k] by simp [e])]) nd' (mem_addT.mpr (.inl hyks))
        have v1 : (setF F k wr y && decide (y ∉ (y :: L) ++ [k])) = false := by simp
        have v2 : (setF F k wr y && decide (y ∉ L ++ [k])) = F y := by
          rw [setF_ne hky', decide_eq_true (show y ∉ L ++ [k] by simp [n1, hky'])]
          simp
        rw [v1, v2] at flip
        have hyD : (y ∈ D) = (F y = true) := by
          rw [t1]
          simp
        refine ⟨?_, fun j => ?_, ?_, nd', K2, K3⟩
        · show f + 1 = ((cf + b01 true : Nat) : Int)
          rw [show f = ((cf : Nat) : Int) from f1]
          rfl
        · show (j ∈ if wr then addT (D.filter _) k else D.filter _) ↔ j ∈ L ++ [k] ∧ setF F k wr j = true
          rw [mem_wr, List.mem_filter, t1, List.mem_append, List.mem_singleton, List.mem_cons, decide_eq_true_eq]
          by_cases e : j = k
          · subst e
            rw [setF_same]
            simp [hky, hkL]
          · rw [setF_ne e]
            by_cases ey : j = y
            · subst ey
              simp [n1, e]
            · simp [e, ey]
        · show p + _ = cp + (b01 (F k) : Nat) + (cnt (addT ks k) (fun j => setF F k wr j && decide (j ∉ L ++ [k])) : Nat)
          have hb : (if y ∈ D then (1 : Int) else 0) = (b01 (F y) : Nat) := by
            rw [← b01_if]
            simp only [hyD]
          first | rw [hb] | skip
          rw [p1]
          have z0 : b01 false = 0 := rfl
          rw [z0] at flip
          have hhd : (if List.headD (y :: L) 0 ∈ D then (1 : Int) else 0) = (b01 (F y) : Nat) := hb
          omega
    · rw [fstep_more hk hf]
      refine ⟨?_, fun j => ?_, ?_, nd', K2, K3⟩
      · show f + 1 = ((cf + b01 true : Nat) : Int)
        rw [show f = ((cf : Nat) : Int) from f1]
        rfl
      · show (j ∈ if wr then addT D k else D) ↔ j ∈ L ++ [k] ∧ setF F k wr j = true
        rw [mem_wr, t1, List.mem_append, List.mem_singleton]
        by_cases e : j = k
        · subst e
          rw [setF_same]
          simp [hk]
        · rw [setF_ne e]
          simp [e]
      · show p = cp + (b01 (F k) : Nat) + (cnt (addT ks k) (fun j => setF F k wr j && decide (j ∉ L ++ [k])) : Nat)
        rw [p1]
        omega
theorem inv {m : Nat} (hm : 1 ≤ m) : ∀ qs : List (Bool × Int), InvS (fore m qs) (cfetched m (qs.map (·.2))) (cst m (qs.map (·.1)) (qs.map (·.2)) (qs.map (·.2)).length) (pre qs) := snoc_ind ⟨rfl, fun j => by simp [fore], rfl, List.nodup_nil, fun j => Iff.rfl, fun j h => by cases h⟩ fun qs q ih => by
  obtain ⟨wr, k⟩ := q
  have mis : missV m (distV (qs.map (·.2)).reverse k) = decide (k ∉ (fore m qs).1) := by
    rw [miss_iff]
    exact decide_eq_decide.mpr (not_congr (mem_line hm qs k).symm)
  have := inv_step hm (wr := wr) ih (nodup_line hm qs) (fun j hj => mem_dd.mp (List.mem_of_mem_take ((mem_line hm qs j).mp hj))) mis
  rw [fore_snoc, pre_snoc, List.map_append, List.map_append]
  show InvS _ (cfetched m (qs.map (·.2) ++ [k])) (cst m (qs.map (·.1) ++ [wr]) (qs.map (·.2) ++ [k]) (qs.map (·.2) ++ [k]).length) _
  rw [cfetched_snoc, cst_snoc m wr k (by rw [List.length_map, List.length_map]), mis]
  exact this
/-- T1: the counts are right -/
theorem told_right {m : Nat} (hm : 1 ≤ m) (qs : List (Bool × Int)) : (fore m qs).2.2.1 = (cfetched m (qs.map (·.2)) : Nat) ∧ (fore m qs).2.2.2 = cput m (qs.map (·.1)) (qs.map (·.2)) := by
  obtain ⟨f1, t1, p1, k1, k2, k3⟩ := inv hm qs
  refine ⟨f1, ?_⟩
  rw [p1]
  unfold cput
  show _ = _ + ((cnt _ _ : Nat) : Int)
  congr 2
  refine cnt_congr fun j hj => ?_
  congr 1
  refine decide_eq_decide.mpr ?_
  have hp := (k2 j).mp hj
  rw [mem_line hm, near_iff hp]
  unfold behindOf
  rw [card_rev]
  show ¬ card ((qs.map (·.2)).reverse.takeWhile _) < m ↔ _
  omega
theorem cfetched_mono (m : Nat) (bs : List Int) : cfetched (m + 1) bs ≤ cfetched m bs := by
  unfold cfetched
  rw [← List.countP_eq_length_filter, ← List.countP_eq_length_filter]
  refine List.countP_mono_left fun x _ h => ?_
  cases x with
  | int n =>
    have := of_decide_eq_true h
    exact decide_eq_true (by omega)
  | _ => exact rfl
/-- the number of turns -/
def turns (bs : List Int) : Nat := ((List.range bs.length).filter fun k => decide (k = 0 ∨ bs.getD k 0 ≠ bs.getD (k - 1) 0)).length
theorem turns_is (bs : List Int) : cfetched 1 bs = turns bs := by
  unfold cfetched turns dists
  rw [List.filter_map, List.length_map]
  congr 1
  refine List.filter_congr fun i hi => ?_
  have hi := List.mem_range.mp hi
  show missV 1 (distV _ _) = _
  rw [miss_iff]
  refine decide_eq_decide.mpr ?_
  cases i with
  | zero => simp [dd]
  | succ i =>
    have e : bs.take (i + 1) = bs.take i ++ [bs.getD i 0] := by
      rw [List.take_succ, List.getElem?_eq_getElem (show i < bs.length by omega), List.getD_eq_getElem?_getD, List.getElem?_eq_getElem (show i < bs.length by omega)]
      rfl
    rw [e, List.reverse_append]
    show ¬ bs.getD (i + 1) 0 ∈ (bs.getD i 0 :: _).take 1 ↔ _
    rw [List.take_succ_cons, List.take_zero, List.mem_singleton]
    show _ ↔ i + 1 = 0 ∨ bs.getD (i + 1) 0 ≠ bs.getD i 0
    constructor
    · exact .inr
    · rintro (h | h)
      · cases h
      · exact h
end K33
namespace K33
open PySem PySem.Spec PyProof.Rows L2 Lw
/-! ### sweeps -/
def dstep (d : List Int) (k : Int) : List Int := k :: d.filter fun j => decide (j ≠ k)
/-- how many of them are missed, from a line d on -/
def mcd (m : Nat) : List Int → List Int → Nat
  | _, [] => 0
  | d, k :: bs => b01 (decide (k ∉ d.take m)) + mcd m (dstep d k) bs
theorem mcd_app (m : Nat) : ∀ (a b d : List Int), mcd m d (a ++ b) = mcd m d a + mcd m (a.foldl dstep d) b
  | [], b, d => by
    show mcd m d b = 0 + _
    rw [Nat.zero_add]
    rfl
  | k :: a, b, d => by
    show _ + mcd m _ (a ++ b) = _ + mcd m _ a + _
    rw [mcd_app m a b, Nat.add_assoc]
    rfl
theorem fstep_f {m : Nat} (s : Fst) (q : Bool × Int) : (fstep m s q).2.2.1 = s.2.2.1 + (b01 (decide (q.2 ∉ s.1)) : Nat) := by
  obtain ⟨L, D, f, p⟩ := s
  obtain ⟨wr, k⟩ := q
  show _ = f + _
  by_cases hk : k ∈ L
  · rw [fstep_hit hk, decide_eq_false (show ¬ k ∉ L from fun y => y hk)]
    show f = f + 0
    omega
  · have : b01 (decide (((wr, k) : Bool × Int).2 ∉ ((L, D, f, p) : Fst).1)) = 1 := by
      show b01 (decide (k ∉ L)) = 1
      rw [decide_eq_true (show k ∉ L from hk)]
      rfl
    rw [this]
    by_cases hf : L.length = m
    · cases L with
      | nil =>
        unfold fstep fline
        simp only [List.not_mem_nil, if_false, if_pos hf]
        rfl
      | cons y L => rw [fstep_full hk hf]; rfl
    · rw [fstep_more hk hf]
      rfl
theorem fold_f {m : Nat} (hm : 1 ≤ m) : ∀ (qs : List (Bool × Int)) (s : Fst) (r : List Int), s.1.reverse = (dd r).take m → (qs.foldl (fstep m) s).2.2.1 = s.2.2.1 + (mcd m (dd r) (qs.map (·.2)) : Nat)
  | [], s, r, _ => by
    show s.2.2.1 = s.2.2.1 + 0
    omega
  | q :: qs, s, r, h => by
    rw [List.foldl_cons, fold_f hm qs _ (q.2 :: r) (line_step hm h), fstep_f]
    show _ = _ + ((b01 (decide (q.2 ∉ (dd r).take m)) + mcd m (dstep (dd r) q.2) (qs.map (·.2)) : Nat) : Int)
    have : (decide (q.2 ∉ s.1)) = decide (q.2 ∉ (dd r).take m) := decide_eq_decide.mpr (by rw [← h, List.mem_reverse])
    rw [this]
    show _ + ((mcd m (dstep (dd r) q.2) (qs.map (·.2)) : Nat) : Int) = _
    omega
theorem fore_f {m : Nat} (hm : 1 ≤ m) (qs : List (Bool × Int)) : (fore m qs).2.2.1 = (mcd m [] (qs.map (·.2)) : Nat) := by
  have := fold_f hm qs ([], [], 0, 0) [] (by simp [dd])
  rw [show fore m qs = qs.foldl (fstep m) ([], [], 0, 0) from rfl, this]
  show (0 : Int) + _ = _
  rw [Int.zero_add]
  rfl
theorem filt_out {k : Int} {l : List Int} (h : k ∉ l) : (l.filter fun j => decide (j ≠ k)) = l := List.filter_eq_self.mpr fun j hj => decide_eq_true (show j ≠ k from fun z => h (by rw [← z]; exact hj))
theorem filt_mid {k : Int} {a b : List Int} (ha : k ∉ a) (hb : k ∉ b) : ((a ++ k :: b).filter fun j => decide (j ≠ k)) = a ++ b := by
  rw [List.filter_append, List.filter_cons, if_neg (by simp), filt_out ha, filt_out hb]
/-- H: never asked yet -/
theorem mcd_new (m : Nat) : ∀ (b a : List Int), (a ++ b).Nodup → mcd m a.reverse b = b.length ∧ b.foldl dstep a.reverse = (a ++ b).reverse
  | [], a, _ => ⟨rfl, by simp⟩
  | k :: b, a, nd => by
    have hk : k ∉ a := fun z => (List.nodup_append.mp nd).2.2 k z k (List.mem_cons_self ..) rfl
    have e : dstep a.reverse k = (a ++ [k]).reverse := by
      unfold dstep
      rw [filt_out (by rw [List.mem_reverse]; exact hk), List.reverse_append]
      rfl
    have nd2 : ((a ++ [k]) ++ b).Nodup := by rw [List.append_assoc]; exact nd
    obtain ⟨h1, h2⟩ := mcd_new m b (a ++ [k]) nd2
    constructor
    · show b01 _ + mcd m (dstep _ k) b = b.length + 1
      rw [e, h1, decide_eq_true (show k ∉ a.reverse.take m from fun z => hk (List.mem_reverse.mp (List.mem_of_mem_take z)))]
      exact Nat.add_comm ..
    · rw [List.foldl_cons, e, h2, List.append_assoc]
      rfl
/-- F: the same sweep again -/
theorem mcd_again (m : Nat) : ∀ (b a : List Int), (a ++ b).Nodup → mcd m (a.reverse ++ b.reverse) b = (if m < a.length + b.length then b.length else 0) ∧ b.foldl dstep (a.reverse ++ b.reverse) = (a ++ b).reverse
  | [], a, _ => ⟨by simp [mcd], by simp⟩
  | k :: b, a, nd => by
    have n3 := List.nodup_append.mp nd
    have hk : k ∉ a := fun z => n3.2.2 k z k (List.mem_cons_self ..) rfl
    have hkb : k ∉ b := (List.nodup_cons.mp n3.2.1).1
    have hab : k ∉ a.reverse ++ b.reverse := by
      rw [List.mem_append, List.mem_reverse, List.mem_reverse]
      exact fun z => z.elim hk hkb
    have e1 : a.reverse ++ (k :: b).reverse = (a.reverse ++ b.reverse) ++ k :: [] := by rw [List.reverse_cons, List.append_assoc]
    have e : dstep (a.reverse ++ (k :: b).reverse) k = (a ++ [k]).reverse ++ b.reverse := by
      unfold dstep
      rw [e1, filt_mid hab (List.not_mem_nil), List.append_nil, List.reverse_append]
      rfl
    have nd2 : ((a ++ [k]) ++ b).Nodup := by rw [List.append_assoc]; exact nd
    obtain ⟨h1, h2⟩ := mcd_again m b (a ++ [k]) nd2
    constructor
    · show b01 _ + mcd m (dstep _ k) b = _
      have nd3 : ((a.reverse ++ b.reverse) ++ k :: []).Nodup := by
        rw [← e1, ← List.reverse_append]
        have := (List.reverse_perm ((k :: b) ++ a)).nodup_iff.mpr (List.perm_append_comm.nodup_iff.mp nd)
        exact this
      have hm := mem_take_split (m := m) hab nd3
      rw [List.length_append, List.length_reverse, List.length_reverse] at hm
      rw [e, h1, e1, decide_eq_decide.mpr (not_congr hm)]
      rw [List.length_append, List.length_singleton, List.length_cons]
      by_cases z : m < a.length + (b.length + 1)
      · rw [if_pos z, if_pos (by omega), decide_eq_true (by omega)]
        exact Nat.add_comm ..
      · rw [if_neg z, if_neg (by omega), decide_eq_false (by omega)]
        rfl
    · rw [List.foldl_cons, e, h2, List.append_assoc]
      rfl
/-- G: back again -/
theorem mcd_back (m : Nat) : ∀ (b a : List Int), (a ++ b).Nodup → mcd m (a.reverse ++ b) b + (a.length - m) = a.length + b.length - m ∧ b.foldl dstep (a.reverse ++ b) = (a ++ b).reverse
  | [], a, _ => ⟨by simp [mcd], by simp⟩
  | k :: b, a, nd => by
    have n3 := List.nodup_append.mp nd
    have hk : k ∉ a := fun z => n3.2.2 k z k (List.mem_cons_self ..) rfl
    have hka : k ∉ a.reverse := fun z => hk (List.mem_reverse.mp z)
    have hkb : k ∉ b := (List.nodup_cons.mp n3.2.1).1
    have e : dstep (a.reverse ++ k :: b) k = (a ++ [k]).reverse ++ b := by
      unfold dstep
      rw [filt_mid hka hkb, List.reverse_append]
      rfl
    have nd2 : ((a ++ [k]) ++ b).Nodup := by rw [List.append_assoc]; exact nd
    obtain ⟨h1, h2⟩ := mcd_back m b (a ++ [k]) nd2
    constructor
    · show b01 _ + mcd m (dstep _ k) b + _ = _
      have nd3 : (a.reverse ++ k :: b).Nodup := ((List.reverse_perm a).append_right _).nodup_iff.mpr nd
      have hm := mem_take_split (m := m) hka nd3
      rw [List.length_reverse] at hm
      rw [e, decide_eq_decide.mpr (not_congr hm), List.length_cons]
      rw [List.length_append, List.length_singleton] at h1
      by_cases z : a.length < m
      · rw [decide_eq_false (by omega)]
        show 0 + _ + _ = _
        omega
      · rw [decide_eq_true (by omega)]
        show 1 + _ + _ = _
        omega
    · rw [List.foldl_cons, e, h2, List.append_assoc]
      rfl
/-- forth, t times -/
theorem sweep_f (m : Nat) {l : List Int} (nd : l.Nodup) : ∀ t : Nat, mcd m [] (List.replicate (t + 1) l).flatten = l.length + t * (if m < l.length then l.length else 0) ∧ (List.replicate (t + 1) l).flatten.foldl dstep [] = l.reverse
  | 0 => by
    obtain ⟨h1, h2⟩ := mcd_new m l [] nd
    have e : (List.replicate (0 + 1) l).flatten = l := by simp
    rw [e]
    exact ⟨by rw [Nat.zero_mul]; exact h1, h2⟩
  | t + 1 => by
    obtain ⟨h1, h2⟩ := sweep_f m nd t
    obtain ⟨g1, g2⟩ := mcd_again m l [] nd
    have g1 : mcd m l.reverse l = if m < 0 + l.length then l.length else 0 := g1
    have g2 : l.foldl dstep l.reverse = l.reverse := g2
    have e : (List.replicate (t + 1 + 1) l).flatten = (List.replicate (t + 1) l).flatten ++ l := by
      rw [List.replicate_succ', List.flatten_append]
      simp
    rw [e, mcd_app, h1, h2, g1, List.foldl_append, h2, g2, Nat.zero_add, Nat.add_mul, Nat.one_mul]
    exact ⟨by omega, rfl⟩
def way (l : List Int) (go : Nat) : List Int := if go % 2 = 0 then l else l.reverse
def ways (l : List Int) (t : Nat) : List Int := ((List.range t).map (way l)).flatten
theorem ways_succ (l : List Int) (t : Nat) : ways l (t + 1) = ways l t ++ way l t := by
  unfold ways
  rw [List.range_succ, List.map_append, List.flatten_append]
  simp
theorem way_next (l : List Int) (t : Nat) : (way l t).reverse = way l (t + 1) := by
  unfold way
  by_cases h : t % 2 = 0
  · rw [if_pos h, if_neg (by omega)]
  · rw [if_neg h, if_pos (by omega), List.reverse_reverse]
theorem way_len (l : List Int) (t : Nat) : (way l t).length = l.length := by
  unfold way
  split
  · rfl
  · exact List.length_reverse
theorem way_nd {l : List Int} (nd : l.Nodup) (t : Nat) : (way l t).Nodup := by
  unfold way
  split
  · exact nd
  · exact (List.reverse_perm l).nodup_iff.mpr nd
/-- forth and back -/
theorem ways_f (m : Nat) {l : List Int} (nd : l.Nodup) : ∀ t : Nat, mcd m [] (ways l (t + 1)) = l.length + t * (l.length - m) ∧ (ways l (t + 1)).foldl dstep [] = way l (t + 1)
  | 0 => by
    obtain ⟨h1, h2⟩ := mcd_new m l [] nd
    have e : ways l (0 + 1) = l := by simp [ways, way]
    rw [e]
    exact ⟨by rw [Nat.zero_mul]; exact h1, by rw [← way_next]; exact h2⟩
  | t + 1 => by
    obtain ⟨h1, h2⟩ := ways_f m nd t
    obtain ⟨g1, g2⟩ := mcd_back m (way l (t + 1)) [] (way_nd nd _)
    have g1 : mcd m (way l (t + 1)) (way l (t + 1)) + (0 - m) = 0 + (way l (t + 1)).length - m := g1
    have g2 : (way l (t + 1)).foldl dstep (way l (t + 1)) = (way l (t + 1)).reverse := g2
    rw [way_len] at g1
    rw [ways_succ, mcd_app, h1, h2, List.foldl_append, h2, g2, way_next, Nat.add_mul, Nat.one_mul]
    exact ⟨by omega, rfl⟩
/-- nothing is put where nothing is written -/
theorem all_read (m : Nat) : ∀ (qs : List (Bool × Int)) (s : Fst), (∀ q ∈ qs, q.1 = false) → s.2.1 = [] → (qs.foldl (fstep m) s).2.2.2 = s.2.2.2
  | [], s, _, _ => rfl
  | q :: qs, s, h, h0 => by
    obtain ⟨L, D, f, p⟩ := s
    obtain ⟨wr, k⟩ := q
    have h0 : D = [] := h0
    subst h0
    have hw : wr = false := h (wr, k) (List.mem_cons_self ..)
    subst hw
    have key : (fstep m (L, [], f, p) (false, k)).2.1 = [] ∧ (fstep m (L, [], f, p) (false, k)).2.2.2 = p := by
      unfold fstep fline
      dsimp only
      by_cases hk : k ∈ L
      · rw [if_pos hk]
        exact ⟨rfl, rfl⟩
      · rw [if_neg hk]
        by_cases hf : L.length = m
        · rw [if_pos hf]
          exact ⟨rfl, by simp⟩
        · rw [if_neg hf]
          exact ⟨rfl, rfl⟩
    rw [List.foldl_cons, all_read m qs _ (fun q hq => h q (List.mem_cons_of_mem _ hq)) key.1]
    exact key.2
/-- all is put that left the line, where all is written -/
theorem all_write {m : Nat} (hm : 1 ≤ m) : ∀ (qs : List (Bool × Int)) (s : Fst), (∀ q ∈ qs, q.1 = true) → (∀ j ∈ s.1, j ∈ s.2.1) → s.1.Nodup → s.2.2.1 = s.2.2.2 + (s.1.length : Nat) →
    (qs.foldl (fstep m) s).2.2.1 = (qs.foldl (fstep m) s).2.2.2 + ((qs.foldl (fstep m) s).1.length : Nat)
  | [], s, _, _, _, h => h
  | q :: qs, s, h, h0, nd, h1 => by
    obtain ⟨L, D, f, p⟩ := s
    obtain ⟨wr, k⟩ := q
    have hw : wr = true := h (wr, k) (List.mem_cons_self ..)
    subst hw
    have h0 : ∀ j ∈ L, j ∈ D := h0
    have nd : L.Nodup := nd
    have h1 : f = p + (L.length : Nat) := h1
    rw [List.foldl_cons]
    have ndk : ∀ L' : List Int, L'.Nodup → k ∉ L' → (L' ++ [k]).Nodup := fun L' n hk => by
      rw [List.nodup_append]
      exact ⟨n, by simp, fun a ha b hb => by
        rw [List.mem_singleton.mp hb]
        exact fun z => hk (by rw [← z]; exact ha)⟩
    refine all_write hm qs _ (fun q hq => h q (List.mem_cons_of_mem _ hq)) ?_ ?_ ?_
    all_goals
      by_cases hk : k ∈ L
      · rw [fstep_hit hk]
        first
          | (show ∀ j ∈ L.erase k ++ [k], j ∈ addT D k
             intro j hj
             rw [mem_addT]
             rcases List.mem_append.mp hj with z | z
             · exact .inl (h0 j (List.mem_of_mem_erase z))
             · exact .inr (List.mem_singleton.mp z))
          | (exact ndk _ (nd.erase k) fun z => (nd.mem_erase_iff.mp z).1 rfl)
          | (show f = p + ((L.erase k ++ [k]).length : Nat)
             have := List.length_pos_of_mem hk
             rw [List.length_append, List.length_erase_of_mem hk, List.length_singleton]
             omega)
      · by_cases hf : L.length = m
        · cases L with
          | nil =>
            have : 0 = m := hf
            omega
          | cons y L =>
            obtain ⟨n1, n2⟩ := List.nodup_cons.mp nd
            rw [fstep_full hk hf]
            first
              | (show ∀ j ∈ L ++ [k], j ∈ addT (D.filter _) k
                 intro j hj
                 rw [mem_addT, List.mem_filter]
                 rcases List.mem_append.mp hj with z | z
                 · exact .inl ⟨h0 j (List.mem_cons_of_mem _ z), decide_eq_true (show j ≠ y from fun w => n1 (by rw [← w]; exact z))⟩
                 · exact .inr (List.mem_singleton.mp z))
              | (exact ndk _ n2 fun z => hk (List.mem_cons_of_mem _ z))
              | (show f + 1 = p + (if y ∈ D then 1 else 0) + ((L ++ [k]).length : Nat)
                 rw [if_pos (h0 y (List.mem_cons_self ..)), List.length_append, List.length_singleton]
                 rw [List.length_cons] at h1
                 omega)
        · rw [fstep_more hk hf]
          first
            | (show ∀ j ∈ L ++ [k], j ∈ addT D k
               intro j hj
               rw [mem_addT]
               rcases List.mem_append.mp hj with z | z
               · exact .inl (h0 j z)
               · exact .inr (List.mem_singleton.mp z))
            | (exact ndk _ nd hk)
            | (show f + 1 = p + ((L ++ [k]).length : Nat)
               rw [List.length_append, List.length_singleton]
               omega)
theorem dd_fold : ∀ (bs r : List Int), bs.foldl dstep (dd r) = dd (bs.reverse ++ r)
  | [], r => rfl
  | k :: bs, r => by
    rw [List.foldl_cons, show dstep (dd r) k = dd (k :: r) from rfl, dd_fold bs (k :: r), List.reverse_cons, List.append_assoc]
    rfl
theorem line_len {m : Nat} (hm : 1 ≤ m) (qs : List (Bool × Int)) : (fore m qs).1.length = min m ((qs.map (·.2)).foldl dstep []).length := by
  rw [← List.length_reverse, line_is hm, List.length_take, show ([] : List Int) = dd [] from rfl, dd_fold, List.append_nil]
  rfl
/-- what is told of a sweep of one word -/
theorem told_of {m : Nat} (hm : 1 ≤ m) {wr : Bool} {qs : List (Bool × Int)} (h : ∀ q ∈ qs, q.1 = wr) {f n : Nat} (hf : mcd m [] (qs.map (·.2)) = f) (hn : ((qs.map (·.2)).foldl dstep []).length = n) :
    (fore m qs).2.2.1 = f ∧ (fore m qs).2.2.2 = if wr then (f : Int) - min m n else 0 := by
  have e := fore_f hm qs
  rw [hf] at e
  refine ⟨e, ?_⟩
  cases wr with
  | false => exact all_read m qs ([], [], 0, 0) h rfl
  | true =>
    have := all_write hm qs ([], [], 0, 0) h (fun j hj => by cases hj) List.nodup_nil rfl
    have : (fore m qs).2.2.1 = (fore m qs).2.2.2 + ((fore m qs).1.length : Nat) := this
    rw [line_len hm, hn, e] at this
    show _ = (f : Int) - _
    omega
end K33
namespace K33
open PySem PySem.Spec PyProof.Rows L2 Lw
local macro_rules | `(tactic| walk_at "ev") => `(tactic| simp only [cxOf, tPar3, tCallN, iKeysF, tLockE, tDisp1F, mergeK_one, tYes, iRng3, ex_ints, ex_any, tML, tML0, tMD, tTupN, tLstN, tDNewN, rSlL2, rCatF, rRepF, tRevF, rListF, rMaxF, tDGetF, tDGet1F, tDGet2F, tDPop1F, tDPop2F, sDPutF, tLenSetF, tSl, tPart, tNoPart, ipI, rIsiF, Tz_non, Tz_bl, Tz_int, Tz_str, Cl7_int, Cl7_bool, Cl7_str, Cl7_list, Cl7_tuple, Cl7_dict, T7.isa, iListF, iTupF, cpow12, cpow60, tFor_eq, tLc_eq, iRng1, iRng2, wipe, Cx.nox, Cx.wish, tSeq, tIfS, tTest, tOp, tVar, tC, tRet, tRetN, tCB, tCons, tNil, tB, tNot, tAnd, tOr, tAndV, tOrV, tNotV, tIf, rEq, rNe, scal_ii, scal_bb, scal_ss, scal_nn, scal_si, scal_is, scal_in, scal_ni, Bool.or_true, Bool.true_or, Bool.or_false, Bool.false_or, Bool.and_true, Bool.true_and, Bool.and_false, Bool.false_and, rI, rI0, rU, tUn, t2I, tAsg, gName, tPar, tDrop, tLst, tTup, tCall, tNext, tBreak, tCont, tAug, rAdd, gTup, gTupF, gCons, gNil, gSub, rIxF, rLenF, rSetF, rAppF, rExtF, rPop0, rRemF, rInF, rDUpd, Nt_int, Op_some, Ky_int, Ky_str,
  List.map_cons, List.map_nil, List.cons_append, List.nil_append, List.append_nil, List.getElem?_cons_zero, List.getElem?_cons_succ, List.set_cons_zero, List.set_cons_succ, List.length_cons, List.length_nil, Option.some.injEq, exists_eq_left', exists_eq_left, exists_eq_right, V.int.injEq, V.ref.injEq, V.bl.injEq, V.str.injEq, V.ty.injEq, List.cons.injEq, and_true, true_and, and_assoc, reduceCtorEq, decide_eq_true_eq, decide_true, decide_false, if_true, if_false, ite_true, ite_false, Bool.false_eq_true, false_and, and_false, exists_false, exists_const, or_false, false_or, Bool.not_eq_true', decide_eq_false_iff_not, List.replicate_succ, List.replicate_zero, Nat.reduceSub, Nat.reduceAdd, Int.reducePow, Int.reduceNeg, exists_and_left, exists_and_right, atI_0, atI_1, atI_2, ixN_0, ixN_1, ixN_2, L2.start, upd_upd, Sq_upd, Sq_updT, Tp_upd, Ls_upd, Dk_upd, Int.reduceLT, Int.reduceLE, Nat.reduceLT, Nat.reduceLeDiff, forall_eq', forall_eq, id, Int.zero_add, Bool.not_true, Bool.not_false, not_true_eq_false, not_false_eq_true, ne_eq])
/-! ### calls with keywords -/
def KnK (P : Program) (w : World) (K : PySem.W.Frag) (mg : Str → Option Value) (base : Heap) (x : Str) (ps : List Str) (n : Nat) (ks : List Str) (gV : List V → List V → List V) (k : Nat) (sp : Sp) : Prop :=
  ∃ f fd g, FnOk P w K mg base CX0 k f fd ps sp ∧ mg x = some (.ref f) ∧ PySem.W.keepIn K (.ref f) = true ∧ KBn K fd ps n ks g gV
def KnD (P : Program) (w : World) (K : PySem.W.Frag) (mg : Str → Option Value) (base : Heap) (x : Str) (ps : List Str) (dvs : List V) (k : Nat) (sp : Sp) : Prop :=
  ∃ f fd ds, FnOk P w K mg base CX0 k f fd ps sp ∧ mg x = some (.ref f) ∧ PySem.W.keepIn K (.ref f) = true ∧ Binds K fd ps ds ∧ Vals dvs ds
theorem pe_knK {X : Cx} {x : Str} {ps : List Str} {n k : Nat} {ks : List Str} {gV : List V → List V → List V} {sp : Sp} {p pos : Pos} {e : Expr} {es : List Expr} {kws : List Keyword} {t tk : TA} (c : KnK X.prog X.w X.K X.mg X.base x ps n ks gV k sp) (hr : Room k X.A) (hg : Gl X x)
    (ha : PA X (e :: es) t) (hkw : PK X kws tk) (hall : (backToKw pos (keywordEach kws X.env)).all (·.1.isSome) = true := by rfl) (hks : (backToKw pos (keywordEach kws X.env)).filterMap (·.1) = ks := by rfl)
    (hdb : (x == ("__debug__" : Str)) = false := by decide) (he : starEach (e :: es) X.env = (false, eval e X.env) :: starEach es X.env := by rfl)
    (hpl : ((backTo pos (starEach (e :: es) X.env)).any (·.1) || (backToKw pos (keywordEach kws X.env)).any (·.1.isNone)) = false := by rfl) :
    PE X (.Call (.Name x p) (e :: es) kws pos) (tCallN n ks.length sp gV E0 t tk) := by
  obtain ⟨f, fd, g, G, m, kp, b⟩ := c
  exact pe_callN G hr hg m kp b pass0 ha hkw hall hks hdb he hpl
theorem pe_knD {X : Cx} {x : Str} {ps : List Str} {k : Nat} {dvs : List V} {sp : Sp} {p pos : Pos} {e : Expr} {es : List Expr} {t : TA} (c : KnD X.prog X.w X.K X.mg X.base x ps dvs k sp) (hr : Room k X.A) (hg : Gl X x)
    (ha : PA X (e :: es) t) (hdb : (x == ("__debug__" : Str)) = false := by decide) (he : starEach (e :: es) X.env = (false, eval e X.env) :: starEach es X.env := by rfl) (hpl : (backTo pos (starEach es X.env)).any (·.1) = false := by rfl) :
    PE X (.Call (.Name x p) (e :: es) [] pos) (tCall sp dvs E0 t) := by
  obtain ⟨f, fd, ds, G, m, kp, b, hd⟩ := c
  exact pe_call G hr hg m kp b hd pass0 ha hdb he hpl
section
variable {P : Program} {w : World} {K : PySem.W.Frag} {mg : Str → Option Value} {base : Heap}
def kwF : List (Str × V) := [("block", .int 4), ("within", .int 4)]
theorem kn_foreK {f : Addr} {fd : FuncData} (F : FunD K "foretold" "foretold" (defArgs sForetold) (defBody sForetold) (defScope sForetold) [] kwF f fd) (hm : mg "foretold" = some (.ref f)) (T : Bt mg) :
    KnK P w K mg base "foretold" ["asks", "block", "within"] 1 ["block", "within"] (fun vs zs => vs ++ zs) 1 spFore := by
  obtain ⟨mv, b⟩ := F.kbinds0 (ps := ["asks", "block", "within"]) 1 ["block", "within"] [] (fun us _ ws => us ++ ws) (by decide) (fun q hq => nomatch hq) (fun r1 _ r3 => r1.append r3) (fun D doc pm an cdv ct us mv ws h1 h2 h3 => match us, mv, ws, h1, h2, h3 with
    | [_], [], [_, _], _, _, _ => rfl)
  exact ⟨f, fd, _, body_fore F T, hm, F.kp, b⟩
theorem kn_foreD {f : Addr} {fd : FuncData} (F : FunD K "foretold" "foretold" (defArgs sForetold) (defBody sForetold) (defScope sForetold) [] kwF f fd) (hm : mg "foretold" = some (.ref f)) (T : Bt mg) :
    KnD P w K mg base "foretold" ["asks", "block", "within"] [.int 4, .int 4] 1 spFore := by
  obtain ⟨ds, r, b⟩ := F.binds0 (ps := ["asks", "block", "within"]) 1 (by decide) rfl (fun D doc pm an cdv ct us mv h1 h2 => match us, mv, h1, h2 with
    | [_], [_, _], _, _ => ⟨_, _, _, _, _, _, rfl, rfl, _, _, _, _, _, _, rfl, rfl, rfl⟩)
  exact ⟨f, fd, ds, body_fore F T, hm, F.kp, b, r⟩
/-! ### data -/
def askD (q : Bool × Int) : PyData := .tuple [.str (wd q.1), .int q.2]
theorem asks_dq {H : Hp} : ∀ {ys : List V} {qs : List (Bool × Int)}, Asks H ys qs → DqAll H ys (qs.map askD)
  | [], [], _ => .nil
  | [], q :: qs, h => by cases h.1
  | y :: ys, [], h => by cases h.1
  | y :: ys, q :: qs, h => by
    obtain ⟨v, e1, t, e2, e3⟩ := h.2 0 q rfl
    have e1 : y = v := by simpa using e1
    subst e1
    subst e2
    refine .cons (.tup e3 (.cons (.str _) (.cons (.int _) .nil))) (asks_dq ⟨by simpa using h.1, fun i q e => ?_⟩)
    have := h.2 (i + 1) q (by simpa using e)
    simpa using this
theorem keyed1 (b : Int) (qs : List (Bool × Int)) : (keyed b qs).map (·.1) = qs.map (·.1) := by
  unfold keyed
  rw [List.map_map]
  rfl
theorem keyed2 (b : Int) (qs : List (Bool × Int)) : (keyed b qs).map (·.2) = qs.map fun q => q.2 / b := by
  unfold keyed
  rw [List.map_map]
  rfl
def spRow : Sp := fun vs H Q _ => ∃ j : Addr, vs = [.ref j] ∧ JarAt H j ∧ ∀ H', Kb j H H' → JarAt H' j → Q (.bl true) H'
theorem scRow : FnScope ["jar", "asks", "width", "blocks_now", "elder", "distances", "behind_now", "last", "most_in", "told_now", "turns_now", "owed", "word", "at", "k"] ["jar"] (defScope sRow) := ⟨rfl, rfl, rfl, by decide +kernel, rfl, by decide +kernel, by decide +kernel⟩
theorem ok_row (F : Def1 K mg "_law_fd_row_right" sRow) (T : Bt mg) (c_yq_same : Kn P w K mg base "_law_yq_same" ["heard_one", "owed"] 5 (spSame 3)) (c_fd_drawn : Kn P w K mg base "_law_fd_drawn" ["jar"] 3 spDrawn) (c_fd_distances : Kn P w K mg base "_law_fd_distances" ["blocks_now"] 1 spDist) (c_fd_behind : Kn P w K mg base "_law_fd_behind" ["blocks_now"] 1 spBehind)
    (c_fd_counts : Kn P w K mg base "_law_fd_counts" ["asks", "blocks_now", "distances", "behind_now", "most_in"] 1 spCounts) (c_foretold_bw : KnK P w K mg base "foretold" ["asks", "block", "within"] 1 ["block", "within"] (fun vs zs => vs ++ zs) 1 spFore) (c_foretold : KnD P w K mg base "foretold" ["asks", "block", "within"] [.int 4, .int 4] 1 spFore) :
    Kn P w K mg base "_law_fd_row_right" ["jar"] 6 spRow := by
  refine kn_of F scRow (fun vs H Q E h => ?_) (fun _ _ _ _ _ _ us hl => match us, hl with | [_], _ => rfl) (fun f cdv A outer s H vs Q E hr h => ?_)
  · obtain ⟨j, rfl, _⟩ := h
    rfl
  · obtain ⟨j, rfl, hj, q⟩ := h
    refine ⟨_, (pss_cons (ps_asg (pe_kn c_fd_drawn (hr.mono (by decide)) (by rfl) (pa_cons (pv 0) pa_nil)) (pg_tupF 2 (by rfl) (pgs_cons (pg_name (i := 1) scRow.nd rfl (Or.inl rfl)) (pgs_cons (pg_name (i := 2) scRow.nd rfl (Or.inr rfl)) pgs_nil))))
      (pss_cons (ps_asg (pe_tupN (pa_cons (pe_lc (own := [("word", 12), ("at", 13)]) (by rfl) scRow.nd (pi_listF (pv 1)) (blkOk_by (N := ["jar", "asks", "width", "blocks_now", "elder", "distances", "behind_now", "last", "most_in", "told_now", "turns_now", "owed", "word", "at", "k"]) (sc := defScope sRow) (by decide +kernel)) (fun _ _ _ _ _ => (pg_tupF 2 (by rfl) (pgs_cons (pg_name (i := 12) scRow.nd rfl (Or.inl rfl)) (pgs_cons (pg_name (i := 13) scRow.nd rfl (Or.inl rfl)) pgs_nil)))) (fun _ _ _ _ _ => pts_nil) (fun _ _ _ _ _ => (pe_op op_fdivW (pv 13) (pv 2)))) (pa_cons (pe_callTy call_listF (by rfl) T.list (by decide +kernel) (pa_cons (pv 1) pa_nil)) pa_nil))) (pg_tupF 2 (by rfl) (pgs_cons (pg_name (i := 3) scRow.nd rfl (Or.inr rfl)) (pgs_cons (pg_name (i := 4) scRow.nd rfl (Or.inl rfl)) pgs_nil))))
      (pss_cons (ps_par3 (i := 5) (j := 6) (l := 7) (by rfl) scRow.nd rfl rfl rfl (by decide) (by decide) (by decide) rfl rfl rfl (pa_cons (pe_kn c_fd_distances (hr.mono (by decide)) (by rfl) (pa_cons (pv 3) pa_nil)) (pa_cons (pe_kn c_fd_behind (hr.mono (by decide)) (by rfl) (pa_cons (pv 3) pa_nil)) (pa_cons pe_non pa_nil))) (by rfl))
      (pss_cons (ps_for PassesOwn.never rfl (pi_range2 (by rfl) T.range (pa_cons pe_int (pa_cons pe_int pa_nil))) (pg_name (i := 8) scRow.nd rfl (Or.inl rfl)) (pss_cons (ps_set (i := 9) scRow.nd rfl (Or.inl rfl) (pe_knK c_foretold_bw (hr.mono (by decide)) (by rfl) (pa_cons (pv 1) pa_nil) (pk_cons (pv 2) (pk_cons (pv 8) pk_nil))))
      (pss_cons (ps_if (pt_not (pt_val (pe_kn c_yq_same (hr.mono (by decide)) (by rfl) (pa_cons (pv 9) (pa_cons (pe_kn c_fd_counts (hr.mono (by decide)) (by rfl) (pa_cons (pv 1) (pa_cons (pv 3) (pa_cons (pv 5) (pa_cons (pv 6) (pa_cons (pv 8) pa_nil)))))) pa_nil))))) (pss_one (ps_ret pe_bl)) pss_nil)
      (pss_cons (ps_if (PW.pt (pw_and (pt_cmpR op_notN (pv 7) pe_non (nomark _)) (pw_and1 (pt_cmpR op_gt (pe_ix ix_f (pv 9) pe_int (fun _ _ => rfl)) (pv 7) (nomark _))))) (pss_one (ps_ret pe_bl)) pss_nil)
      (pss_one (ps_set (i := 7) scRow.nd rfl (Or.inl rfl) (pe_ix ix_f (pv 9) pe_int (fun _ _ => rfl))))))))
      (pss_cons (ps_set (i := 10) scRow.nd rfl (Or.inl rfl) (pe_callB call_lenF (by rfl) T.len (by decide +kernel) (pa_cons (pe_lc (own := [("k", 14)]) (by rfl) scRow.nd (pi_range1 (by rfl) T.range (pa_cons (pe_callB call_lenF (by rfl) T.len (by decide +kernel) (pa_cons (pv 1) pa_nil)) pa_nil)) (blkOk_by (N := ["jar", "asks", "width", "blocks_now", "elder", "distances", "behind_now", "last", "most_in", "told_now", "turns_now", "owed", "word", "at", "k"]) (sc := defScope sRow) (by decide +kernel)) (fun _ _ _ _ _ => (pg_name (i := 14) scRow.nd rfl (Or.inl rfl))) (fun _ _ _ _ _ => (pts_one (PW.pt (pw_or (pt_cmpR op_eq (pv 14) pe_int (nomark _)) (pw_or1 (pt_cmpR op_ne (pe_ix ix_f (pv 3) (pv 14) (fun _ _ => rfl)) (pe_ix ix_f (pv 3) (pe_op op_sub (pv 14) pe_int) (fun _ _ => rfl)) (nomark _))))))) (fun _ _ _ _ _ => (pv 14))) pa_nil)))
      (pss_cons (ps_if (PW.pt (pw_or (pt_cmpR op_ne (pe_ix ix_f (pe_knK c_foretold_bw (hr.mono (by decide)) (by rfl) (pa_cons (pv 1) pa_nil) (pk_cons (pv 2) (pk_cons pe_int pk_nil))) pe_int (fun _ _ => rfl)) (pv 10) (nomark _)) (pw_or1 (pt_not (pt_val (pe_kn c_yq_same (hr.mono (by decide)) (by rfl) (pa_cons (pv 1) (pa_cons (pv 4) pa_nil)))))))) (pss_one (ps_ret pe_bl)) pss_nil)
      (pss_cons (ps_set (i := 3) scRow.nd rfl (Or.inr rfl) (pe_lc (own := [("word", 12), ("at", 13)]) (by rfl) scRow.nd (pi_listF (pv 1)) (blkOk_by (N := ["jar", "asks", "width", "blocks_now", "elder", "distances", "behind_now", "last", "most_in", "told_now", "turns_now", "owed", "word", "at", "k"]) (sc := defScope sRow) (by decide +kernel)) (fun _ _ _ _ _ => (pg_tupF 2 (by rfl) (pgs_cons (pg_name (i := 12) scRow.nd rfl (Or.inl rfl)) (pgs_cons (pg_name (i := 13) scRow.nd rfl (Or.inl rfl)) pgs_nil)))) (fun _ _ _ _ _ => pts_nil) (fun _ _ _ _ _ => (pe_op op_fdivW (pv 13) pe_int))))
      (pss_cons (ps_set (i := 6) scRow.nd rfl (Or.inl rfl) (pe_kn c_fd_behind (hr.mono (by decide)) (by rfl) (pa_cons (pv 3) pa_nil)))
      (pss_cons (ps_set (i := 11) scRow.nd rfl (Or.inl rfl) (pe_kn c_fd_counts (hr.mono (by decide)) (by rfl) (pa_cons (pv 1) (pa_cons (pv 3) (pa_cons (pe_kn c_fd_distances (hr.mono (by decide)) (by rfl) (pa_cons (pv 3) pa_nil)) (pa_cons (pv 6) (pa_cons pe_int pa_nil)))))))
      (pss_one (ps_ret (pe_kn c_yq_same (hr.mono (by decide)) (by rfl) (pa_cons (pe_knD c_foretold (hr.mono (by decide)) (by rfl) (pa_cons (pv 1) pa_nil)) (pa_cons (pv 11) pa_nil)))))))))))))), ?_⟩
    walk_at "ev"
    refine ⟨j, rfl, hj, fun p a wd ys qs H1 kb1 J1 np hp na ha hq hlen w1 w2 => ?_⟩
    simp only [Tp_tup hp]
    walk_at "ev"
    have big : (100001 : Nat) < sizeLine := by decide
    have lys : ys.length = qs.length := hq.1
    simp only [Ls_lst ha]
    -- the blocks
    refine lcp_list (xs := ys) (fun D i H' => Same H1 H' ∧ H' D = some (.lst (((qs.map fun q => q.2 / wd).take i).map V.int))) ?_ ?_ ?_ ?_
    · exact fun D hD => ⟨(newf hD rfl).1, upd_same⟩
    · exact fun D i H' _ ⟨sm, _⟩ => sm _ _ ha
    · rintro D i x H' hD hx ⟨sm, e⟩
      have hi : i < qs.length := by
        have := (List.getElem?_eq_some_iff.mp hx).1
        omega
      obtain ⟨y, e1, t, rfl, e2⟩ := (hq.same sm).2 i qs[i] (List.getElem?_eq_getElem hi)
      rw [hx] at e1
      cases e1
      simp only [gTupF, Tp_tup e2]
      walk_at "ev"
      have hbl : (((qs.map fun q => q.2 / wd).take i).map V.int).length < sizeLine := by
        rw [List.length_map, List.length_take]
        omega
      refine ⟨⟨by omega, Nat.lt_of_lt_of_le (PySem.Flt.log2_lt_of (k := 30) (by decide) (by omega)) (by decide)⟩, _, e, hbl, same_chg sm fun b o h => ne_of_none h hD, ?_⟩
      rw [upd_same, List.take_add_one, List.getElem?_map, List.getElem?_eq_getElem hi]
      simp
    · intro D H2 hD ⟨sm2, e2⟩
      rw [List.take_of_length_le (by rw [List.length_map]; omega)] at e2
      generalize hbs : (qs.map fun q => q.2 / wd) = bs at *
      have lbs : bs.length = qs.length := by rw [← hbs, List.length_map]
      have k1 := keyed1 wd qs
      have k2 := keyed2 wd qs
      rw [hbs] at k2
      simp only [Sq_lst (sm2 _ _ ha)]
      refine Nw.intro fun el H3 c3 => ⟨by decide, Nw.intro fun p4 H4 c4 => ?_⟩
      simp only [Tp_tup c4.it]
      walk_at "ev"
      have s4 : Same H1 H4 := sm2.trans (c3.same.trans c4.same)
      have hB : H4 D = some (.lst (bs.map V.int)) := c4.same _ _ (c3.same _ _ e2)
      have hEl : H4 el = some (.lst ys) := c4.same _ _ c3.it
      refine ⟨D, bs, rfl, hB, by omega, fun pd H5 s5 nd5 hd5 => ?_⟩
      refine ⟨D, bs, rfl, s5 _ _ hB, by omega, fun ph H6 kvs s6 nh6 hh6 hval => ?_⟩
      have t6 : Same H4 H6 := s5.trans s6
      have hd6 := s6 _ _ hd5
      have fore_told : ∀ (m : Nat) (G : Hp), Same H6 G → 1 ≤ m → m ≤ 64 → ∀ {k : VK}, (∀ p G', Same G G' → G' p = some (.tup [.int (cfetched m bs : Nat), .int (cput m (qs.map (·.1)) bs)]) → k (.ref p) G') → spFore [.ref a, .int wd, .int m] G k E0 := fun m G sG hm1 hm2 k hk => by
        refine ⟨a, wd, m, ys, qs, rfl, sG _ _ (t6 _ _ (s4 _ _ ha)), hq.same (s4.trans (t6.trans sG)), by omega, w1, by omega, hm1, by omega, fun p G' sp _ hp => hk p G' sp ?_⟩
        obtain ⟨r1, r2⟩ := told_right hm1 (keyed wd qs)
        rw [k1, k2] at r2
        rw [k2] at r1
        rw [hp, r1, r2]
      refine lp_range (fun i σ H' => Same H6 H' ∧ ∃ x8 x9, σ = [some (.ref j), some (.ref a), some (.int wd), some (.ref D), some (.ref el), some (.ref pd), some (.ref ph), some (if i = 0 then V.non else .int (cfetched i bs : Nat)), x8, x9, none, none, none, none, none]) ?_ ?_ ?_
      · exact ⟨fun _ _ h => h, _, _, rfl⟩
      · rintro i σ H' hi ⟨sm, x8, x9, rfl⟩
        have hi : i < 64 := hi
        walk_at "ev"
        rw [show (1 + (i : Int)) = ((i + 1 : Nat) : Int) by omega]
        refine fore_told (i + 1) H' sm (by omega) (by omega) fun pt G1 sg1 ht1 => ?_
        have q1 : Same H6 G1 := sm.trans sg1
        refine ⟨a, D, pd, ph, i + 1, ys, qs, bs, kvs, rfl, q1 _ _ (t6 _ _ (s4 _ _ ha)), hq.same (s4.trans (t6.trans q1)), q1 _ _ (t6 _ _ hB), lbs, by omega, q1 _ _ hd6, q1 _ _ hh6, hval, fun pc G2 sg2 _ hc2 => ?_⟩
        refine ⟨.ref pt, .ref pc, _, rfl, .tup (sg2 _ _ ht1) (.cons (.int _) (.cons (.int _) .nil)), .tup hc2 (.cons (.int _) (.cons (.int _) .nil)), rfl, ?_⟩
        walk_at "ev"
        have ht2 := sg2 _ _ ht1
        have fin : Same H6 G2 := q1.trans sg2
        by_cases h0 : i = 0
        · subst h0
          simp only [if_true, Sq_tup ht2]
          walk_at "ev"
          exact fin
        · simp only [if_neg h0, Sq_tup ht2]
          walk_at "ev"
          have := cfetched_mono i bs
          rw [if_neg (by omega)]
          exact fin
      · rintro σ H7 ⟨s7, x8, x9, rfl⟩
        walk_at "ev"
        have z7 : Same H1 H7 := s4.trans (t6.trans s7)
        have ha7 := z7 _ _ ha
        simp only [Sq_lst ha7]
        refine ⟨by omega, by omega, ?_⟩
        have hlen2 : ys.length = bs.length := by omega
        refine lcp_range (fun D2 i H' => Same H7 H' ∧ H' D2 = some (.lst (((List.range i).filter fun k => decide (k = 0 ∨ bs.getD k 0 ≠ bs.getD (k - 1) 0)).map fun k => V.int (k : Nat)))) ?_ ?_ ?_
        · exact fun D2 hD2 => ⟨(newf hD2 rfl).1, upd_same⟩
        · rintro D2 i H' hD2 hi ⟨sm, e⟩
          have hi2 : i < bs.length := by omega
          have hB7 : H' D = some (.lst (bs.map V.int)) := sm _ _ (s7 _ _ (t6 _ _ hB))
          have hgb : ∀ k : Nat, k < bs.length → (bs.map V.int)[k]? = some (.int (bs.getD k 0)) := fun k hk => by
            rw [List.getElem?_map, List.getElem?_eq_getElem hk]
            simp [hk]
          have hll : (((List.range i).filter fun k => decide (k = 0 ∨ bs.getD k 0 ≠ bs.getD (k - 1) 0)).map fun k => V.int (k : Nat)).length < sizeLine := by
            rw [List.length_map]
            have := List.length_filter_le (fun k => decide (k = 0 ∨ bs.getD k 0 ≠ bs.getD (k - 1) 0)) (List.range i)
            rw [List.length_range] at this
            omega
          rw [List.range_succ, List.filter_append, List.map_append]
          walk_at "ev"
          by_cases h0 : (i : Int) = 0
          · rw [if_pos h0]
            have h0' : i = 0 := by omega
            subst h0'
            refine ⟨_, e, hll, same_chg sm fun b o h => ne_of_none h hD2, ?_⟩
            rw [upd_same]
            rfl
          · rw [if_neg h0]
            have h0' : i ≠ 0 := by omega
            simp only [Sq_lst hB7, show ((i : Int) - 1) = ((i - 1 : Nat) : Int) by omega, atI_natE, hgb i hi2, hgb (i - 1) (by omega), Op_some]
            walk_at "ev"
            by_cases h1 : bs.getD i 0 = bs.getD (i - 1) 0
            · rw [if_neg (by simpa using h1)]
              refine ⟨sm, ?_⟩
              rw [e, List.filter_cons, if_neg (fun z => (of_decide_eq_true z).elim h0' fun y => y h1)]
              simp
            · rw [if_pos (by simpa using h1)]
              refine ⟨_, e, hll, same_chg sm fun b o h => ne_of_none h hD2, ?_⟩
              rw [upd_same, List.filter_cons, if_pos (decide_eq_true (Or.inr h1))]
              simp
        · rintro D2 H8 hD2 ⟨s8, e8⟩
          have e8l : (((List.range ((ys.length : Int)).toNat).filter fun k => decide (k = 0 ∨ bs.getD k 0 ≠ bs.getD (k - 1) 0)).map fun k => V.int (k : Nat)).length = cfetched 1 bs := by
            rw [List.length_map, turns_is]
            unfold turns
            rw [hlen2]
            rfl
          simp only [Sq_lst e8, e8l]
          have q8 : Same H6 H8 := s7.trans s8
          refine fore_told 1 H8 q8 (by decide) (by decide) fun pt H9 s9 ht9 => ?_
          simp only [Sq_tup ht9]
          walk_at "ev"
          have q9 : Same H6 H9 := q8.trans s9
          have z9 : Same H1 H9 := s4.trans (t6.trans q9)
          have dq9 := asks_dq (hq.same z9)
          refine ⟨.ref a, .ref el, _, rfl, .lst (z9 _ _ ha) dq9, .lst (q9 _ _ (t6 _ _ hEl)) dq9, ?_, ?_⟩
          · show (decide ((qs.map askD).length ≤ 1000000) && (qs.map askD).all (okd 1)) = true
            rw [List.length_map, decide_eq_true (show qs.length ≤ 1000000 by omega), List.all_map]
            rw [Bool.true_and, List.all_eq_true]
            exact fun q _ => rfl
          · walk_at "ev"
            have ha9 := z9 _ _ ha
            simp only [Ls_lst ha9]
            refine lcp_list (xs := ys) (fun D i H' => Same H9 H' ∧ H' D = some (.lst (((qs.map fun q => q.2 / 4).take i).map V.int))) ?_ ?_ ?_ ?_
            · exact fun D hD => ⟨(newf hD rfl).1, upd_same⟩
            · exact fun D i H' _ ⟨sm, _⟩ => sm _ _ ha9
            · rintro D i x H' hD hx ⟨sm, e⟩
              have hi : i < qs.length := by
                have := (List.getElem?_eq_some_iff.mp hx).1
                omega
              obtain ⟨y, e1, t, rfl, e2⟩ := (hq.same (z9.trans sm)).2 i qs[i] (List.getElem?_eq_getElem hi)
              rw [hx] at e1
              cases e1
              simp only [gTupF, Tp_tup e2]
              walk_at "ev"
              have hbl : (((qs.map fun q => q.2 / 4).take i).map V.int).length < sizeLine := by
                rw [List.length_map, List.length_take]
                omega
              refine ⟨⟨by decide, by decide +kernel⟩, _, e, hbl, same_chg sm fun b o h => ne_of_none h hD, ?_⟩
              rw [upd_same, List.take_add_one, List.getElem?_map, List.getElem?_eq_getElem hi]
              simp
            · intro B G1 hB' ⟨g1, eB⟩
              rw [List.take_of_length_le (by rw [List.length_map]; omega)] at eB
              generalize hcs : (qs.map fun q => q.2 / 4) = cs at *
              have lcs : cs.length = qs.length := by rw [← hcs, List.length_map]
              have k1 := keyed1 4 qs
              have k2 := keyed2 4 qs
              rw [hcs] at k2
              refine ⟨B, cs, rfl, eB, by omega, fun ph G2 kvs g2 nh2 hh2 hval => ?_⟩
              refine ⟨B, cs, rfl, g2 _ _ eB, by omega, fun pd G3 g3 nd3 hd3 => ?_⟩
              have z3 : Same H1 G3 := z9.trans (g1.trans (g2.trans g3))
              refine ⟨a, B, pd, ph, 4, ys, qs, cs, kvs, rfl, z3 _ _ ha, hq.same z3, g3 _ _ (g2 _ _ eB), lcs, by omega, hd3, g3 _ _ hh2, hval, fun pc G4 g4 _ hc4 => ?_⟩
              have z4 : Same H1 G4 := z3.trans g4
              refine ⟨a, 4, 4, ys, qs, rfl, z4 _ _ ha, hq.same z4, by omega, by decide, by decide, by decide, by decide, fun pt G5 g5 _ ht5 => ?_⟩
              obtain ⟨r1, r2⟩ := told_right (m := 4) (by decide) (keyed 4 qs)
              rw [k1, k2] at r2
              rw [k2] at r1
              rw [r1, r2] at ht5
              refine ⟨.ref pt, .ref pc, _, rfl, .tup ht5 (.cons (.int _) (.cons (.int _) .nil)), .tup (g5 _ _ hc4) (.cons (.int _) (.cons (.int _) .nil)), rfl, ?_⟩
              have z5 : Same H1 G5 := z4.trans g5
              exact q _ (kb1.trans (Kb.of z5)) (J1.same z5)
end
end K33
namespace K33
open PySem PySem.Spec PyProof.Rows L2 Lw
local macro_rules | `(tactic| walk_at "ev") => `(tactic| simp only [cxOf, tPar3, tCallN, iKeysF, tLockE, tDisp1F, mergeK_one, tYes, iRng3, ex_ints, ex_any, tML, tML0, tMD, tTupN, tLstN, tDNewN, rSlL2, rCatF, rRepF, tRevF, rListF, rMaxF, tDGetF, tDGet1F, tDGet2F, tDPop1F, tDPop2F, sDPutF, tLenSetF, tSl, tPart, tNoPart, ipI, rIsiF, Tz_non, Tz_bl, Tz_int, Tz_str, Cl7_int, Cl7_bool, Cl7_str, Cl7_list, Cl7_tuple, Cl7_dict, T7.isa, iListF, iTupF, cpow12, cpow60, tFor_eq, tLc_eq, iRng1, iRng2, wipe, Cx.nox, Cx.wish, tSeq, tIfS, tTest, tOp, tVar, tC, tRet, tRetN, tCB, tCons, tNil, tB, tNot, tAnd, tOr, tAndV, tOrV, tNotV, tIf, rEq, rNe, scal_ii, scal_bb, scal_ss, scal_nn, scal_si, scal_is, scal_in, scal_ni, Bool.or_true, Bool.true_or, Bool.or_false, Bool.false_or, Bool.and_true, Bool.true_and, Bool.and_false, Bool.false_and, rI, rI0, rU, tUn, t2I, tAsg, gName, tPar, tDrop, tLst, tTup, tCall, tNext, tBreak, tCont, tAug, rAdd, gTup, gTupF, gCons, gNil, gSub, rIxF, rLenF, rSetF, rAppF, rExtF, rPop0, rRemF, rInF, rDUpd, Nt_int, Op_some, Ky_int, Ky_str,
  List.map_cons, List.map_nil, List.cons_append, List.nil_append, List.append_nil, List.getElem?_cons_zero, List.getElem?_cons_succ, List.set_cons_zero, List.set_cons_succ, List.length_cons, List.length_nil, Option.some.injEq, exists_eq_left', exists_eq_left, exists_eq_right, V.int.injEq, V.ref.injEq, V.bl.injEq, V.str.injEq, V.ty.injEq, List.cons.injEq, and_true, true_and, and_assoc, reduceCtorEq, decide_eq_true_eq, decide_true, decide_false, if_true, if_false, ite_true, ite_false, Bool.false_eq_true, false_and, and_false, exists_false, exists_const, or_false, false_or, Bool.not_eq_true', decide_eq_false_iff_not, List.replicate_succ, List.replicate_zero, Nat.reduceSub, Nat.reduceAdd, Int.reducePow, Int.reduceNeg, exists_and_left, exists_and_right, atI_0, atI_1, atI_2, ixN_0, ixN_1, ixN_2, L2.start, upd_upd, Sq_upd, Sq_updT, Tp_upd, Ls_upd, Dk_upd, Int.reduceLT, Int.reduceLE, Nat.reduceLT, Nat.reduceLeDiff, forall_eq', forall_eq, id, Int.zero_add, Bool.not_true, Bool.not_false, not_true_eq_false, not_false_eq_true, ne_eq])
/-! ### lists of asks -/
theorem Asks.nil {H : Hp} : Asks H [] [] := ⟨rfl, fun i q h => by simp at h⟩
theorem Asks.cons {H : Hp} {y : V} {q : Bool × Int} {ys : List V} {qs : List (Bool × Int)} (h : AskIs H y q) (t : Asks H ys qs) : Asks H (y :: ys) (q :: qs) := ⟨by simp [t.1], fun i q2 e => by
  cases i with
  | zero =>
    have e : q = q2 := by simpa using e
    subst e
    exact ⟨y, rfl, h⟩
  | succ i => simpa using t.2 i q2 (by simpa using e)⟩
theorem Asks.out {H : Hp} {y : V} {q : Bool × Int} {ys : List V} {qs : List (Bool × Int)} (h : Asks H (y :: ys) (q :: qs)) : AskIs H y q ∧ Asks H ys qs := by
  obtain ⟨v, e1, e2⟩ := h.2 0 q rfl
  have e1 : y = v := by simpa using e1
  subst e1
  exact ⟨e2, by simpa using h.1, fun i q2 e => by simpa using h.2 (i + 1) q2 (by simpa using e)⟩
theorem Asks.app {H : Hp} {ys2 : List V} {qs2 : List (Bool × Int)} (h2 : Asks H ys2 qs2) : ∀ {ys : List V} {qs : List (Bool × Int)}, Asks H ys qs → Asks H (ys ++ ys2) (qs ++ qs2)
  | [], [], _ => h2
  | [], q :: qs, h => by cases h.1
  | y :: ys, [], h => by cases h.1
  | y :: ys, q :: qs, h => .cons h.out.1 (Asks.app h2 h.out.2)
theorem Asks.app' {H : Hp} {ys ys2 : List V} {qs qs2 : List (Bool × Int)} (h : Asks H ys qs) (h2 : Asks H ys2 qs2) : Asks H (ys ++ ys2) (qs ++ qs2) := Asks.app h2 h
theorem Asks.rev {H : Hp} : ∀ {ys : List V} {qs : List (Bool × Int)}, Asks H ys qs → Asks H ys.reverse qs.reverse
  | [], [], _ => .nil
  | [], q :: qs, h => by cases h.1
  | y :: ys, [], h => by cases h.1
  | y :: ys, q :: qs, h => by
    rw [List.reverse_cons, List.reverse_cons]
    exact Asks.app (.cons h.out.1 .nil) (Asks.rev h.out.2)
theorem Asks.rep {H : Hp} {ys : List V} {qs : List (Bool × Int)} (h : Asks H ys qs) : ∀ n : Nat, Asks H (List.replicate n ys).flatten (List.replicate n qs).flatten
  | 0 => .nil
  | n + 1 => by
    rw [List.replicate_succ, List.replicate_succ, List.flatten_cons, List.flatten_cons]
    exact Asks.app (Asks.rep h n) h
theorem Asks.chg {H : Hp} {l : Addr} {xs : List V} {o : HO} {ys : List V} {qs : List (Bool × Int)} (h : Asks H ys qs) (hl : H l = some (.lst xs)) : Asks (upd H l o) ys qs := ⟨h.1, fun i q e => by
  obtain ⟨v, e1, t, e2, e3⟩ := h.2 i q e
  refine ⟨v, e1, t, e2, ?_⟩
  have : t ≠ l := fun z => by
    rw [z, hl] at e3
    cases e3
  rw [upd_ne this]
  exact e3⟩
/-! ### the sweeps -/
def thQ (wr : Bool) (wi : Int) (n : Nat) : List (Bool × Int) := (List.range n).map fun k : Nat => (wr, (k : Int) * wi + (k : Int) % wi)
def upTo (n : Nat) : List Int := (List.range n).map fun k : Nat => (k : Int)
theorem upTo_nd (n : Nat) : (upTo n).Nodup := by
  unfold upTo
  refine List.pairwise_map.mpr ((List.nodup_range (n := n)).imp fun h z => h (by omega))
theorem upTo_len (n : Nat) : (upTo n).length = n := by
  unfold upTo
  rw [List.length_map, List.length_range]
theorem th_keys {wr : Bool} {wi : Int} (h : 1 ≤ wi) (n : Nat) : (thQ wr wi n).map (fun q => q.2 / wi) = upTo n := by
  unfold thQ upTo
  rw [List.map_map]
  refine List.map_congr_left fun k _ => ?_
  show ((k : Int) * wi + (k : Int) % wi) / wi = k
  rw [Int.add_comm, Int.add_mul_ediv_right _ _ (by omega), Int.ediv_eq_zero_of_lt (Int.emod_nonneg _ (by omega)) (Int.emod_lt_of_pos _ (by omega)), Int.zero_add]
theorem th_len (wr : Bool) (wi : Int) (n : Nat) : (thQ wr wi n).length = n := by
  unfold thQ
  rw [List.length_map, List.length_range]
theorem th_wr {wr : Bool} {wi : Int} {n : Nat} : ∀ q ∈ thQ wr wi n, q.1 = wr := fun q h => by
  obtain ⟨k, _, rfl⟩ := List.mem_map.mp h
  rfl
def wayQ (l : List (Bool × Int)) (go : Nat) : List (Bool × Int) := if go % 2 = 0 then l else l.reverse
def waysQ (l : List (Bool × Int)) (t : Nat) : List (Bool × Int) := ((List.range t).map (wayQ l)).flatten
theorem waysQ_succ (l : List (Bool × Int)) (t : Nat) : waysQ l (t + 1) = waysQ l t ++ wayQ l t := by
  unfold waysQ
  rw [List.range_succ, List.map_append, List.flatten_append]
  simp
theorem waysQ_keys (g : Bool × Int → Int) (l : List (Bool × Int)) (t : Nat) : (waysQ l t).map g = ways (l.map g) t := by
  unfold waysQ ways
  rw [List.map_flatten, List.map_map]
  congr 1
  refine List.map_congr_left fun k _ => ?_
  show (wayQ l k).map g = way (l.map g) k
  unfold wayQ way
  split
  · rfl
  · rw [List.map_reverse]
theorem waysQ_wr {l : List (Bool × Int)} {wr : Bool} (h : ∀ q ∈ l, q.1 = wr) (t : Nat) : ∀ q ∈ waysQ l t, q.1 = wr := fun q hq => by
  unfold waysQ at hq
  obtain ⟨x, hx, hq⟩ := List.mem_flatten.mp hq
  obtain ⟨k, _, rfl⟩ := List.mem_map.mp hx
  unfold wayQ at hq
  split at hq
  · exact h q hq
  · exact h q (List.mem_reverse.mp hq)
theorem waysQ_len (l : List (Bool × Int)) : ∀ t, (waysQ l t).length = t * l.length
  | 0 => by simp [waysQ]
  | t + 1 => by
    rw [waysQ_succ, List.length_append, waysQ_len l t, Nat.add_mul, Nat.one_mul]
    congr 1
    unfold wayQ
    split
    · rfl
    · exact List.length_reverse
/-- what is told of both -/
theorem told_sweep {m : Nat} (hm : 1 ≤ m) {wr : Bool} {wi : Int} (hw : 1 ≤ wi) (n t : Nat) : (fore m (keyed wi (List.replicate (t + 1) (thQ wr wi n)).flatten)).2.2.1 = ((n + t * (if m < n then n else 0) : Nat) : Int) ∧
    (fore m (keyed wi (List.replicate (t + 1) (thQ wr wi n)).flatten)).2.2.2 = if wr then ((n + t * (if m < n then n else 0) : Nat) : Int) - (min m n : Nat) else 0 := by
  have e : (keyed wi (List.replicate (t + 1) (thQ wr wi n)).flatten).map (·.2) = (List.replicate (t + 1) (upTo n)).flatten := by
    rw [keyed2, List.map_flatten, List.map_replicate, th_keys hw]
  obtain ⟨h1, h2⟩ := sweep_f m (upTo_nd n) t
  rw [upTo_len] at h1
  refine told_of hm (fun q hq => ?_) (by rw [e, h1]) (by rw [e, h2, List.length_reverse, upTo_len])
  unfold keyed at hq
  obtain ⟨q2, h3, rfl⟩ := List.mem_map.mp hq
  obtain ⟨x, hx, hq⟩ := List.mem_flatten.mp h3
  rw [List.eq_of_mem_replicate hx] at hq
  exact th_wr q2 hq
theorem told_ways {m : Nat} (hm : 1 ≤ m) {wr : Bool} {wi : Int} (hw : 1 ≤ wi) (n t : Nat) : (fore m (keyed wi (waysQ (thQ wr wi n) (t + 1)))).2.2.1 = ((n + t * (n - m) : Nat) : Int) ∧
    (fore m (keyed wi (waysQ (thQ wr wi n) (t + 1)))).2.2.2 = if wr then ((n + t * (n - m) : Nat) : Int) - (min m n : Nat) else 0 := by
  have e : (keyed wi (waysQ (thQ wr wi n) (t + 1))).map (·.2) = ways (upTo n) (t + 1) := by
    rw [keyed2, waysQ_keys, th_keys hw]
  obtain ⟨h1, h2⟩ := ways_f m (upTo_nd n) t
  rw [upTo_len] at h1
  refine told_of hm (fun q hq => ?_) (by rw [e, h1]) (by rw [e, h2, way_len, upTo_len])
  unfold keyed at hq
  obtain ⟨q2, h3, rfl⟩ := List.mem_map.mp hq
  exact waysQ_wr th_wr _ q2 h3
section
variable {P : Program} {w : World} {K : PySem.W.Frag} {mg : Str → Option Value} {base : Heap}
theorem scForm : FnScope ["jar", "many", "most_in", "times_now", "width", "word", "there", "sweep", "ways_now", "go", "less", "fetched", "turned_now", "told_now", "owed", "k"] ["jar"] (defScope sForm) := ⟨rfl, rfl, rfl, by decide +kernel, rfl, by decide +kernel, by decide +kernel⟩
theorem ok_form (F : Def1 K mg "_law_fd_formulas_right" sForm) (T : Bt mg) (c_yq_same : Kn P w K mg base "_law_yq_same" ["heard_one", "owed"] 5 (spSame 3)) (c_take : Kn P w K mg base "_law_take" ["jar", "many"] 1 spTake) (c_one : Kn P w K mg base "_law_one" ["jar", "things"] 2 (spOne K))
    (c_foretold_bw : KnK P w K mg base "foretold" ["asks", "block", "within"] 1 ["block", "within"] (fun vs zs => vs ++ zs) 1 spFore) :
    Kn P w K mg base "_law_fd_formulas_right" ["jar"] 6 spRow := by
  refine kn_of F scForm (fun vs H Q E h => ?_) (fun _ _ _ _ _ _ us hl => match us, hl with | [_], _ => rfl) (fun f cdv A outer s H vs Q E hr h => ?_)
  · obtain ⟨j, rfl, _⟩ := h
    rfl
  · obtain ⟨j, rfl, hj, q⟩ := h
    refine ⟨_, (pss_cons (ps_par3 (i := 1) (j := 2) (l := 3) (by rfl) scForm.nd rfl rfl rfl (by decide) (by decide) (by decide) rfl rfl rfl (pa_cons (pe_op op_add pe_int (pe_kn c_take (hr.mono (by decide)) (by rfl) (pa_cons (pv 0) (pa_cons pe_int pa_nil)))) (pa_cons (pe_op op_add pe_int (pe_kn c_take (hr.mono (by decide)) (by rfl) (pa_cons (pv 0) (pa_cons pe_int pa_nil)))) (pa_cons (pe_op op_add pe_int (pe_kn c_take (hr.mono (by decide)) (by rfl) (pa_cons (pv 0) (pa_cons pe_int pa_nil)))) pa_nil))) (by rfl))
      (pss_cons (ps_asg (pe_tupN (pa_cons (pe_kn c_one (hr.mono (by decide)) (by rfl) (pa_cons (pv 0) (pa_cons (pe_lstN (pa_cons pe_int (pa_cons pe_int (pa_cons pe_int pa_nil)))) pa_nil))) (pa_cons (pe_kn c_one (hr.mono (by decide)) (by rfl) (pa_cons (pv 0) (pa_cons (pe_lstN (pa_cons pe_str (pa_cons pe_str pa_nil))) pa_nil))) pa_nil))) (pg_tupF 2 (by rfl) (pgs_cons (pg_name (i := 4) scForm.nd rfl (Or.inr rfl)) (pgs_cons (pg_name (i := 5) scForm.nd rfl (Or.inr rfl)) pgs_nil))))
      (pss_cons (ps_setLc (i := 6) (own := [("k", 15)]) (by rfl) scForm.nd rfl rfl (sw_true rfl rfl rfl (by decide +kernel)) (pi_range1 (by rfl) T.range (pa_cons (pv 1) pa_nil)) (blkOk_by (N := ["jar", "many", "most_in", "times_now", "width", "word", "there", "sweep", "ways_now", "go", "less", "fetched", "turned_now", "told_now", "owed", "k"]) (sc := defScope sForm) (by decide +kernel)) (fun _ _ _ _ _ => (pg_name (i := 15) scForm.nd rfl (Or.inl rfl))) (fun _ _ _ _ _ => pts_nil) (fun _ _ _ _ _ => (pe_tupN (pa_cons (pv 5) (pa_cons (pe_op op_add (pe_op op_mul (pv 15) (pv 4)) (pe_op op_mod (pv 15) (pv 4))) pa_nil)))))
      (pss_cons (ps_par (i := 7) (j := 8) (by rfl) scForm.nd rfl rfl (by decide) rfl rfl (pa_cons (pe_op op_repF (pv 6) (pv 3)) (pa_cons (pe_lstN pa_nil) pa_nil)) (by rfl))
      (pss_cons (ps_for PassesOwn.never rfl (pi_range1 (by rfl) T.range (pa_cons (pv 3) pa_nil)) (pg_name (i := 9) scForm.nd rfl (Or.inl rfl)) (pss_one (ps_expr (pe_mL PySem.F.slot_list_extend PySem.F.type_list_extend mt_extF (pv 8) (pa_cons (pe_ifExp (pt_cmpR op_eq (pe_op op_mod (pv 9) pe_int) pe_int (nomark _)) (pv 6) (pe_rev (pv 6))) pa_nil)))))
      (pss_cons (ps_set (i := 10) scForm.nd rfl (Or.inl rfl) (pe_callB (call_max2 rfl) (by rfl) T.max (by decide +kernel) (pa_cons pe_int (pa_cons (pe_op op_sub (pv 1) (pv 2)) pa_nil))))
      (pss_cons (ps_set (i := 11) scForm.nd rfl (Or.inl rfl) (pe_ifExp (pt_cmpR op_gt (pv 10) pe_int (nomark _)) (pe_op op_mul (pv 1) (pv 3)) (pv 1)))
      (pss_cons (ps_set (i := 12) scForm.nd rfl (Or.inl rfl) (pe_op op_add (pv 1) (pe_op op_mul (pe_op op_sub (pv 3) pe_int) (pv 10))))
      (pss_cons (ps_set (i := 13) scForm.nd rfl (Or.inl rfl) (pe_lstN (pa_cons (pe_knK c_foretold_bw (hr.mono (by decide)) (by rfl) (pa_cons (pv 7) pa_nil) (pk_cons (pv 4) (pk_cons (pv 2) pk_nil))) (pa_cons (pe_knK c_foretold_bw (hr.mono (by decide)) (by rfl) (pa_cons (pv 8) pa_nil) (pk_cons (pv 4) (pk_cons (pv 2) pk_nil))) pa_nil))))
      (pss_cons (ps_set (i := 14) scForm.nd rfl (Or.inl rfl) (pe_lstN (pa_cons (pe_tupN (pa_cons (pv 11) (pa_cons pe_int pa_nil))) (pa_cons (pe_tupN (pa_cons (pv 12) (pa_cons pe_int pa_nil))) pa_nil))))
      (pss_cons (ps_if (PW.pt (pw_and (pt_cmpR op_eq (pv 5) pe_str (nomark _)) (pw_and1 (pt_cmpR op_gt (pv 10) pe_int (nomark _))))) (pss_one (ps_set (i := 14) scForm.nd rfl (Or.inl rfl) (pe_lstN (pa_cons (pe_tupN (pa_cons (pv 11) (pa_cons (pe_op op_sub (pv 11) (pv 2)) pa_nil))) (pa_cons (pe_tupN (pa_cons (pv 12) (pa_cons (pe_op op_sub (pv 12) (pv 2)) pa_nil))) pa_nil))))) pss_nil)
      (pss_one (ps_ret (pe_kn c_yq_same (hr.mono (by decide)) (by rfl) (pa_cons (pv 13) (pa_cons (pv 14) pa_nil)))))))))))))))), ?_⟩
    walk_at "ev"
    refine ⟨j, 70, rfl, hj, by decide, by decide, fun r1 H1 p1 p2 t1 => ?_⟩
    obtain ⟨k1, J1, _⟩ := t1.kb
    refine ⟨r1, rfl, j, 64, rfl, J1, by decide, by decide, fun r2 H2 p3 p4 t2 => ?_⟩
    obtain ⟨k2, J2, _⟩ := t2.kb
    refine ⟨r2, rfl, j, 4, rfl, J2, by decide, by decide, fun r3 H3 p5 p6 t3 => ?_⟩
    obtain ⟨k3, J3, _⟩ := t3.kb
    obtain ⟨o3, eo3⟩ := J3.some
    refine ⟨r3, rfl, by decide, Nw.intro fun a4 H4 c4 => ?_⟩
    refine ⟨j, a4, _, rfl, J3.same c4.same, (c4.off _ _ eo3).symm, c4.it, by simp, by simp, fun iw v1 H5 hv1 t5 => ?_⟩
    obtain ⟨k5, J5, _⟩ := t5.kb
    obtain ⟨o5, eo5⟩ := J5.some
    refine ⟨by decide, Nw.intro fun a6 H6 c6 => ?_⟩
    refine ⟨j, a6, _, rfl, J5.same c6.same, (c6.off _ _ eo5).symm, c6.it, by simp, by simp, fun iz v2 H7 hv2 t7 => ?_⟩
    obtain ⟨k7, J7, _⟩ := t7.kb
    refine ⟨by decide, Nw.intro fun a8 H8 c8 => ?_⟩
    simp only [Tp_tup c8.it]
    walk_at "ev"
    have K8 : Kb j H H8 := k1.trans (k2.trans (k3.trans ((Kb.of c4.same).trans (k5.trans ((Kb.of c6.same).trans (k7.trans (Kb.of c8.same)))))))
    have J8 : JarAt H8 j := J7.same c8.same
    have hv1 := List.mem_of_getElem? hv1
    have hv2 := List.mem_of_getElem? hv2
    have w1 : ∃ wi : Int, v1 = .int wi ∧ 1 ≤ wi ∧ wi ≤ 64 := by
      simp only [List.mem_cons, List.not_mem_nil, or_false] at hv1
      rcases hv1 with rfl | rfl | rfl
      · exact ⟨1, rfl, by decide, by decide⟩
      · exact ⟨3, rfl, by decide, by decide⟩
      · exact ⟨64, rfl, by decide, by decide⟩
    have w2 : ∃ wr : Bool, v2 = .str (wd wr) := by
      simp only [List.mem_cons, List.not_mem_nil, or_false] at hv2
      rcases hv2 with rfl | rfl
      · exact ⟨false, rfl⟩
      · exact ⟨true, rfl⟩
    obtain ⟨wi, rfl, l1, l2⟩ := w1
    obtain ⟨wr, rfl⟩ := w2
    obtain ⟨n, hn⟩ : ∃ n : Nat, 1 + r1 = (n : Int) := ⟨(1 + r1).toNat, by omega⟩
    obtain ⟨m, hm⟩ : ∃ m : Nat, 1 + r2 = (m : Int) := ⟨(1 + r2).toNat, by omega⟩
    obtain ⟨t, ht⟩ : ∃ t : Nat, 1 + r3 = ((t + 1 : Nat) : Int) := ⟨r3.toNat, by omega⟩
    rw [hn, hm, ht]
    have n1 : 1 ≤ n ∧ n ≤ 70 := by omega
    have m1 : 1 ≤ m ∧ m ≤ 64 := by omega
    have tt1 : t ≤ 3 := by omega
    clear hn hm ht p1 p2 p3 p4 p5 p6 r1 r2 r3 t1 t2 t3 t5 t7 k1 k2 k3 k5 k7 J1 J2 J3 J5 J7 c4 c6 c8 eo3 eo5 hv1 hv2
    refine ⟨by omega, by omega, ?_⟩
    have big : (100001 : Nat) < sizeLine := by decide
    refine lcp_range (fun D i H' => Same H8 H' ∧ ∃ ys, H' D = some (.lst ys) ∧ ys.length = i ∧ Asks H' ys (thQ wr wi i)) ?_ ?_ ?_
    · exact fun D hD => ⟨(newf hD rfl).1, [], upd_same, rfl, .nil⟩
    · rintro D i H' hD hi ⟨sm, ys, e, hl, hq⟩
      walk_at "ev"
      refine ⟨.inr ⟨by omega, by omega⟩, by omega, by decide, Nw.intro fun T G c => ?_⟩
      have eG := c.same _ _ e
      have hi : i < n := by omega
      refine ⟨ys, eG, by omega, same_chg (sm.trans c.same) fun b o h => ne_of_none h hD, ys ++ [.ref T], upd_same, by simp [hl], ?_⟩
      have ez : thQ wr wi (i + 1) = thQ wr wi i ++ [(wr, (i : Int) * wi + (i : Int) % wi)] := by
        unfold thQ
        rw [List.range_succ, List.map_append]
        rfl
      rw [ez]
      exact ((hq.same c.same).app' (.cons ⟨T, rfl, c.it⟩ .nil)).chg eG
    · rintro D H9 hD ⟨s9, ys, e9, hl, hq⟩
      simp only [Ls_lst e9]
      rw [show ((n : Int)).toNat = n from rfl] at hl hq
      rw [show (((t + 1 : Nat) : Int)).toNat = t + 1 from rfl]
      have lm : ys.length * (t + 1) ≤ 70 * 4 := Nat.mul_le_mul (by omega) (by omega)
      refine ⟨by omega, by omega, by omega, Nw.intro fun SW H10 c10 => ⟨Nat.zero_le _, Nw.intro fun W H11 c11 => ⟨by omega, by omega, ?_⟩⟩⟩
      have hsw := (hq.same c10.same).rep (t + 1)
      have e10 := c10.same _ _ e9
      have hq10 := hq.same c10.same
      refine lp_range (fun i σ H' => Same H10 H' ∧ ∃ zs x9, H' W = some (.lst zs) ∧ Asks H' zs (waysQ (thQ wr wi n) i) ∧ zs.length = i * n ∧
        σ = [some (.ref j), some (.int n), some (.int m), some (.int (t + 1 : Nat)), some (.int wi), some (.str (wd wr)), some (.ref D), some (.ref SW), some (.ref W), x9, none, none, none, none, none, none]) ?_ ?_ ?_
      · exact ⟨c11.same, [], _, c11.it, .nil, by simp, rfl⟩
      · rintro i σ H' hi ⟨sm, zs, x9, eW, hz, hzl, rfl⟩
        have hi : i < t + 1 := hi
        have lz : i * n ≤ 4 * 70 := Nat.mul_le_mul (by omega) (by omega)
        have nW : ∀ b o, H10 b = some o → b ≠ W := fun b o e => ne_of_none e c11.new
        walk_at "ev"
        rw [waysQ_succ]
        simp only [Ls_lst eW]
        by_cases h2 : (i : Int) % 2 = 0
        · rw [if_pos h2]
          have h2' : i % 2 = 0 := by omega
          simp only [Ls_lst eW, Ls_lst (sm _ _ e10)]
          refine ⟨by omega, same_chg sm nW, zs ++ ys, upd_same, ?_, ?_⟩
          · unfold wayQ
            rw [if_pos h2']
            exact (hz.app' (hq10.same sm)).chg eW
          · rw [List.length_append, hzl, hl, Nat.add_mul, Nat.one_mul]
        · rw [if_neg h2]
          have h2' : ¬ i % 2 = 0 := by omega
          simp only [Ls_lst (sm _ _ e10)]
          refine Nw.intro fun R G c => ?_
          simp only [Ls_lst (c.same _ _ eW), Ls_lst c.it]
          refine ⟨by rw [List.length_reverse]; omega, same_chg (sm.trans c.same) nW, zs ++ ys.reverse, upd_same, ?_, ?_⟩
          · unfold wayQ
            rw [if_neg h2']
            exact ((hz.same c.same).app' ((hq10.same (sm.trans c.same)).rev)).chg (c.same _ _ eW)
          · rw [List.length_append, List.length_reverse, hzl, hl, Nat.add_mul, Nat.one_mul]
      · rintro σ H12 ⟨s12, zs, x9, eW, hz, hzl, rfl⟩
        have eSW := s12 _ _ c10.it
        have hsw2 := hsw.same s12
        have lw : (t + 1) * n ≤ 4 * 70 := Nat.mul_le_mul (by omega) (by omega)
        have told1 := told_sweep m1.1 (wr := wr) l1 n t
        have told2 := told_ways m1.1 (wr := wr) l1 n t
        have nt : n * (t + 1) = n + t * n := by rw [Nat.mul_add, Nat.mul_one, Nat.mul_comm n t, Nat.add_comm]
        have lS : (List.replicate (t + 1) (thQ wr wi n)).flatten.length = (t + 1) * n := by
          have : ∀ k : Nat, (List.replicate k (thQ wr wi n)).flatten.length = k * n := fun k => by
            induction k with
            | zero => simp
            | succ k ih => rw [List.replicate_succ, List.flatten_cons, List.length_append, ih, th_len, Nat.add_mul, Nat.one_mul, Nat.add_comm]
          exact this _
        have lW : (waysQ (thQ wr wi n) (t + 1)).length = (t + 1) * n := by rw [waysQ_len, th_len]
        have K12 : Kb j H H12 := K8.trans (Kb.of (s9.trans (c10.same.trans s12)))
        have J12 : JarAt H12 j := J8.same (s9.trans (c10.same.trans s12))
        have fore1 : ∀ (G : Hp), Same H12 G → ∀ {k : VK}, (∀ p G', Same G G' → G' p = some (.tup [.int ((n + t * (if m < n then n else 0) : Nat) : Int), .int (if wr then ((n + t * (if m < n then n else 0) : Nat) : Int) - (min m n : Nat) else 0)]) → k (.ref p) G') → spFore [.ref SW, .int wi, .int m] G k E0 := fun G sG k hk =>
          ⟨SW, wi, m, _, _, rfl, sG _ _ eSW, hsw2.same sG, by omega, l1, by omega, m1.1, by omega, fun p G' sp _ hp => hk p G' sp (by rw [hp, told1.1, told1.2])⟩
        have fore2 : ∀ (G : Hp), Same H12 G → ∀ {k : VK}, (∀ p G', Same G G' → G' p = some (.tup [.int ((n + t * (n - m) : Nat) : Int), .int (if wr then ((n + t * (n - m) : Nat) : Int) - (min m n : Nat) else 0)]) → k (.ref p) G') → spFore [.ref W, .int wi, .int m] G k E0 := fun G sG k hk =>
          ⟨W, wi, m, _, _, rfl, sG _ _ eW, hz.same sG, by omega, l1, by omega, m1.1, by omega, fun p G' sp _ hp => hk p G' sp (by rw [hp, told2.1, told2.2])⟩
        have fin : ∀ (G : Hp) (a1 a2 b1 b2 la lb : Addr) (x1 y1 x2 y2 : Int), Same H12 G → G a1 = some (.tup [.int x1, .int y1]) → G a2 = some (.tup [.int x2, .int y2]) → G b1 = some (.tup [.int x1, .int y1]) → G b2 = some (.tup [.int x2, .int y2]) → G la = some (.lst [.ref a1, .ref a2]) → G lb = some (.lst [.ref b1, .ref b2]) → spSame 3 [.ref la, .ref lb] G Q E0 := fun G a1 a2 b1 b2 la lb x1 y1 x2 y2 sG h1 h2 h3 h4 h5 h6 =>
          ⟨.ref la, .ref lb, .list [.tuple [.int x1, .int y1], .tuple [.int x2, .int y2]], rfl,
            .lst h5 (.cons (.tup h1 (.cons (.int _) (.cons (.int _) .nil))) (.cons (.tup h2 (.cons (.int _) (.cons (.int _) .nil))) .nil)),
            .lst h6 (.cons (.tup h3 (.cons (.int _) (.cons (.int _) .nil))) (.cons (.tup h4 (.cons (.int _) (.cons (.int _) .nil))) .nil)), rfl, q _ (K12.trans (Kb.of sG)) (J12.same sG)⟩
        have e1 : (if (n : Int) - m > 0 then (n : Int) - m else 0) = ((n - m : Nat) : Int) := by
          split <;> omega
        have eA : (n : Int) * ((t + 1 : Nat) : Int) = ((n + t * n : Nat) : Int) := by rw [← nt, Int.natCast_mul]
        have eB : (n : Int) + (((t + 1 : Nat) : Int) - 1) * ((n - m : Nat) : Int) = ((n + t * (n - m) : Nat) : Int) := by
          rw [show ((t + 1 : Nat) : Int) - 1 = (t : Nat) by omega, Int.natCast_add, Int.natCast_mul]
        have cM : CMul (((t + 1 : Nat) : Int) - 1) ((n - m : Nat) : Int) := .inr ⟨by omega, by omega⟩
        walk_at "ev"
        simp only [e1, eA, eB, wd_write]
        by_cases h : m < n
        · rw [if_pos h] at fore1
          have emin : min m n = m := by omega
          rw [emin] at fore1 fore2
          rw [if_pos (show (0 : Int) < ((n - m : Nat) : Int) by omega)]
          refine ⟨.inr ⟨by omega, by omega⟩, cM, fore1 H12 (fun _ _ h => h) fun u1 G1 g1 f1 => fore2 G1 g1 fun u2 G2 g2 f2 => ⟨by decide, Nw.intro fun u3 G3 c3 => ⟨by decide, Nw.intro fun u4 G4 c4 => ⟨by decide, Nw.intro fun u5 G5 c5 => ⟨by decide, Nw.intro fun u6 G6 c6 => ?_⟩⟩⟩⟩⟩
          have z6 : Same G2 G6 := c3.same.trans (c4.same.trans (c5.same.trans c6.same))
          cases wr with
          | false =>
            rw [if_neg (by decide)]
            exact fin G6 u1 u2 u4 u5 u3 u6 _ _ _ _ (g1.trans (g2.trans z6)) (z6 _ _ (g2 _ _ f1)) (z6 _ _ f2) (c6.same _ _ (c5.same _ _ c4.it)) (c6.same _ _ c5.it) (c6.same _ _ (c5.same _ _ (c4.same _ _ c3.it))) c6.it
          | true =>
            rw [if_pos rfl, if_pos (show (0 : Int) < ((n - m : Nat) : Int) by omega)]
            refine ⟨by decide, Nw.intro fun u7 G7 c7 => ⟨by decide, Nw.intro fun u8 G8 c8 => ⟨by decide, Nw.intro fun u9 G9 c9 => ?_⟩⟩⟩
            have z9 : Same G6 G9 := c7.same.trans (c8.same.trans c9.same)
            have z29 := z6.trans z9
            exact fin G9 u1 u2 u7 u8 u3 u9 _ _ _ _ (g1.trans (g2.trans z29)) (z29 _ _ (g2 _ _ f1)) (z29 _ _ f2) (c9.same _ _ (c8.same _ _ c7.it)) (c9.same _ _ c8.it) (z9 _ _ (c6.same _ _ (c5.same _ _ (c4.same _ _ c3.it)))) c9.it
        · simp only [if_neg h, Nat.mul_zero, Nat.add_zero] at fore1
          have emin : min m n = n := by omega
          have e0 : n - m = 0 := by omega
          rw [emin] at fore1 fore2
          rw [e0] at fore2 cM ⊢
          simp only [Nat.mul_zero, Nat.add_zero, Int.sub_self] at fore1 fore2
          have ez : ∀ b : Bool, (if b = true then (0 : Int) else 0) = 0 := fun b => by cases b <;> rfl
          simp only [ez] at fore1 fore2
          simp only [Nat.mul_zero, Nat.add_zero]
          rw [if_neg (show ¬ (0 : Int) < ((0 : Nat) : Int) by omega)]
          refine ⟨cM, fore1 H12 (fun _ _ h => h) fun u1 G1 g1 f1 => fore2 G1 g1 fun u2 G2 g2 f2 => ⟨by decide, Nw.intro fun u3 G3 c3 => ⟨by decide, Nw.intro fun u4 G4 c4 => ⟨by decide, Nw.intro fun u5 G5 c5 => ⟨by decide, Nw.intro fun u6 G6 c6 => ?_⟩⟩⟩⟩⟩
          have z6 : Same G2 G6 := c3.same.trans (c4.same.trans (c5.same.trans c6.same))
          have last := fin G6 u1 u2 u4 u5 u3 u6 _ _ _ _ (g1.trans (g2.trans z6)) (z6 _ _ (g2 _ _ f1)) (z6 _ _ f2) (c6.same _ _ (c5.same _ _ c4.it)) (c6.same _ _ c5.it) (c6.same _ _ (c5.same _ _ (c4.same _ _ c3.it))) c6.it
          rw [if_neg (show ¬ (0 : Int) < ((0 : Nat) : Int) by omega)]
          cases wr with
          | false => exact last
          | true => exact last
end
end K33
namespace K33
open PySem PySem.Spec PyProof.Rows L2 Lw
/-- two empty lists -/
def rEqNil : R2 := fun x y H Q => Ls H x fun _ xs => Ls H y fun _ ys => xs = [] ∧ ys = [] ∧ Q (.bl true) H
def rNeNil : R2 := fun x y H Q => Ls H x fun _ xs => Ls H y fun _ ys => xs = [] ∧ ys = [] ∧ Q (.bl false) H
theorem op_eqNil {X : Cx} (hu : X.A.units + 64 < cLine) : OpR X (compareOp .Eq) rEqNil := OpR.imp (op_eqD hu) fun x y H Q h => by
  obtain ⟨p, xs, rfl, e, h⟩ := Ls.out h
  obtain ⟨q, ys, rfl, e2, rfl, rfl, h⟩ := Ls.out h
  exact ⟨.list [], .list [], (Dq.lst e .nil).dp, (Dq.lst e2 .nil).dp, rfl, rfl, h⟩
theorem op_neNil {X : Cx} (hu : X.A.units + 64 < cLine) : OpR X (compareOp .NotEq) rNeNil := OpR.imp (op_neD hu) fun x y H Q h => by
  obtain ⟨p, xs, rfl, e, h⟩ := Ls.out h
  obtain ⟨q, ys, rfl, e2, rfl, rfl, h⟩ := Ls.out h
  exact ⟨.list [], .list [], (Dq.lst e .nil).dp, (Dq.lst e2 .nil).dp, rfl, rfl, h⟩
local macro_rules | `(tactic| walk_at "ev") => `(tactic| simp only [cxOf, rEqNil, rNeNil, tPar3, tCallN, iKeysF, tLockE, tDisp1F, mergeK_one, tYes, iRng3, ex_ints, ex_any, tML, tML0, tMD, tTupN, tLstN, tDNewN, rSlL2, rCatF, rRepF, tRevF, rListF, rMaxF, tDGetF, tDGet1F, tDGet2F, tDPop1F, tDPop2F, sDPutF, tLenSetF, tSl, tPart, tNoPart, ipI, rIsiF, Tz_non, Tz_bl, Tz_int, Tz_str, Cl7_int, Cl7_bool, Cl7_str, Cl7_list, Cl7_tuple, Cl7_dict, T7.isa, iListF, iTupF, cpow12, cpow60, tFor_eq, tLc_eq, iRng1, iRng2, wipe, Cx.nox, Cx.wish, tSeq, tIfS, tTest, tOp, tVar, tC, tRet, tRetN, tCB, tCons, tNil, tB, tNot, tAnd, tOr, tAndV, tOrV, tNotV, tIf, rEq, rNe, scal_ii, scal_bb, scal_ss, scal_nn, scal_si, scal_is, scal_in, scal_ni, Bool.or_true, Bool.true_or, Bool.or_false, Bool.false_or, Bool.and_true, Bool.true_and, Bool.and_false, Bool.false_and, rI, rI0, rU, tUn, t2I, tAsg, gName, tPar, tDrop, tLst, tTup, tCall, tNext, tBreak, tCont, tAug, rAdd, gTup, gTupF, gCons, gNil, gSub, rIxF, rLenF, rSetF, rAppF, rExtF, rPop0, rRemF, rInF, rDUpd, Nt_int, Op_some, Ky_int, Ky_str,
  List.map_cons, List.map_nil, List.cons_append, List.nil_append, List.append_nil, List.getElem?_cons_zero, List.getElem?_cons_succ, List.set_cons_zero, List.set_cons_succ, List.length_cons, List.length_nil, Option.some.injEq, exists_eq_left', exists_eq_left, exists_eq_right, V.int.injEq, V.ref.injEq, V.bl.injEq, V.str.injEq, V.ty.injEq, List.cons.injEq, and_true, true_and, and_assoc, reduceCtorEq, decide_eq_true_eq, decide_true, decide_false, if_true, if_false, ite_true, ite_false, Bool.false_eq_true, false_and, and_false, exists_false, exists_const, or_false, false_or, Bool.not_eq_true', decide_eq_false_iff_not, List.replicate_succ, List.replicate_zero, Nat.reduceSub, Nat.reduceAdd, Int.reducePow, Int.reduceNeg, exists_and_left, exists_and_right, atI_0, atI_1, atI_2, ixN_0, ixN_1, ixN_2, L2.start, upd_upd, Sq_upd, Sq_updT, Tp_upd, Ls_upd, Dk_upd, Int.reduceLT, Int.reduceLE, Nat.reduceLT, Nat.reduceLeDiff, forall_eq', forall_eq, id, Int.zero_add, Bool.not_true, Bool.not_false, not_true_eq_false, not_false_eq_true, ne_eq])
section
variable {P : Program} {w : World} {K : PySem.W.Frag} {mg : Str → Option Value} {base : Heap}
def spLaw (K : PySem.W.Frag) : Sp := fun vs H Q _ => ∃ (a : Addr) (ns : List Int), vs = [.ref a] ∧ SqL K H a (ns.map V.int) ∧ ns.length ≤ 63 ∧ ∀ H', Q (.bl true) H'
theorem scLaw : FnScope ["script", "jar", "go"] ["script"] (defScope sLaw) := ⟨rfl, rfl, rfl, by decide +kernel, rfl, by decide +kernel, by decide +kernel⟩
theorem ok_law {f : Addr} {fd : FuncData} {kws : List (Str × V)} (F : FunD K "law" "law" (defArgs sLaw) (defBody sLaw) (defScope sLaw) [] kws f fd) (T : Bt mg) (c_pool : Kn P w K mg base "_law_pool" ["script"] 1 (spPool K)) (c_fd_row_right : Kn P w K mg base "_law_fd_row_right" ["jar"] 6 spRow) (c_fd_formulas_right : Kn P w K mg base "_law_fd_formulas_right" ["jar"] 6 spRow)
    (c_yq_same : Kn P w K mg base "_law_yq_same" ["heard_one", "owed"] 5 (spSame 3)) (c_foretold : KnD P w K mg base "foretold" ["asks", "block", "within"] [.int 4, .int 4] 1 spFore) :
    FnOk P w K mg base CX0 7 f fd ["script"] (spLaw K) := by
  refine F.ok scLaw (fun vs H Q E h => ?_) (fun cdv A outer s H vs Q E hr h => ?_)
  · obtain ⟨a, ns, rfl, _⟩ := h
    rfl
  · refine nox_of ?_
    obtain ⟨a, ns, rfl, ha, hl, q⟩ := h
    refine ⟨_, (pss_cons (ps_set (i := 1) scLaw.nd rfl (Or.inr rfl) (pe_kn c_pool (hr.mono (by decide)) (by rfl) (pa_cons (pv 0) pa_nil)))
      (pss_cons (ps_if (pt_cmpR (op_neNil hr.units) (pe_lc (own := [("go", 2)]) (by rfl) scLaw.nd (pi_range1 (by rfl) T.range (pa_cons pe_int pa_nil)) (blkOk_by (N := ["script", "jar", "go"]) (sc := defScope sLaw) (by decide +kernel)) (fun _ _ _ _ _ => (pg_name (i := 2) scLaw.nd rfl (Or.inl rfl))) (fun _ _ _ _ _ => (pts_one (pt_not (pt_val (pe_kn c_fd_row_right (hr.mono (by decide)) (by rfl) (pa_cons (pv 1) pa_nil)))))) (fun _ _ _ _ _ => (pv 2))) (pe_lstN pa_nil) (nomark _)) (pss_one (ps_ret pe_bl)) pss_nil)
      (pss_one (ps_ret (pe_and (pe_cmpR (op_eqNil hr.units) (pe_lc (own := [("go", 2)]) (by rfl) scLaw.nd (pi_range1 (by rfl) T.range (pa_cons pe_int pa_nil)) (blkOk_by (N := ["script", "jar", "go"]) (sc := defScope sLaw) (by decide +kernel)) (fun _ _ _ _ _ => (pg_name (i := 2) scLaw.nd rfl (Or.inl rfl))) (fun _ _ _ _ _ => (pts_one (pt_not (pt_val (pe_kn c_fd_formulas_right (hr.mono (by decide)) (by rfl) (pa_cons (pv 1) pa_nil)))))) (fun _ _ _ _ _ => (pv 2))) (pe_lstN pa_nil) (nomark _)) (pe_one (pe_kn c_yq_same (hr.mono (by decide)) (by rfl) (pa_cons (pe_knD c_foretold (hr.mono (by decide)) (by rfl) (pa_cons (pe_lstN pa_nil) pa_nil)) (pa_cons (pe_tupN (pa_cons pe_int (pa_cons pe_int pa_nil))) pa_nil))))))))), ?_⟩
    walk_at "ev"
    refine ⟨a, ns, rfl, ha, hl, fun H1 j d t s1 nj hj hb => ?_⟩
    have J1 : JarAt H1 j := ⟨d, t, 0, hj, hb⟩
    have nD : ∀ {G : Hp} {D : Addr}, JarAt G j → G D = none → D ≠ j := fun J hD z => by
      obtain ⟨o, eo⟩ := J.some
      rw [z, eo] at hD
      cases hD
    refine lcp_range (fun D i H' => JarAt H' j ∧ H' D = some (.lst [])) ?_ ?_ ?_
    · exact fun D hD => ⟨J1.same (newf hD rfl).1, upd_same⟩
    · rintro D i H' hD hi ⟨J, e⟩
      walk_at "ev"
      exact ⟨j, rfl, J, fun G kb JG => ⟨true, rfl, by rw [if_neg (by decide)]; exact ⟨JG, kb _ _ (nD J1 hD) e⟩⟩⟩
    · rintro D H2 hD ⟨J2, e2⟩
      refine ⟨Nat.zero_le _, Nw.intro fun u H3 c3 => ?_⟩
      simp only [Ls_lst (c3.same _ _ e2), Ls_lst c3.it]
      have J3 := J2.same c3.same
      refine ⟨trivial, trivial, lcp_range (fun D i H' => JarAt H' j ∧ H' D = some (.lst [])) ?_ ?_ ?_⟩
      · exact fun D hD => ⟨J3.same (newf hD rfl).1, upd_same⟩
      · rintro D i H' hD hi ⟨J, e⟩
        walk_at "ev"
        exact ⟨j, rfl, J, fun G kb JG => ⟨true, rfl, by rw [if_neg (by decide)]; exact ⟨JG, kb _ _ (nD J3 hD) e⟩⟩⟩
      · rintro D H4 hD ⟨J4, e4⟩
        refine ⟨Nat.zero_le _, Nw.intro fun u5 H5 c5 => ?_⟩
        simp only [Ls_lst (c5.same _ _ e4), Ls_lst c5.it]
        refine ⟨trivial, trivial, Nat.zero_le _, Nw.intro fun u6 H6 c6 => ?_⟩
        refine ⟨u6, 4, 4, [], [], rfl, c6.it, .nil, by simp, by decide, by decide, by decide, by decide, fun pt H7 s7 _ h7 => ⟨by decide, Nw.intro fun u8 H8 c8 => ?_⟩⟩
        have h7' : H7 pt = some (.tup [.int 0, .int 0]) := h7
        exact ⟨.ref pt, .ref u8, _, rfl, .tup (c8.same _ _ h7') (.cons (.int _) (.cons (.int _) .nil)), .tup c8.it (.cons (.int _) (.cons (.int _) .nil)), rfl, q _⟩
end
end K33
namespace K33
open PySem PySem.Spec PyProof.Rows L2
abbrev FnP (K : PySem.W.Frag) (x : Str) (st : Stmt) (f : Addr) (fd : FuncData) : Prop := FunD K x x (defArgs st) (defBody st) (defScope st) [] [] f fd
def dfd (x : Str) (st : Stmt) (kw : List (Str × He.Dv) := []) : He.DefD := ⟨(x, none), x, x, defArgs st, defBody st, defScope st, [], kw⟩
def dLaw := dfd "law" sLaw
def fn : List He.DefD := [dfd "foretold" sForetold [("block", .int 4), ("within", .int 4)], dfd "_law_yq_is_whole" sWhole, dfd "_law_yq_same" sSame, dfd "_law_pool" sPool, dfd "_law_take" sTake, dfd "_law_one" sOne,
  dfd "_law_fd_distances" sDist, dfd "_law_fd_behind" sBehind, dfd "_law_fd_counts" sCounts, dfd "_law_fd_drawn" sDrawn, dfd "_law_fd_row_right" sRow, dfd "_law_fd_formulas_right" sForm, dfd "law" sLaw]
def names : List Str := ["foretold", "_law_yq_is_whole", "_law_yq_same", "_law_pool", "_law_take", "_law_one", "_law_fd_distances", "_law_fd_behind", "_law_fd_counts", "_law_fd_drawn", "_law_fd_row_right", "_law_fd_formulas_right"]
def fa : List He.Fa := [.glo "law", .glo "foretold", .glo "_law_yq_is_whole", .glo "_law_yq_same", .glo "_law_pool", .glo "_law_take", .glo "_law_one", .glo "_law_fd_distances", .glo "_law_fd_behind", .glo "_law_fd_counts", .glo "_law_fd_drawn", .glo "_law_fd_row_right", .glo "_law_fd_formulas_right",
  .free "len", .free "int", .free "isinstance", .free "bool", .free "str", .free "tuple", .free "list", .free "range", .free "max", .free "min", .free "set"]
abbrev R : PySem.W.OpenRow := PySem.W.OpenLaw.row PySem.Challenge.rw_fewestsent_k33_foretold_by_distances
abbrev hk : PySem.W.Hook := He.hookD 4 fa fn
def ob (s : PySem.W.SharedT) : He.AlD := He.obsDG 4 fa fn (HandSHeadRun.getT s)
theorem ob_eq (s : PySem.W.SharedT) : ob s = hk.obs s.abs := He.obsDG_eq (HandSHeadRun.getT_eq s)
theorem run (w : World) : HandSHeadRun.RunEq R (PySem.W.view R.prog [14]) hk ob 1200 names w := by
  intro os
  kernel_rfl
theorem facts {P : Program} {w : World} {K : PySem.W.Frag} {h : Heap} {mg : Str → Option Value} {f : Addr} (X : K.In h) (G : h.Ns mainGlobals mg) (hfa : mg ("law" : Str) = some (.ref f)) (c : He.SaysD fa fn K) :
    ∃ fd : FuncData, (∀ (s : Shared) (v : Value), BindsTo s fd ⟨[v], []⟩ [("script", v)]) ∧ ∀ base : Heap, K.In base → base.Ns mainGlobals mg → FnOk P w K mg base CX0 40 f fd ["script"] (spLaw K) := by
  obtain ⟨fd, F⟩ := c.def_ 12 (d := dLaw) rfl
  have e := hfa.symm.trans (He.glo_ok X G (c.fact 0 (f := .glo "law") rfl))
  cases e
  have b := FunD.bindsA (ps := ["script"]) F fun _ _ _ _ _ _ us hl => match us, hl with | [_], _ => rfl
  refine ⟨fd, fun s v => b s [v] rfl, fun base _ _ => ?_⟩
  have T : Bt mg := ⟨He.free_ok X G (c.fact 13 rfl), He.free_ok X G (c.fact 14 rfl), He.free_ok X G (c.fact 15 rfl), He.free_ok X G (c.fact 16 rfl), He.free_ok X G (c.fact 17 rfl), He.free_ok X G (c.fact 18 rfl), He.free_ok X G (c.fact 19 rfl), He.free_ok X G (c.fact 20 rfl), He.free_ok X G (c.fact 21 rfl), He.free_ok X G (c.fact 22 rfl), He.free_ok X G (c.fact 23 rfl)⟩
  have d1 : ∀ {x : Str} {st : Stmt} (i j : Nat), fn[i]? = some (dfd x st) → fa[j]? = some (.glo x) → Def1 K mg x st := fun i j h1 h2 => by
    obtain ⟨fd, F⟩ := c.def_ i h1
    exact ⟨_, fd, F, He.glo_ok X G (c.fact j h2)⟩
  obtain ⟨fdF, FF⟩ := c.def_ 0 (d := dfd "foretold" sForetold [("block", .int 4), ("within", .int 4)]) rfl
  have mF := He.glo_ok X G (c.fact 1 (f := .glo "foretold") rfl)
  have cK : KnK P w K mg base "foretold" ["asks", "block", "within"] 1 ["block", "within"] (fun vs zs => vs ++ zs) 1 spFore := kn_foreK FF mF T
  have cD : KnD P w K mg base "foretold" ["asks", "block", "within"] [.int 4, .int 4] 1 spFore := kn_foreD FF mF T
  have cWhole := ok_whole (P := P) (w := w) (base := base) (d1 1 2 rfl rfl) T
  have cSame := ok_same (d1 2 3 rfl rfl) T cWhole 3
  have cPool := ok_pool (P := P) (w := w) (base := base) (d1 3 4 rfl rfl) T
  have cTake := ok_take (P := P) (w := w) (base := base) (d1 4 5 rfl rfl) T
  have cOne := ok_one (d1 5 6 rfl rfl) T cTake
  have cDist := ok_dist (P := P) (w := w) (base := base) (d1 6 7 rfl rfl) T
  have cBeh := ok_behind (P := P) (w := w) (base := base) (d1 7 8 rfl rfl) T
  have cCnt := ok_counts (P := P) (w := w) (base := base) (d1 8 9 rfl rfl) T
  have cDrawn := ok_drawn (d1 9 10 rfl rfl) T cTake (one_ints cOne)
  have cRow := ok_row (d1 10 11 rfl rfl) T cSame cDrawn cDist cBeh cCnt cK cD
  have cForm := ok_form (d1 11 12 rfl rfl) T cSame cTake cOne cK
  exact (ok_law F T cPool cRow cForm cSame cD).mono (by decide)
end K33
open PySem PySem.W PySem.Calls PyProof.Rows
theorem PySem.Challenge.cw_fewestsent_k33_foretold_by_distances_holds : PySem.Challenge.rw_fewestsent_k33_foretold_by_distances.Holds := by
  w_on; o_law
  refine HandSHeadRun.head_any (r := OpenLaw.row PySem.Challenge.rw_fewestsent_k33_foretold_by_distances) (q := view (OpenLaw.row PySem.Challenge.rw_fewestsent_k33_foretold_by_distances).prog [14]) (H := K33.hk) (ob := K33.ob) (M := 1200) (loose := K33.names) (d := HandSHeadRun.topDef (OpenLaw.row PySem.Challenge.rw_fewestsent_k33_foretold_by_distances).prog 14) (kwd := []) K33.ob_eq
    (by kernel_rfl) (fun s => by kernel_rfl) K33.run (by kernel_rfl) (by kernel_rfl) (by kernel_rfl) (by rfl) (by first | assumption | decide +kernel) (by decide +kernel) ⟨rfl, rfl, rfl, rfl, rfl, by decide +kernel⟩ ?hw ?hc
  case hw => w_witness2
  case hc =>
    refine L2.walk_ofE (l := PySem.Challenge.rw_fewestsent_k33_foretold_by_distances) (n := 63) (k := 40) (x := "script") (CX := L2.CX0) rfl (by decide) (by kernel_rfl) ⟨rfl, by decide, by decide⟩ ?F (fun _ _ _ _ z => z)
    intro w mg fa h Y G hmg0
    obtain ⟨K, KX, c⟩ := Y
    have hmg : mg ("law" : PySem.Str) = some (.ref fa) := by
      have e : (HandSHeadRun.topDef (OpenLaw.row PySem.Challenge.rw_fewestsent_k33_foretold_by_distances).prog 14).name = ("law" : PySem.Str) := by kernel_rfl
      rw [← e]
      exact hmg0
    obtain ⟨fd, hb, hF⟩ := K33.facts (P := (PySem.Challenge.rw_fewestsent_k33_foretold_by_distances).prog) (w := w) KX G hmg c
    exact ⟨K, fd, K33.spLaw K, KX, hb, fun H a ns hl _ hS => ⟨a, ns, rfl, hS, hl, fun _ => rfl⟩, hF⟩
