import PyProof.Rows.All
import KE.SortKeyHeap
import HandS.Lambda
import HandS.EndTab
import HandS.SortKw
import HandS.Nested
import HandS.Iter
import HandS.ForMost
import HandS.TupAny
import HandS.TupMul
import HandS.IsInst
import HandS.Wide
import HandS.Conv
import HandS.Property
import HandS.Codes
import HandS.Style
import HandS.More
import PyProof.ReprRoads
import HandS.RaiseMore
import HandS.HeadHook4
import HandS.HeadWalk
import HandS.Head0
import HandS.Head1
import HandS.Head2
import PyProof.ReprLen
import PySem.Challenge.RW_fieldrides_k41_whole_needy_rows
set_option Elab.async false
set_option linter.all false
set_option maxRecDepth 100000
set_option maxHeartbeats 4000000
/-! sorted(xs, key=f) where the calls of f may change what they like, as long as they keep an invariant J of the state. -/
namespace KJ
open PySem PySem.W PySem.Calls PyProof.Rows
section
variable {prog : Program} {w : World} {A : Around} {E : Value → Shared → Prop} {a kS : Addr} {vs : List Value} {J : Shared → Prop}
/-- J does not look at c -/
def Blind (J : Shared → Prop) (c : Addr) : Prop := ∀ s h', J s → Heap.SameBut c s.heap h' → (∃ o, h'.get? c = some o) → J { s with heap := h' }
theorem tailJ {s : Shared} {st : SortSt} {keys : Array Value} {e e1 : Nat} {out : List Value} {P : PySem.Fin → Shared → Prop} (ba : Blind J a) (bk : Blind J kS) (j : J s) (nk : s.heap.get? kS = some (seqObj "list" keys e)) (na : s.heap.get? a = some (seqObj "list" #[] e1)) (ne : kS ≠ a)
    (z : keys.size ≤ sizeLine) (zo : out.length ≤ sizeLine) (ok : failedOf st = none) (ho : (arrOf st).map (·.2) = out.toArray) (fin : ∀ s' c, J s' → s'.heap.get? a = some (seqObj "list" out.toArray c) → P (.done (.ret .none)) s') :
    wpAny (model prog w) A (ksk_tail a false e1 (.ref kS) st) P E s := by
  have m1 := Heap.SameBut.update s.heap kS (Obj.mapSeq fun _ => (#[] : Array Value))
  have na1 := (m1.2 a ne.symm).trans na
  have m2 := Heap.SameBut.update (s.heap.update kS (Obj.mapSeq fun _ => (#[] : Array Value))) a (Obj.mapSeq fun _ => out.toArray)
  unfold ksk_tail
  try dsimp only
  rw [ho]
  refine wpAny_bind (listUpdate_at nk rfl ?_ z (Nat.zero_le _))
  refine wpAny_bind (wpAny_letGo ?_)
  refine wpAny_bind (seqEpoch_at na1 rfl ?_)
  refine wpAny_bind (listUpdate_at na1 rfl ?_ (Nat.zero_le _) (by rw [if_neg Bool.false_ne_true, List.size_toArray]; exact Nat.le_succ_of_le zo))
  rw [ok]
  simp only [bne_self_eq_false, Bool.false_eq_true, if_false]
  exact wpAny_pure (fin _ _ (ba { s with heap := s.heap.update kS (Obj.mapSeq fun _ => (#[] : Array Value)) } _ (bk s _ j m1 ⟨_, get?_update_seq nk fun _ => #[]⟩) m2 ⟨_, get?_update_seq na1 fun _ => out.toArray⟩) (get?_update_seq na1 fun _ => out.toArray))
theorem endJ {s : Shared} {keys : Array Value} {e e1 : Nat} {P : PySem.Fin → Shared → Prop} {κ : PyProof.Rows.KeyKind} (ba : Blind J a) (bk : Blind J kS) (j : J s) (nk : s.heap.get? kS = some (seqObj "list" keys e)) (na : s.heap.get? a = some (seqObj "list" #[] e1)) (ne : kS ≠ a)
    (S : SortsAt prog w A s κ keys.toList) (hl : keys.size = vs.length) (z : vs.length ≤ sizeLine) (fin : ∀ s' c, J s' → s'.heap.get? a = some (seqObj "list" (sortVals κ false keys.toList vs).toArray c) → P (.done (.ret .none)) s') :
    wpAny (model prog w) A (ksk_end a false vs.toArray e1 (.ref kS) keys) P E s := by
  obtain ⟨kd, lt, hkd⟩ := S.kind
  have hK : PyProof.Rows.KeysOf κ (keys.zip vs.toArray) := keysOf_zip S.keys
  have zz : (keys.zip vs.toArray).size = vs.length := by rw [Array.size_zip, hl, List.size_toArray, Nat.min_self]
  have zs : (sortVals κ false keys.toList vs).length ≤ sizeLine := by rw [sortVals_length false (by rw [Array.length_toList]; exact hl)]; exact z
  have res : ∀ st' : SortSt, (arrOf st').Perm (keys.zip vs.toArray) → SortedToK κ (arrOf st') (keys.zip vs.toArray).size → Stable κ (arrOf st') (keys.zip vs.toArray) → (arrOf st').map (·.2) = (sortVals κ false keys.toList vs).toArray := fun st' p q r => by
    have x := congrArg List.toArray (sort_out (rev := false) (keys := keys) (items := vs.toArray) (xs := arrOf st') (κ := κ) hK p q r)
    rw [Array.toArray_toList, if_neg Bool.false_ne_true] at x
    exact x
  unfold ksk_end
  simp only [Bool.false_eq_true, if_false]
  by_cases few : vs.toArray.size < 2
  · rw [if_pos few, if_pos few]
    refine wpAny_bind (wpAny_pure ?_)
    rw [StateT.run_pure]
    refine wpAny_bind (wpAny_pure ?_)
    refine tailJ ba bk j nk na ne (by rw [hl]; exact z) zs rfl (res _ (Array.Perm.refl _) (fun i k hik hk => ?_) (Stable.refl _)) fin
    rw [zz] at hk
    rw [List.size_toArray] at few
    obtain rfl : i = k := by omega
    exact KeyOrd.kle_refl _
  · rw [if_neg few, if_neg few]
    rw [List.size_toArray] at few
    refine wpAny_bind (hkd (by rw [Array.length_toList]; omega) _ ?_)
    refine wpAny_bind (wpAny_mono (H.wpS_sortRunsSt (κ := κ) (kd := kd) (a₀ := keys.zip vs.toArray) (st := SortSt.mk' kd (keys.zip vs.toArray) #[] 7 none)
      (Q := fun _ st' => failedOf st' = none ∧ (arrOf st').map (·.2) = (sortVals κ false keys.toList vs).toArray) lt hK ⟨Array.Perm.refl _, rfl, rfl⟩ rfl (Stable.refl _) (by rw [zz]; omega) fun st' a1 a2 a3 a4 => ⟨a2, res st' a1 a3 a4⟩) ?_ fun _ _ x => x)
    rintro ⟨⟨⟩, st'⟩ s' ⟨rfl, q1, q2⟩
    exact tailJ ba bk j nk na ne (by rw [hl]; exact z) zs q1 q2 fin
def IntKey (k : Int) (v : Value) : Prop := ∃ t, v = .int k t
theorem restJ {s : Shared} {e1 : Nat} {f : Value} {kz : List Int} {P : PySem.Fin → Shared → Prop} (ba : Blind J a) (bk : Blind J kS) (j : J s) (nk : s.heap.get? kS = some (seqObj "list" #[] 0)) (na : s.heap.get? a = some (seqObj "list" #[] e1)) (ne : kS ≠ a)
    (hl : kz.length = vs.length) (z : vs.length ≤ sizeLine) (hu : A.units + 64 < cLine)
    (turn : ∀ (i : Nat) (v : Value) (k : Int), vs[i]? = some v → kz[i]? = some k → ∀ s1, J s1 → (∀ b o, b = a ∨ b = kS → s1.heap.get? b = some o → True) →
      wpAny (model prog w) A (call f [v]) (fun u s2 => IntKey k u ∧ J s2 ∧ ∀ b o, b = a ∨ b = kS → s1.heap.get? b = some o → s2.heap.get? b = some o) (fun _ _ => False) s1)
    (fin : ∀ s' out c, J s' → s'.heap.get? a = some (seqObj "list" (List.toArray out) c) → KeyedOut false (kz.map PyData.int) vs out → P (.done (.ret .none)) s') :
    wpAny (model prog w) A (ksk_rest a f false vs.toArray e1 (.ref kS)) P E s := by
  unfold ksk_rest
  refine wpAny_bind (wpAny_rule ?_)
  first
    | rw [List.forIn_toArray]
    | (rw [← Array.forIn_toList]; simp only [List.toList_toArray])
    | rw [← Array.forIn_toList]
  refine wpAny_bind (ksk_fold (fun i s' => J s' ∧ ∃ kA e, s'.heap.get? kS = some (seqObj "list" kA e) ∧ s'.heap.get? a = some (seqObj "list" #[] e1) ∧ EachIs (fun v k => IntKey k v) kA.toList (kz.take i)) vs 0 s ⟨j, #[], 0, nk, na, by rw [List.take_zero]; exact EachIs.nil⟩ ?step ?done)
  case step =>
    rintro i x s' hx ⟨j', kA, e, nk', na', hk⟩
    simp only [Nat.zero_add] at hk ⊢
    have hi : i < vs.length := (List.getElem?_eq_some_iff.mp hx).1
    obtain ⟨k, hki⟩ : ∃ k, kz[i]? = some k := ⟨_, List.getElem?_eq_getElem (by omega)⟩
    have zk : kA.size ≤ vs.length := by
      have h1 := hk.length
      rw [Array.length_toList, List.length_take] at h1
      omega
    refine wpAny_bind (wpAny_attempt (wpAny_mono (turn i x k hx hki s' j' fun _ _ _ _ => trivial) (fun u s2 he => ?_) fun _ _ hF => hF.elim))
    obtain ⟨iu, j2, kp⟩ := he
    have nk2 := kp kS _ (.inr rfl) nk'
    have na2 := kp a _ (.inl rfl) na'
    have m := Heap.SameBut.update s2.heap kS (Obj.mapSeq (·.push u))
    refine wpAny_bind (listUpdate_at nk2 rfl ?_ (Nat.le_trans zk z) (Nat.le_trans (Nat.le_of_eq (Array.size_push ..)) (Nat.succ_le_succ (Nat.le_trans zk z))))
    refine wpAny_pure ⟨rfl, bk _ _ j2 m ⟨_, get?_update_seq nk2 (·.push u)⟩, kA.push u, _, get?_update_seq nk2 (·.push u), (m.2 a ne.symm).trans na2, ?_⟩
    rw [List.take_add_one, hki, Array.toList_push]
    exact each_snoc (R := fun (v : Value) (k : Int) => IntKey k v) iu hk
  case done =>
    rintro s' ⟨j', kA, e, nk', na', hk⟩
    have e3 : kz.take (0 + vs.length) = kz := List.take_of_length_le (by omega)
    rw [e3] at hk
    have hsz : kA.size = vs.length := by
      have h1 := hk.length
      rw [Array.length_toList] at h1
      omega
    have rd : ∀ {l : List Value} {ks : List Int}, EachIs (fun v k => IntKey k v) l ks → EachIs (fun v k => ∃ as, Reads s'.heap v k as) l (ks.map PyData.int) := fun {l ks} h => by
      induction h with
      | nil => exact .nil
      | cons q _ ih => obtain ⟨t, rfl⟩ := q; exact .cons ⟨[], .int _ t⟩ ih
    have al : AllAlike (kz.map PyData.int) := fun d hd d' hd' => by
      obtain ⟨_, _, rfl⟩ := List.mem_map.mp hd
      obtain ⟨_, _, rfl⟩ := List.mem_map.mp hd'
      rfl
    have so : Sortable (kz.map PyData.int) := .inr fun d hd => by
      obtain ⟨_, _, rfl⟩ := List.mem_map.mp hd
      exact ⟨by simp, by simp⟩
    refine wpAny_bind (listItems_at nk' rfl ?_)
    exact endJ (κ := dataKind s'.heap (kz.map PyData.int)) ba bk j' nk' na' ne (SortsAt.data (rd hk) al so fun d hd => by
      obtain ⟨i, _, rfl⟩ := List.mem_map.mp hd
      show A.units + 0 < cLine
      omega) hsz z fun s2 c j2 n2 => fin s2 _ c j2 n2 ⟨s'.heap, kA.toList, al, rfl, rd hk⟩
theorem treeJ {s : Shared} {f : Value} {n : Nat} {kz : List Int} {P : PySem.Fin → Shared → Prop} (ho : s.heap.get? a = some (seqObj "list" vs.toArray n)) (hl : kz.length = vs.length) (z : vs.length ≤ sizeLine) (hu : A.units + 64 < cLine) (ba : Blind J a) (bk : Blind J (s.heap.objs.size + 1))
    (j : ∀ h', (∀ b o, b ≠ a → s.heap.get? b = some o → h'.get? b = some o) → (∃ o, h'.get? a = some o) → (∃ o, h'.get? (s.heap.objs.size + 1) = some o) → J { s with heap := h' })
    (turn : ∀ (i : Nat) (v : Value) (k : Int), vs[i]? = some v → kz[i]? = some k → ∀ s1, J s1 →
      wpAny (model prog w) A (call f [v]) (fun u s2 => IntKey k u ∧ J s2 ∧ ∀ b o, b = a ∨ b = s.heap.objs.size + 1 → s1.heap.get? b = some o → s2.heap.get? b = some o) (fun _ _ => False) s1)
    (fin : ∀ s' out c, J s' → s'.heap.get? a = some (seqObj "list" (List.toArray out) c) → KeyedOut false (kz.map PyData.int) vs out → P (.done (.ret .none)) s') :
    wpAny (model prog w) A (ksk_tree a f false) P E s := by
  have ha : a < s.heap.objs.size := Heap.lt_size ho
  obtain ⟨e1, ho1⟩ : ∃ e1, (s.heap.update a (Obj.mapSeq fun _ => (#[] : Array Value))).get? a = some (seqObj "list" #[] e1) := ⟨_, get?_update_seq ho fun _ => #[]⟩
  have hkS : ((s.heap.update a (Obj.mapSeq fun _ => (#[] : Array Value))).push (seqObj "tuple" vs.toArray 0)).objs.size = s.heap.objs.size + 1 := by rw [size_push', Heap.size_update]
  have na : (((s.heap.update a (Obj.mapSeq fun _ => (#[] : Array Value))).push (seqObj "tuple" vs.toArray 0)).push (seqObj "list" #[] 0)).get? a = some (seqObj "list" #[] e1) := Heap.get?_push_of_some _ (Heap.get?_push_of_some _ ho1)
  unfold ksk_tree
  refine wpAny_bind (listItems_at ho rfl ?_)
  refine wpAny_bind (listUpdate_at ho rfl ?_ (by rw [List.size_toArray]; exact z) (Nat.zero_le _))
  refine wpAny_bind (seqEpoch_at ho1 rfl ?_)
  refine wpAny_bind (wpAny_newTuple ?_ (by show vs.length ≤ _; exact z))
  refine wpAny_bind (wpAny_newList ?_ (Nat.zero_le _))
  refine wpAny_holding ?_
  refine restJ (J := J) (kS := ((s.heap.update a (Obj.mapSeq fun _ => (#[] : Array Value))).push (seqObj "tuple" vs.toArray 0)).objs.size) (s := { s with heap := ((s.heap.update a (Obj.mapSeq fun _ => (#[] : Array Value))).push (seqObj "tuple" vs.toArray 0)).push (seqObj "list" #[] 0) })
    ba (by rw [hkS]; exact bk) (j _ (fun b o hb e => Heap.get?_push_of_some _ (Heap.get?_push_of_some _ ((Heap.SameBut.update s.heap a _).2 b hb |>.trans e))) ⟨_, na⟩ ⟨_, by rw [← hkS]; exact Heap.get?_push_size _ rfl⟩) (Heap.get?_push_size _ rfl) na (by rw [hkS]; exact Nat.ne_of_gt (Nat.lt_succ_of_lt ha)) hl z hu (fun i v k h1 h2 s1 j1 _ => ?_) fin
  have := turn i v k h1 h2 s1 j1
  rw [hkS]
  exact this
end
end KJ
set_option Elab.async false
set_option linter.all false
set_option maxRecDepth 100000
set_option maxHeartbeats 4000000
/-! sorted(xs, key=lambda y: ..), the lambda's calls in the hand layer. -/
namespace KJ
open PySem PySem.Spec PyProof.Rows L2 LamX NdefX
open PySem.W (sorted_of_sort copyHeap copyHeap_at copyHeap_old EachIs KeyedOut keyedOut_each dataLe)
section
variable {prog : Program} {w : World} {A : Around} {E : Value → Shared → Prop}
/-- sorted(xs, key=f) -/
theorem sortedJ {s : Shared} {l : Addr} {vs : List Value} {f : Addr} {kz : List Int} {J : Shared → Prop} {Q : Value → Shared → Prop} (hl : s.heap.IsList l vs.toArray) (z : vs.length ≤ sizeLine) (hk : kz.length = vs.length) (hu : A.units + 66 < cLine)
    (ba : Blind J (s.heap.objs.size + 1)) (bk : Blind J (s.heap.objs.size + 3)) (j : ∀ h', (∀ b o, s.heap.get? b = some o → h'.get? b = some o) → (∃ o, h'.get? (s.heap.objs.size + 1) = some o) → (∃ o, h'.get? (s.heap.objs.size + 3) = some o) → J { s with heap := h' })
    (turn : ∀ (i : Nat) (v : Value) (k : Int), vs[i]? = some v → kz[i]? = some k → ∀ s1, J s1 →
      wpAny (model prog w) A.in1.in1 (call (.ref f) [v]) (fun u s2 => IntKey k u ∧ J s2 ∧ ∀ b o, b = s.heap.objs.size + 1 ∨ b = s.heap.objs.size + 3 → s1.heap.get? b = some o → s2.heap.get? b = some o) (fun _ _ => False) s1)
    (fin : ∀ s' out c, J s' → s'.heap.get? (s.heap.objs.size + 1) = some (seqObj "list" (List.toArray out) c) → KeyedOut false (kz.map PyData.int) vs out → Q (.ref (s.heap.objs.size + 1)) s') :
    wpAny (model prog w) A (call (.builtin "sorted") [.ref l] [(Str.ofString "key", .ref f)]) Q E s := by
  have zc : (copyHeap s.heap vs).objs.size = s.heap.objs.size + 2 := by
    unfold copyHeap
    rw [size_push', Heap.size_update, size_push']
  refine sorted_of_sort hl z (ksk_s1 _ _) (fun _ => ksk_l1 _ _) fun E' => ?_
  rw [ksk_t1]
  refine treeJ (J := J) (s := { s with heap := copyHeap s.heap vs }) (copyHeap_at s.heap vs) hk z (by show A.units + 1 + 1 + 64 < cLine; omega) ba (by show Blind J ((copyHeap s.heap vs).objs.size + 1); rw [zc]; exact bk)
    (fun h' k1 k2 k3 => j h' (fun b o e => k1 b o (Nat.ne_of_lt (Nat.lt_succ_of_lt (Heap.lt_size e))) (copyHeap_old e)) k2 (by have k3 : ∃ o, h'.get? ((copyHeap s.heap vs).objs.size + 1) = some o := k3; rw [zc] at k3; exact k3)) (fun i v k h1 h2 s1 j1 => ?_) fun s' out c j' h1 h2 => ⟨rfl, fin s' out c j' h1 h2⟩
  have := turn i v k h1 h2 s1 j1
  show wpAny _ _ _ (fun u s2 => IntKey k u ∧ J s2 ∧ ∀ b o, b = s.heap.objs.size + 1 ∨ b = (copyHeap s.heap vs).objs.size + 1 → _ → _) _ _
  rw [zc]
  exact this
end
section
variable {X : Cx} {pins : List (Addr × Obj)} {σ : L2.St} {H : Hp} {s : Shared}
abbrev lamF (X : Cx) (params : Arguments) (scope : Scope) (c' : Addr) : NF := ⟨"<lambda>", X.env.qual ++ "<lambda>", params, [], scope, cloFrom X.env.cells scope.names [], c'⟩
abbrev lamOb (X : Cx) (params : Arguments) (body : Expr) (scope : Scope) (pm : Value) (c' : Addr) (ctv : Value) : Obj := PySem.W.kla_obj "<lambda>" (X.env.qual ++ "<lambda>") params body scope (cloFrom X.env.cells scope.names []) pm c' ctv
/-- one call of the lambda, by code that runs within this frame -/
theorem lam_turn {A1 : Around} {f c' : Addr} {params : Arguments} {body : Expr} {scope : Scope} {pm ctv : Value} {Nl fr : List Str} {y : Str} {js : List Nat} {k : Nat} {tb : TE} {v : V} {u : Value} {Qx : VK}
    (I : Inv X ((f, lamOb X params body scope pm c' ctv) :: pins) σ H s) (hc : H c' = some (CodeO c' (X.env.qual ++ "<lambda>"))) (S : NScope Nl [y] fr scope) (C : Caps X (cloFrom X.env.cells scope.names []) fr js)
    (hbind : ∀ (cl : List (Str × Addr)) (pm cv ctv : Value) (u : Value), bindArgs (PySem.W.kla_fn "<lambda>" (X.env.qual ++ "<lambda>") params body scope cl pm cv ctv) ⟨[u], []⟩ = pure [(y, u)])
    (hr : Room (k + 1) A1) (hA : A1.frames = some X.stack) (rv : RelV v u)
    (hbody : ∀ (A : Around) (outer : List Env) (s : Shared) (H : Hp) (E : XK), Room k (A.deeper (envF (lamF X params scope c') f s.heap.objs.size)) → PE (ncx C8.CX0 X.prog X.w X.K X.mg X.base Nl (lamF X params scope c') f A outer s H E) body tb)
    (t : tb (startF Nl [v] (js.map (slotAt σ))) H Qx) :
    wpAny (model X.prog X.w) A1 (call (.ref f) [u]) (fun u' s2 => ∃ v' H', RelV v' u' ∧ Qx v' H' ∧ Inv X ((f, lamOb X params body scope pm c' ctv) :: pins) σ H' s2 ∧ Un (frs X.stack) [] H H' s.heap s2.heap) (fun _ _ => False) s := by
  have e0 : Env0 X.prog X.w X.K X.mg X.base A1 X.stack s H := ⟨hA, I.env0.mod, I.env0.bs, I.env0.bsz, I.env0.funs, I.env0.frf, I.env0.hok, I.env0.bare⟩
  obtain ⟨⟨oc, vs, tq, hoc, hdc, hvc⟩, _, _⟩ := I.hok c' _ hc
  have hf := (I.pin (f, lamOb X params body scope pm c' ctv) (List.mem_append_right _ (List.mem_cons_self ..))).1
  have lim : s.heap.NoLimit := e0.mod.nolimit.keeps fun b o e => (e0.bs b o e).1
  have rc : codeAny (model X.prog X.w) A1 (.call (.ref f) ⟨[u], []⟩) (CR C8.CX0 X.stack X.prog X.w H s Qx C8.E0) s := by
    refine PySem.W.kla_callFunE hr.depth hf rfl S.co S.gen rfl ⟨c', oc, vs, tq, rfl, hoc, hdc, hvc⟩ ?_
    rw [hbind]
    refine wpAny_pure (wpAny_newFunctionEnv S.nocell (fun z hz => ?_) (fun h₁ hns hsb => ⟨lim.fresh _ hsb, ?_⟩) S.kind)
    · rw [List.mem_singleton] at hz
      subst hz
      exact S.par y (List.mem_singleton.mpr rfl)
    have kp : ∀ b o, s.heap.get? b = some o → h₁.get? b = some o := fun b o e => hsb.extBut b o (Nat.ne_of_lt (Heap.lt_size e)) (Heap.get?_push_of_some _ e)
    show codeAny _ _ (.expr body (envF (lamF X params scope c') f s.heap.objs.size)) _ _
    have J : Inv (ncx C8.CX0 X.prog X.w X.K X.mg X.base Nl (lamF X params scope c') f A1 X.stack s H C8.E0) [] (startF Nl [v] (js.map (slotAt σ))) H { s with heap := h₁, toks := s.toks + [(y, u)].length } :=
      inv_startN (us := [u]) (ps := [y]) S hr.hd e0 rfl (.cons rv .nil) (cells_of I C) hns kp
    refine PySem.W.kla_codeExpr (wpAny_mono ((hbody A1 X.stack s H C8.E0 (hr.deeper _)).run [] _ _ H Qx J t) (fun v' s' hq => ?_) fun e s' hq => hq)
    obtain ⟨w', H', J', rv', q⟩ := hq
    exact ⟨w', H', J'.os, J'.bare, J'.base, J'.hok, rv', q⟩
  refine wpAny_call (codeAny_mono rc fun r s' hq => ?_)
  cases r with
  | error e => exact (show False from hq).elim
  | ok fl =>
    cases fl with
    | ret u' =>
      obtain ⟨v', H', e1, e2, un, hok, rv', q⟩ := hq
      exact ⟨v', H', rv', q, I.call' e1 un hok e2 (fun b hb => nomatch hb), un⟩
    | next => exact False.elim hq
    | brk => exact False.elim hq
    | cont => exact False.elim hq
theorem each_vals : ∀ {xs : List V} {us : List Value}, Vals xs us → EachIs (fun u v => RelV v u) us xs
  | _, _, .nil => .nil
  | _, _, .cons r t => .cons r (each_vals t)
theorem vals_each : ∀ {xs : List V} {us : List Value}, EachIs (fun u v => RelV v u) us xs → Vals xs us
  | _, _, .nil => .nil
  | _, _, .cons r t => .cons r (vals_each t)
theorem each_zip {R : Value → V → Prop} : ∀ {ks : List Int} {xs : List V} {us : List Value}, ks.length = xs.length → EachIs R us xs → EachIs (fun u (p : Int × V) => R u p.2) us (ks.zip xs)
  | [], [], _, _, .nil => .nil
  | k :: ks, x :: xs, _, h, .cons r t => .cons r (each_zip (by simpa using h) t)
theorem each_snd {R : Value → V → Prop} : ∀ {ps : List (Int × V)} {us : List Value}, EachIs (fun u (p : Int × V) => R u p.2) us ps → EachIs R us (ps.map Prod.snd)
  | _, _, .nil => .nil
  | _, _, .cons r t => .cons r (each_snd t)
theorem vals_at : ∀ {xs : List V} {us : List Value} {i : Nat} {u : Value}, Vals xs us → us[i]? = some u → ∃ x, xs[i]? = some x ∧ RelV x u
  | _, _, _, _, .nil, e => by simp at e
  | _, _, 0, _, .cons r _, e => by simp at e; subst e; exact ⟨_, rfl, r⟩
  | _, _, i + 1, u, .cons _ t, e => by
    obtain ⟨x, h1, h2⟩ := vals_at (i := i) (u := u) t (by simpa using e)
    exact ⟨x, by simpa using h1, h2⟩
theorem fp_of {pins : List (Addr × Obj)} {H H' : Hp} {b : Addr} (h : FpOk X pins H b) (n : H' b = none) : FpOk X pins H' b := ⟨n, h.2⟩
/-- an object of ours becomes known -/
theorem adopt {a : Addr} {ob : HO} (I : Inv X pins σ H s) (hf : FpOk X pins H a) (new : ObjOk X.prog X.w (upd H a ob) s.heap a ob) : Inv X pins σ (upd H a ob) s := by
  have n := hf.1
  refine I.step (g' := s.gens) (d' := s.drawn) (t' := s.toks) (h' := s.heap) (ch := [a]) (fun b hb => ?_) (fun b o _ _ _ e _ => e) (fun b o _ _ _ e _ => ⟨o.slots, e⟩) (fun b o hc e m => ?_) (fun b o hc e => ⟨o, e⟩) (fun b xs e => ?_) (fun b o u e => ?_) (fun b ps e => ⟨#[], ?_⟩) (fun m hm => hm) (fun b u e => ?_) I.bare
  · rw [List.mem_singleton] at hb
    subst hb
    exact ⟨hf.2.2.2.1, hf.2.1, hf.2.2.2.2.1, hf.2.2.2.2.2⟩
  · rw [upd_ne (fun z => hc (List.mem_singleton.mpr z))]; exact m
  · rw [upd_ne (ne_of_none e n)]; exact e
  · rw [upd_ne (ne_of_none e n)]; exact e
  · rw [upd_ne (ne_of_none e n), e]; simp
  · by_cases hb : b = a
    · subst hb
      rw [upd_same] at e
      cases e
      exact new
    · rw [upd_ne hb] at e
      exact (I.hok b u e).stay (fun c v hc q => q) (fun c q => by rw [upd_ne (ne_of_none q n)]; exact q) fun c xs q => by rw [upd_ne (ne_of_none q n)]; exact q
end
/-- sorted(xs, key=lambda y: body); Nl: the lambda's names (y, then the captured ones), js: where those stand in the frame -/
def rSortLam (K : PySem.W.Frag) (P : Addr) (q : Str) (Nl : List Str) (js : List Nat) (tb : TE) (σ : L2.St) (Q : VK) : VK := fun v H1 =>
  ∃ l xs, v = .ref l ∧ SqL K H1 l xs ∧ TabS H1 P q ∧ ∀ H2, ExtN H1 H2 → TabS H2 P q → ∃ (J : Hp → Prop) (kz : List Int), kz.length = xs.length ∧ SqL K H2 l xs ∧ J H2 ∧ (∀ H3, J H3 → ∀ b φ, H2 b = some (.ext φ) → H3 b = some (.ext φ)) ∧
    (∀ H3 (i : Nat) (x : V) (k : Int), J H3 → xs[i]? = some x → kz[i]? = some k → tb (startF Nl [x] (js.map (slotAt σ))) H3 fun v H4 => v = .int k ∧ J H4) ∧ ∀ H3 D, J H3 → H3 D = none → Q (.ref D) (upd H3 D (.lst (((kz.zip xs).mergeSort fun a b => decide (a.1 ≤ b.1)).map Prod.snd)))
def tSortLam (K : PySem.W.Frag) (P : Addr) (q : Str) (Nl : List Str) (js : List Nat) (te tb : TE) : TE := fun σ H Q => te σ H (rSortLam K P q Nl js tb σ Q)
def one1 (r : VK) : List V → Hp → Prop
  | [v], H => r v H
  | _, _ => False
section
variable {X : Cx}
theorem pe_sortLam {P c : Addr} {Nl fr : List Str} {y : Str} {js : List Nat} {k : Nat} {te tb : TE} {e body : Expr} {params : Arguments} {scope : Scope} {p pos lpos kpos : Pos} (hg : Gl X "sorted") (hm : X.mg "sorted" = none) (ha : PA X [e] (tCons te tNil))
    (TB : TabB X.base X.mg c P) (hcode : X.env.code = .ref c) (hr : Room (k + 4) X.A) (S : NScope Nl [y] fr scope)
    (hfree : ∀ z ∈ scope.names, z.2 = .free → X.env.scope.names.lookup z.1 = some .cell ∨ X.env.scope.names.lookup z.1 = some .free) (hfr : ∀ z ∈ fr, (z, NameKind.free) ∈ scope.names) (hjs : js.map (fun j => X.N[j]?) = fr.map some)
    (hdef : defaultsOf params X.env = ([], []))
    (hbind : ∀ (cl : List (Str × Addr)) (pm cv ctv : Value) (u : Value), bindArgs (PySem.W.kla_fn "<lambda>" (X.env.qual ++ "<lambda>") params body scope cl pm cv ctv) ⟨[u], []⟩ = pure [(y, u)])
    (hbody : ∀ (f c' : Addr) (A : Around) (outer : List Env) (s : Shared) (H : Hp) (E : XK), Room k (A.deeper (envF (lamF X params scope c') f s.heap.objs.size)) → PE (ncx C8.CX0 X.prog X.w X.K X.mg X.base Nl (lamF X params scope c') f A outer s H E) body tb)
    (hst : backTo pos (starEach [e] X.env) = (false, eval e X.env) :: backTo pos (starEach [] X.env) := by rfl) (hpl : (backTo pos (starEach [e] X.env)).any (·.1) = false := by rfl) :
    PE X (.Call (.Name "sorted" p) [e] [⟨some "key", .Lambda params body scope lpos, kpos⟩] pos) (tSortLam X.K P (X.env.qual ++ "<lambda>") Nl js te tb) := by
  refine ⟨fun pins s σ H Q I h => ?_⟩
  refine wpAny_Call_Name_kw (ld_blt I hg hm (u := .builtin "sorted") (by first | rfl | decide +kernel) ?_ (by decide) (by decide))
  refine PyProof.Rows.callWith_kw (thn (ha.run pos pins s σ H (one1 (rSortLam X.K P (X.env.qual ++ "<lambda>") Nl js tb σ Q)) I h) fun us s1 ⟨vs, H1, I1, r1, q0⟩ => ?_) hst hpl (by rfl) (by rfl)
  obtain ⟨v, rfl, l, xs, e1, sq1, T1, q1⟩ : ∃ v, vs = [v] ∧ rSortLam X.K P (X.env.qual ++ "<lambda>") Nl js tb σ Q v H1 := by
    match vs, q0 with
    | [v], q0 => exact ⟨v, rfl, q0⟩
  subst e1
  obtain rfl := Vals.ref1 r1
  refine wpAny_evalAll_cons (wpAny_bind (lam_make2 (T := [(P, X.env.qual ++ "<lambda>")]) I1 TB hcode (List.mem_singleton.mpr rfl) (fun z hz _ => by rw [List.mem_singleton] at hz; rw [hz]) (fun z hz => by rw [List.mem_singleton] at hz; rw [hz]; exact T1) hdef
    (fun z hz e => (hfree z hz e).elim (fun k => I1.ok.has _ (.inl k)) (fun k => I1.ok.has _ (.inr k))) fun f c' pm ctv H2 s2 I2 eN T2 hf hfn hfr' hco => ?_))
  refine wpAny_bind (wpAny_standAt (wpAny_pure (wpAny_evalAll_nil ?_)))
  obtain ⟨J, kz, lk, sq2, j2, jx, jt, jq⟩ := q1 H2 eN (T2 _ (List.mem_singleton.mpr rfl))
  obtain ⟨its, rv, hl, hz⟩ := I2.list sq2
  have fob : s2.heap.get? f = some (lamOb X params body scope pm c' ctv) := hf
  have I3 : Inv X ((f, lamOb X params body scope pm c' ctv) :: pins) σ H2 s2 := I2.pins_of fun z hz => by
    rcases List.mem_cons.mp hz with rfl | hz
    · refine ⟨hf, hfn, fun z => ?_, fun z => hfr' ?_, fun v z => ?_⟩
      · obtain ⟨m, ⟨o, es, ep, ho, hd, _⟩, _⟩ := I2.loc
        rw [← z, fob] at ho
        cases ho
        cases hd
      · rcases I2.ok.stk with e | ⟨e, ef⟩
        · rw [e]; exact z
        · rw [e]
          unfold frs
          rw [List.filterMap_cons, ef]
          exact List.mem_cons_of_mem _ z
      · cases z
    · exact I2.pin z (List.mem_append_right _ hz)
  have za : s2.heap.objs.size ≤ s2.heap.objs.size + 1 := Nat.le_succ _
  have zk : s2.heap.objs.size ≤ s2.heap.objs.size + 3 := by omega
  have fa := I3.fpOk za (I3.hok.fresh za)
  have fk := I3.fpOk zk (I3.hok.fresh zk)
  have nak : s2.heap.objs.size + 1 ≠ s2.heap.objs.size + 3 := by omega
  have nst : ∀ {b}, FpOk X ((f, lamOb X params body scope pm c' ctv) :: pins) H2 b → b ∉ frs X.stack := fun {b} h z => by
    rcases List.mem_cons.mp (I3.stkSub b z) with q | q
    · exact h.2.1 q
    · exact h.2.2.1 q
  have bl : ∀ c0, (c0 = s2.heap.objs.size + 1 ∨ c0 = s2.heap.objs.size + 3) → Blind (fun s' => ∃ H', Inv X ((f, lamOb X params body scope pm c' ctv) :: pins) σ H' s' ∧ J H' ∧ (∀ b, b = s2.heap.objs.size + 1 ∨ b = s2.heap.objs.size + 3 → H' b = none ∧ ∃ o, s'.heap.get? b = some o)) c0 := by
    rintro c0 hc0 s' h' ⟨H', I', j', on⟩ m ⟨o, ho⟩
    have f0 : FpOk X ((f, lamOb X params body scope pm c' ctv) :: pins) H' c0 := by
      rcases hc0 with rfl | rfl
      · exact fp_of fa (on _ (.inl rfl)).1
      · exact fp_of fk (on _ (.inr rfl)).1
    refine ⟨H', I'.turnedL (t' := s'.toks) (ch := [c0]) (fun b o hb e => (m.2 b (fun z => hb (List.mem_singleton.mpr z))).trans e) (fun b hb => by rw [List.mem_singleton] at hb; rw [hb]; exact f0), j', fun b hb => ⟨(on b hb).1, ?_⟩⟩
    by_cases e : b = c0
    · subst e; exact ⟨o, ho⟩
    · obtain ⟨o', q⟩ := (on b hb).2
      exact ⟨o', (m.2 b e).trans q⟩
  have lx : xs.length = its.length := rv.length
  refine sortedJ (kz := kz) hl.isList (by rw [← lx]; exact hz) (by rw [lk, lx]) (by have := hr.un; omega) (bl _ (.inl rfl)) (bl _ (.inr rfl)) (fun h' k1 k2 k3 => ?_) (fun i v k0 h1 h2 s3 ⟨H3, I4, j3, on⟩ => ?_) fun s' out c0 ⟨H', I', j', on⟩ hD ko => ?_
  · refine ⟨H2, I3.kept (t' := s2.toks) k1, j2, fun b hb => ?_⟩
    rcases hb with rfl | rfl
    · exact ⟨fa.1, k2⟩
    · exact ⟨fk.1, k3⟩
  · obtain ⟨x, hx, rx⟩ := vals_at rv h1
    refine wpAny_mono (lam_turn (A1 := X.A.in1.in1) (y := y) (Nl := Nl) (fr := fr) (js := js) (k := k) (tb := tb) I4 (jx _ j3 _ _ hco) S (Caps.made I4.ok hfree hfr hjs) hbind (hr.mono (by omega : k + 3 ≤ k + 4)).in1.in1 I4.env0.frames rx (fun A outer s H E hr' => hbody f c' A outer s H E hr') (jt _ i x k0 j3 hx h2)) (fun u' s4 hq => ?_) fun _ _ z => z
    obtain ⟨v', H4, rv', ⟨ev, j4⟩, I5, un⟩ := hq
    subst ev
    have kp : ∀ b o, b = s2.heap.objs.size + 1 ∨ b = s2.heap.objs.size + 3 → s3.heap.get? b = some o → s4.heap.get? b = some o := fun b o hb e => un.keep b o e (on b hb).1 (by
      rcases hb with rfl | rfl
      · exact nst fa
      · exact nst fk) (by simp)
    refine ⟨rv', ⟨H4, I5, j4, fun b hb => ?_⟩, kp⟩
    obtain ⟨n0, o0, e0⟩ := on b hb
    exact ⟨un.free b o0 e0 n0 (by simp), o0, kp b o0 hb e0⟩
  · have ez : (kz.zip xs).map (fun p => PyData.int p.1) = kz.map PyData.int := by
      have q : (kz.zip xs).map (PyData.int ∘ Prod.fst) = kz.map PyData.int := by rw [← List.map_map, List.map_fst_zip (by omega)]
      exact q
    have ea := keyedOut_each (R := fun (u : Value) (p : Int × V) => RelV p.2 u) (bs := kz.zip xs) (fun p => PyData.int p.1) (by rw [ez]; exact ko) (each_zip lk (each_vals rv))
    rw [PySem.W.dataLe_int] at ea
    have va := vals_each (each_snd ea)
    have n1 := on _ (.inl rfl)
    have new : ObjOk X.prog X.w (upd H' (s2.heap.objs.size + 1) (.lst (((kz.zip xs).mergeSort fun a b => decide (a.1 ≤ b.1)).map Prod.snd))) s'.heap (s2.heap.objs.size + 1) (.lst (((kz.zip xs).mergeSort fun a b => decide (a.1 ≤ b.1)).map Prod.snd)) :=
      ⟨by rw [List.length_map, List.length_mergeSort, List.length_zip, lk, Nat.min_self]; exact hz, out, c0, va, hD⟩
    have I6 := adopt I' (fp_of fa n1.1) new
    exact ⟨.ref _, _, I6.pins_of fun z hz => I6.pin z (by
      rcases List.mem_append.mp (List.mem_append_right X.pn hz) with q | q
      · exact List.mem_append_left _ q
      · exact List.mem_append_right _ (List.mem_cons_of_mem _ q)), rfl, jq _ _ j' n1.1⟩
end
end KJ
set_option Elab.async false
set_option linter.all false
set_option maxRecDepth 100000
namespace Z3
open PySem PySem.Spec PyProof.Rows L2

/-! ## values: tuples are pure -/
inductive W where
  | non | bl (b : Bool) | int (i : Int) | str (x : Str) | ref (a : Addr) | ty (n : String) | tup (ws : List W)
  /-- a list that is never written (the script) -/
  | rls (ws : List W)
  | rng (lo hi : Int)

/-- a list that is locked or of the module -/
def FzL (K : PySem.W.Frag) (H : Hp) (a : Addr) (xs : List V) : Prop :=
  (∃ o, H a = some (.frz o (.lst xs))) ∨
    ∃ (o : Obj) (its : Array Value) (n : Nat), K.lookup a = some o ∧ o.cls = .type "list" ∧ o.dict = none ∧ o.data = .seq its n ∧ its.size ≤ sizeLine ∧ Vals xs its.toList
theorem FzL.seq {K H a xs} (h : FzL K H a xs) : SqL K H a xs := by
  rcases h with h | h
  · exact .inl (.inr h)
  · exact .inr h
mutual
inductive RV (K : PySem.W.Frag) (H : Hp) : W → V → Prop
  | non : RV K H .non .non
  | bl (b) : RV K H (.bl b) (.bl b)
  | int (i) : RV K H (.int i) (.int i)
  | str (x) : RV K H (.str x) (.str x)
  | ref (a) : RV K H (.ref a) (.ref a)
  | ty (n) : RV K H (.ty n) (.ty n)
  | tup {ws vs a} : SqT K H a vs → RVs K H ws vs → RV K H (.tup ws) (.ref a)
  | rls {ws vs a} : FzL K H a vs → RVs K H ws vs → RV K H (.rls ws) (.ref a)
  | rng {lo hi a} : H a = some (.rng lo hi) → RV K H (.rng lo hi) (.ref a)
inductive RVs (K : PySem.W.Frag) (H : Hp) : List W → List V → Prop
  | nil : RVs K H [] []
  | cons {w v ws vs} : RV K H w v → RVs K H ws vs → RVs K H (w :: ws) (v :: vs)
end

/-- what never changes stays -/
structure TK (K : PySem.W.Frag) (H H' : Hp) : Prop where
  tup : ∀ a xs, SqT K H a xs → SqT K H' a xs
  fz : ∀ a xs, FzL K H a xs → FzL K H' a xs
  rng : ∀ a lo hi, H a = some (.rng lo hi) → H' a = some (.rng lo hi)
  ext : ∀ a φ, H a = some (.ext φ) → H' a = some (.ext φ)
theorem TK.refl {K H} : TK K H H := ⟨fun _ _ h => h, fun _ _ h => h, fun _ _ _ h => h, fun _ _ h => h⟩
theorem TK.trans {K H H1 H2} (a : TK K H H1) (b : TK K H1 H2) : TK K H H2 := ⟨fun _ _ h => b.tup _ _ (a.tup _ _ h), fun _ _ h => b.fz _ _ (a.fz _ _ h), fun _ _ _ h => b.rng _ _ _ (a.rng _ _ _ h), fun _ _ h => b.ext _ _ (a.ext _ _ h)⟩
/-- what is no tuple, no range and not locked -/
def Wr : HO → Prop
  | .tup _ => False
  | .frz _ _ => False
  | .rng _ _ => False
  | .ext _ => False
  | _ => True
theorem TK.of {K H H'} (h : ∀ a u, ¬ Wr u → H a = some u → H' a = some u) : TK K H H' := by
  refine ⟨fun a xs q => ?_, fun a xs q => ?_, fun a lo hi q => h _ _ (fun z => z) q, fun a φ q => h _ _ (fun z => z) q⟩
  · rcases q with (q | ⟨u, q⟩) | q
    · exact .inl (.inl (h _ _ (fun z => z) q))
    · exact .inl (.inr ⟨u, h _ _ (fun z => z) q⟩)
    · exact .inr q
  · rcases q with ⟨u, q⟩ | q
    · exact .inl ⟨u, h _ _ (fun z => z) q⟩
    · exact .inr q
theorem TK.new {K H p o} (h : H p = none) : TK K H (upd H p o) := .of fun a u _ q => by rw [upd_ne (ne_of_none q h)]; exact q
theorem TK.set {K H p o u} (h : H p = some u) (n : Wr u) : TK K H (upd H p o) := .of fun a v nv q => by
  have : a ≠ p := by rintro rfl; rw [h] at q; cases q; exact nv n
  rw [upd_ne this]; exact q

mutual
theorem RV.tk {K H H'} (t : TK K H H') : ∀ {w v}, RV K H w v → RV K H' w v
  | _, _, .non => .non
  | _, _, .bl b => .bl b
  | _, _, .int i => .int i
  | _, _, .str x => .str x
  | _, _, .ref a => .ref a
  | _, _, .ty n => .ty n
  | _, _, .tup s r => .tup (t.tup _ _ s) (RVs.tk t r)
  | _, _, .rls s r => .rls (t.fz _ _ s) (RVs.tk t r)
  | _, _, .rng s => .rng (t.rng _ _ _ s)
theorem RVs.tk {K H H'} (t : TK K H H') : ∀ {ws vs}, RVs K H ws vs → RVs K H' ws vs
  | _, _, .nil => .nil
  | _, _, .cons a b => .cons (RV.tk t a) (RVs.tk t b)
end
theorem RVs.length {K H} : ∀ {ws vs}, RVs K H ws vs → ws.length = vs.length
  | _, _, .nil => rfl
  | _, _, .cons _ t => by rw [List.length_cons, List.length_cons, RVs.length t]
theorem RVs.get {K H} : ∀ {ws : List W} {vs : List V} {i : Nat} {w : W}, RVs K H ws vs → ws[i]? = some w → ∃ v, vs[i]? = some v ∧ RV K H w v
  | _, _, _, _, .nil, e => by simp at e
  | _, _, 0, _, .cons r _, e => by simp at e; subst e; exact ⟨_, rfl, r⟩
  | _, _, i + 1, w, .cons _ t, e => by
    obtain ⟨u, h1, h2⟩ := RVs.get (i := i) (w := w) t (by simpa using e)
    exact ⟨u, by simpa using h1, h2⟩
theorem RVs.get' {K H} : ∀ {ws : List W} {vs : List V} {i : Nat} {v : V}, RVs K H ws vs → vs[i]? = some v → ∃ w, ws[i]? = some w ∧ RV K H w v
  | _, _, _, _, .nil, e => by simp at e
  | _, _, 0, _, .cons r _, e => by simp at e; subst e; exact ⟨_, rfl, r⟩
  | _, _, i + 1, w, .cons _ t, e => by
    obtain ⟨u, h1, h2⟩ := RVs.get' (i := i) (v := w) t (by simpa using e)
    exact ⟨u, by simpa using h1, h2⟩
theorem RVs.append {K H} : ∀ {ws : List W} {vs : List V} {ws' : List W} {vs' : List V}, RVs K H ws vs → RVs K H ws' vs' → RVs K H (ws ++ ws') (vs ++ vs')
  | _, _, _, _, .nil, s => s
  | _, _, _, _, .cons r t, s => .cons r (RVs.append t s)
theorem RVs.take {K H} : ∀ {ws vs} (n : Nat), RVs K H ws vs → RVs K H (ws.take n) (vs.take n)
  | _, _, 0, _ => .nil
  | _, _, _ + 1, .nil => .nil
  | _, _, n + 1, .cons r t => .cons r (RVs.take n t)
theorem RVs.drop {K H} : ∀ {ws vs} (n : Nat), RVs K H ws vs → RVs K H (ws.drop n) (vs.drop n)
  | _, _, 0, r => r
  | _, _, _ + 1, .nil => .nil
  | _, _, n + 1, .cons _ t => RVs.drop n t
theorem RVs.set {K H w v} (r : RV K H w v) : ∀ {ws vs} (i : Nat), RVs K H ws vs → RVs K H (ws.set i w) (vs.set i v)
  | _, _, _, .nil => .nil
  | _, _, 0, .cons _ t => .cons r t
  | _, _, i + 1, .cons q t => .cons q (RVs.set r i t)
theorem RVs.eraseIdx {K H} : ∀ {ws vs} (i : Nat), RVs K H ws vs → RVs K H (ws.eraseIdx i) (vs.eraseIdx i)
  | _, _, _, .nil => .nil
  | _, _, 0, .cons _ t => t
  | _, _, i + 1, .cons q t => .cons q (RVs.eraseIdx i t)
theorem RVs.reverse {K H} : ∀ {ws vs}, RVs K H ws vs → RVs K H ws.reverse vs.reverse
  | _, _, .nil => .nil
  | _, _, .cons q t => by rw [List.reverse_cons, List.reverse_cons]; exact (RVs.reverse t).append (.cons q .nil)
theorem RVs.dropLast {K H} {ws vs} (h : RVs K H ws vs) : RVs K H ws.dropLast vs.dropLast := by
  rw [List.dropLast_eq_take, List.dropLast_eq_take, h.length]; exact h.take _
theorem RVs.insertIdx {K H w v} (r : RV K H w v) : ∀ {ws vs} (i : Nat), RVs K H ws vs → RVs K H (ws.insertIdx i w) (vs.insertIdx i v)
  | _, _, 0, t => .cons r t
  | _, _, i + 1, .nil => .nil
  | _, _, i + 1, .cons q t => .cons q (RVs.insertIdx r i t)
theorem RVs.one {K H w v} (r : RV K H w v) : RVs K H [w] [v] := .cons r .nil

/-! ## the heap of what may change -/
inductive MO where
  | lst (ws : List W)
  | dK (kvs : List (Key × W))
  | dT (kvs : List (List Key × W))
  | ins (C : Addr) (fs : List (Str × W))
  /-- the table of the code objects of the def that holds a lambda; q: the lambda's name -/
  | tab (q : Str)

def RKV {κ : Type} (K : PySem.W.Frag) (H : Hp) : List (κ × W) → List (κ × V) → Prop := Paired fun p q => p.1 = q.1 ∧ RV K H p.2 q.2
theorem RKV.tk {κ : Type} {K H H'} (t : TK K H H') {x : List (κ × W)} {y : List (κ × V)} (h : RKV K H x y) : RKV K H' x y := Paired.mapP h fun _ _ z => ⟨z.1, z.2.tk t⟩
abbrev Mp := Addr → Option MO
def up (M : Mp) (a : Addr) (o : MO) : Mp := fun b => if b = a then some o else M b
theorem up_same {M a o} : up M a o a = some o := by unfold up; rw [if_pos rfl]
theorem up_ne {M a b o} (h : b ≠ a) : up M a o b = M b := by unfold up; rw [if_neg h]
theorem up_up {M a o u} : up (up M a o) a u = up M a u := by funext b; unfold up; split <;> rfl
theorem up_swap {M a b o u} (h : a ≠ b) : up (up M a o) b u = up (up M b u) a o := by
  funext c; unfold up
  by_cases e1 : c = b
  · subst e1; rw [if_pos rfl, if_neg (Ne.symm h), if_pos rfl]
  · rw [if_neg e1]; by_cases e2 : c = a
    · rw [if_pos e2, if_pos e2]
    · rw [if_neg e2, if_neg e2, if_neg e1]
theorem ne_new {M : Mp} {a p o} (h : M a = some o) (n : M p = none) : a ≠ p := by rintro rfl; rw [h] at n; cases n
theorem up_old {M : Mp} {a p o u} (h : M a = some o) (n : M p = none) : up M p u a = some o := by rw [up_ne (ne_new h n)]; exact h

def RO (K : PySem.W.Frag) (H : Hp) (a : Addr) : MO → Prop
  | .lst ws => ∃ vs, H a = some (.lst vs) ∧ RVs K H ws vs
  | .dK kvs => ∃ kvs', H a = some (.dK kvs') ∧ RKV K H kvs kvs'
  | .dT kvs => ∃ kvs', H a = some (.dT kvs') ∧ RKV K H kvs kvs'
  | .ins C fs => ∃ dx fs', H a = some (.ins C dx fs') ∧ RKV K H fs fs'
  | .tab q => LamX.TabS H a q
structure OkM (K : PySem.W.Frag) (M : Mp) (H : Hp) : Prop where
  at_ : ∀ a o, M a = some o → RO K H a o
  /-- one def alone holds a lambda -/
  one : ∀ a b q q', M a = some (.tab q) → M b = some (.tab q') → a = b
instance {K M H} : CoeFun (OkM K M H) (fun _ => ∀ a o, M a = some o → RO K H a o) := ⟨OkM.at_⟩
def Le (M M' : Mp) : Prop := ∀ a o, M a = some o → M' a = some o
theorem Le.refl {M} : Le M M := fun _ _ h => h
theorem Le.trans {M M1 M2} (a : Le M M1) (b : Le M1 M2) : Le M M2 := fun _ _ h => b _ _ (a _ _ h)
theorem Le.new {M : Mp} {p o} (h : M p = none) : Le M (up M p o) := fun a u q => up_old q h
theorem OkM.le {K M M' H} (h : OkM K M' H) (l : Le M M') : OkM K M H := ⟨fun a o q => h a o (l a o q), fun a b q q' h1 h2 => h.one a b q q' (l _ _ h1) (l _ _ h2)⟩

theorem RO.tk {K H H' a o} (t : TK K H H') (e : H' a = H a) (h : RO K H a o) : RO K H' a o := by
  cases o with
  | lst ws => obtain ⟨vs, q, r⟩ := h; exact ⟨vs, e.trans q, r.tk t⟩
  | dK kvs => obtain ⟨vs, q, r⟩ := h; exact ⟨vs, e.trans q, r.tk t⟩
  | dT kvs => obtain ⟨vs, q, r⟩ := h; exact ⟨vs, e.trans q, r.tk t⟩
  | ins C fs => obtain ⟨dx, vs, q, r⟩ := h; exact ⟨dx, vs, e.trans q, r.tk t⟩
  | tab q =>
    obtain ⟨ps, h1, h2, h3⟩ := h
    refine ⟨ps, e.trans h1, h2, fun pos cv hc => ?_⟩
    obtain ⟨c, e1, e2⟩ := h3 pos cv hc
    exact ⟨c, e1, t.ext _ _ e2⟩
theorem RO.some {K H a o} (h : RO K H a o) : ∃ u, H a = some u ∧ Wr u := by
  cases o with
  | lst ws => obtain ⟨vs, q, r⟩ := h; exact ⟨_, q, trivial⟩
  | dK kvs => obtain ⟨vs, q, r⟩ := h; exact ⟨_, q, trivial⟩
  | dT kvs => obtain ⟨vs, q, r⟩ := h; exact ⟨_, q, trivial⟩
  | ins C fs => obtain ⟨dx, vs, q, r⟩ := h; exact ⟨_, q, trivial⟩
  | tab q => obtain ⟨ps, h1, _⟩ := h; exact ⟨_, h1, trivial⟩
theorem OkM.free {K M H p} (h : OkM K M H) (n : H p = none) : M p = none := by
  cases e : M p with
  | none => rfl
  | some o => obtain ⟨u, q, _⟩ := (h _ _ e).some; rw [n] at q; cases q
/-- the heap grew by something that M does not tell -/
theorem OkM.grow {K M H p u} (h : OkM K M H) (n : H p = none) : OkM K M (upd H p u) := ⟨fun a o q => by
  obtain ⟨v, hv, _⟩ := (h _ _ q).some
  exact (h _ _ q).tk (TK.new n) (upd_ne (ne_of_none hv n)), h.one⟩
def noTab : MO → Bool
  | .tab _ => false
  | _ => true
theorem one_up {M : Mp} {p : Addr} {o : MO} (h : ∀ a b q q', M a = some (.tab q) → M b = some (.tab q') → a = b) (nt : noTab o = true) : ∀ a b q q', up M p o a = some (.tab q) → up M p o b = some (.tab q') → a = b := by
  have key : ∀ a q, up M p o a = some (.tab q) → M a = some (.tab q) := fun a q e => by
    by_cases z : a = p
    · subst z; rw [up_same] at e; cases e; cases nt
    · rw [up_ne z] at e; exact e
  exact fun a b q q' h1 h2 => h a b q q' (key _ _ h1) (key _ _ h2)
theorem OkM.new {K M H p u o} (h : OkM K M H) (n : H p = none) (r : RO K (upd H p u) p o) (nt : noTab o = true := by rfl) : OkM K (up M p o) (upd H p u) := ⟨fun a o' q => by
  by_cases e : a = p
  · subst e; rw [up_same] at q; cases q; exact r
  · rw [up_ne e] at q; exact (h.grow n).at_ a o' q, one_up h.one nt⟩
theorem OkM.set {K M H p u u' o} (h : OkM K M H) (q : H p = some u') (nw : Wr u') (r : RO K (upd H p u) p o) (nt : noTab o = true := by rfl) : OkM K (up M p o) (upd H p u) := ⟨fun a o' q' => by
  by_cases e : a = p
  · subst e; rw [up_same] at q'; cases q'; exact r
  · rw [up_ne e] at q'; exact (h a o' q').tk (TK.set q nw) (upd_ne e), one_up h.one nt⟩

/-! ## slots -/
abbrev St3 := List (Option W)
inductive RSt (K : PySem.W.Frag) (H : Hp) : St3 → L2.St → Prop
  | nil : RSt K H [] []
  | no {x a b} : RSt K H a b → RSt K H (none :: a) (x :: b)
  | yes {w v a b} : RV K H w v → RSt K H a b → RSt K H (some w :: a) (some v :: b)
theorem RSt.tk {K H H'} (t : TK K H H') : ∀ {a b}, RSt K H a b → RSt K H' a b
  | _, _, .nil => .nil
  | _, _, .no r => .no (RSt.tk t r)
  | _, _, .yes q r => .yes (q.tk t) (RSt.tk t r)
theorem RSt.get {K H} : ∀ {a : St3} {b : L2.St} {i : Nat} {w : W}, RSt K H a b → a[i]? = some (some w) → ∃ v, b[i]? = some (some v) ∧ RV K H w v
  | _, _, _, _, .nil, e => by simp at e
  | _, _, 0, _, .no _, e => by simp at e
  | _, _, 0, _, .yes q _, e => by simp at e; subst e; exact ⟨_, rfl, q⟩
  | _, _, i + 1, w, .no r, e => by
    obtain ⟨u, h1, h2⟩ := RSt.get (i := i) (w := w) r (by simpa using e)
    exact ⟨u, by simpa using h1, h2⟩
  | _, _, i + 1, w, .yes _ r, e => by
    obtain ⟨u, h1, h2⟩ := RSt.get (i := i) (w := w) r (by simpa using e)
    exact ⟨u, by simpa using h1, h2⟩
theorem RSt.set {K H w v} (q : RV K H w v) : ∀ {a b} (i : Nat), RSt K H a b → RSt K H (a.set i (some w)) (b.set i (some v))
  | _, _, _, .nil => .nil
  | _, _, 0, .no r => .yes q r
  | _, _, 0, .yes _ r => .yes q r
  | _, _, i + 1, .no r => .no (RSt.set q i r)
  | _, _, i + 1, .yes p r => .yes p (RSt.set q i r)
theorem RSt.forget {K H} : ∀ {a b} (i : Nat), RSt K H a b → RSt K H (a.set i none) b
  | _, _, _, .nil => .nil
  | _, _, 0, .no r => .no r
  | _, _, 0, .yes _ r => .no r
  | _, _, i + 1, .no r => .no (RSt.forget i r)
  | _, _, i + 1, .yes p r => .yes p (RSt.forget i r)

/-! ## readings -/
abbrev VK3 := W → Mp → Prop
abbrev TE3 := St3 → Mp → VK3 → Prop
abbrev TT3 := St3 → Mp → (Bool → Mp → Prop) → Prop
abbrev TA3 := St3 → Mp → (List W → Mp → Prop) → Prop
structure Ends3 where
  nx : St3 → Mp → Prop
  rt : VK3
  bk : St3 → Mp → Prop
  ct : St3 → Mp → Prop
abbrev TS3 := Ends3 → St3 → Mp → Prop

def dE (K : PySem.W.Frag) (t : TE3) : TE := fun σ H Q => ∃ σ3 M Q3, RSt K H σ3 σ ∧ OkM K M H ∧ t σ3 M Q3 ∧ ∀ w M' v H', Q3 w M' → RV K H' w v → OkM K M' H' → TK K H H' → Q v H'
def dT (K : PySem.W.Frag) (t : TT3) : TT := fun σ H Q => ∃ σ3 M Q3, RSt K H σ3 σ ∧ OkM K M H ∧ t σ3 M Q3 ∧ ∀ b M' H', Q3 b M' → OkM K M' H' → TK K H H' → Q b H'
def dA (K : PySem.W.Frag) (t : TA3) : TA := fun σ H Q => ∃ σ3 M Q3, RSt K H σ3 σ ∧ OkM K M H ∧ t σ3 M Q3 ∧ ∀ ws M' vs H', Q3 ws M' → RVs K H' ws vs → OkM K M' H' → TK K H H' → Q vs H'
def dS (K : PySem.W.Frag) (t : TS3) : TS := fun D σ H => ∃ σ3 M D3, RSt K H σ3 σ ∧ OkM K M H ∧ t D3 σ3 M ∧
  (∀ σ3' M' σ' H', D3.nx σ3' M' → RSt K H' σ3' σ' → OkM K M' H' → TK K H H' → D.nx σ' H') ∧
  (∀ w M' v H', D3.rt w M' → RV K H' w v → OkM K M' H' → TK K H H' → D.rt v H') ∧
  (∀ σ3' M' σ' H', D3.bk σ3' M' → RSt K H' σ3' σ' → OkM K M' H' → TK K H H' → D.bk σ' H') ∧
  (∀ σ3' M' σ' H', D3.ct σ3' M' → RSt K H' σ3' σ' → OkM K M' H' → TK K H H' → D.ct σ' H')
def E3 (X : Cx) (e : Expr) (t : TE3) : Prop := PE X e (dE X.K t)
def T3 (X : Cx) (e : Expr) (t : TT3) : Prop := PT X e (dT X.K t)
def W3 (X : Cx) (e : Expr) (t : TT3) : Prop := PW X e (dT X.K t)
def A3 (X : Cx) (es : List Expr) (t : TA3) : Prop := PA X es (dA X.K t)
def S3 (X : Cx) (s : Stmt) (t : TS3) : Prop := PS X s (dS X.K t)
def B3 (X : Cx) (s : List Stmt) (t : TS3) : Prop := PSs X s (dS X.K t)

theorem PE.imp {X : Cx} {e : Expr} {t t' : TE} (h : PE X e t) (i : ∀ σ H Q, t' σ H Q → t σ H Q) : PE X e t' := ⟨fun p s σ H Q I q => h.run p s σ H Q I (i _ _ _ q)⟩
theorem PT.imp {X : Cx} {e : Expr} {t t' : TT} (h : PT X e t) (i : ∀ σ H Q, t' σ H Q → t σ H Q) : PT X e t' := ⟨fun p s σ H Q I q => h.run p s σ H Q I (i _ _ _ q)⟩
theorem PW.imp {X : Cx} {e : Expr} {t t' : TT} (h : PW X e t) (i : ∀ σ H Q, t' σ H Q → t σ H Q) : PW X e t' := ⟨fun wh p s σ H Q I q => h.run wh p s σ H Q I (i _ _ _ q)⟩
theorem PA.imp {X : Cx} {e : List Expr} {t t' : TA} (h : PA X e t) (i : ∀ σ H Q, t' σ H Q → t σ H Q) : PA X e t' := ⟨fun pos p s σ H Q I q => h.run pos p s σ H Q I (i _ _ _ q)⟩
theorem PS.imp {X : Cx} {e : Stmt} {t t' : TS} (h : PS X e t) (i : ∀ D σ H, t' D σ H → t D σ H) : PS X e t' := ⟨fun p s σ H Q I q => h.run p s σ H Q I (i _ _ _ q)⟩
theorem PSs.imp {X : Cx} {e : List Stmt} {t t' : TS} (h : PSs X e t) (i : ∀ D σ H, t' D σ H → t D σ H) : PSs X e t' := ⟨fun p s σ H Q I q => h.run p s σ H Q I (i _ _ _ q)⟩

/-! ## names, constants -/
section
variable {X : Cx} {pos : Pos} {a b c e : Expr} {es : List Expr} {ta tb tc te : TE3}
/-- a slot that holds a value -/
def sl (o : Option (Option W)) (Q : W → Prop) : Prop := match o with
  | some (some w) => Q w
  | _ => False
theorem sl_inv {o : Option (Option W)} {Q : W → Prop} (h : sl o Q) : ∃ w, o = some (some w) ∧ Q w := by
  cases o with
  | none => exact h.elim
  | some o => cases o with
    | none => exact h.elim
    | some w => exact ⟨w, rfl, h⟩
def tV (i : Nat) : TE3 := fun σ M Q => sl σ[i]? fun w => Q w M
/-- a truth value -/
def asB (w : W) (Q : Bool → Prop) : Prop := match w with
  | .bl b => Q b
  | _ => False
theorem asB_inv {w : W} {Q : Bool → Prop} (h : asB w Q) : ∃ b, w = .bl b ∧ Q b := by
  cases w <;> first | exact h.elim | exact ⟨_, rfl, h⟩
/-- a whole number -/
def asI (w : W) (Q : Int → Prop) : Prop := match w with
  | .int b => Q b
  | _ => False
theorem asI_inv {w : W} {Q : Int → Prop} (h : asI w Q) : ∃ b, w = .int b ∧ Q b := by
  cases w <;> first | exact h.elim | exact ⟨_, rfl, h⟩
/-- an object -/
def asR (w : W) (Q : Addr → Prop) : Prop := match w with
  | .ref b => Q b
  | _ => False
theorem asR_inv {w : W} {Q : Addr → Prop} (h : asR w Q) : ∃ b, w = .ref b ∧ Q b := by
  cases w <;> first | exact h.elim | exact ⟨_, rfl, h⟩
/-- one argument, two -/
def as1 (ws : List W) (Q : W → Prop) : Prop := match ws with
  | [w] => Q w
  | _ => False
theorem as1_inv {ws : List W} {Q : W → Prop} (h : as1 ws Q) : ∃ w, ws = [w] ∧ Q w := by
  match ws, h with
  | [w], h => exact ⟨w, rfl, h⟩
def as2 (ws : List W) (Q : W → W → Prop) : Prop := match ws with
  | [w, v] => Q w v
  | _ => False
theorem as2_inv {ws : List W} {Q : W → W → Prop} (h : as2 ws Q) : ∃ w v, ws = [w, v] ∧ Q w v := by
  match ws, h with
  | [w, v], h => exact ⟨w, v, rfl, h⟩
def tK (w : W) : TE3 := fun _ M Q => Q w M
theorem v3 (i : Nat) {x : Str} {pos : Pos} (hN : X.N[i]? = some x := by rfl) (hv : Vis X.env.scope x := by first | exact Or.inl rfl | exact Or.inr (Or.inl rfl) | exact Or.inr (Or.inr rfl)) (hd : (x == ("__debug__" : Str)) = false := by decide)
    (hcd : (x == ("__classdict__" : Str)) = false := by decide) : E3 X (.Name x pos) (tV i) := PE.imp (pe_var hN hv hd hcd) fun σ H Q ⟨σ3, M, Q3, r, ok, q0, k⟩ => by
  obtain ⟨w, hw, q⟩ := sl_inv q0
  obtain ⟨v, hv, rv⟩ := r.get hw
  exact ⟨v, hv, k _ _ _ _ q rv ok .refl⟩
theorem k_of {w : W} {v : V} (h : PE X e (tC v)) (r : ∀ H, RV X.K H w v) : E3 X e (tK w) := PE.imp h fun σ H Q ⟨σ3, M, Q3, _, ok, q, k⟩ => k _ _ _ _ q (r H) ok .refl
theorem i3 {i j pos} : E3 X (.Constant (.int i) j pos) (tK (.int i)) := k_of pe_int fun _ => .int i
theorem b3 {i j pos} : E3 X (.Constant (.bool i) j pos) (tK (.bl i)) := k_of pe_bl fun _ => .bl i
theorem n3 {j pos} : E3 X (.Constant .none j pos) (tK .non) := k_of pe_non fun _ => .non
theorem s3 {i j pos} : E3 X (.Constant (.str i) j pos) (tK (.str i)) := k_of pe_str fun _ => .str i

/-! ## two values and a rule -/
abbrev R3 := W → W → Mp → VK3 → Prop
def dR (K : PySem.W.Frag) (r : R3) : R2 := fun x y H Q => ∃ wx wy M Q3, RV K H wx x ∧ RV K H wy y ∧ OkM K M H ∧ r wx wy M Q3 ∧ ∀ w M' v H', Q3 w M' → RV K H' w v → OkM K M' H' → TK K H H' → Q v H'
theorem OpR.imp {f : Value → Value → Sem Value} {r r' : R2} (h : OpR X f r) (i : ∀ x y H Q, r' x y H Q → r x y H Q) : OpR X f r' := fun p s σ H x y v u Q I rx ry q => h p s σ H x y v u Q I rx ry (i _ _ _ _ q)
def tO (r : R3) (ta tb : TE3) : TE3 := fun σ M Q => ta σ M fun x M1 => tb σ M1 fun y M2 => r x y M2 Q
theorem tO_ok {K σ H Q} {r : R3} (h : dE K (tO r ta tb) σ H Q) : tOp (dR K r) (dE K ta) (dE K tb) σ H Q := by
  obtain ⟨σ3, M, Q3, rs, ok, q, k⟩ := h
  exact ⟨σ3, M, _, rs, ok, q, fun w M' v H' q rv ok' tk => ⟨σ3, M', _, rs.tk tk, ok', q, fun w2 M2 v2 H2 q2 rv2 ok2 tk2 => ⟨w, w2, M2, Q3, rv.tk tk2, rv2, ok2, q2, fun w3 M3 v3 H3 q3 rv3 ok3 tk3 => k _ _ _ _ q3 rv3 ok3 ((tk.trans tk2).trans tk3)⟩⟩⟩
theorem o3 {op : Operator} {r : R3} (ho : OpR X (binaryOp op) (dR X.K r)) (ha : E3 X a ta) (hb : E3 X b tb) : E3 X (.BinOp a op b pos) (tO r ta tb) := PE.imp (pe_op ho ha hb) fun _ _ _ => tO_ok
theorem c3 {op : CmpOp} {r : R3} (ho : OpR X (compareOp op) (dR X.K r)) (ha : E3 X a ta) (hb : E3 X b tb) (hm : behindInMarks op b = false) : E3 X (.Compare a [op] [b] pos) (tO r ta tb) := PE.imp (pe_cmpR ho ha hb hm) fun _ _ _ => tO_ok
/-- a bool as a test -/
def tTt (t : TE3) : TT3 := fun σ M Q => t σ M fun x M' => asB x fun k => Q k M'
theorem ct3 {op : CmpOp} {r : R3} (ho : OpR X (compareOp op) (dR X.K r)) (ha : E3 X a ta) (hb : E3 X b tb) (hm : behindInMarks op b = false) : T3 X (.Compare a [op] [b] pos) (tTt (tO r ta tb)) :=
  PT.imp (pt_cmpR ho ha hb hm) fun σ H Q ⟨σ3, M, Q3, rs, ok, q, k⟩ => tO_ok ⟨σ3, M, _, rs, ok, q, fun w M' v H' q rv ok' tk => by
    have q0 := asB_inv q; clear q; obtain ⟨b, rfl, q⟩ := q0
    cases rv
    exact ⟨b, rfl, k _ _ _ q ok' tk⟩⟩
theorem val3 (h : E3 X e te) (he : ∀ whole, isTrue e X.env whole = (do let v ← whole; standAt e.pos; holding [v] (truthy v)) := by intro _; rfl) : T3 X e (tTt te) :=
  PT.imp (pt_val h he) fun σ H Q ⟨σ3, M, Q3, rs, ok, q, k⟩ => ⟨σ3, M, _, rs, ok, q, fun w M' v H' q rv ok' tk => by
    have q0 := asB_inv q; clear q; obtain ⟨b, rfl, q⟩ := q0
    cases rv
    exact ⟨b, rfl, k _ _ _ q ok' tk⟩⟩
end
end Z3
set_option Elab.async false
set_option linter.all false
set_option maxRecDepth 100000
namespace Z3
open PySem PySem.Spec PyProof.Rows L2

section
variable {X : Cx} {pos : Pos} {a b c e : Expr} {es : List Expr} {ta tb tc te : TE3}

/-! ## arithmetic -/
theorem RV.tup_inv {K H ws v} (h : RV K H (.tup ws) v) : ∃ a vs, v = .ref a ∧ SqT K H a vs ∧ RVs K H ws vs := by cases h with | tup s r => exact ⟨_, _, rfl, s, r⟩
def rAdd3 : R3
  | .int i, .int j, M, Q => Q (.int (i + j)) M
  | .tup xs, .tup ys, M, Q => xs.length + ys.length ≤ 16777216 ∧ Q (.tup (xs ++ ys)) M
  | .str x, .str y, M, Q => x.length + y.length ≤ 16777216 ∧ Q (.str (x ++ y)) M
  | .ref l, .ref b, M, Q => ∃ xs ys, M l = some (.lst xs) ∧ M b = some (.lst ys) ∧ xs.length + ys.length ≤ 16777216 ∧ ∀ p, M p = none → Q (.ref p) (up M p (.lst (xs ++ ys)))
  | _, _, _, _ => False
theorem dR_I {f : Value → Value → Sem Value} {r : R2} {r3 : R3} (ho : OpR X f r) (h : ∀ x y H Q, dR X.K r3 x y H Q → r x y H Q) : OpR X f (dR X.K r3) := OpR.imp ho h
theorem op_add3 : OpR X (binaryOp .Add) (dR X.K rAdd3) := by
  refine dR_I (OpR.or op_add (OpR.or op_catA (OpR.or op_add_str op_cat))) ?_
  rintro x y H Q ⟨wx, wy, M, Q3, rx, ry, ok, q, k⟩
  have hs : sizeLine = 16777216 := sizeLine_eq
  cases wx <;> cases wy <;> first | exact absurd q id | skip
  · cases rx; cases ry; exact .inl ⟨_, _, rfl, rfl, k _ _ _ _ q (.int _) ok .refl⟩
  · cases rx; cases ry; obtain ⟨z, q⟩ := q; exact .inr (.inr (.inl ⟨_, _, rfl, rfl, by omega, k _ _ _ _ q (.str _) ok .refl⟩))
  · cases rx; cases ry; obtain ⟨xs, ys, h1, h2, z, q⟩ := q
    obtain ⟨vs, e1, r1⟩ := ok _ _ h1
    obtain ⟨us, e2, r2⟩ := ok _ _ h2
    have l1 := r1.length
    have l2 := r2.length
    refine .inr (.inr (.inr ⟨_, _, vs, us, rfl, rfl, e1, e2, by omega, fun p hp => k _ _ _ _ (q p (ok.free hp)) (.ref p) (ok.new hp ⟨_, upd_same, (r1.append r2).tk (TK.new hp)⟩) (TK.new hp)⟩))
  · obtain ⟨z, q⟩ := q
    obtain ⟨a, vs, rfl, s1, r1⟩ := rx.tup_inv
    obtain ⟨b, us, rfl, s2, r2⟩ := ry.tup_inv
    have l1 := r1.length
    have l2 := r2.length
    refine .inr (.inl ⟨_, _, vs, us, rfl, rfl, s1, s2, by omega, fun e => ?_, fun _ e => ?_, fun _ _ p hp => ?_⟩)
    · subst e; cases r1; exact k _ _ _ _ q (.tup s2 r2) ok .refl
    · subst e; cases r2; rw [List.append_nil] at q; exact k _ _ _ _ q (.tup s1 r1) ok .refl
    · exact k _ _ _ _ q (.tup (SqT.of upd_same) ((r1.append r2).tk (TK.new hp))) (ok.grow hp) (TK.new hp)
def rSub3 : R3
  | .int i, .int j, M, Q => Q (.int (i - j)) M
  | _, _, _, _ => False
theorem op_sub3 : OpR X (binaryOp .Sub) (dR X.K rSub3) := by
  refine dR_I op_sub ?_
  rintro x y H Q ⟨wx, wy, M, Q3, rx, ry, ok, q, k⟩
  cases wx <;> cases wy <;> first | exact absurd q id | skip
  cases rx; cases ry; exact ⟨_, _, rfl, rfl, k _ _ _ _ q (.int _) ok .refl⟩
/-- the product is told to be small enough: by its factors' bits -/
def rMul3 : R3
  | .int i, .int j, M, Q => ((-(2 ^ 64) < i ∧ i < 2 ^ 64) ∨ (-(2 ^ 64) < j ∧ j < 2 ^ 64) ∨ CMulW i j) ∧ Q (.int (i * j)) M
  | .ref l, .int k, M, Q => ∃ xs, M l = some (.lst xs) ∧ -(2 ^ 63) ≤ k ∧ k < 2 ^ 63 ∧ xs.length * k.toNat ≤ 16777216 ∧ ∀ p, M p = none → Q (.ref p) (up M p (.lst (List.replicate k.toNat xs).flatten))
  | _, _, _, _ => False
theorem RVs.rep {K H} {ws : List W} {vs : List V} (h : RVs K H ws vs) : ∀ k : Nat, RVs K H (List.replicate k ws).flatten (List.replicate k vs).flatten
  | 0 => .nil
  | k + 1 => by rw [List.replicate_succ, List.replicate_succ, List.flatten_cons, List.flatten_cons]; exact h.append (RVs.rep h k)
theorem op_mul3 : OpR X (binaryOp .Mult) (dR X.K rMul3) := by
  refine dR_I (OpR.or op_mul (OpR.or op_mulW op_rep)) ?_
  rintro x y H Q ⟨wx, wy, M, Q3, rx, ry, ok, q, k⟩
  have hs : sizeLine = 16777216 := sizeLine_eq
  cases wx <;> cases wy <;> first | exact absurd q id | skip
  · cases rx; cases ry; obtain ⟨z, q⟩ := q
    have q' := k _ _ _ _ q (.int _) ok .refl
    rcases z with z | z | z
    · exact .inl ⟨_, _, rfl, rfl, .inl z, q'⟩
    · exact .inl ⟨_, _, rfl, rfl, .inr z, q'⟩
    · exact .inr (.inl ⟨_, _, rfl, rfl, z, q'⟩)
  · cases rx; cases ry; obtain ⟨xs, h1, z1, z2, z3, q⟩ := q
    obtain ⟨vs, e1, r1⟩ := ok _ _ h1
    have l1 := r1.length
    exact .inr (.inr ⟨_, _, vs, rfl, rfl, e1, z1, z2, by rw [← l1, hs]; exact z3, fun p hp => k _ _ _ _ (q p (ok.free hp)) (.ref p) (ok.new hp ⟨_, upd_same, (r1.rep _).tk (TK.new hp)⟩) (TK.new hp)⟩)
def rDiv3 : R3
  | .int i, .int j, M, Q => (0 < j ∧ j < 1073741824 ∨ CDivW i j) ∧ Q (.int (i / j)) M
  | _, _, _, _ => False
theorem op_div3 : OpR X (binaryOp .FloorDiv) (dR X.K rDiv3) := by
  refine dR_I (OpR.or op_fdiv op_fdivW) ?_
  rintro x y H Q ⟨wx, wy, M, Q3, rx, ry, ok, q, k⟩
  cases wx <;> cases wy <;> first | exact absurd q id | skip
  cases rx; cases ry; obtain ⟨z, q⟩ := q
  have q' := k _ _ _ _ q (.int _) ok .refl
  rcases z with z | z
  · exact .inl ⟨_, _, rfl, rfl, z, q'⟩
  · exact .inr ⟨_, _, rfl, rfl, z, q'⟩
def rMod3 : R3
  | .int i, .int j, M, Q => 0 < j ∧ Q (.int (i % j)) M
  | _, _, _, _ => False
theorem op_mod3 : OpR X (binaryOp .Mod) (dR X.K rMod3) := by
  refine dR_I op_mod ?_
  rintro x y H Q ⟨wx, wy, M, Q3, rx, ry, ok, q, k⟩
  cases wx <;> cases wy <;> first | exact absurd q id | skip
  cases rx; cases ry; obtain ⟨z, q⟩ := q
  exact ⟨_, _, rfl, rfl, z, k _ _ _ _ q (.int _) ok .refl⟩
def rPow3 : R3
  | .int i, .int j, M, Q => (0 ≤ j ∧ j ≤ 1000000 ∧ i.natAbs < 2 ^ 64) ∧ Q (.int (i ^ j.toNat)) M
  | _, _, _, _ => False
theorem op_pow3 : OpR X (binaryOp .Pow) (dR X.K rPow3) := by
  refine dR_I op_pow ?_
  rintro x y H Q ⟨wx, wy, M, Q3, rx, ry, ok, q, k⟩
  cases wx <;> cases wy <;> first | exact absurd q id | skip
  cases rx; cases ry; obtain ⟨z, q⟩ := q
  exact ⟨_, _, rfl, rfl, z, k _ _ _ _ q (.int _) ok .refl⟩
/-! unary minus -/
def tNeg3 (ta : TE3) : TE3 := fun σ M Q => ta σ M fun x M1 => asI x fun i => Q (.int (-i)) M1
theorem neg3 (ha : E3 X a ta) : E3 X (.UnaryOp .USub a pos) (tNeg3 ta) := PE.imp (pe_un un_neg ha) fun σ H Q ⟨σ3, M, Q3, rs, ok, q, k⟩ =>
  ⟨σ3, M, _, rs, ok, q, fun w M' v H' q rv ok' tk => by
    obtain ⟨i, rfl, q⟩ := asI_inv q
    cases rv
    exact ⟨i, rfl, k _ _ _ _ q (.int _) ok' tk⟩⟩

/-! ## comparisons of ints -/
def rI3 (p : Int → Int → Bool) : R3
  | .int i, .int j, M, Q => Q (.bl (p i j)) M
  | _, _, _, _ => False
theorem op_i3 {op : CmpOp} {p : Int → Int → Bool} (ho : OpR X (compareOp op) (rI0 fun i j => .bl (p i j))) : OpR X (compareOp op) (dR X.K (rI3 p)) := by
  refine dR_I ho ?_
  rintro x y H Q ⟨wx, wy, M, Q3, rx, ry, ok, q, k⟩
  cases wx <;> cases wy <;> first | exact absurd q id | skip
  cases rx; cases ry; exact ⟨_, _, rfl, rfl, k _ _ _ _ q (.bl _) ok .refl⟩
abbrev rLt3 := rI3 fun i j => decide (i < j)
abbrev rLe3 := rI3 fun i j => decide (i ≤ j)
abbrev rGt3 := rI3 fun i j => decide (j < i)
abbrev rGe3 := rI3 fun i j => decide (j ≤ i)
theorem op_lt3 : OpR X (compareOp .Lt) (dR X.K rLt3) := op_i3 op_lt
theorem op_le3 : OpR X (compareOp .LtE) (dR X.K rLe3) := op_i3 op_le
theorem op_gt3 : OpR X (compareOp .Gt) (dR X.K rGt3) := op_i3 op_gt
theorem op_ge3 : OpR X (compareOp .GtE) (dR X.K rGe3) := op_i3 op_ge

/-! ## equality -/
def trav (f : W → Option PyData) : List W → Option (List PyData)
  | [] => some []
  | w :: ws => match f w, trav f ws with
    | some d, some ds => some (d :: ds)
    | _, _ => none
/-- a value as data; lists are read at M -/
def toD (M : Mp) : Nat → W → Option PyData
  | _, .non => some .none
  | _, .bl b => some (.bool b)
  | _, .int i => some (.int i)
  | _, .str x => some (.str x)
  | n + 1, .tup ws => (trav (toD M n) ws).map .tuple
  | n + 1, .ref a => match M a with
    | some (.lst ws) => (trav (toD M n) ws).map .list
    | _ => none
  | _, _ => none
theorem trav_ok {K H} {f : W → Option PyData} (h : ∀ w d v, f w = some d → RV K H w v → Dp K H v d) : ∀ (ws : List W) (ds : List PyData) (vs : List V), trav f ws = some ds → RVs K H ws vs → DpAll K H vs ds
  | [], _, _, e, r => by cases r; unfold trav at e; cases e; exact .nil
  | w :: ws, ds, vs, e, r => by
    cases r with
    | cons r1 r2 =>
      unfold trav at e
      cases e1 : f w with
      | none => rw [e1] at e; cases e
      | some d =>
        cases e2 : trav f ws with
        | none => rw [e1, e2] at e; cases e
        | some ds' =>
          rw [e1, e2] at e
          cases e
          exact .cons (h _ _ _ e1 r1) (trav_ok h ws ds' _ e2 r2)
theorem toD_ok {K M H} (ok : OkM K M H) : ∀ (n : Nat) (w : W) (d : PyData) (v : V), toD M n w = some d → RV K H w v → Dp K H v d
  | n, .non, _, _, e, r => by cases r; unfold toD at e; cases e; exact .non
  | n, .bl b, _, _, e, r => by cases r; unfold toD at e; cases e; exact .bl b
  | n, .int b, _, _, e, r => by cases r; unfold toD at e; cases e; exact .int b
  | n, .str b, _, _, e, r => by cases r; unfold toD at e; cases e; exact .str b
  | 0, .tup ws, _, _, e, r => by unfold toD at e; cases e
  | 0, .ref a, _, _, e, r => by unfold toD at e; cases e
  | n, .ty a, _, _, e, r => by unfold toD at e; cases e
  | n, .rls a, _, _, e, r => by unfold toD at e; cases e
  | n, .rng a b, _, _, e, r => by unfold toD at e; cases e
  | n + 1, .tup ws, d, v, e, r => by
    unfold toD at e
    obtain ⟨ds, e1, rfl⟩ := Option.map_eq_some_iff.mp e
    obtain ⟨a, vs, rfl, s, r⟩ := r.tup_inv
    exact .tup s (trav_ok (toD_ok ok n) ws ds vs e1 r)
  | n + 1, .ref a, d, v, e, r => by
    cases r
    unfold toD at e
    cases hM : M a with
    | none => rw [hM] at e; cases e
    | some o =>
      rw [hM] at e
      cases o with
      | lst ws =>
        obtain ⟨ds, e1, rfl⟩ := Option.map_eq_some_iff.mp e
        obtain ⟨vs, e2, r⟩ := ok _ _ hM
        exact .lst (SqL.of e2) (trav_ok (toD_ok ok n) ws ds vs e1 r)
      | _ => cases e
/-- plain values that == tells apart as data does -/
def sc3 : W → W → Option Bool
  | .non, .non => some true
  | .non, .int _ => some false
  | .int _, .non => some false
  | .non, .bl _ => some false
  | .bl _, .non => some false
  | .non, .str _ => some false
  | .str _, .non => some false
  | .int i, .int j => some (decide (i = j))
  | .bl i, .bl j => some (decide (i = j))
  | .str i, .str j => some (decide (i = j))
  | .int _, .str _ => some false
  | .str _, .int _ => some false
  | .bl _, .str _ => some false
  | .str _, .bl _ => some false
  | _, _ => none
/-- == of two values: plain ones (told by sc3), else data -/
def eqK (M : Mp) (x y : W) (o : Option Bool) (Q : Bool → Prop) : Prop := match o with
  | some b => Q b
  | none => ∃ d e, toD M 9 x = some d ∧ toD M 9 y = some e ∧ SeqAt.shaped d = true ∧ SeqAt.shaped e = true ∧ Q (PyData.eqv d e)
theorem eqK_inv {M x y o Q} (h : eqK M x y o Q) : ∃ b, (o = some b ∨ ∃ d e, toD M 9 x = some d ∧ toD M 9 y = some e ∧ SeqAt.shaped d = true ∧ SeqAt.shaped e = true ∧ b = PyData.eqv d e) ∧ Q b := by
  cases o with
  | some b => exact ⟨b, .inl rfl, h⟩
  | none => obtain ⟨d, e, h1, h2, h3, h4, q⟩ := h; exact ⟨_, .inr ⟨d, e, h1, h2, h3, h4, rfl⟩, q⟩
def rEq3 : R3 := fun x y M Q => eqK M x y (sc3 x y) fun b => Q (.bl b) M
def rNe3 : R3 := fun x y M Q => eqK M x y (sc3 x y) fun b => Q (.bl (!b)) M
theorem sc3_ok {K H x y vx vy b} (rx : RV K H x vx) (ry : RV K H y vy) (h : sc3 x y = some b) : scal vx vy = true ∧ decide (vx = vy) = b := by
  cases x <;> cases y <;> first | (cases h; done) | (cases rx; cases ry; cases h; refine ⟨rfl, ?_⟩; first | rfl | simp)
theorem op_eq3 (hu : X.A.units + 64 < cLine) : OpR X (compareOp .Eq) (dR X.K rEq3) := by
  refine dR_I (OpR.or op_eq (op_eqD hu)) ?_
  rintro x y H Q ⟨wx, wy, M, Q3, rx, ry, ok, q0, k⟩
  obtain ⟨b, e, q⟩ := eqK_inv q0
  have q' := k _ _ _ _ q (.bl b) ok .refl
  rcases e with e | ⟨d, e, h1, h2, h3, h4, rfl⟩
  · obtain ⟨e1, e2⟩ := sc3_ok rx ry e
    exact .inl ⟨e1, by rw [e2]; exact q'⟩
  · exact .inr ⟨d, e, toD_ok ok _ _ _ _ h1 rx, toD_ok ok _ _ _ _ h2 ry, h3, h4, q'⟩
theorem op_ne3 (hu : X.A.units + 64 < cLine) : OpR X (compareOp .NotEq) (dR X.K rNe3) := by
  refine dR_I (OpR.or op_ne (op_neD hu)) ?_
  rintro x y H Q ⟨wx, wy, M, Q3, rx, ry, ok, q0, k⟩
  obtain ⟨b, e, q⟩ := eqK_inv q0
  have q' := k _ _ _ _ q (.bl (!b)) ok .refl
  rcases e with e | ⟨d, e, h1, h2, h3, h4, rfl⟩
  · obtain ⟨e1, e2⟩ := sc3_ok rx ry e
    exact .inl ⟨e1, by rw [e2]; exact q'⟩
  · exact .inr ⟨d, e, toD_ok ok _ _ _ _ h1 rx, toD_ok ok _ _ _ _ h2 ry, h3, h4, q'⟩
/-! ## is None -/
def isN3 : W → Bool
  | .non => true
  | _ => false
theorem isN3_ok {K H w v} (r : RV K H w v) : decide (v = .non) = isN3 w := by cases r <;> first | rfl | (simp [isN3])
def tIsN3 (ta : TE3) : TE3 := fun σ M Q => ta σ M fun x M1 => Q (.bl (isN3 x)) M1
def tNotN3 (ta : TE3) : TE3 := fun σ M Q => ta σ M fun x M1 => Q (.bl (!isN3 x)) M1
theorem isn3 {j pos'} (ha : E3 X a ta) : E3 X (.Compare a [.Is] [.Constant .none j pos'] pos) (tIsN3 ta) := PE.imp (pe_cmp (pc_isN ha) rfl) fun σ H Q ⟨σ3, M, Q3, rs, ok, q, k⟩ =>
  ⟨σ3, M, _, rs, ok, q, fun w M' v H' q rv ok' tk => by show Q (.bl (decide (v = .non))) H'; rw [isN3_ok rv]; exact k _ _ _ _ q (.bl _) ok' tk⟩
theorem notn3 {j pos'} (ha : E3 X a ta) : E3 X (.Compare a [.IsNot] [.Constant .none j pos'] pos) (tNotN3 ta) := PE.imp (pe_cmp (pc_notN ha) rfl) fun σ H Q ⟨σ3, M, Q3, rs, ok, q, k⟩ =>
  ⟨σ3, M, _, rs, ok, q, fun w M' v H' q rv ok' tk => by show Q (.bl (!decide (v = .non))) H'; rw [isN3_ok rv]; exact k _ _ _ _ q (.bl _) ok' tk⟩

/-! ## in, not in: plain items of lists and tuples -/
def flat3 : W → Bool
  | .non => true
  | .bl _ => true
  | .int _ => true
  | .str _ => true
  | _ => false
/-- == of plain values -/
def eq3 : W → W → Bool
  | .non, .non => true
  | .bl a, .bl b => a == b
  | .bl a, .int b => (if a then 1 else 0) == b
  | .int a, .bl b => a == (if b then 1 else 0)
  | .int a, .int b => a == b
  | .str a, .str b => a == b
  | _, _ => false
theorem flat3_ok {K H w v} (r : RV K H w v) (h : flat3 w = true) : flatV v = true := by cases r <;> first | rfl | cases h
theorem flat3_all {K H} : ∀ {ws : List W} {vs : List V}, RVs K H ws vs → ws.all flat3 = true → vs.all flatV = true
  | _, _, .nil, _ => rfl
  | _, _, .cons r t, h => by rw [List.all_cons, Bool.and_eq_true] at h ⊢; exact ⟨flat3_ok r h.1, flat3_all t h.2⟩
theorem eq3_ok {K H w v w' v'} (r : RV K H w v) (r' : RV K H w' v') (h : flat3 w = true) (h' : flat3 w' = true) : eqV v v' = eq3 w w' := by
  cases r <;> first | (cases h; done) | (cases r' <;> first | (cases h'; done) | rfl)
def in3 (x : W) (ws : List W) : Bool := ws.any fun y => eq3 y x
theorem in3_ok {K H x v} (r : RV K H x v) (h : flat3 x = true) : ∀ {ws : List W} {vs : List V}, RVs K H ws vs → ws.all flat3 = true → inV v vs = in3 x ws
  | _, _, .nil, _ => rfl
  | _, _, .cons q t, f => by
    rw [List.all_cons, Bool.and_eq_true] at f
    show (eqV _ _ || inV v _) = (eq3 _ _ || in3 x _)
    rw [eq3_ok q r f.1 h, in3_ok r h t f.2]
/-- the items of a list or tuple -/
def lstAt : Option MO → Option (List W)
  | some (.lst ws) => some ws
  | _ => none
def itemsOf (M : Mp) : W → Option (List W)
  | .tup ws => some ws
  | .rls ws => some ws
  | .ref a => lstAt (M a)
  | _ => none
theorem items_ok {K M H w ws v} (ok : OkM K M H) (r : RV K H w v) (e : itemsOf M w = some ws) : ∃ a vs, v = .ref a ∧ (SqL K H a vs ∨ SqT K H a vs) ∧ RVs K H ws vs := by
  cases r with
  | tup s r => cases e; exact ⟨_, _, rfl, .inr s, r⟩
  | rls s r => cases e; exact ⟨_, _, rfl, .inl s.seq, r⟩
  | ref a =>
    have e : lstAt (M a) = some ws := e
    cases hM : M a with
    | none => rw [hM] at e; cases e
    | some o =>
      rw [hM] at e
      cases o with
      | lst ws' => cases e; obtain ⟨vs, e2, r⟩ := ok _ _ hM; exact ⟨_, _, rfl, .inl (SqL.of e2), r⟩
      | _ => cases e
  | _ => cases e
theorem items_ref {M : Mp} {a ws} (h : M a = some (.lst ws)) : itemsOf M (.ref a) = some ws := by show lstAt (M a) = _; rw [h]; rfl
def rIn3 (neg : Bool) : R3 := fun x y M Q => ∃ ws, itemsOf M y = some ws ∧ flat3 x = true ∧ ws.all flat3 = true ∧ Q (.bl (if neg then !in3 x ws else in3 x ws)) M
theorem in_ok {neg x y H Q} (h : dR X.K (rIn3 neg) x y H Q) : rIn X.K neg x y H Q := by
  obtain ⟨wx, wy, M, Q3, rx, ry, ok, ⟨ws, e, f1, f2, q⟩, k⟩ := h
  obtain ⟨a, vs, rfl, s, r⟩ := items_ok ok ry e
  refine ⟨a, vs, rfl, s, flat3_ok rx f1, flat3_all r f2, ?_⟩
  rw [in3_ok rx f1 r f2]
  exact k _ _ _ _ q (.bl _) ok .refl
theorem op_in3 : OpR X (compareOp .In) (dR X.K (rIn3 false)) := dR_I op_in_seq fun _ _ _ _ => in_ok
theorem op_nin3 : OpR X (compareOp .NotIn) (dR X.K (rIn3 true)) := dR_I op_notIn_seq fun _ _ _ _ => in_ok

/-! ## tests -/
def tAnd3 (t u : TT3) : TT3 := fun σ M Q => t σ M fun c M1 => if c = true then u σ M1 Q else Q false M1
def tOr3 (t u : TT3) : TT3 := fun σ M Q => t σ M fun c M1 => if c = true then Q true M1 else u σ M1 Q
def tNot3 (t : TT3) : TT3 := fun σ M Q => t σ M fun c M1 => Q (!c) M1
variable {tA tB tC3 : TT3}
theorem W3.t (h : W3 X e tA) : T3 X e tA := PW.pt h
theorem and1 (h : T3 X a tA) : W3 X (.BoolOp .And [a] pos) tA := pw_and1 h
theorem or1 (h : T3 X a tA) : W3 X (.BoolOp .Or [a] pos) tA := pw_or1 h
theorem and3 (ha : T3 X a tA) (hb : W3 X (.BoolOp .And (b :: es) pos) tB) : W3 X (.BoolOp .And (a :: b :: es) pos) (tAnd3 tA tB) :=
  PW.imp (pw_and ha hb) fun σ H Q ⟨σ3, M, Q3, rs, ok, q, k⟩ => ⟨σ3, M, _, rs, ok, q, fun c M' H' q ok' tk => by
    cases c with
    | true => rw [if_pos rfl] at q ⊢; exact ⟨σ3, M', Q3, rs.tk tk, ok', q, fun _ _ _ q ok2 tk2 => k _ _ _ q ok2 (tk.trans tk2)⟩
    | false => rw [if_neg Bool.false_ne_true] at q ⊢; exact k _ _ _ q ok' tk⟩
theorem or3 (ha : T3 X a tA) (hb : W3 X (.BoolOp .Or (b :: es) pos) tB) : W3 X (.BoolOp .Or (a :: b :: es) pos) (tOr3 tA tB) :=
  PW.imp (pw_or ha hb) fun σ H Q ⟨σ3, M, Q3, rs, ok, q, k⟩ => ⟨σ3, M, _, rs, ok, q, fun c M' H' q ok' tk => by
    cases c with
    | false => rw [if_neg Bool.false_ne_true] at q ⊢; exact ⟨σ3, M', Q3, rs.tk tk, ok', q, fun _ _ _ q ok2 tk2 => k _ _ _ q ok2 (tk.trans tk2)⟩
    | true => rw [if_pos rfl] at q ⊢; exact k _ _ _ q ok' tk⟩
theorem not3 (ha : T3 X a tA) : T3 X (.UnaryOp .Not a pos) (tNot3 tA) :=
  PT.imp (pt_not ha) fun σ H Q ⟨σ3, M, Q3, rs, ok, q, k⟩ => ⟨σ3, M, _, rs, ok, q, fun c M' H' q ok' tk => k _ _ _ q ok' tk⟩
/-- as values -/
def tAndV3 (ta tb : TE3) : TE3 := fun σ M Q => ta σ M fun x M1 => asB x fun c => if c = true then tb σ M1 Q else Q (.bl false) M1
def tOrV3 (ta tb : TE3) : TE3 := fun σ M Q => ta σ M fun x M1 => asB x fun c => if c = true then Q (.bl true) M1 else tb σ M1 Q
def tNotV3 (ta : TE3) : TE3 := fun σ M Q => ta σ M fun x M1 => asB x fun c => Q (.bl (!c)) M1
theorem one3 {op} {t : TE3} (h : E3 X a t) : E3 X (.BoolOp op [a] pos) t := pe_one h
theorem andv3 (ha : E3 X a ta) (hb : E3 X (.BoolOp .And (b :: es) pos) tb) : E3 X (.BoolOp .And (a :: b :: es) pos) (tAndV3 ta tb) :=
  PE.imp (pe_and ha hb) fun σ H Q ⟨σ3, M, Q3, rs, ok, q, k⟩ => ⟨σ3, M, _, rs, ok, q, fun w M' v H' q rv ok' tk => by
    have q0 := asB_inv q; clear q; obtain ⟨c, rfl, q⟩ := q0
    cases rv
    refine ⟨c, rfl, ?_⟩
    cases c with
    | true => rw [if_pos rfl] at q ⊢; exact ⟨σ3, M', Q3, rs.tk tk, ok', q, fun _ _ _ _ q rv2 ok2 tk2 => k _ _ _ _ q rv2 ok2 (tk.trans tk2)⟩
    | false => rw [if_neg Bool.false_ne_true] at q ⊢; exact k _ _ _ _ q (.bl _) ok' tk⟩
theorem orv3 (ha : E3 X a ta) (hb : E3 X (.BoolOp .Or (b :: es) pos) tb) : E3 X (.BoolOp .Or (a :: b :: es) pos) (tOrV3 ta tb) :=
  PE.imp (pe_or ha hb) fun σ H Q ⟨σ3, M, Q3, rs, ok, q, k⟩ => ⟨σ3, M, _, rs, ok, q, fun w M' v H' q rv ok' tk => by
    have q0 := asB_inv q; clear q; obtain ⟨c, rfl, q⟩ := q0
    cases rv
    refine ⟨c, rfl, ?_⟩
    cases c with
    | false => rw [if_neg Bool.false_ne_true] at q ⊢; exact ⟨σ3, M', Q3, rs.tk tk, ok', q, fun _ _ _ _ q rv2 ok2 tk2 => k _ _ _ _ q rv2 ok2 (tk.trans tk2)⟩
    | true => rw [if_pos rfl] at q ⊢; exact k _ _ _ _ q (.bl _) ok' tk⟩
theorem notv3 (ha : E3 X a ta) : E3 X (.UnaryOp .Not a pos) (tNotV3 ta) :=
  PE.imp (pe_not ha) fun σ H Q ⟨σ3, M, Q3, rs, ok, q, k⟩ => ⟨σ3, M, _, rs, ok, q, fun w M' v H' q rv ok' tk => by
    have q0 := asB_inv q; clear q; obtain ⟨c, rfl, q⟩ := q0
    cases rv
    exact ⟨c, rfl, k _ _ _ _ q (.bl _) ok' tk⟩⟩
def tIf3 (t : TT3) (ta tb : TE3) : TE3 := fun σ M Q => t σ M fun c M1 => if c = true then ta σ M1 Q else tb σ M1 Q
theorem if3 (hc : T3 X c tA) (ha : E3 X a ta) (hb : E3 X b tb) : E3 X (.IfExp c a b pos) (tIf3 tA ta tb) :=
  PE.imp (pe_ifExp hc ha hb) fun σ H Q ⟨σ3, M, Q3, rs, ok, q, k⟩ => ⟨σ3, M, _, rs, ok, q, fun c M' H' q ok' tk => by
    cases c with
    | true => rw [if_pos rfl] at q ⊢; exact ⟨σ3, M', Q3, rs.tk tk, ok', q, fun _ _ _ _ q rv2 ok2 tk2 => k _ _ _ _ q rv2 ok2 (tk.trans tk2)⟩
    | false => rw [if_neg Bool.false_ne_true] at q ⊢; exact ⟨σ3, M', Q3, rs.tk tk, ok', q, fun _ _ _ _ q rv2 ok2 tk2 => k _ _ _ _ q rv2 ok2 (tk.trans tk2)⟩⟩
/-- a < b < c -/
def tChain3 (r r' : R3) (ta tb tc : TE3) : TE3 := fun σ M Q => ta σ M fun x M1 => tb σ M1 fun y M2 => r x y M2 fun z M3 => asB z fun k => if k = true then tc σ M3 fun u M4 => r' y u M4 Q else Q (.bl false) M3
theorem tChain_ok {K σ H Q} {r r' : R3} (h : dE K (tChain3 r r' ta tb tc) σ H Q) : tChain (dR K r) (dR K r') (dE K ta) (dE K tb) (dE K tc) σ H Q := by
  obtain ⟨σ3, M, Q3, rs, ok, q, k⟩ := h
  refine ⟨σ3, M, _, rs, ok, q, fun w M' v H' q rv ok' tk => ⟨σ3, M', _, rs.tk tk, ok', q, fun w2 M2 v2 H2 q2 rv2 ok2 tk2 => ⟨w, w2, M2, _, rv.tk tk2, rv2, ok2, q2, fun w3 M3 v3 H3 q3 rv3 ok3 tk3 => ?_⟩⟩⟩
  have q0 := asB_inv q3; clear q3; obtain ⟨c, rfl, q3⟩ := q0
  cases rv3
  refine ⟨c, rfl, ?_⟩
  cases c with
  | true =>
    rw [if_pos rfl] at q3 ⊢
    exact ⟨σ3, M3, _, rs.tk ((tk.trans tk2).trans tk3), ok3, q3, fun w4 M4 v4 H4 q4 rv4 ok4 tk4 => ⟨w2, w4, M4, Q3, (rv2.tk tk3).tk tk4, rv4, ok4, q4, fun _ _ _ _ q5 rv5 ok5 tk5 => k _ _ _ _ q5 rv5 ok5 ((((tk.trans tk2).trans tk3).trans tk4).trans tk5)⟩⟩
  | false =>
    rw [if_neg Bool.false_ne_true] at q3 ⊢
    exact k _ _ _ _ q3 (.bl _) ok3 ((tk.trans tk2).trans tk3)
theorem chain3 {op op' : CmpOp} {r r' : R3} (ho : OpR X (compareOp op) (dR X.K r)) (ho' : OpR X (compareOp op') (dR X.K r')) (ha : E3 X a ta) (hb : E3 X b tb) (hc : E3 X c tc)
    (hm : lastMarks [op, op'] [b, c] = false := by with_unfolding_all rfl) : E3 X (.Compare a [op, op'] [b, c] pos) (tChain3 r r' ta tb tc) := PE.imp (pe_chain ho ho' ha hb hc hm) fun _ _ _ => tChain_ok
theorem chainT3 {op op' : CmpOp} {r r' : R3} (ho : OpR X (compareOp op) (dR X.K r)) (ho' : OpR X (compareOp op') (dR X.K r')) (ha : E3 X a ta) (hb : E3 X b tb) (hc : E3 X c tc)
    (hm : lastMarks [op, op'] [b, c] = false := by with_unfolding_all rfl) : T3 X (.Compare a [op, op'] [b, c] pos) (tTt (tChain3 r r' ta tb tc)) :=
  PT.imp (pt_chain ho ho' ha hb hc hm) fun σ H Q ⟨σ3, M, Q3, rs, ok, q, k⟩ => tChain_ok ⟨σ3, M, _, rs, ok, q, fun w M' v H' q rv ok' tk => by
    have q0 := asB_inv q; clear q; obtain ⟨b, rfl, q⟩ := q0
    cases rv
    exact ⟨b, rfl, k _ _ _ q ok' tk⟩⟩
end
end Z3
set_option Elab.async false
set_option linter.all false
set_option maxRecDepth 100000
namespace Z3
open PySem PySem.Spec PyProof.Rows L2

section
variable {X : Cx} {pos : Pos} {a b c e : Expr} {es : List Expr} {ta tb tc te : TE3}

/-! ## argument lists, displays -/
def tN3 : TA3 := fun _ M Q => Q [] M
def tC3 (ta : TE3) (tr : TA3) : TA3 := fun σ M Q => ta σ M fun x M1 => tr σ M1 fun xs M2 => Q (x :: xs) M2
theorem an3 : A3 X [] tN3 := PA.imp pa_nil fun σ H Q ⟨σ3, M, Q3, rs, ok, q, k⟩ => k _ _ _ _ q .nil ok .refl
theorem ac3 {tr : TA3} (ha : E3 X e te) (hr : A3 X es tr) (hs : starEach (e :: es) X.env = (false, eval e X.env) :: starEach es X.env := by rfl) : A3 X (e :: es) (tC3 te tr) :=
  PA.imp (pa_cons ha hr hs) fun σ H Q ⟨σ3, M, Q3, rs, ok, q, k⟩ => ⟨σ3, M, _, rs, ok, q, fun w M' v H' q rv ok' tk => ⟨σ3, M', _, rs.tk tk, ok', q, fun ws M2 vs H2 q2 rvs ok2 tk2 => k _ _ _ _ q2 (.cons (rv.tk tk2) rvs) ok2 (tk.trans tk2)⟩⟩
def tTup3 (t : TA3) : TE3 := fun σ M Q => t σ M fun ws M1 => ws.length ≤ 16777216 ∧ Q (.tup ws) M1
def tLst3 (t : TA3) : TE3 := fun σ M Q => t σ M fun ws M1 => ws.length ≤ 16777216 ∧ ∀ p, M1 p = none → Q (.ref p) (up M1 p (.lst ws))
theorem tup3 {x1} {t : TA3} (h : A3 X es t) : E3 X (.Tuple es x1 pos) (tTup3 t) := PE.imp (pe_tup h) fun σ H Q ⟨σ3, M, Q3, rs, ok, q, k⟩ =>
  ⟨σ3, M, _, rs, ok, q, fun ws M' vs H' ⟨z, q⟩ rv ok' tk => ⟨by rw [← rv.length, sizeLine_eq]; exact z, fun p hp => k _ _ _ _ q (.tup (SqT.of upd_same) (rv.tk (TK.new hp))) (ok'.grow hp) (tk.trans (TK.new hp))⟩⟩
theorem lst3 {t : TA3} (h : A3 X es t) : E3 X (.List es pos) (tLst3 t) := PE.imp (pe_lst h) fun σ H Q ⟨σ3, M, Q3, rs, ok, q, k⟩ =>
  ⟨σ3, M, _, rs, ok, q, fun ws M' vs H' ⟨z, q⟩ rv ok' tk => ⟨by rw [← rv.length, sizeLine_eq]; exact z, fun p hp => k _ _ _ _ (q p (ok'.free hp)) (.ref p) (ok'.new hp ⟨_, upd_same, rv.tk (TK.new hp)⟩) (tk.trans (TK.new hp))⟩⟩

/-! ## subscripts, slices -/
theorem atI_rv {K H} {ws : List W} {vs : List V} {i : Int} {w : W} (r : RVs K H ws vs) (h : atI ws i = some w) : ∃ v, atI vs i = some v ∧ RV K H w v := by
  unfold atI at h ⊢
  rw [← r.length]
  cases e : ixN ws.length i with
  | none => rw [e] at h; cases h
  | some j => rw [e] at h; exact r.get h
def rIx3 : R3 := fun x y M Q => asI y fun i => ∃ ws, itemsOf M x = some ws ∧ ∃ w, atI ws i = some w ∧ Q w M
theorem ix3 (ha : E3 X a ta) (hb : E3 X b tb) (hs : PlainIx b) : E3 X (.Subscript a b pos) (tO rIx3 ta tb) := by
  refine PE.imp (pe_ix (r := dR X.K rIx3) ?_ ha hb hs) fun _ _ _ => tO_ok
  intro va sl pins s σ H x y v u Q I rx ry ⟨wx, wy, M, Q3, r1, r2, ok, q0, k⟩ hss
  obtain ⟨i, e2, ws, e1, w, e3, q⟩ := asI_inv q0
  subst e2
  cases r2
  obtain ⟨p, vs, rfl, sq, rv⟩ := items_ok ok r1 e1
  obtain ⟨z, h1, h2⟩ := atI_rv rv e3
  rcases sq with sq | sq
  · exact ix_list va sl pins s σ H _ _ v u Q I rx ry ⟨p, vs, i, z, rfl, rfl, sq, h1, k _ _ _ _ q h2 ok .refl⟩ hss
  · exact ix_tup va sl pins s σ H _ _ v u Q I rx ry ⟨p, vs, i, z, rfl, rfl, sq, h1, k _ _ _ _ q h2 ok .refl⟩ hss
/-- a part of a slice -/
abbrev TO3 := St3 → Mp → (Option Int → Mp → Prop) → Prop
def dO (K : PySem.W.Frag) (t : TO3) : TO := fun σ H Q => ∃ σ3 M Q3, RSt K H σ3 σ ∧ OkM K M H ∧ t σ3 M Q3 ∧ ∀ o M' H', Q3 o M' → OkM K M' H' → TK K H H' → Q o H'
def O3 (X : Cx) (e : Option Expr) (t : TO3) : Prop := PO X e (dO X.K t)
theorem PO.imp {e : Option Expr} {t t' : TO} (h : PO X e t) (i : ∀ σ H Q, t' σ H Q → t σ H Q) : PO X e t' := ⟨fun p s σ H Q I q => h.run p s σ H Q I (i _ _ _ q)⟩
def tNo3 : TO3 := fun _ M Q => Q none M
def tPa3 (t : TE3) : TO3 := fun σ M Q => t σ M fun x M1 => asI x fun i => Q (some i) M1
theorem no3 : O3 X none tNo3 := PO.imp po_none fun σ H Q ⟨σ3, M, Q3, rs, ok, q, k⟩ => k _ _ _ q ok .refl
theorem pa3 (h : E3 X e te) : O3 X (some e) (tPa3 te) := PO.imp (po_some h) fun σ H Q ⟨σ3, M, Q3, rs, ok, q, k⟩ => ⟨σ3, M, _, rs, ok, q, fun w M' v H' q0 rv ok' tk => by
  obtain ⟨i, e, q⟩ := asI_inv q0
  subst e; cases rv; exact ⟨i, rfl, k _ _ _ q ok' tk⟩⟩
def cut3 (ws : List W) (lo hi : Option Int) : List W := (ws.drop (HT.sIx ws.length 0 lo)).take (HT.sIx ws.length ws.length hi - HT.sIx ws.length 0 lo)
theorem cut3_rv {K H} {ws : List W} {vs : List V} {lo hi} (r : RVs K H ws vs) : RVs K H (cut3 ws lo hi) (cutV vs lo hi) := by unfold cut3 cutV; rw [r.length]; exact (r.drop _).take _
theorem cutV_whole {xs : List V} {lo hi} (h : HT.sIx xs.length 0 lo = 0 ∧ HT.sIx xs.length xs.length hi = xs.length) : cutV xs lo hi = xs := by
  unfold cutV; rw [h.1, h.2]; simp
def sl3 (x : W) (lo hi : Option Int) (M : Mp) (Q : VK3) : Prop :=
  match x with
  | .tup ws => Q (.tup (cut3 ws lo hi)) M
  | .ref a => ∃ ws, M a = some (.lst ws) ∧ ∀ p, M p = none → Q (.ref p) (up M p (.lst (cut3 ws lo hi)))
  | _ => False
def tSl3 (te : TE3) (tl th : TO3) : TE3 := fun σ M Q => te σ M fun x M1 => tl σ M1 fun l M2 => th σ M2 fun u M3 => sl3 x l u M3 Q
theorem slice3 {lo hi : Option Expr} {tl th : TO3} {p2 : Pos} (he : E3 X e te) (hl : O3 X lo tl) (hh : O3 X hi th) : E3 X (.Subscript e (.Slice lo hi none p2) pos) (tSl3 te tl th) := by
  refine PE.imp (pe_slice (SlR.or sl_list sl_tupA) he hl hh) fun σ H Q ⟨σ3, M, Q3, rs, ok, q, k⟩ => ?_
  refine ⟨σ3, M, _, rs, ok, q, fun w M' v H' q rv ok' tk => ⟨σ3, M', _, rs.tk tk, ok', q, fun o M2 H2 q2 ok2 tk2 => ⟨σ3, M2, _, rs.tk (tk.trans tk2), ok2, q2, fun o3 M3 H3 q3 ok3 tk3 => ?_⟩⟩⟩
  have tk0 := (tk.trans tk2).trans tk3
  have rv3 := rv.tk (tk2.trans tk3)
  cases w with
  | tup ws =>
    obtain ⟨p, vs, rfl, s, r⟩ := rv3.tup_inv
    refine .inr ⟨p, vs, rfl, s, fun hw => ?_, fun _ p' hp => k _ _ _ _ q3 (.tup (SqT.of upd_same) ((cut3_rv r).tk (TK.new hp))) (ok3.grow hp) (tk0.trans (TK.new hp))⟩
    refine k _ _ _ _ q3 (.tup s ?_) ok3 tk0
    have := cut3_rv (lo := o) (hi := o3) r
    rw [cutV_whole hw] at this
    exact this
  | ref p =>
    cases rv3
    obtain ⟨ws, e1, q3⟩ := q3
    obtain ⟨vs, e2, r⟩ := ok3 _ _ e1
    exact .inl ⟨p, vs, rfl, SqL.of e2, fun p' hp => k _ _ _ _ (q3 p' (ok3.free hp)) (.ref p') (ok3.new hp ⟨_, upd_same, (cut3_rv r).tk (TK.new hp)⟩) (tk0.trans (TK.new hp))⟩
  | _ => exact absurd q3 id
/-- xs[::-1] of a list -/
def tRev3 (te : TE3) : TE3 := fun σ M Q => te σ M fun x M1 => asR x fun a => ∃ ws, M1 a = some (.lst ws) ∧ ∀ p, M1 p = none → Q (.ref p) (up M1 p (.lst ws.reverse))
theorem rev3 {k : Nat} {p1 p2 p3 pos : Pos} (he : E3 X e te) : E3 X (.Subscript e (.Slice none none (some (.UnaryOp .USub (.Constant (.int 1) k p1) p2)) p3) pos) (tRev3 te) :=
  PE.imp (pe_revL he) fun σ H Q ⟨σ3, M, Q3, rs, ok, q, k⟩ => ⟨σ3, M, _, rs, ok, q, fun w M' v H' q0 rv ok' tk => by
    obtain ⟨a, e, ws, h, q⟩ := asR_inv q0
    subst e; cases rv
    obtain ⟨vs, e2, r⟩ := ok' _ _ h
    exact ⟨a, vs, rfl, SqL.of e2, fun p hp => k _ _ _ _ (q p (ok'.free hp)) (.ref p) (ok'.new hp ⟨_, upd_same, r.reverse.tk (TK.new hp)⟩) (tk.trans (TK.new hp))⟩⟩

/-! ## methods of lists -/
def dM (K : PySem.W.Frag) (r : W → List W → Mp → VK3 → Prop) : V → List V → Hp → VK → Prop := fun x vs H Q => ∃ wx ws M Q3, RV K H wx x ∧ RVs K H ws vs ∧ OkM K M H ∧ r wx ws M Q3 ∧ ∀ w M' v H', Q3 w M' → RV K H' w v → OkM K M' H' → TK K H H' → Q v H'
theorem MtR.imp {id : String} {r r' : V → List V → Hp → VK → Prop} (h : MtR X id r) (i : ∀ x vs H Q, r' x vs H Q → r x vs H Q) : MtR X id r' := fun p s σ H x vs v us Q I rx rv q => h p s σ H x vs v us Q I rx rv (i _ _ _ _ q)
/-- o.m(..), o a list of the program's -/
def tMt (r : W → List W → Mp → VK3 → Prop) (to : TE3) (t : TA3) : TE3 := fun σ M Q => to σ M fun x M1 => asR x fun l => (∃ ws, M1 l = some (.lst ws)) ∧ t σ M1 fun xs M2 => r x xs M2 Q
section
variable {o : Expr} {to : TE3} {t : TA3} {name : Str} {id : String} {r : W → List W → Mp → VK3 → Prop} {apos cpos : Pos} {pl : Sem Bool}
theorem tyV_list {K M H} {l : Addr} (ok : OkM K M H) (h : ∃ ws, M l = some (.lst ws)) : tyV K "list" (.ref l) H := by
  obtain ⟨ws, h⟩ := h
  obtain ⟨vs, e, _⟩ := ok _ _ h
  exact .inl ⟨rfl, _, SqL.of e⟩
theorem mt3 (slot : Slot "list" name id) (hty : typeOf (.builtin id) = pure (.type "method_descriptor")) (hm : MtR X id (dM X.K r)) (ho : E3 X o to) (ha : A3 X (e :: es) t)
    (hbase : attributeBase o name X.env (eval o X.env) = eval o X.env := by rfl)
    (hfew : ((backTo cpos (starEach (e :: es) X.env)).all (fun x => !x.1) && (backToKw cpos (keywordEach [] X.env)).all (fun x => x.1.isSome)
      && decide ((e :: es).length + ([] : List Keyword).length + (if ([] : List Keyword).isEmpty then 0 else 1) < 30)) = true := by rfl)
    (hline : (apos.endLine == cpos.line) = true := by rfl) (hs : starEach (e :: es) X.env = (false, eval e X.env) :: starEach es X.env := by rfl) (hplain : (backTo cpos (starEach es X.env)).any (·.1) = false := by rfl) :
    E3 X (.Call (.Attribute o name apos) (e :: es) [] cpos) (tMt r to t) :=
  PE.imp (pe_bm PySem.F.plainAttrs_list slot hty hm ho ha hbase hfew hline hs hplain) fun σ H Q ⟨σ3, M, Q3, rs, ok, q, k⟩ => ⟨σ3, M, _, rs, ok, q, fun w M' v H' q0 rv ok' tk => by
    obtain ⟨l, e, hl, q⟩ := asR_inv q0
    subst e; cases rv
    exact ⟨tyV_list ok' hl, ⟨σ3, M', _, rs.tk tk, ok', q, fun ws M2 vs H2 q2 rvs ok2 tk2 => ⟨.ref l, ws, M2, Q3, .ref l, rvs, ok2, q2, fun _ _ _ _ q3 rv3 ok3 tk3 => k _ _ _ _ q3 rv3 ok3 ((tk.trans tk2).trans tk3)⟩⟩⟩⟩
end
def rApp3 : W → List W → Mp → VK3 → Prop := fun x vs M Q => asR x fun l => as1 vs fun y => ∃ ws, M l = some (.lst ws) ∧ ws.length < 16777216 ∧ Q .non (up M l (.lst (ws ++ [y])))
theorem mt_app3 : MtR X "list.append" (dM X.K rApp3) := MtR.imp mt_append fun x vs H Q ⟨wx, ws, M, Q3, rx, rv, ok, q0, k⟩ => by
  obtain ⟨l, e1, q0⟩ := asR_inv q0
  obtain ⟨y, e2, xs, h, z, q⟩ := as1_inv q0
  subst e1 e2; cases rx
  cases rv with
  | cons r1 r2 =>
    cases r2
    obtain ⟨us, e, r⟩ := ok _ _ h
    exact ⟨l, us, _, rfl, rfl, e, by rw [← r.length, sizeLine_eq]; exact z, k _ _ _ _ q .non (ok.set e trivial ⟨_, upd_same, (r.append (.one r1)).tk (TK.set e trivial)⟩) (TK.set e trivial)⟩
def rPopAt3 : W → List W → Mp → VK3 → Prop := fun x vs M Q => asR x fun l => as1 vs fun z => asI z fun i => ∃ ws, M l = some (.lst ws) ∧ -(2 ^ 63) ≤ i ∧ i < 2 ^ 63 ∧ ∃ j, seqIndex? i ws.length = some j ∧ ∃ y, ws[j]? = some y ∧ Q y (up M l (.lst (ws.eraseIdx j)))
theorem mapp3 {o : Expr} {to : TE3} {t : TA3} {apos cpos : Pos} (ho : E3 X o to) (ha : A3 X (e :: es) t) (hbase : attributeBase o "append" X.env (eval o X.env) = eval o X.env := by rfl)
    (hfew : ((backTo cpos (starEach (e :: es) X.env)).all (fun x => !x.1) && (backToKw cpos (keywordEach [] X.env)).all (fun x => x.1.isSome)
      && decide ((e :: es).length + ([] : List Keyword).length + (if ([] : List Keyword).isEmpty then 0 else 1) < 30)) = true := by rfl)
    (hline : (apos.endLine == cpos.line) = true := by rfl) (hs : starEach (e :: es) X.env = (false, eval e X.env) :: starEach es X.env := by rfl) (hplain : (backTo cpos (starEach es X.env)).any (·.1) = false := by rfl) :
    E3 X (.Call (.Attribute o "append" apos) (e :: es) [] cpos) (tMt rApp3 to t) := mt3 PySem.F.slot_list_append PySem.F.type_list_append mt_app3 ho ha hbase hfew hline hs hplain
theorem mt_popAt3 : MtR X "list.pop" (dM X.K rPopAt3) := MtR.imp mt_popAt fun x vs H Q ⟨wx, ws, M, Q3, rx, rv, ok, q0, k⟩ => by
  obtain ⟨l, e1, q0⟩ := asR_inv q0
  obtain ⟨z, e2, q0⟩ := as1_inv q0
  obtain ⟨i, e3, xs, h, z1, z2, j, z3, y, z4, q⟩ := asI_inv q0
  subst e3
  subst e1 e2; cases rx
  cases rv with
  | cons r1 r2 =>
    cases r2; cases r1
    obtain ⟨us, e, r⟩ := ok _ _ h
    obtain ⟨v, hv, rv⟩ := r.get z4
    exact ⟨l, us, i, j, v, rfl, rfl, e, z1, z2, by rw [← r.length]; exact z3, hv, k _ _ _ _ q (rv.tk (TK.set e trivial)) (ok.set e trivial ⟨_, upd_same, (r.eraseIdx j).tk (TK.set e trivial)⟩) (TK.set e trivial)⟩
def rIns3 : W → List W → Mp → VK3 → Prop := fun x vs M Q => asR x fun l => as2 vs fun z y => asI z fun i => ∃ ws, M l = some (.lst ws) ∧ ws.length < 16777216 ∧ 0 ≤ i ∧ i < 2 ^ 63 ∧ Q .non (up M l (.lst (ws.take i.toNat ++ [y] ++ ws.drop i.toNat)))
theorem mt_ins3 : MtR X "list.insert" (dM X.K rIns3) := MtR.imp mt_insert fun x vs H Q ⟨wx, ws, M, Q3, rx, rv, ok, q0, k⟩ => by
  obtain ⟨l, e1, q0⟩ := asR_inv q0
  obtain ⟨z, y, e2, q0⟩ := as2_inv q0
  obtain ⟨i, e3, xs, h, z, z1, z2, q⟩ := asI_inv q0
  subst e3
  subst e1 e2; cases rx
  cases rv with
  | cons r1 r2 =>
    cases r1
    cases r2 with
    | cons r2 r3 =>
      cases r3
      obtain ⟨us, e, r⟩ := ok _ _ h
      exact ⟨l, us, i, _, rfl, rfl, e, by rw [← r.length, sizeLine_eq]; exact z, z1, z2, k _ _ _ _ q .non (ok.set e trivial ⟨_, upd_same, (((r.take _).append (.one r2)).append (r.drop _)).tk (TK.set e trivial)⟩) (TK.set e trivial)⟩
section
variable {o : Expr} {to : TE3} {t : TA3} {apos cpos : Pos}
end

/-! ## built-in calls -/
def dC (K : PySem.W.Frag) (r : List W → Mp → VK3 → Prop) : List V → Hp → VK → Prop := fun vs H Q => ∃ ws M Q3, RVs K H ws vs ∧ OkM K M H ∧ r ws M Q3 ∧ ∀ w M' v H', Q3 w M' → RV K H' w v → OkM K M' H' → TK K H H' → Q v H'
theorem CallR.imp {f : Value} {r r' : List V → Hp → VK → Prop} (h : CallR X f r) (i : ∀ vs H Q, r' vs H Q → r vs H Q) : CallR X f r' := fun p s σ H vs us Q I rv q => h p s σ H vs us Q I rv (i _ _ _ q)
def tCB3 (r : List W → Mp → VK3 → Prop) (t : TA3) : TE3 := fun σ M Q => t σ M fun ws M1 => r ws M1 Q
theorem tCB_ok {K σ H Q} {r : List W → Mp → VK3 → Prop} {t : TA3} (h : dE K (tCB3 r t) σ H Q) : tCB (dC K r) (dA K t) σ H Q := by
  obtain ⟨σ3, M, Q3, rs, ok, q, k⟩ := h
  exact ⟨σ3, M, _, rs, ok, q, fun ws M' vs H' q rv ok' tk => ⟨ws, M', Q3, rv, ok', q, fun _ _ _ _ q2 rv2 ok2 tk2 => k _ _ _ _ q2 rv2 ok2 (tk.trans tk2)⟩⟩
variable {x : Str} {p : Pos} {id T : String} {r : List W → Mp → VK3 → Prop} {t : TA3}
theorem cb3 (hc : CallR X (.builtin id) (dC X.K r)) (hg : Gl X x) (hm : X.mg x = none) (hv : bootBuiltins x = some (.builtin id)) (ha : A3 X (e :: es) t) (hn : x ≠ "__name__" := by decide) (hdb : (x == ("__debug__" : Str)) = false := by decide)
    (he : starEach (e :: es) X.env = (false, eval e X.env) :: starEach es X.env := by rfl) (hpl : (backTo pos (starEach es X.env)).any (·.1) = false := by rfl) : E3 X (.Call (.Name x p) (e :: es) [] pos) (tCB3 r t) := PE.imp (pe_callB hc hg hm hv ha hn hdb he hpl) fun _ _ _ => tCB_ok
theorem cty3 (hc : CallR X (.type T) (dC X.K r)) (hg : Gl X x) (hm : X.mg x = none) (hv : bootBuiltins x = some (.type T)) (ha : A3 X (e :: es) t) (hn : x ≠ "__name__" := by decide) (hdb : (x == ("__debug__" : Str)) = false := by decide)
    (he : starEach (e :: es) X.env = (false, eval e X.env) :: starEach es X.env := by rfl) (hpl : (backTo pos (starEach es X.env)).any (·.1) = false := by rfl) : E3 X (.Call (.Name x p) (e :: es) [] pos) (tCB3 r t) := PE.imp (pe_callTy hc hg hm hv ha hn hdb he hpl) fun _ _ _ => tCB_ok
def rLen3 : List W → Mp → VK3 → Prop := fun xs M Q => as1 xs fun x => ∃ ws, itemsOf M x = some ws ∧ Q (.int ws.length) M
theorem len3 : CallR X (.builtin "len") (dC X.K rLen3) := CallR.imp call_len_seq fun vs H Q ⟨ws, M, Q3, rv, ok, q0, k⟩ => by
  obtain ⟨x, e1, ys, e2, q⟩ := as1_inv q0
  subst e1
  cases rv with
  | cons r1 r2 =>
    cases r2
    obtain ⟨p, us, rfl, s, r⟩ := items_ok ok r1 e2
    refine ⟨p, us, rfl, s, ?_⟩
    rw [← r.length]
    exact k _ _ _ _ q (.int _) ok .refl
def rList3 : List W → Mp → VK3 → Prop := fun xs M Q => as1 xs fun x => ∃ ws, itemsOf M x = some ws ∧ ∀ p, M p = none → Q (.ref p) (up M p (.lst ws))
theorem list3 : CallR X (.type "list") (dC X.K rList3) := CallR.imp call_list_of fun vs H Q ⟨ws, M, Q3, rv, ok, q0, k⟩ => by
  obtain ⟨x, e1, ys, e2, q⟩ := as1_inv q0
  subst e1
  cases rv with
  | cons r1 r2 =>
    cases r2
    obtain ⟨p, us, rfl, s, r⟩ := items_ok ok r1 e2
    exact ⟨p, us, rfl, s, fun l hl => k _ _ _ _ (q l (ok.free hl)) (.ref l) (ok.new hl ⟨_, upd_same, r.tk (TK.new hl)⟩) (TK.new hl)⟩
def rTuple3 : List W → Mp → VK3 → Prop := fun xs M Q => as1 xs fun x => ∃ ws, itemsOf M x = some ws ∧ Q (.tup ws) M
theorem tuple3 : CallR X (.type "tuple") (dC X.K rTuple3) := CallR.imp call_tuple_of fun vs H Q ⟨ws, M, Q3, rv, ok, q0, k⟩ => by
  obtain ⟨x, e1, ys, e2, q⟩ := as1_inv q0
  subst e1
  cases rv with
  | cons r1 r2 =>
    cases r2
    obtain ⟨p, us, rfl, s, r⟩ := items_ok ok r1 e2
    rcases s with s | s
    · exact ⟨p, us, rfl, .inl ⟨s, fun l hl => k _ _ _ _ q (.tup (SqT.of upd_same) (r.tk (TK.new hl))) (ok.grow hl) (TK.new hl)⟩⟩
    · exact ⟨p, us, rfl, .inr ⟨s, k _ _ _ _ q (.tup s r) ok .refl⟩⟩
def rInt3 : List W → Mp → VK3 → Prop
  | [.int i], M, Q => Q (.int i) M
  | [.bl b], M, Q => Q (.int (if b then 1 else 0)) M
  | _, _, _ => False
theorem int3 : CallR X (.type "int") (dC X.K rInt3) := CallR.imp call_int1 fun vs H Q ⟨ws, M, Q3, rv, ok, q, k⟩ => by
  cases rv with
  | nil => exact absurd q id
  | cons r1 r2 =>
    cases r2 with
    | cons r2 r3 => cases r1 <;> exact absurd q id
    | nil =>
      cases r1 with
      | int i => exact .inl ⟨_, rfl, k _ _ _ _ q (.int _) ok .refl⟩
      | bl b => exact .inr ⟨_, rfl, k _ _ _ _ q (.int _) ok .refl⟩
      | _ => exact absurd q id
def rAbs3 : List W → Mp → VK3 → Prop
  | [.int i], M, Q => Q (.int (if i < 0 then -i else i)) M
  | _, _, _ => False
theorem abs3 : CallR X (.builtin "abs") (dC X.K rAbs3) := CallR.imp call_abs fun vs H Q ⟨ws, M, Q3, rv, ok, q, k⟩ => by
  cases rv with
  | nil => exact absurd q id
  | cons r1 r2 =>
    cases r2 with
    | cons r2 r3 => cases r1 <;> exact absurd q id
    | nil =>
      cases r1 with
      | int i => exact ⟨_, rfl, k _ _ _ _ q (.int _) ok .refl⟩
      | _ => exact absurd q id

/-! ## statements -/
variable {st : Stmt} {rest sts : List Stmt} {t1 t2 : TS3} {tt : TT3}
def tNx3 : TS3 := fun D σ M => D.nx σ M
def tSq (t u : TS3) : TS3 := fun D σ M => t { D with nx := u D } σ M
theorem nil3 : B3 X [] tNx3 := PSs.imp pss_nil fun D σ H ⟨σ3, M, D3, rs, ok, q, k1, k2, k3, k4⟩ => k1 _ _ _ _ q rs ok .refl
/-- with a word between the two -/
def tCut (t u : TS3) : TS3 := fun D σ M => ∃ Mid : St3 → Mp → Prop, t { D with nx := Mid } σ M ∧ ∀ σ' M', Mid σ' M' → u D σ' M'
theorem cut_ok {K} {D : Ends} {σ : L2.St} {H : Hp} (h : dS K (tCut t1 t2) D σ H) : tSeq (dS K t1) (dS K t2) D σ H := by
  obtain ⟨σ3, M, D3, rs, ok, ⟨Mid, q, n⟩, k1, k2, k3, k4⟩ := h
  refine ⟨σ3, M, _, rs, ok, q, fun σ3' M' σ' H' q rs' ok' tk => ?_, k2, k3, k4⟩
  exact ⟨σ3', M', D3, rs', ok', n _ _ q, fun _ _ _ _ q r o tk2 => k1 _ _ _ _ q r o (tk.trans tk2), fun _ _ _ _ q r o tk2 => k2 _ _ _ _ q r o (tk.trans tk2), fun _ _ _ _ q r o tk2 => k3 _ _ _ _ q r o (tk.trans tk2), fun _ _ _ _ q r o tk2 => k4 _ _ _ _ q r o (tk.trans tk2)⟩
theorem cuts3 (h1 : S3 X st t1) (h2 : B3 X rest t2) : B3 X (st :: rest) (tCut t1 t2) := PSs.imp (pss_cons h1 h2) fun _ _ _ => cut_ok
theorem cons3 (h1 : S3 X st t1) (h2 : B3 X rest t2) : B3 X (st :: rest) (tSq t1 t2) := PSs.imp (cuts3 h1 h2) fun D σ H ⟨σ3, M, D3, rs, ok, q, k⟩ => ⟨σ3, M, D3, rs, ok, ⟨_, q, fun _ _ h => h⟩, k⟩
theorem last3 (h1 : S3 X st t1) : B3 X [st] t1 := pss_one h1
def tBk3 : TS3 := fun D σ M => D.bk σ M
def tCt3 : TS3 := fun D σ M => D.ct σ M
theorem pass3 : S3 X (.Pass pos) tNx3 := PS.imp ps_pass fun D σ H ⟨σ3, M, D3, rs, ok, q, k1, k2, k3, k4⟩ => k1 _ _ _ _ q rs ok .refl
theorem bk3 : S3 X (.Break pos) tBk3 := PS.imp ps_break fun D σ H ⟨σ3, M, D3, rs, ok, q, k1, k2, k3, k4⟩ => k3 _ _ _ _ q rs ok .refl
theorem cn3 : S3 X (.Continue pos) tCt3 := PS.imp ps_continue fun D σ H ⟨σ3, M, D3, rs, ok, q, k1, k2, k3, k4⟩ => k4 _ _ _ _ q rs ok .refl
def tEx3 (te : TE3) : TS3 := fun D σ M => te σ M fun _ M1 => D.nx σ M1
theorem expr3 (he : E3 X e te) (hs : swapsWith e none pos.line X.env = pure false := by rfl) : S3 X (.Expr e pos) (tEx3 te) := PS.imp (ps_expr he hs) fun D σ H ⟨σ3, M, D3, rs, ok, q, k1, k2, k3, k4⟩ =>
  ⟨σ3, M, _, rs, ok, q, fun w M' v H' q rv ok' tk => k1 _ _ _ _ q (rs.tk tk) ok' tk⟩
def tRt3 (te : TE3) : TS3 := fun D σ M => te σ M D.rt
theorem ret3 (he : E3 X e te) : S3 X (.Return (some e) pos) (tRt3 te) := PS.imp (ps_ret he) fun D σ H ⟨σ3, M, D3, rs, ok, q, k1, k2, k3, k4⟩ => ⟨σ3, M, _, rs, ok, q, k2⟩
def tRn3 : TS3 := fun D _ M => D.rt .non M
theorem retn3 : S3 X (.Return none pos) tRn3 := PS.imp ps_retN fun D σ H ⟨σ3, M, D3, rs, ok, q, k1, k2, k3, k4⟩ => k2 _ _ _ _ q .non ok .refl
def tIfS3 (c : TT3) (t u : TS3) : TS3 := fun D σ M => c σ M fun b M1 => if b = true then t D σ M1 else u D σ M1
theorem ifs3 {c : Expr} {p q : List Stmt} (hc : T3 X c tt) (ha : B3 X p t1) (hb : B3 X q t2) : S3 X (.If c p q pos) (tIfS3 tt t1 t2) := PS.imp (ps_if hc ha hb) fun D σ H ⟨σ3, M, D3, rs, ok, q, k1, k2, k3, k4⟩ =>
  ⟨σ3, M, _, rs, ok, q, fun b M' H' q ok' tk => by
    have go : ∀ t : TS3, t D3 σ3 M' → dS X.K t D σ H' := fun t q => ⟨σ3, M', D3, rs.tk tk, ok', q, fun _ _ _ _ q r o tk2 => k1 _ _ _ _ q r o (tk.trans tk2), fun _ _ _ _ q r o tk2 => k2 _ _ _ _ q r o (tk.trans tk2), fun _ _ _ _ q r o tk2 => k3 _ _ _ _ q r o (tk.trans tk2), fun _ _ _ _ q r o tk2 => k4 _ _ _ _ q r o (tk.trans tk2)⟩
    cases b with
    | true => rw [if_pos rfl] at q; exact iteT (go _ q)
    | false => rw [if_neg Bool.false_ne_true] at q; exact iteF (go _ q)⟩
def tNv3 : TS3 := fun _ _ _ => False
theorem never3 : S3 X st tNv3 := PS.imp ps_never fun D σ H ⟨σ3, M, D3, rs, ok, q, k⟩ => q
theorem nevers3 : B3 X sts tNv3 := PSs.imp pss_never fun D σ H ⟨σ3, M, D3, rs, ok, q, k⟩ => q

/-! ## targets -/
abbrev TG3 := W → St3 → Mp → (St3 → Mp → Prop) → Prop
def dG (K : PySem.W.Frag) (t : TG3) : TG := fun v σ H Q => ∃ w σ3 M Q3, RV K H w v ∧ RSt K H σ3 σ ∧ OkM K M H ∧ t w σ3 M Q3 ∧ ∀ σ3' M' σ' H', Q3 σ3' M' → RSt K H' σ3' σ' → OkM K M' H' → TK K H H' → Q σ' H'
def G3 (X : Cx) (tg : Expr) (t : TG3) : Prop := PG X tg (dG X.K t)
theorem PG.imp {tg : Expr} {t t' : TG} (h : PG X tg t) (i : ∀ v σ H Q, t' v σ H Q → t v σ H Q) : PG X tg t' := ⟨fun p s σ H v u Q I r q => h.run p s σ H v u Q I r (i _ _ _ _ q)⟩
def gN3 (i : Nat) : TG3 := fun w σ M Q => Q (σ.set i (some w)) M
theorem gname3 {i : Nat} {x : Str} (hN : X.N.Nodup) (hi : X.N[i]? = some x) (hx : Loc X.env.scope x) (hf : X.fn x = true ∨ X.env.scope.names.lookup x = some .local := by first | exact .inl rfl | exact .inr rfl | assumption) : G3 X (.Name x pos) (gN3 i) :=
  PG.imp (pg_name hN hi hx hf) fun v σ H Q ⟨w, σ3, M, Q3, rv, rs, ok, q, k⟩ => k _ _ _ _ q (rs.set rv i) ok .refl
def tAs3 (te : TE3) (g : TG3) : TS3 := fun D σ M => te σ M fun x M1 => g x σ M1 D.nx
theorem asg_ok {K} {g : TG3} {D : Ends} {σ : L2.St} {H : Hp} (h : dS K (tAs3 te g) D σ H) : tAsg (dE K te) (dG K g) D σ H := by
  obtain ⟨σ3, M, D3, rs, ok, q, k1, k2, k3, k4⟩ := h
  exact ⟨σ3, M, _, rs, ok, q, fun w M' v H' q rv ok' tk => ⟨w, σ3, M', _, rv, rs.tk tk, ok', q, fun _ _ _ _ q r o tk2 => k1 _ _ _ _ q r o (tk.trans tk2)⟩⟩
theorem asg3 {tg : Expr} {g : TG3} (he : E3 X e te) (hg : G3 X tg g) (hs : swapsWithSole [tg] e pos.line X.env = pure false := by rfl) (hw : swappedStores [tg] e X.env = pure none := by rfl)
    (h1 : (assignEach [tg] X.env).map (·.2) = [assign tg X.env] := by rfl) : S3 X (.Assign [tg] e pos) (tAs3 te g) := PS.imp (ps_asg he hg hs hw h1) fun _ _ _ => asg_ok
theorem gName_ok {K v σ H Q} {i : Nat} (h : dG K (gN3 i) v σ H Q) : gName i v σ H Q := by
  obtain ⟨w, σ3, M, Q3, rv, rs, ok, q, k⟩ := h
  exact k _ _ _ _ q (rs.set rv i) ok .refl
theorem set3 {i : Nat} {x : Str} {pos' : Pos} (hN : X.N.Nodup) (hi : X.N[i]? = some x) (hx : Loc X.env.scope x) (he : E3 X e te) (hs : swapsWith e (some (.Name x pos')) pos.line X.env = pure false := by rfl) (hf : X.fn x = true ∨ X.env.scope.names.lookup x = some .local := by first | exact .inl rfl | exact .inr rfl | assumption) :
    S3 X (.Assign [.Name x pos'] e pos) (tAs3 te (gN3 i)) := PS.imp (ps_set hN hi hx he hs hf) fun D σ H ⟨σ3, M, D3, rs, ok, q, k1, k2, k3, k4⟩ =>
  ⟨σ3, M, _, rs, ok, q, fun w M' v H' q rv ok' tk => k1 _ _ _ _ q ((rs.tk tk).set rv i) ok' tk⟩
/-- xs[i] = v -/
def gIx3 (to ti : TE3) : TG3 := fun w σ M Q => to σ M fun o M1 => ti σ M1 fun i M2 => asR o fun l => asI i fun k => ∃ ws, M2 l = some (.lst ws) ∧ ∃ j, ixN ws.length k = some j ∧ Q σ (up M2 l (.lst (ws.set j w)))
theorem gix3 {o i : Expr} {to ti : TE3} (ho : E3 X o to) (hi : E3 X i ti)
    (ha : ∀ v, assign (.Subscript o i pos) X.env v = (do
      let ov ← holding [v] (eval o X.env)
      let iv ← holding [v, ov] (eval i X.env)
      standAt pos
      holding [v, ov, iv] (setItem ov iv v)
      release [v, ov, iv] []) := by intro _; rfl) : G3 X (.Subscript o i pos) (gIx3 to ti) :=
  PG.imp (pg_sub ho hi set_list ha) fun v σ H Q ⟨w, σ3, M, Q3, rv, rs, ok, q, k⟩ => ⟨σ3, M, _, rs, ok, q, fun ow M1 ov H1 q1 rv1 ok1 tk1 => ⟨σ3, M1, _, rs.tk tk1, ok1, q1, fun iw M2 iv H2 q2 rv2 ok2 tk2 => by
    obtain ⟨l, e1, q0⟩ := asR_inv q2
    obtain ⟨kk, e2, ws, h, j, hj, q3⟩ := asI_inv q0
    subst e1 e2
    cases rv2
    obtain rfl : ov = .ref l := by cases rv1; rfl
    obtain ⟨vs, e, r⟩ := ok2 _ _ h
    have tk := (tk1.trans tk2)
    have tk' := tk.trans (TK.set (o := .lst (vs.set j v)) e trivial)
    exact ⟨l, vs, kk, j, rfl, rfl, e, by rw [← r.length]; exact hj, k _ _ _ _ q3 (rs.tk tk') (ok2.set e trivial ⟨_, upd_same, (((r.set (rv.tk tk) j)).tk (TK.set e trivial))⟩) tk'⟩⟩⟩
end
end Z3
set_option Elab.async false
set_option linter.all false
set_option maxRecDepth 100000
namespace Z3
open PySem PySem.Spec PyProof.Rows L2

/-! ## less is known -/
inductive Fg : St3 → St3 → Prop
  | nil : Fg [] []
  | no {x a b} : Fg a b → Fg (none :: a) (x :: b)
  | eq {x a b} : Fg a b → Fg (x :: a) (x :: b)
theorem Fg.refl : ∀ {a}, Fg a a
  | [] => .nil
  | _ :: _ => .eq Fg.refl
theorem RSt.fg {K H} : ∀ {a a' : St3} {b : L2.St}, Fg a' a → RSt K H a b → RSt K H a' b
  | _, _, _, .nil, .nil => .nil
  | _, _, _, .no f, .no r => .no (r.fg f)
  | _, _, _, .no f, .yes _ r => .no (r.fg f)
  | _, _, _, .eq f, .no r => .no (r.fg f)
  | _, _, _, .eq f, .yes q r => .yes q (r.fg f)
def Wk (P : St3 → Mp → Prop) : St3 → Mp → Prop := fun σ M => ∃ σ1 M1, Fg σ1 σ ∧ Le M1 M ∧ P σ1 M1
theorem Wk.of {P : St3 → Mp → Prop} {σ M} (h : P σ M) : Wk P σ M := ⟨σ, M, .refl, .refl, h⟩
def Wm (P : Mp → Prop) : Mp → Prop := fun M => ∃ M1, Le M1 M ∧ P M1
theorem Wm.of {P : Mp → Prop} {M} (h : P M) : Wm P M := ⟨M, .refl, h⟩

section
variable {X : Cx} {pos : Pos} {a b c e tg : Expr} {es : List Expr} {ta tb tc te : TE3}

/-! ## what is walked -/
abbrev TI3 := St3 → Mp → (List W → (Mp → Prop) → Mp → Prop) → Prop
def ItRel (K : PySem.W.Frag) (H1 : Hp) (ws : List W) (S : Mp → Prop) (J : It) : Prop :=
  ∀ i M H, OkM K M H → TK K H1 H → S M → (ws.length = i → J.stop i H) ∧ ∀ w, ws[i]? = some w → J.go i H ∧ ∀ x H', J.yld i H x H' → RV K H' w x ∧ OkM K M H' ∧ TK K H H'
def dI (K : PySem.W.Frag) (t : TI3) : TI := fun σ H R => ∃ σ3 M R3, RSt K H σ3 σ ∧ OkM K M H ∧ t σ3 M R3 ∧ ∀ ws S M' J H', R3 ws S M' → ItRel K H' ws S J → OkM K M' H' → TK K H H' → R J H'
def I3 (X : Cx) (tg e : Expr) (t : TI3) : Prop := PI X tg e (dI X.K t)
theorem PI.imp {t t' : TI} (h : PI X tg e t) (i : ∀ σ H R, t' σ H R → t σ H R) : PI X tg e t' := ⟨fun p s σ H R I q => h.run p s σ H R I (i _ _ _ q)⟩
theorem PI.or {t t' : TI} (h : PI X tg e t) (h' : PI X tg e t') : PI X tg e (fun σ H R => t σ H R ∨ t' σ H R) := ⟨fun p s σ H R I q => by
  rcases q with q | q
  · exact h.run p s σ H R I q
  · exact h'.run p s σ H R I q⟩
def iSeq3 (te : TE3) : TI3 := fun σ M R => te σ M fun x M1 => ∃ ws, itemsOf M1 x = some ws ∧ R ws (fun M => itemsOf M x = some ws) M1
theorem lstAt_some {o : Option MO} {ws} (h : lstAt o = some ws) : o = some (.lst ws) := by
  cases o with
  | none => cases h
  | some o => cases o <;> first | (cases h; rfl) | cases h
theorem itl_rel {K : PySem.W.Frag} {H1 : Hp} {l : Addr} {ws : List W} {S : Mp → Prop} (h : ∀ M H, OkM K M H → TK K H1 H → S M → ∃ vs, SqL K H l vs ∧ RVs K H ws vs) : ItRel K H1 ws S (Itl K l) := by
  intro i M H ok tk s
  obtain ⟨vs, hq, r⟩ := h M H ok tk s
  have hl := r.length
  refine ⟨fun e => ⟨vs, hq, by omega⟩, fun w hw => ?_⟩
  obtain ⟨v, hv, rv⟩ := r.get hw
  refine ⟨⟨vs, v, hq, hv⟩, fun x H' ⟨e, y⟩ => ?_⟩
  subst e
  have := (y vs hq).symm.trans hv
  cases this
  exact ⟨rv, ok, .refl⟩
theorem itt_rel {K : PySem.W.Frag} {H1 : Hp} {l : Addr} {ws : List W} {vs : List V} {S : Mp → Prop} (h : SqT K H1 l vs) (r : RVs K H1 ws vs) : ItRel K H1 ws S (Itt K l) := by
  intro i M H ok tk s
  have hl := r.length
  refine ⟨fun e => ⟨vs, tk.tup _ _ h, by omega⟩, fun w hw => ?_⟩
  obtain ⟨v, hv, rv⟩ := (r.tk tk).get hw
  refine ⟨⟨vs, v, tk.tup _ _ h, hv⟩, fun x H' ⟨e, y⟩ => ?_⟩
  subst e
  have := (y vs (tk.tup _ _ h)).symm.trans hv
  cases this
  exact ⟨rv, ok, .refl⟩
/-- a list or a tuple is walked: which, the value tells -/
def iSq (K : PySem.W.Frag) (tl : TE) : TI := fun σ H R => tl σ H fun x H1 => ∃ a, x = .ref a ∧ (((∃ xs, SqL K H1 a xs) ∧ R (Itl K a) H1) ∨ ((∃ xs, SqT K H1 a xs) ∧ R (Itt K a) H1))
theorem pi_sq {tl : TE} (hl : PE X e tl) : PI X tg e (iSq X.K tl) := by
  refine ⟨fun pins s σ H R I h => thn (hl.run pins s σ H _ I h) fun v s1 ⟨x, H1, I1, r1, a, ex, q⟩ => ?_⟩
  subst ex
  cases r1
  have fp1 : ∀ b ∈ [s1.heap.objs.size], FpOk X pins H1 b := fun b hb => by
    obtain rfl := List.mem_singleton.mp hb
    exact I1.fpOk (Nat.le_refl _) (I1.hok.fresh (Nat.le_refl _))
  rcases q with ⟨⟨xs, hq⟩, q⟩ | ⟨⟨xs, hq⟩, q⟩
  · obtain ⟨its, _, p, _⟩ := I1.list hq
    exact wpAny_pyIter_list p.isList ⟨_, [_], _, _, H1, rfl, I1.kept (t' := s1.toks) fun b o e => Heap.get?_push_of_some _ e, turn_list a _, ⟨_, Heap.get?_push_size _ rfl, rfl, rfl⟩, fp1, q⟩
  · obtain ⟨its, _, p, _⟩ := I1.tuple hq
    exact wpAny_pyIter_tuple (show s1.heap.IsTuple a its.toArray from p) ⟨_, [_], _, _, H1, rfl, I1.kept (t' := s1.toks) fun b o e => Heap.get?_push_of_some _ e, turn_tuple a _, ⟨_, Heap.get?_push_size _ rfl, rfl, rfl⟩, fp1, q⟩
theorem seq3 (he : E3 X e te) : I3 X tg e (iSeq3 te) := PI.imp (pi_sq he) fun σ H R ⟨σ3, M, R3, rs, ok, q, k⟩ => ⟨σ3, M, _, rs, ok, q, fun w M1 v H1 ⟨ws, e1, q⟩ rv ok1 tk => by
  cases rv with
  | ref l =>
    have e2 := lstAt_some (show lstAt (M1 l) = some ws from e1)
    obtain ⟨vs, e3, r⟩ := ok1 _ _ e2
    refine ⟨l, rfl, .inl ⟨⟨vs, SqL.of e3⟩, k _ _ _ _ _ q (itl_rel fun M H ok2 tk2 s => ?_) ok1 tk⟩⟩
    obtain ⟨us, e4, r2⟩ := ok2 _ _ (lstAt_some (show lstAt (M l) = some ws from s))
    exact ⟨us, SqL.of e4, r2⟩
  | rls f r => cases e1; exact ⟨_, rfl, .inl ⟨⟨_, f.seq⟩, k _ _ _ _ _ q (itl_rel fun M H ok2 tk2 s => ⟨_, (tk2.fz _ _ f).seq, r.tk tk2⟩) ok1 tk⟩⟩
  | tup f r => cases e1; exact ⟨_, rfl, .inr ⟨⟨_, f⟩, k _ _ _ _ _ q (itt_rel f r) ok1 tk⟩⟩
  | _ => cases e1⟩
def rgW (lo : Int) (n : Nat) : List W := (List.range n).map fun i => .int (lo + (i : Nat))
theorem rgW_get {lo : Int} {n i : Nat} {w : W} (h : (rgW lo n)[i]? = some w) : i < n ∧ w = .int (lo + (i : Nat)) := by
  unfold rgW at h
  rw [List.getElem?_map] at h
  obtain ⟨j, e, rfl⟩ := Option.map_eq_some_iff.mp h
  obtain ⟨hl, e2⟩ := List.getElem?_eq_some_iff.mp e
  rw [List.length_range] at hl
  rw [List.getElem_range] at e2
  subst e2
  exact ⟨hl, rfl⟩
theorem rgW_at {lo : Int} {n i : Nat} (h : i < n) : (rgW lo n)[i]? = some (.int (lo + (i : Nat))) := by
  unfold rgW; rw [List.getElem?_map, List.getElem?_range h]; rfl
theorem rgW_len {lo : Int} {n : Nat} : (rgW lo n).length = n := by unfold rgW; rw [List.length_map, List.length_range]
theorem itr_rel {K : PySem.W.Frag} {H1 : Hp} {lo : Int} {n : Nat} {S : Mp → Prop} : ItRel K H1 (rgW lo n) S (Itr lo n) := by
  intro i M H ok tk s
  refine ⟨fun e => by rw [rgW_len] at e; exact Nat.le_of_eq e, fun w hw => ?_⟩
  obtain ⟨hl, rfl⟩ := rgW_get hw
  refine ⟨hl, fun x H' ⟨e, y⟩ => ?_⟩
  subst e y
  exact ⟨.int _, ok, .refl⟩
def iR1 (ta : TA3) : TI3 := fun σ M R => ta σ M fun ws M1 => as1 ws fun z => asI z fun j => -(2 ^ 62) ≤ j ∧ j < 2 ^ 62 ∧ R (rgW 0 j.toNat) (fun _ => True) M1
def iR2 (ta : TA3) : TI3 := fun σ M R => ta σ M fun ws M1 => as2 ws fun y z => asI y fun i => asI z fun j => (-(2 ^ 62) ≤ i ∧ i < 2 ^ 62 ∧ -(2 ^ 62) ≤ j ∧ j < 2 ^ 62) ∧ R (rgW i (j - i).toNat) (fun _ => True) M1
theorem range1 {t : TA3} {p : Pos} (hg : Gl X "range") (hm : X.mg "range" = none) (ha : A3 X [a] t) (hs : starEach [a] X.env = [(false, eval a X.env)] := by rfl) : I3 X tg (.Call (.Name "range" p) [a] [] pos) (iR1 t) :=
  PI.imp (pi_range1 hg hm ha hs) fun σ H R ⟨σ3, M, R3, rs, ok, q, k⟩ => ⟨σ3, M, _, rs, ok, q, fun ws M1 vs H1 q0 rv ok1 tk => by
    obtain ⟨z, e1, q0⟩ := as1_inv q0
    obtain ⟨j, e2, z1, z2, q⟩ := asI_inv q0
    subst e1 e2
    cases rv with
    | cons r1 r2 => cases r2; cases r1; exact ⟨j, rfl, z1, z2, k _ _ _ _ _ q itr_rel ok1 tk⟩⟩
theorem range2 {t : TA3} {p : Pos} (hg : Gl X "range") (hm : X.mg "range" = none) (ha : A3 X [a, b] t) (hs : starEach [a, b] X.env = [(false, eval a X.env), (false, eval b X.env)] := by rfl) (hs2 : starEach [b] X.env = [(false, eval b X.env)] := by rfl) : I3 X tg (.Call (.Name "range" p) [a, b] [] pos) (iR2 t) :=
  PI.imp (pi_range2 hg hm ha hs hs2) fun σ H R ⟨σ3, M, R3, rs, ok, q, k⟩ => ⟨σ3, M, _, rs, ok, q, fun ws M1 vs H1 q0 rv ok1 tk => by
    obtain ⟨y, z, e1, q0⟩ := as2_inv q0
    obtain ⟨i, e2, q0⟩ := asI_inv q0
    obtain ⟨j, e3, z, q⟩ := asI_inv q0
    subst e1 e2 e3
    cases rv with
    | cons r1 r2 =>
      cases r2 with
      | cons r2 r3 => cases r3; cases r1; cases r2; exact ⟨i, j, rfl, z, k _ _ _ _ _ q itr_rel ok1 tk⟩⟩
/-- list(range(..)) -/
def tLr1 (ta : TE3) : TE3 := fun σ M Q => ta σ M fun x M1 => asI x fun n => n ≤ 16777216 ∧ -(2 ^ 62) ≤ n ∧ ∀ p, M1 p = none → Q (.ref p) (up M1 p (.lst (rgW 0 n.toNat)))
theorem rgV_rv {K H} {a b : Int} : RVs K H (rgW a (b - a).toNat) (rgV a b) := by
  have : ∀ l : List Nat, RVs K H (l.map fun i => W.int (a + (i : Nat))) (l.map fun i => V.int (a + (i : Nat))) := fun l => by
    induction l with
    | nil => exact .nil
    | cons x r ih => exact .cons (.int _) ih
  exact this _
theorem lr1 {p p2 pos2 : Pos} (hc : X.calm = true) (hg : Gl X "list") (hm : X.mg "list" = none) (hg2 : Gl X "range") (hm2 : X.mg "range" = none) (ha : E3 X a ta) (na : starEach [a] X.env = (false, eval a X.env) :: starEach [] X.env := by rfl)
    (na2 : starEach [.Call (.Name "range" p2) [a] [] pos2] X.env = (false, eval (.Call (.Name "range" p2) [a] [] pos2) X.env) :: starEach [] X.env := by rfl) : E3 X (.Call (.Name "list" p) [.Call (.Name "range" p2) [a] [] pos2] [] pos) (tLr1 ta) :=
  PE.imp (pe_listRg hc hg hm (prg_1 hg2 hm2 ha na) na2) fun σ H Q ⟨σ3, M, Q3, rs, ok, q, k⟩ => ⟨σ3, M, _, rs, ok, q, fun w M1 v H1 q0 rv ok1 tk => by
    obtain ⟨n, e1, z1, z2, q⟩ := asI_inv q0
    subst e1; cases rv
    refine ⟨n, rfl, ⟨by omega, by omega, by omega, by omega, by omega⟩, fun l hl => ?_⟩
    have r : RVs X.K (upd H1 l (.lst (rgV 0 n))) (rgW 0 (n - 0).toNat) (rgV 0 n) := rgV_rv
    rw [Int.sub_zero] at r
    exact k _ _ _ _ (q l (ok1.free hl)) (.ref l) (ok1.new hl ⟨_, upd_same, r⟩) (tk.trans (TK.new hl))⟩

/-! ## for, while -/
def tFor3 (wi : TI3) (g : TG3) (tb : TS3) : TS3 := fun D σ M => wi σ M fun ws S M1 => ∃ Pv : Nat → St3 → Mp → Prop, Wk (Pv 0) σ M1 ∧ (∀ i σ M, i ≤ ws.length → Pv i σ M → S M) ∧
  (∀ i w σ M, ws[i]? = some w → Pv i σ M → g w σ M fun σ2 M2 => tb { nx := Wk (Pv (i + 1)), rt := D.rt, bk := D.nx, ct := Wk (Pv (i + 1)) } σ2 M2) ∧ ∀ σ M, Pv ws.length σ M → D.nx σ M
theorem for3 {iter : Expr} {body : List Stmt} {wi : TI3} {g : TG3} {tb : TS3} (hp : PassesOwn (model X.prog X.w) X.A X.env X.xe) (hc : X.calm = true) (hi : I3 X tg iter wi) (hg : G3 X tg g) (hb : B3 X body tb)
    (hs : ∀ x, foldedSetIterable iter X.env x = pure x := by intro _; rfl) : S3 X (.For tg iter body [] pos) (tFor3 wi g tb) := PS.imp (ps_for hp hc hi hg hb hs) fun D σ H ⟨σ3, M, D3, rs, ok, q, k1, k2, k3, k4⟩ => by
  refine ⟨σ3, M, _, rs, ok, q, fun ws S M1 J H1 ⟨Pv, h0, hS, ht, hd⟩ it ok1 tk => ?_⟩
  have wk : ∀ {i : Nat} {σ3 : St3} {M : Mp} {σ : L2.St} {H2 : Hp}, Wk (Pv i) σ3 M → RSt X.K H2 σ3 σ → OkM X.K M H2 → TK X.K H1 H2 → ∃ σ3 M, RSt X.K H2 σ3 σ ∧ OkM X.K M H2 ∧ TK X.K H1 H2 ∧ Pv i σ3 M := fun ⟨σ1, M2, f, l, p⟩ r o t => ⟨σ1, M2, r.fg f, o.le l, t, p⟩
  refine ⟨fun i m σ H2 => m = ws.length - i ∧ i ≤ ws.length ∧ ∃ σ3 M, RSt X.K H2 σ3 σ ∧ OkM X.K M H2 ∧ TK X.K H1 H2 ∧ Pv i σ3 M, ⟨ws.length, rfl, Nat.zero_le _, wk h0 (rs.tk tk) ok1 .refl⟩, ?_⟩
  rintro i m σ' H2 ⟨rfl, hi, σ4, M4, rs4, ok4, tk4, p4⟩
  obtain ⟨st, go⟩ := it i M4 H2 ok4 tk4 (hS _ _ _ hi p4)
  by_cases e : ws.length = i
  · refine .inl ⟨st e, ?_⟩
    subst e
    exact k1 _ _ _ _ (hd _ _ p4) rs4 ok4 (tk.trans tk4)
  · have hlt : i < ws.length := by omega
    have hw := List.getElem?_eq_getElem hlt
    obtain ⟨g1, g2⟩ := go _ hw
    refine .inr ⟨g1, fun σ' H' => ∃ σ3 M, RSt X.K H' σ3 σ' ∧ OkM X.K M H' ∧ TK X.K H1 H' ∧ Pv (i + 1) σ3 M, fun σ' H' z => ⟨_, Nat.lt_of_lt_of_le (by omega : ws.length - (i + 1) < ws.length - i) (Nat.le_refl _), rfl, hlt, z⟩, fun x H' y => ?_⟩
    obtain ⟨rv, ok5, tk5⟩ := g2 x H' y
    refine ⟨_, σ4, M4, _, rv, rs4.tk tk5, ok5, ht _ _ _ _ hw p4, fun σ6 M6 σ7 H7 q7 rs7 ok7 tk7 => ?_⟩
    have tkA := (tk4.trans tk5).trans tk7
    exact ⟨σ6, M6, _, rs7, ok7, q7, fun _ _ _ _ z r o t => wk z r o (tkA.trans t), fun _ _ _ _ z r o t => k2 _ _ _ _ z r o (tk.trans (tkA.trans t)), fun _ _ _ _ z r o t => k1 _ _ _ _ z r o (tk.trans (tkA.trans t)), fun _ _ _ _ z r o t => wk z r o (tkA.trans t)⟩
def tWh3 (c : TT3) (tb : TS3) : TS3 := fun D σ M => ∃ Pv : Nat → St3 → Mp → Prop, (∃ n, Wk (Pv n) σ M) ∧ ∀ n σ M, Pv n σ M → c σ M fun b M1 =>
  if b = true then tb { nx := Wk fun σ' M' => ∃ m, m < n ∧ Pv m σ' M', rt := D.rt, bk := D.nx, ct := Wk fun σ' M' => ∃ m, m < n ∧ Pv m σ' M' } σ M1 else D.nx σ M1
theorem while3 {body : List Stmt} {tt : TT3} {tb : TS3} (hp : PassesOwn (model X.prog X.w) X.A X.env X.xe) (hc : T3 X c tt) (hb : B3 X body tb) : S3 X (.While c body [] pos) (tWh3 tt tb) := PS.imp (ps_while hp hc hb) fun D σ H ⟨σ3, M, D3, rs, ok, ⟨Pv, ⟨n0, h0⟩, ht⟩, k1, k2, k3, k4⟩ => by
  have wk : ∀ {P : St3 → Mp → Prop} {σ3 : St3} {M : Mp} {σ : L2.St} {H2 : Hp}, Wk P σ3 M → RSt X.K H2 σ3 σ → OkM X.K M H2 → TK X.K H H2 → ∃ σ3 M, RSt X.K H2 σ3 σ ∧ OkM X.K M H2 ∧ TK X.K H H2 ∧ P σ3 M := fun ⟨σ1, M2, f, l, p⟩ r o t => ⟨σ1, M2, r.fg f, o.le l, t, p⟩
  refine ⟨fun n σ H2 => ∃ σ3 M, RSt X.K H2 σ3 σ ∧ OkM X.K M H2 ∧ TK X.K H H2 ∧ Pv n σ3 M, ⟨n0, wk h0 rs ok .refl⟩, ?_⟩
  rintro n σ' H2 ⟨σ4, M4, rs4, ok4, tk4, p4⟩
  refine ⟨σ4, M4, _, rs4, ok4, ht _ _ _ p4, fun b M5 H5 q5 ok5 tk5 => ?_⟩
  have tkA := tk4.trans tk5
  cases b with
  | true =>
    rw [if_pos rfl] at q5
    refine iteT ⟨fun σ' H' => ∃ σ3 M, RSt X.K H' σ3 σ' ∧ OkM X.K M H' ∧ TK X.K H H' ∧ ∃ m, m < n ∧ Pv m σ3 M, fun σ' H' ⟨a1, a2, a3, a4, a5, m, hm, p⟩ => ⟨m, hm, a1, a2, a3, a4, a5, p⟩, σ4, M5, _, rs4.tk tk5, ok5, q5, fun _ _ _ _ z r o t => wk z r o (tkA.trans t), fun _ _ _ _ z r o t => k2 _ _ _ _ z r o (tkA.trans t), fun _ _ _ _ z r o t => k1 _ _ _ _ z r o (tkA.trans t), fun _ _ _ _ z r o t => wk z r o (tkA.trans t)⟩
  | false =>
    rw [if_neg Bool.false_ne_true] at q5
    exact iteF (k1 _ _ _ _ q5 (rs4.tk tk5) ok5 tkA)

/-! ## comprehensions over one name -/
/-- the tests of a comprehension -/
def Ts3 (X : Cx) (ifs : List Expr) (t : TT3) : Prop := PTs X ifs (dT X.K t)
theorem PTs.imp {ifs : List Expr} {t t' : TT} (h : PTs X ifs t) (i : ∀ σ H Q, t' σ H Q → t σ H Q) : PTs X ifs t' := ⟨fun p s σ H Q I q => h.run p s σ H Q I (i _ _ _ q)⟩
def tY3 : TT3 := fun _ M Q => Q true M
theorem tsn3 : Ts3 X [] tY3 := PTs.imp pts_nil fun σ H Q ⟨σ3, M, Q3, rs, ok, q, k⟩ => k _ _ _ q ok .refl
theorem ts13 {tt : TT3} (h : T3 X c tt) : Ts3 X [c] tt := pts_one h
theorem RSt.wipe {K H} : ∀ {a : St3} {b : L2.St} (i : Nat) (x : Option V), RSt K H a b → RSt K H (a.set i none) (b.set i x)
  | _, _, _, _, .nil => .nil
  | _, _, 0, _, .no r => .no r
  | _, _, 0, _, .yes _ r => .no r
  | _, _, i + 1, _, .no r => .no (RSt.wipe i _ r)
  | _, _, i + 1, _, .yes p r => .yes p (RSt.wipe i _ r)
theorem wipe_one (σ : L2.St) (i : Nat) : wipe σ [i] = σ.set i none := rfl
def tLc3 (wi : TI3) (i : Nat) (tt : TT3) (te : TE3) : TE3 := fun σ M Q => wi σ M fun ws S M1 => ∀ D, M1 D = none → ∃ Pv : Nat → Mp → Prop, Wm (Pv 0) (up M1 D (.lst [])) ∧ (∀ k M, k ≤ ws.length → Pv k M → S M) ∧
  (∀ k w M, ws[k]? = some w → Pv k M → tt (σ.set i (some w)) M fun b M3 => if b = true then te (σ.set i (some w)) M3 fun y M4 => ∃ acc, M4 D = some (.lst acc) ∧ acc.length < 16777216 ∧ Wm (Pv (k + 1)) (up M4 D (.lst (acc ++ [y]))) else Wm (Pv (k + 1)) M3) ∧
  ∀ M, Pv ws.length M → Q (.ref D) M
theorem lc_ok {K σ H Q} {wi : TI3} {i : Nat} {tt : TT3} (h : dE K (tLc3 wi i tt te) σ H Q) : tLc (dI K wi) (gName i) (dT K tt) (dE K te) [i] σ H Q := by
  obtain ⟨σ3, M, Q3, rs, ok, q, k⟩ := h
  refine ⟨σ3, M, _, rs, ok, q, fun ws S M1 J H1 q it ok1 tk D hD => ?_⟩
  obtain ⟨Pv, h0, hS, ht, hd⟩ := q D (ok1.free hD)
  have tk1 : TK K H1 (upd H1 D (.lst [])) := TK.new hD
  have wk : ∀ {i : Nat} {M : Mp} {H2 : Hp}, Wm (Pv i) M → OkM K M H2 → TK K H1 H2 → ∃ M, OkM K M H2 ∧ TK K H1 H2 ∧ Pv i M := fun ⟨M2, l, p⟩ o t => ⟨M2, o.le l, t, p⟩
  refine ⟨fun n m H2 => m = ws.length - n ∧ n ≤ ws.length ∧ ∃ M, OkM K M H2 ∧ TK K H1 H2 ∧ Pv n M, ⟨ws.length, rfl, Nat.zero_le _, wk h0 (ok1.new hD ⟨[], upd_same, .nil⟩) tk1⟩, ?_⟩
  rintro n m H2 ⟨rfl, hn, M4, ok4, tk4, p4⟩
  obtain ⟨st, go⟩ := it n M4 H2 ok4 tk4 (hS _ _ hn p4)
  by_cases e : ws.length = n
  · refine .inl ⟨st e, ?_⟩
    subst e
    exact k _ _ _ _ (hd _ p4) (.ref D) ok4 (tk.trans tk4)
  · have hlt : n < ws.length := by omega
    have hw := List.getElem?_eq_getElem hlt
    obtain ⟨g1, g2⟩ := go _ hw
    refine .inr ⟨g1, fun H' => ∃ M, OkM K M H' ∧ TK K H1 H' ∧ Pv (n + 1) M, fun H' z => ⟨_, Nat.lt_of_lt_of_le (by omega : ws.length - (n + 1) < ws.length - n) (Nat.le_refl _), rfl, hlt, z⟩, fun x H' y => ?_⟩
    obtain ⟨rv, ok5, tk5⟩ := g2 x H' y
    have tkA := tk4.trans tk5
    have rs2 : RSt K H' (σ3.set i (some ws[n])) ((wipe σ [i]).set i (some x)) := by
      have := ((rs.tk (tk.trans tkA)).wipe i none).set rv i
      rw [List.set_set] at this
      exact this
    refine ⟨by show wipe ((wipe σ [i]).set i (some x)) [i] = wipe σ [i]; rw [wipe_one, wipe_one, List.set_set, List.set_set], _, M4, _, rs2, ok5, ht _ _ _ hw p4, fun b M6 H6 q6 ok6 tk6 => ?_⟩
    cases b with
    | true =>
      rw [if_pos rfl] at q6
      refine iteT ⟨_, M6, _, rs2.tk tk6, ok6, q6, fun yw M7 yv H7 ⟨acc, hacc, hz, q7⟩ rv7 ok7 tk7 => ?_⟩
      obtain ⟨vs, e7, r7⟩ := ok7 _ _ hacc
      have t8 : TK K H7 (upd H7 D (.lst (vs ++ [yv]))) := TK.set e7 trivial
      exact ⟨vs, e7, by rw [← r7.length, sizeLine_eq]; exact hz, wk q7 (ok7.set e7 trivial ⟨_, upd_same, (r7.append (.one rv7)).tk t8⟩) (((tkA.trans tk6).trans tk7).trans t8)⟩
    | false =>
      rw [if_neg Bool.false_ne_true] at q6
      exact iteF (wk q6 ok6 (tkA.trans tk6))
theorem lc3 {elt iter : Expr} {ifs : List Expr} {scope : Scope} {x : Str} {i : Nat} {xp : Pos} {wi : TI3} {tt : TT3} (hc : X.calm = true) (hN : X.N.Nodup) (hi : I3 X (.Name x xp) iter wi) (ok : BlkOk X.N X.env.scope scope [(x, i)])
    (hg : ∀ (s : Shared) (H : Hp) (C : Addr) (cl : List (Str × Addr)) (fp : List Addr), PG (X.blk s H scope (compEnvC scope cl C X.env) fp) (.Name x xp) (gName i)) (ht : ∀ (s : Shared) (H : Hp) (C : Addr) (cl : List (Str × Addr)) (fp : List Addr), Ts3 (X.blk s H scope (compEnvC scope cl C X.env) fp) ifs tt)
    (he : ∀ (s : Shared) (H : Hp) (C : Addr) (cl : List (Str × Addr)) (fp : List Addr), E3 (X.blk s H scope (compEnvC scope cl C X.env) fp) elt te) (hs : ∀ x, foldedSetIterable iter X.env x = pure x := by intro _; rfl) :
    E3 X (.ListComp elt [⟨.Name x xp, iter, ifs, 0⟩] scope pos) (tLc3 wi i tt te) := PE.imp (pe_lc (tt := dT X.K tt) (te := dE X.K te) hc hN hi ok hg ht he hs) fun _ _ _ => lc_ok
theorem setlc3 {j : Nat} {y : Str} {py : Pos} {elt iter : Expr} {ifs : List Expr} {scope : Scope} {x : Str} {i : Nat} {xp spos : Pos} {wi : TI3} {tt : TT3} (hc : X.calm = true) (hN : X.N.Nodup) (hy : X.N[j]? = some y) (hyl : X.env.scope.names.lookup y = some .local)
    (hsw : swapsWith (.ListComp elt [⟨.Name x xp, iter, ifs, 0⟩] scope pos) (some (.Name y py)) spos.line X.env = pure true) (hi : I3 X (.Name x xp) iter wi) (ok : BlkOk X.N X.env.scope scope [(x, i)])
    (hg : ∀ (s : Shared) (H : Hp) (C : Addr) (cl : List (Str × Addr)) (fp : List Addr), PG (X.blk s H scope (compEnvC scope cl C X.env) fp) (.Name x xp) (gName i)) (ht : ∀ (s : Shared) (H : Hp) (C : Addr) (cl : List (Str × Addr)) (fp : List Addr), Ts3 (X.blk s H scope (compEnvC scope cl C X.env) fp) ifs tt)
    (he : ∀ (s : Shared) (H : Hp) (C : Addr) (cl : List (Str × Addr)) (fp : List Addr), E3 (X.blk s H scope (compEnvC scope cl C X.env) fp) elt te) (hs : ∀ x, foldedSetIterable iter X.env x = pure x := by intro _; rfl) :
    S3 X (.Assign [.Name y py] (.ListComp elt [⟨.Name x xp, iter, ifs, 0⟩] scope pos) spos) (tAs3 (tLc3 wi i tt te) (gN3 j)) := PS.imp (ps_setLc (tt := dT X.K tt) (te := dE X.K te) hc hN hy hyl hsw hi ok hg ht he hs) fun D σ H ⟨σ3, M, D3, rs, ok, q, k1, k2, k3, k4⟩ =>
  lc_ok ⟨σ3, M, _, rs, ok, q, fun w M' v H' q rv ok' tk => k1 _ _ _ _ q ((rs.tk tk).set rv j) ok' tk⟩

/-! ## instances -/
theorem RKV.lookup {K H} {f : Str} {w : W} : ∀ {fs : List (Str × W)} {fs' : List (Str × V)}, RKV K H fs fs' → fs.lookup f = some w → ∃ v, fs'.lookup f = some v ∧ RV K H w v
  | _, _, .nil, e => by cases e
  | (g, x) :: r, (g', x') :: r', .cons ⟨e1, e2⟩ t, e => by
    obtain rfl : g = g' := e1
    rw [List.lookup_cons] at e ⊢
    cases hh : f == g with
    | true => rw [hh] at e; cases e; exact ⟨x', rfl, e2⟩
    | false => rw [hh] at e; exact RKV.lookup t e
theorem RKV.lookup_none {K H} {f : Str} : ∀ {fs : List (Str × W)} {fs' : List (Str × V)}, RKV K H fs fs' → fs.lookup f = none → fs'.lookup f = none
  | _, _, .nil, e => rfl
  | (g, x) :: r, (g', x') :: r', .cons ⟨e1, e2⟩ t, e => by
    obtain rfl : g = g' := e1
    rw [List.lookup_cons] at e ⊢
    cases hh : f == g with
    | true => rw [hh] at e; cases e
    | false => rw [hh] at e; exact RKV.lookup_none t e
theorem RKV.len {κ : Type} {K H} {fs : List (κ × W)} {fs' : List (κ × V)} (h : RKV K H fs fs') : fs.length = fs'.length := Paired.length h
def putW (f : Str) (v : W) : List (Str × W) → List (Str × W)
  | [] => [(f, v)]
  | (g, x) :: r => if g == f then (g, v) :: r else (g, x) :: putW f v r
end
end Z3
set_option Elab.async false
set_option linter.all false
set_option maxRecDepth 100000
namespace Z3
open PySem PySem.Spec PyProof.Rows L2

section
variable {X : Cx} {pos : Pos} {a b c e o : Expr} {es : List Expr} {ta tb tc te to : TE3}

/-! ## fields -/
theorem RKV.put {K H} {f : Str} {w : W} {v : V} (rv : RV K H w v) : ∀ {fs : List (Str × W)} {fs' : List (Str × V)}, RKV K H fs fs' → RKV K H (putW f w fs) (putF f v fs')
  | _, _, .nil => .cons ⟨rfl, rv⟩ .nil
  | (g, x) :: r, (g', x') :: r', .cons ⟨e1, e2⟩ t => by
    obtain rfl : g = g' := e1
    unfold putW putF
    by_cases hh : g = f
    · rw [if_pos hh, if_pos (by rw [hh]; exact beq_self_eq_true f)]; exact .cons ⟨rfl, rv⟩ t
    · rw [if_neg hh, if_neg (by intro z; exact hh (eq_of_beq z))]; exact .cons ⟨rfl, e2⟩ (RKV.put rv t)
/-- o.f of an instance of C -/
def tFl3 (C : Addr) (f : Str) (ta : TE3) : TE3 := fun σ M Q => ta σ M fun x M1 => asR x fun a => ∃ fs, M1 a = some (.ins C fs) ∧ ∃ v, fs.lookup f = some v ∧ Q v M1
theorem fld3 {C : Addr} {f : Str} (he : E3 X e te) (cl : Cls X.K C) (na : NoAttr X.K C f) (hb : attributeBase e f X.env (eval e X.env) = eval e X.env := by rfl) : E3 X (.Attribute e f pos) (tFl3 C f te) :=
  PE.imp (pe_fld he hb) fun σ H Q ⟨σ3, M, Q3, rs, ok, q, k⟩ => ⟨σ3, M, _, rs, ok, q, fun w M' v H' q0 rv ok' tk => by
    obtain ⟨a, e1, fs, h, v0, l, q⟩ := asR_inv q0
    subst e1; cases rv
    obtain ⟨dx, fs', e2, r⟩ := ok' _ _ h
    obtain ⟨v1, l1, rv1⟩ := r.lookup l
    exact ⟨a, C, dx, fs', v1, rfl, e2, cl, na, l1, k _ _ _ _ q rv1 ok' tk⟩⟩
def tSf3 (C : Addr) (f : Str) (ta tv : TE3) : TS3 := fun D σ M => tv σ M fun y M1 => ta σ M1 fun x M2 => asR x fun a => ∃ fs, M2 a = some (.ins C fs) ∧ fs.length < 1000 ∧ D.nx σ (up M2 a (.ins C (putW f y fs)))
theorem setf3 {C : Addr} {f : Str} {value : Expr} {tv : TE3} {pos' : Pos} (ho : E3 X o to) (hv : E3 X value tv) (cl : Cls X.K C) (na : NoAttr X.K C f) (hs : swapsWith value (some (.Attribute o f pos')) pos.line X.env = pure false := by rfl) : S3 X (.Assign [.Attribute o f pos'] value pos) (tSf3 C f to tv) :=
  PS.imp (ps_fld ho hv hs) fun D σ H ⟨σ3, M, D3, rs, ok, q, k1, k2, k3, k4⟩ => ⟨σ3, M, _, rs, ok, q, fun w M1 v H1 q rv ok1 tk1 => ⟨σ3, M1, _, rs.tk tk1, ok1, q, fun ow M2 ov H2 q0 rv2 ok2 tk2 => by
    obtain ⟨a, e1, fs, h, z, q⟩ := asR_inv q0
    subst e1; cases rv2
    obtain ⟨dx, fs', e2, r⟩ := ok2 _ _ h
    have tk := tk1.trans tk2
    have t2 : TK X.K H2 (upd H2 a (.ins C dx (putF f v fs'))) := TK.set e2 trivial
    exact ⟨a, C, dx, fs', rfl, e2, cl, na, by rw [← r.len]; exact z, k1 _ _ _ _ q (rs.tk (tk.trans t2)) (ok2.set e2 trivial ⟨dx, _, upd_same, (r.put (rv.tk tk2)).tk t2⟩) (tk.trans t2)⟩⟩⟩

/-! ## promises -/
abbrev XK3 := Value → Option (List (Str × W)) → Mp → Prop
abbrev Sp3 := List W → Mp → VK3 → XK3 → Prop
abbrev X0 : XK3 := fun _ _ _ => False
def XOk (K : PySem.W.Frag) (H : Hp) : Option Addr → Option (List (Str × W)) → Prop
  | none, none => True
  | some d, some fs => ∃ fs', H d = some (.xd fs') ∧ RKV K H fs fs'
  | _, _ => False
def dSp (K : PySem.W.Frag) (sp : Sp3) : Sp := fun vs H Q E => ∃ ws M Q3 E3, RVs K H ws vs ∧ OkM K M H ∧ sp ws M Q3 E3 ∧ (∀ w M' v H', Q3 w M' → RV K H' w v → OkM K M' H' → TK K H H' → Q v H') ∧
  ∀ c fs M' d H', E3 c fs M' → XOk K H' d fs → OkM K M' H' → TK K H H' → E c d H'
variable {CX : CXT} {k : Nat} {f C : Addr} {fd : FuncData} {ps : List Str} {sp : Sp3} {x m : Str} {p apos : Pos} {t : TA3}
def tCl3 (sp : Sp3) (t : TA3) : TE3 := fun σ M Q => t σ M fun ws M1 => sp ws M1 Q X0
theorem call_ok {K σ H Q} (h : dE K (tCl3 sp t) σ H Q) : tCall (dSp K sp) [] E0 (dA K t) σ H Q := by
  obtain ⟨σ3, M, Q3, rs, ok, q, k⟩ := h
  refine ⟨σ3, M, _, rs, ok, q, fun ws M1 vs H1 q rv ok1 tk => ⟨ws, M1, Q3, X0, by rw [List.append_nil]; exact rv, ok1, q, fun _ _ _ _ q2 rv2 ok2 tk2 => k _ _ _ _ q2 rv2 ok2 (tk.trans tk2), fun _ _ _ _ _ z => z.elim⟩⟩
theorem call3 (F : FnOk X.prog X.w X.K X.mg X.base CX0 k f fd ps (dSp X.K sp)) (hr : Room k X.A) (hg : Gl X x) (hm : X.mg x = some (.ref f)) (hk : PySem.W.keepIn X.K (.ref f) = true) (hb : Binds X.K fd ps [])
    (ha : A3 X (e :: es) t) (hdb : (x == ("__debug__" : Str)) = false := by decide) (he : starEach (e :: es) X.env = (false, eval e X.env) :: starEach es X.env := by rfl) (hpl : (backTo pos (starEach es X.env)).any (·.1) = false := by rfl) :
    E3 X (.Call (.Name x p) (e :: es) [] pos) (tCl3 sp t) := PE.imp (pe_call F hr hg hm hk hb .nil pass0 ha hdb he hpl) fun _ _ _ => call_ok
/-- o.m(..) -/
def tMe3 (C : Addr) (m : Str) (sp : Sp3) (ta : TE3) (t : TA3) : TE3 := fun σ M Q => ta σ M fun x M1 => asR x fun a => ∃ fs, M1 a = some (.ins C fs) ∧ fs.lookup m = none ∧ t σ M1 fun ws M2 => sp (x :: ws) M2 Q X0
theorem meth_ok {K σ H Q} (h : dE K (tMe3 C m sp ta t) σ H Q) : tMeth C m (dSp K sp) [] E0 (dE K ta) (dA K t) σ H Q := by
  obtain ⟨σ3, M, Q3, rs, ok, q, k⟩ := h
  refine ⟨σ3, M, _, rs, ok, q, fun w M1 v H1 q0 rv ok1 tk => ?_⟩
  obtain ⟨a, e1, fs, h, l, q⟩ := asR_inv q0
  subst e1; cases rv
  obtain ⟨dx, fs', e2, r⟩ := ok1 _ _ h
  refine ⟨a, dx, fs', rfl, e2, r.lookup_none l, σ3, M1, _, rs.tk tk, ok1, q, fun ws M2 vs H2 q2 rvs ok2 tk2 => ⟨.ref a :: ws, M2, Q3, X0, by rw [List.append_nil]; exact .cons (.ref a) rvs, ok2, q2, fun _ _ _ _ q2 rv2 ok2 tk3 => k _ _ _ _ q2 rv2 ok2 ((tk.trans tk2).trans tk3), fun _ _ _ _ _ z => z.elim⟩⟩
theorem meth3 {pl : Sem Bool} (he : E3 X o to) (c : Cls X.K C) (hm : Meth X.K C m f) (F : FnOk X.prog X.w X.K X.mg X.base CX0 k f fd ps (dSp X.K sp)) (hr : Room k X.A) (hb : Binds X.K fd ps []) (ha : A3 X (e :: es) t)
    (hst : starEach (e :: es) X.env = (false, eval e X.env) :: starEach es X.env := by rfl) (hpl : (backTo pos (starEach es X.env)).any (·.1) = false := by rfl)
    (ht : eval (.Call (.Attribute o m apos) (e :: es) [] pos) X.env = (do
      let ov ← eval o X.env
      standAt apos.atName
      let (f, first) ← holding [ov] (getMethod ov m pl)
      callWith pos f first (backTo pos (starEach (e :: es) X.env)) (backToKw pos (keywordEach [] X.env))) := by rfl) :
    E3 X (.Call (.Attribute o m apos) (e :: es) [] pos) (tMe3 C m sp to t) := PE.imp (pe_meth he c hm F hr hb .nil pass0 ha hst hpl ht) fun _ _ _ => meth_ok
theorem meth03 {pl : Sem Bool} (he : E3 X o to) (c : Cls X.K C) (hm : Meth X.K C m f) (F : FnOk X.prog X.w X.K X.mg X.base CX0 k f fd ps (dSp X.K sp)) (hr : Room k X.A) (hb : Binds X.K fd ps [])
    (ht : eval (.Call (.Attribute o m apos) [] [] pos) X.env = (do
      let ov ← eval o X.env
      standAt apos.atName
      let (f, first) ← holding [ov] (getMethod ov m pl)
      callWith pos f first (backTo pos (starEach [] X.env)) (backToKw pos (keywordEach [] X.env))) := by rfl) :
    E3 X (.Call (.Attribute o m apos) [] [] pos) (tMe3 C m sp to tN3) := PE.imp (pe_meth0 he c hm F hr hb .nil pass0 ht) fun σ H Q h => by
  have := meth_ok h
  obtain ⟨σ3, M, Q3, rs, ok, q, k⟩ := this
  refine ⟨σ3, M, Q3, rs, ok, q, fun w M1 v H1 q rv ok1 tk => ?_⟩
  obtain ⟨a, dx, fs, e1, e2, l, q⟩ := k _ _ _ _ q rv ok1 tk
  obtain ⟨σ4, M4, Q4, _, ok4, q4, k4⟩ := q
  exact ⟨a, dx, fs, e1, e2, l, k4 _ _ _ _ q4 .nil ok4 .refl⟩
/-- C(..) -/
def tMk3 (C : Addr) (sp : Sp3) (t : TA3) : TE3 := fun σ M Q => t σ M fun ws M1 => ∀ x, M1 x = none → sp (.ref x :: ws) (up M1 x (.ins C [])) (fun v M2 => v = .non ∧ Q (.ref x) M2) X0
theorem make3 (Mk' : Mk X.K C f) (F : FnOk X.prog X.w X.K X.mg X.base CX0 k f fd ps (dSp X.K sp)) (hr : Room (k + 1) X.A) (hg : Gl X x) (hm : X.mg x = some (.ref C)) (hb : Binds X.K fd ps [])
    (ha : A3 X (e :: es) t) (hdb : (x == ("__debug__" : Str)) = false := by decide) (he : starEach (e :: es) X.env = (false, eval e X.env) :: starEach es X.env := by rfl) (hpl : (backTo pos (starEach es X.env)).any (·.1) = false := by rfl) :
    E3 X (.Call (.Name x p) (e :: es) [] pos) (tMk3 C sp t) := PE.imp (pe_make Mk' F hr hg hm hb .nil pass0 ha hdb he hpl) fun σ H Q ⟨σ3, M, Q3, rs, ok, q, k⟩ => by
  refine ⟨σ3, M, _, rs, ok, q, fun ws M1 vs H1 q rv ok1 tk x dx hx hdx ne => ?_⟩
  have t1 : TK X.K H1 (upd H1 dx (.own x)) := TK.new hdx
  have hx2 : (upd H1 dx (.own x)) x = none := by rw [upd_ne (Ne.symm ne)]; exact hx
  have t2 : TK X.K (upd H1 dx (.own x)) (upd (upd H1 dx (.own x)) x (.ins C dx [])) := TK.new hx2
  have ok2 := (ok1.grow (u := .own x) hdx).new (u := .ins C dx []) (o := .ins C []) hx2 ⟨dx, [], upd_same, .nil⟩
  refine ⟨.ref x :: ws, _, _, X0, by rw [List.append_nil]; exact .cons (.ref x) (rv.tk (t1.trans t2)), ok2, q x (ok1.free hx), fun w M' v H' ⟨e, q⟩ rv2 ok3 tk3 => ?_, fun _ _ _ _ _ z => z.elim⟩
  subst e; cases rv2
  exact ⟨rfl, k _ _ _ _ q (.ref x) ok3 (((tk.trans t1).trans t2).trans tk3)⟩
/-- a property -/
def tPr3 (C : Addr) (sp : Sp3) (ta : TE3) : TE3 := fun σ M Q => ta σ M fun x M1 => asR x fun a => ∃ fs, M1 a = some (.ins C fs) ∧ sp [x] M1 Q X0
end

/-! ## a def -/
section
variable {P : Program} {w : World} {K : PySem.W.Frag} {mg : Str → Option Value} {base : Heap}
def start3 (N : List Str) (ws : List W) : St3 := ws.map some ++ List.replicate (N.length - ws.length) none
theorem start_rel {K H N} {ws : List W} {vs : List V} (r : RVs K H ws vs) : RSt K H (start3 N ws) (L2.start N vs) := by
  unfold start3 L2.start
  rw [r.length]
  have tail : ∀ n : Nat, RSt K H (List.replicate n none) (List.replicate n none) := fun n => by
    induction n with
    | zero => exact .nil
    | succ n ih => exact .no ih
  have : ∀ (n : Nat) {ws : List W} {vs : List V}, RVs K H ws vs → RSt K H (ws.map some ++ List.replicate n none) (vs.map some ++ List.replicate n none) := fun n => by
    intro ws vs r
    induction ws generalizing vs with
    | nil => cases r; exact tail n
    | cons x xs ih => cases r with | cons r1 r2 => exact .yes r1 (ih r2)
  exact this _ r
/-- what a body is to reach: the end may know less of the heap -/
def ends3 (Q : VK3) : Ends3 := { nx := fun _ M' => Wm (Q .non) M', rt := fun w M' => Wm (Q w) M', bk := fun _ _ => False, ct := fun _ _ => False }
theorem fun3 {x qual : Str} {st : Stmt} {f : Addr} {fd : FuncData} {N ps : List Str} {k : Nat} {sp : Sp3} (F : Fun K x qual st f fd) (S : FnScope N ps (defScope st)) (len : ∀ ws M Q E, sp ws M Q E → ws.length = ps.length)
    (t : TS3) (hbody : ∀ (cdv : Value) (A : Around) (outer : List Env) (s : Shared) (H : Hp) (E : XK), Room k (A.deeper (envOfC qual (defScope st) s.heap.objs.size f cdv)) →
      B3 (cxOf CX0 P w K mg base N qual (defScope st) f cdv A outer s H E).nox (defBody st) t)
    (sem : ∀ ws M Q E, sp ws M Q E → t (ends3 Q) (start3 N ws) M) : FnOk P w K mg base CX0 (k + 1) f fd ps (dSp K sp) := by
  refine F.ok S (fun vs H Q E ⟨ws, M, Q3, E3, rv, _, q, _⟩ => by rw [← rv.length]; exact len _ _ _ _ q) fun cdv A outer s H vs Q E hr ⟨ws, M, Q3, E3, rv, ok, q, k1, _⟩ => ?_
  refine ⟨_, hbody cdv A outer s H E hr, start3 N ws, M, ends3 Q3, start_rel rv, ok, sem _ _ _ _ q, ?_, ?_, fun _ _ _ _ z => z.elim, fun _ _ _ _ z => z.elim⟩
  · rintro σ3 M' σ' H' ⟨M1, l, q⟩ rs ok' tk
    exact k1 _ _ _ _ q .non (ok'.le l) tk
  · rintro w M' v H' ⟨M1, l, q⟩ rv ok' tk
    exact k1 _ _ _ _ q rv (ok'.le l) tk
end
end Z3
set_option Elab.async false
set_option linter.all false
set_option maxRecDepth 100000
namespace Z3
open PySem PySem.Spec PyProof.Rows L2

/-! ## steps by simp -/
theorem sl_some {w : W} {Q : W → Prop} : sl (some (some w)) Q = Q w := rfl
theorem asB_bl {b : Bool} {Q : Bool → Prop} : asB (.bl b) Q = Q b := rfl
theorem asI_int {b : Int} {Q : Int → Prop} : asI (.int b) Q = Q b := rfl
theorem asR_ref {b : Addr} {Q : Addr → Prop} : asR (.ref b) Q = Q b := rfl
theorem as1_one {w : W} {Q : W → Prop} : as1 [w] Q = Q w := rfl
theorem as2_two {w v : W} {Q : W → W → Prop} : as2 [w, v] Q = Q w v := rfl
theorem items_tup {M ws} : itemsOf M (.tup ws) = some ws := rfl
theorem items_rls {M ws} : itemsOf M (.rls ws) = some ws := rfl
theorem items_lst {M : Mp} {a} : itemsOf M (.ref a) = lstAt (M a) := rfl
theorem lstAt_lst {ws} : lstAt (some (.lst ws)) = some ws := rfl
theorem rAdd_int {i j : Int} {M Q} : rAdd3 (.int i) (.int j) M Q = Q (.int (i + j)) M := rfl
theorem rAdd_tup {i j : List W} {M Q} : rAdd3 (.tup i) (.tup j) M Q = (i.length + j.length ≤ 16777216 ∧ Q (.tup (i ++ j)) M) := rfl
theorem rAdd_lst {l b : Addr} {M Q} : rAdd3 (.ref l) (.ref b) M Q = (∃ xs ys, M l = some (.lst xs) ∧ M b = some (.lst ys) ∧ xs.length + ys.length ≤ 16777216 ∧ ∀ p, M p = none → Q (.ref p) (up M p (.lst (xs ++ ys)))) := rfl
theorem rSub_int {i j : Int} {M Q} : rSub3 (.int i) (.int j) M Q = Q (.int (i - j)) M := rfl
theorem rMul_int {i j : Int} {M Q} : rMul3 (.int i) (.int j) M Q = (((-(2 ^ 64) < i ∧ i < 2 ^ 64) ∨ (-(2 ^ 64) < j ∧ j < 2 ^ 64) ∨ CMulW i j) ∧ Q (.int (i * j)) M) := rfl
theorem rDiv_int {i j : Int} {M Q} : rDiv3 (.int i) (.int j) M Q = ((0 < j ∧ j < 1073741824 ∨ CDivW i j) ∧ Q (.int (i / j)) M) := rfl
theorem rMod_int {i j : Int} {M Q} : rMod3 (.int i) (.int j) M Q = (0 < j ∧ Q (.int (i % j)) M) := rfl
theorem rPow_int {i j : Int} {M Q} : rPow3 (.int i) (.int j) M Q = ((0 ≤ j ∧ j ≤ 1000000 ∧ i.natAbs < 2 ^ 64) ∧ Q (.int (i ^ j.toNat)) M) := rfl
theorem rI_int {p : Int → Int → Bool} {i j : Int} {M Q} : rI3 p (.int i) (.int j) M Q = Q (.bl (p i j)) M := rfl
theorem rInt_int {i : Int} {M Q} : rInt3 [.int i] M Q = Q (.int i) M := rfl
theorem rInt_bl {i : Bool} {M Q} : rInt3 [.bl i] M Q = Q (.int (if i then 1 else 0)) M := rfl
theorem rAbs_int {i : Int} {M Q} : rAbs3 [.int i] M Q = Q (.int (if i < 0 then -i else i)) M := rfl
theorem eqK_some {M x y b Q} : eqK M x y (some b) Q = Q b := rfl
theorem sc_ii {i j : Int} : sc3 (.int i) (.int j) = some (decide (i = j)) := rfl
theorem sc_ss {i j : Str} : sc3 (.str i) (.str j) = some (decide (i = j)) := rfl
theorem sc_bb {i j : Bool} : sc3 (.bl i) (.bl j) = some (decide (i = j)) := rfl
theorem sc_ni {j : Int} : sc3 .non (.int j) = some false := rfl
theorem sc_in {j : Int} : sc3 (.int j) .non = some false := rfl
theorem sc_nn : sc3 .non .non = some true := rfl
theorem isN_non : isN3 .non = true := rfl
theorem isN_int {i} : isN3 (.int i) = false := rfl
theorem isN_ref {i} : isN3 (.ref i) = false := rfl
theorem isN_tup {i} : isN3 (.tup i) = false := rfl
theorem isN_bl {i} : isN3 (.bl i) = false := rfl
theorem isN_str {i} : isN3 (.str i) = false := rfl
theorem sl3_tup {ws lo hi M Q} : sl3 (.tup ws) lo hi M Q = Q (.tup (cut3 ws lo hi)) M := rfl
theorem sl3_ref {a lo hi M Q} : sl3 (.ref a) lo hi M Q = (∃ ws, M a = some (.lst ws) ∧ ∀ p, M p = none → Q (.ref p) (up M p (.lst (cut3 ws lo hi)))) := rfl
theorem up_keep {M : Mp} {a p : Addr} {u : MO} (h : M p = none) (s : (M a).isSome = true) : up M p u a = M a := by
  cases e : M a with
  | none => rw [e] at s; cases s
  | some o => exact up_old e h
theorem start3_eq (N : List Str) (ws : List W) : start3 N ws = ws.map some ++ List.replicate (N.length - ws.length) none := rfl
theorem wm_of {P : Mp → Prop} {M} (h : P M) : Wm P M := Wm.of h
theorem wm_le {P : Mp → Prop} {M M'} (l : Le M M') (h : P M) : Wm P M' := ⟨M, l, h⟩
theorem ends_rt {Q : VK3} : (ends3 Q).rt = fun w M' => Wm (Q w) M' := rfl
theorem ends_nx {Q : VK3} : (ends3 Q).nx = fun _ M' => Wm (Q .non) M' := rfl

theorem put2 {M : Mp} {a b x y x'} (h : a ≠ b) : up (up (up M a x) b y) a x' = up (up M a x') b y := by
  funext c; unfold up; by_cases e : c = a
  · subst e; rw [if_pos rfl, if_neg h, if_pos rfl]
  · rw [if_neg e, if_neg e, if_neg e]
theorem put3 {M : Mp} {a b c x y z x'} (h : a ≠ b) (h2 : a ≠ c) : up (up (up (up M a x) b y) c z) a x' = up (up (up M a x') b y) c z := by rw [up_swap h2.symm, put2 h]
theorem put4 {M : Mp} {a b c d x y z w x'} (h : a ≠ b) (h2 : a ≠ c) (h3 : a ≠ d) : up (up (up (up (up M a x) b y) c z) d w) a x' = up (up (up (up M a x') b y) c z) d w := by rw [up_swap h3.symm, put3 h h2]
theorem get2 {M : Mp} {a b x y} (h : a ≠ b) : up (up M a x) b y a = some x := by rw [up_ne h, up_same]
theorem get3 {M : Mp} {a b c x y z} (h : a ≠ b) (h2 : a ≠ c) : up (up (up M a x) b y) c z a = some x := by rw [up_ne h2, get2 h]
theorem get4 {M : Mp} {a b c d x y z w} (h : a ≠ b) (h2 : a ≠ c) (h3 : a ≠ d) : up (up (up (up M a x) b y) c z) d w a = some x := by rw [up_ne h3, get3 h h2]
theorem Le.upm {M M' : Mp} {p o} (l : Le M M') : Le (up M p o) (up M' p o) := fun a u h => by
  by_cases e : a = p
  · subst e; rw [up_same] at h ⊢; exact h
  · rw [up_ne e] at h ⊢; exact l _ _ h
theorem free_ne {M : Mp} {a p o} (h : up M a o p = none) : a ≠ p := by rintro rfl; rw [up_same] at h; cases h
theorem free_old {M : Mp} {a p o} (h : up M a o p = none) : M p = none := by rw [up_ne (free_ne h).symm] at h; exact h
theorem up_free {M : Mp} {a p o} (h : M p = none) (n : a ≠ p) : up M a o p = none := by rw [up_ne n.symm]; exact h
theorem up_self {M : Mp} {a o} (h : M a = some o) : up M a o = M := by
  funext c; unfold up; by_cases e : c = a
  · subst e; rw [if_pos rfl, h]
  · rw [if_neg e]

section
variable {D : Ends3} {σ : St3} {M : Mp} {Q : VK3} {ta tb tc te : TE3} {t u : TS3} {c d : TT3} {TA : TA3} {R : List W → (Mp → Prop) → Mp → Prop} {r r' : R3} {QB : Bool → Mp → Prop}
theorem natAbs10 : Int.natAbs 10 = 10 := rfl
theorem atI_z {α : Type} {a : α} {l : List α} : atI (a :: l) 0 = some a := by unfold atI ixN; rw [if_pos (by omega), if_pos (by simp only [List.length_cons]; omega)]; rfl
theorem atI_o {α : Type} {a b : α} {l : List α} : atI (a :: b :: l) 1 = some b := by unfold atI ixN; rw [if_pos (by omega), if_pos (by simp only [List.length_cons]; omega)]; rfl
theorem ixN_z {n : Nat} : ixN (n + 1) 0 = some 0 := by unfold ixN; rw [if_pos (by omega), if_pos (by omega)]; rfl
theorem ixN_o {n : Nat} : ixN (n + 2) 1 = some 1 := by unfold ixN; rw [if_pos (by omega), if_pos (by omega)]; rfl
theorem tSq_ : tSq t u D σ M = t { nx := u D, rt := D.rt, bk := D.bk, ct := D.ct } σ M := rfl
theorem tIfS_ : tIfS3 c t u D σ M = c σ M (fun b M1 => if b = true then t D σ M1 else u D σ M1) := rfl
theorem tTt_ : tTt te σ M QB = te σ M (fun x M' => asB x fun k => QB k M') := rfl
theorem tO_ : tO r ta tb σ M Q = ta σ M (fun x M1 => tb σ M1 fun y M2 => r x y M2 Q) := rfl
theorem tV_ {i} : tV i σ M Q = sl σ[i]? (fun w => Q w M) := rfl
theorem tK_ {w} : tK w σ M Q = Q w M := rfl
theorem rEq_ {x y} : rEq3 x y M Q = eqK M x y (sc3 x y) (fun b => Q (.bl b) M) := rfl
theorem rNe_ {x y} : rNe3 x y M Q = eqK M x y (sc3 x y) (fun b => Q (.bl (!b)) M) := rfl
theorem tRt_ : tRt3 te D σ M = te σ M D.rt := rfl
theorem tRn_ : tRn3 D σ M = D.rt .non M := rfl
theorem tNx_ : tNx3 D σ M = D.nx σ M := rfl
theorem tBk_ : tBk3 D σ M = D.bk σ M := rfl
theorem tCt_ : tCt3 D σ M = D.ct σ M := rfl
theorem tNv_ : tNv3 D σ M = False := rfl
theorem tEx_ : tEx3 te D σ M = te σ M (fun _ M1 => D.nx σ M1) := rfl
theorem tAs_ {g : TG3} : tAs3 te g D σ M = te σ M (fun x M1 => g x σ M1 D.nx) := rfl
theorem gN_ {i w} {K : St3 → Mp → Prop} : gN3 i w σ M K = K (σ.set i (some w)) M := rfl
theorem gIx_ {to ti w} {K : St3 → Mp → Prop} : gIx3 to ti w σ M K = to σ M (fun o M1 => ti σ M1 fun i M2 => asR o fun l => asI i fun k => ∃ ws, M2 l = some (.lst ws) ∧ ∃ j, ixN ws.length k = some j ∧ K σ (up M2 l (.lst (ws.set j w)))) := rfl
theorem tIsN_ : tIsN3 te σ M Q = te σ M (fun x M1 => Q (.bl (isN3 x)) M1) := rfl
theorem tNotN_ : tNotN3 te σ M Q = te σ M (fun x M1 => Q (.bl (!isN3 x)) M1) := rfl
theorem tNeg_ : tNeg3 te σ M Q = te σ M (fun x M1 => asI x fun i => Q (.int (-i)) M1) := rfl
theorem rIx_ {x y} : rIx3 x y M Q = asI y (fun i => ∃ ws, itemsOf M x = some ws ∧ ∃ w, atI ws i = some w ∧ Q w M) := rfl
theorem tMt_ {rm : W → List W → Mp → VK3 → Prop} : tMt rm te TA σ M Q = te σ M (fun x M1 => asR x fun l => (∃ ws, M1 l = some (.lst ws)) ∧ TA σ M1 fun xs M2 => rm x xs M2 Q) := rfl
theorem rApp_ {x vs} : rApp3 x vs M Q = asR x (fun l => as1 vs fun y => ∃ ws, M l = some (.lst ws) ∧ ws.length < 16777216 ∧ Q .non (up M l (.lst (ws ++ [y])))) := rfl
theorem rPop_ {x vs} : rPopAt3 x vs M Q = asR x (fun l => as1 vs fun z => asI z fun i => ∃ ws, M l = some (.lst ws) ∧ -(2 ^ 63) ≤ i ∧ i < 2 ^ 63 ∧ ∃ j, seqIndex? i ws.length = some j ∧ ∃ y, ws[j]? = some y ∧ Q y (up M l (.lst (ws.eraseIdx j)))) := rfl
theorem rIns_ {x vs} : rIns3 x vs M Q = asR x (fun l => as2 vs fun z y => asI z fun i => ∃ ws, M l = some (.lst ws) ∧ ws.length < 16777216 ∧ 0 ≤ i ∧ i < 2 ^ 63 ∧ Q .non (up M l (.lst (ws.take i.toNat ++ [y] ++ ws.drop i.toNat)))) := rfl
theorem tCB_ {rm : List W → Mp → VK3 → Prop} : tCB3 rm TA σ M Q = TA σ M (fun ws M1 => rm ws M1 Q) := rfl
theorem rLen_ {xs} : rLen3 xs M Q = as1 xs (fun x => ∃ ws, itemsOf M x = some ws ∧ Q (.int ws.length) M) := rfl
theorem rList_ {xs} : rList3 xs M Q = as1 xs (fun x => ∃ ws, itemsOf M x = some ws ∧ ∀ p, M p = none → Q (.ref p) (up M p (.lst ws))) := rfl
theorem rTuple_ {xs} : rTuple3 xs M Q = as1 xs (fun x => ∃ ws, itemsOf M x = some ws ∧ Q (.tup ws) M) := rfl
theorem tC_ {QA : List W → Mp → Prop} : tC3 te TA σ M QA = te σ M (fun x M1 => TA σ M1 fun xs M2 => QA (x :: xs) M2) := rfl
theorem tN_ {QA : List W → Mp → Prop} : tN3 σ M QA = QA [] M := rfl
theorem tLst_ : tLst3 TA σ M Q = TA σ M (fun ws M1 => ws.length ≤ 16777216 ∧ ∀ p, M1 p = none → Q (.ref p) (up M1 p (.lst ws))) := rfl
theorem tTup_ : tTup3 TA σ M Q = TA σ M (fun ws M1 => ws.length ≤ 16777216 ∧ Q (.tup ws) M1) := rfl
theorem tRev_ : tRev3 te σ M Q = te σ M (fun x M1 => asR x fun a => ∃ ws, M1 a = some (.lst ws) ∧ ∀ p, M1 p = none → Q (.ref p) (up M1 p (.lst ws.reverse))) := rfl
theorem tSl_ {tl th : TO3} : tSl3 te tl th σ M Q = te σ M (fun x M1 => tl σ M1 fun l M2 => th σ M2 fun u M3 => sl3 x l u M3 Q) := rfl
theorem tPa_ {QO : Option Int → Mp → Prop} : tPa3 te σ M QO = te σ M (fun x M1 => asI x fun i => QO (some i) M1) := rfl
theorem tNo_ {QO : Option Int → Mp → Prop} : tNo3 σ M QO = QO none M := rfl
theorem tAnd_ : tAnd3 c d σ M QB = c σ M (fun b M1 => if b = true then d σ M1 QB else QB false M1) := rfl
theorem tOr_ : tOr3 c d σ M QB = c σ M (fun b M1 => if b = true then QB true M1 else d σ M1 QB) := rfl
theorem tNot_ : tNot3 c σ M QB = c σ M (fun b M1 => QB (!b) M1) := rfl
theorem tAndV_ : tAndV3 ta tb σ M Q = ta σ M (fun x M1 => asB x fun c => if c = true then tb σ M1 Q else Q (.bl false) M1) := rfl
theorem tOrV_ : tOrV3 ta tb σ M Q = ta σ M (fun x M1 => asB x fun c => if c = true then Q (.bl true) M1 else tb σ M1 Q) := rfl
theorem tNotV_ : tNotV3 ta σ M Q = ta σ M (fun x M1 => asB x fun c => Q (.bl (!c)) M1) := rfl
theorem tIf_ : tIf3 c ta tb σ M Q = c σ M (fun b M1 => if b = true then ta σ M1 Q else tb σ M1 Q) := rfl
theorem tChain_ : tChain3 r r' ta tb tc σ M Q = ta σ M (fun x M1 => tb σ M1 fun y M2 => r x y M2 fun z M3 => asB z fun k => if k = true then tc σ M3 fun u M4 => r' y u M4 Q else Q (.bl false) M3) := rfl
theorem rIn_ {neg x y} : rIn3 neg x y M Q = (∃ ws, itemsOf M y = some ws ∧ flat3 x = true ∧ ws.all flat3 = true ∧ Q (.bl (if neg then !in3 x ws else in3 x ws)) M) := rfl
theorem iSeq_ : iSeq3 te σ M R = te σ M (fun x M1 => ∃ ws, itemsOf M1 x = some ws ∧ R ws (fun M => itemsOf M x = some ws) M1) := rfl
theorem iR1_ : iR1 TA σ M R = TA σ M (fun ws M1 => as1 ws fun z => asI z fun j => -(2 ^ 62) ≤ j ∧ j < 2 ^ 62 ∧ R (rgW 0 j.toNat) (fun _ => True) M1) := rfl
theorem iR2_ : iR2 TA σ M R = TA σ M (fun ws M1 => as2 ws fun y z => asI y fun i => asI z fun j => (-(2 ^ 62) ≤ i ∧ i < 2 ^ 62 ∧ -(2 ^ 62) ≤ j ∧ j < 2 ^ 62) ∧ R (rgW i (j - i).toNat) (fun _ => True) M1) := rfl
theorem tLr1_ : tLr1 te σ M Q = te σ M (fun x M1 => asI x fun n => n ≤ 16777216 ∧ -(2 ^ 62) ≤ n ∧ ∀ p, M1 p = none → Q (.ref p) (up M1 p (.lst (rgW 0 n.toNat)))) := rfl
/-- the loops, closed -/
def forB (ws : List W) (S : Mp → Prop) (g : TG3) (tb : TS3) (D : Ends3) (σ : St3) (M : Mp) : Prop := ∃ Pv : Nat → St3 → Mp → Prop, Wk (Pv 0) σ M ∧ (∀ i σ M, i ≤ ws.length → Pv i σ M → S M) ∧
  (∀ i w σ M, ws[i]? = some w → Pv i σ M → g w σ M fun σ2 M2 => tb { nx := Wk (Pv (i + 1)), rt := D.rt, bk := D.nx, ct := Wk (Pv (i + 1)) } σ2 M2) ∧ ∀ σ M, Pv ws.length σ M → D.nx σ M
theorem tFor_ {wi : TI3} {g : TG3} : tFor3 wi g t D σ M = wi σ M (fun ws S M1 => forB ws S g t D σ M1) := rfl
def whB (c : TT3) (tb : TS3) (D : Ends3) (σ : St3) (M : Mp) : Prop := ∃ Pv : Nat → St3 → Mp → Prop, (∃ n, Wk (Pv n) σ M) ∧ ∀ n σ M, Pv n σ M → c σ M fun b M1 =>
  if b = true then tb { nx := Wk fun σ' M' => ∃ m, m < n ∧ Pv m σ' M', rt := D.rt, bk := D.nx, ct := Wk fun σ' M' => ∃ m, m < n ∧ Pv m σ' M' } σ M1 else D.nx σ M1
theorem tWh_ : tWh3 c t D σ M = whB c t D σ M := rfl
def lcB (ws : List W) (S : Mp → Prop) (i : Nat) (tt : TT3) (te : TE3) (σ : St3) (M1 : Mp) (Q : VK3) : Prop := ∀ D, M1 D = none → ∃ Pv : Nat → Mp → Prop, Wm (Pv 0) (up M1 D (.lst [])) ∧ (∀ k M, k ≤ ws.length → Pv k M → S M) ∧
  (∀ k w M, ws[k]? = some w → Pv k M → tt (σ.set i (some w)) M fun b M3 => if b = true then te (σ.set i (some w)) M3 fun y M4 => ∃ acc, M4 D = some (.lst acc) ∧ acc.length < 16777216 ∧ Wm (Pv (k + 1)) (up M4 D (.lst (acc ++ [y]))) else Wm (Pv (k + 1)) M3) ∧
  ∀ M, Pv ws.length M → Q (.ref D) M
theorem tLc_ {wi : TI3} {i : Nat} : tLc3 wi i c te σ M Q = wi σ M (fun ws S M1 => lcB ws S i c te σ M1 Q) := rfl
theorem tY_ : tY3 σ M QB = QB true M := rfl
theorem tCl_ {sp : Sp3} : tCl3 sp TA σ M Q = TA σ M (fun ws M1 => sp ws M1 Q X0) := rfl
theorem tMe_ {C m} {sp : Sp3} : tMe3 C m sp te TA σ M Q = te σ M (fun x M1 => asR x fun a => ∃ fs, M1 a = some (.ins C fs) ∧ fs.lookup m = none ∧ TA σ M1 fun ws M2 => sp (x :: ws) M2 Q X0) := rfl
theorem tMk_ {C} {sp : Sp3} : tMk3 C sp TA σ M Q = TA σ M (fun ws M1 => ∀ x, M1 x = none → sp (.ref x :: ws) (up M1 x (.ins C [])) (fun v M2 => v = .non ∧ Q (.ref x) M2) X0) := rfl
theorem tPr_ {C} {sp : Sp3} : tPr3 C sp te σ M Q = te σ M (fun x M1 => asR x fun a => ∃ fs, M1 a = some (.ins C fs) ∧ sp [x] M1 Q X0) := rfl
theorem tFl_ {C f} : tFl3 C f te σ M Q = te σ M (fun x M1 => asR x fun a => ∃ fs, M1 a = some (.ins C fs) ∧ ∃ v, fs.lookup f = some v ∧ Q v M1) := rfl
theorem tSf_ {C f} : tSf3 C f ta tb D σ M = tb σ M (fun y M1 => ta σ M1 fun x M2 => asR x fun a => ∃ fs, M2 a = some (.ins C fs) ∧ fs.length < 1000 ∧ D.nx σ (up M2 a (.ins C (putW f y fs)))) := rfl
end
local macro_rules | `(tactic| walk_at "x") => `(tactic| try simp only [tSq_, tIfS_, tTt_, tO_, tV_, tK_, rEq_, rNe_, start3_eq, ends_rt, ends_nx, tRt_, tRn_, tNx_, tEx_, tAs_, gN_, gIx_, tIsN_, tNotN_, tNeg_, rIx_, tMt_, rApp_, rPop_, rIns_, tCB_, rLen_, rList_, rTuple_, tC_, tN_, tLst_, tTup_, tRev_, tSl_, tPa_, tNo_,
    tAnd_, tOr_, tNot_, tAndV_, tOrV_, tNotV_, tIf_, tChain_, rIn_, iSeq_, iR1_, iR2_, tLr1_, tFor_, tWh_, tLc_, tY_, tCl_, tMe_, tFl_, tSf_, tMk_, tPr_, tBk_, tCt_, tNv_,
    sl_some, asB_bl, asI_int, asR_ref, as1_one, as2_two, items_tup, items_rls, items_lst, lstAt_lst, rAdd_int, rAdd_tup, rAdd_lst, rSub_int, rMul_int, rDiv_int, rMod_int, rPow_int, rI_int, rInt_int, rInt_bl, rAbs_int, eqK_some, sc_ii, sc_ss, sc_bb, sc_ni, sc_in, sc_nn,
    isN_non, isN_int, isN_ref, isN_tup, isN_bl, isN_str, sl3_tup, sl3_ref, up_same, List.map_cons, List.map_nil, List.length_cons, List.length_nil, List.cons_append, List.nil_append, List.getElem?_cons_succ, List.getElem?_cons_zero, List.set_cons_zero, List.set_cons_succ, List.replicate_zero, List.replicate_succ, List.append_nil,
    Option.some.injEq, MO.lst.injEq, exists_eq_left', exists_eq_left, exists_eq', and_true, true_and, if_true, Bool.false_eq_true, if_false, reduceIte, Nat.zero_add, Nat.reduceAdd, Nat.reduceSub, Nat.reduceLeDiff, Bool.not_true, Bool.not_false, ne_eq, not_true_eq_false, not_false_eq_true, atI_z, atI_o, ixN_z, ixN_o, Int.reduceLE, Int.reduceLT, Int.reduceNeg, Int.reduceToNat, Int.reducePow, Int.reduceAdd, Int.reduceMul, Int.reduceSub, natAbs10, Nat.reducePow, Nat.reduceLT, Int.reduceEq, decide_true, decide_false, true_or, or_true, false_or, or_false, and_false, false_and])

local macro_rules | `(tactic| walk_at "xs") => `(tactic| try simp only [tSq_, tIfS_, tTt_, tO_, tV_, tK_, rEq_, rNe_, start3_eq, ends_rt, ends_nx, tRt_, tRn_, tNx_, tEx_, tAs_, gN_, gIx_, tIsN_, tNotN_, tNeg_, rIx_, tMt_, rApp_, rPop_, rIns_, tCB_, rLen_, rList_, rTuple_, tC_, tN_, tLst_, tTup_, tRev_, tSl_, tPa_, tNo_,
    tAnd_, tOr_, tNot_, tAndV_, tOrV_, tNotV_, tIf_, tChain_, rIn_, iSeq_, iR1_, iR2_, tLr1_, tFor_, tWh_, tLc_, tY_, tCl_, tMe_, tFl_, tSf_, tMk_, tPr_, tBk_, tCt_, tNv_,
    sl_some, asB_bl, asI_int, asR_ref, as1_one, as2_two, items_tup, items_rls, items_lst, lstAt_lst, rAdd_int, rAdd_tup, rAdd_lst, rSub_int, rMul_int, rDiv_int, rMod_int, rPow_int, rI_int, rInt_int, rInt_bl, rAbs_int, eqK_some, sc_ii, sc_ss, sc_bb, sc_ni, sc_in, sc_nn,
    isN_non, isN_int, isN_ref, isN_tup, isN_bl, isN_str, sl3_tup, sl3_ref, up_same, List.map_cons, List.map_nil, List.length_cons, List.length_nil, List.cons_append, List.nil_append, List.getElem?_cons_succ, List.getElem?_cons_zero, List.set_cons_zero, List.set_cons_succ, List.replicate_zero, List.replicate_succ, List.append_nil,
    Option.some.injEq, MO.lst.injEq, exists_eq_left', exists_eq_left, exists_eq', and_true, true_and, if_true, Bool.false_eq_true, if_false, reduceIte, Nat.zero_add, Nat.reduceAdd, Nat.reduceSub, Nat.reduceLeDiff, Bool.not_true, Bool.not_false, ne_eq, not_true_eq_false, not_false_eq_true, atI_z, atI_o, ixN_z, ixN_o, Int.reduceLE, Int.reduceLT, Int.reduceNeg, Int.reduceToNat, Int.reducePow, Int.reduceAdd, Int.reduceMul, Int.reduceSub, natAbs10, Nat.reducePow, Nat.reduceLT, Int.reduceEq, decide_true, decide_false, true_or, or_true, false_or, or_false, and_false, false_and, *])
/-! ## loops in the forms one uses -/
theorem for_rg {lo : Int} {n : Nat} {g : TG3} {tb : TS3} {D : Ends3} {σ : St3} {M : Mp} (Pv : Nat → St3 → Mp → Prop) (h0 : Wk (Pv 0) σ M)
    (hs : ∀ i σ M, i < n → Pv i σ M → g (.int (lo + (i : Nat))) σ M fun σ2 M2 => tb { nx := Wk (Pv (i + 1)), rt := D.rt, bk := D.nx, ct := Wk (Pv (i + 1)) } σ2 M2) (hd : ∀ σ M, Pv n σ M → D.nx σ M) : forB (rgW lo n) (fun _ => True) g tb D σ M := by
  refine ⟨Pv, h0, fun _ _ _ _ _ => trivial, fun i w σ M hw p => ?_, fun σ M p => hd σ M (by rw [rgW_len] at p; exact p)⟩
  obtain ⟨hl, rfl⟩ := rgW_get hw
  exact hs i σ M hl p
theorem for_sq {ws : List W} {S : Mp → Prop} {g : TG3} {tb : TS3} {D : Ends3} {σ : St3} {M : Mp} (Pv : Nat → St3 → Mp → Prop) (h0 : Wk (Pv 0) σ M) (hS : ∀ i σ M, i ≤ ws.length → Pv i σ M → S M)
    (hs : ∀ i w σ M, ws[i]? = some w → Pv i σ M → g w σ M fun σ2 M2 => tb { nx := Wk (Pv (i + 1)), rt := D.rt, bk := D.nx, ct := Wk (Pv (i + 1)) } σ2 M2) (hd : ∀ σ M, Pv ws.length σ M → D.nx σ M) : forB ws S g tb D σ M := ⟨Pv, h0, hS, hs, hd⟩
theorem wh_by {c : TT3} {tb : TS3} {D : Ends3} {σ : St3} {M : Mp} (Pv : Nat → St3 → Mp → Prop) (h0 : ∃ n, Wk (Pv n) σ M) (hs : ∀ n σ M, Pv n σ M → c σ M fun b M1 =>
  if b = true then tb { nx := Wk fun σ' M' => ∃ m, m < n ∧ Pv m σ' M', rt := D.rt, bk := D.nx, ct := Wk fun σ' M' => ∃ m, m < n ∧ Pv m σ' M' } σ M1 else D.nx σ M1) : whB c tb D σ M := ⟨Pv, h0, hs⟩


theorem items_keep {M : Mp} {w : W} {p : Addr} {u : MO} (h : M p = none) (s : (itemsOf M w).isSome = true) : itemsOf (up M p u) w = itemsOf M w := by
  cases w <;> first | rfl | skip
  rename_i a
  show lstAt (up M p u a) = lstAt (M a)
  have s' : (lstAt (M a)).isSome = true := s
  rw [up_keep h]
  cases e : M a with
  | none => rw [e] at s'; cases s'
  | some o => rfl
theorem items_set {M : Mp} {w : W} {a : Addr} {u : MO} (h : w ≠ .ref a) : itemsOf (up M a u) w = itemsOf M w := by
  cases w <;> first | rfl | skip
  rename_i b
  show lstAt (up M a u b) = lstAt (M b)
  rw [up_ne (by rintro rfl; exact h rfl)]
theorem atI_ok {α β : Type} {xs : List α} {g : α → β} {f : Nat} {v : α} (h : xs[f]? = some v) : atI (xs.map g) (f : Int) = some (g v) := atI_nat (by rw [List.getElem?_map, h]; rfl)
theorem atI_end {α β : Type} {xs : List α} {g : α → β} {v : α} : atI ((xs ++ [v]).map g) (-1) = some (g v) := by rw [List.map_append]; exact atI_last _ _
theorem seqIndex_nat {k n : Nat} (h : k < n) : seqIndex? (k : Int) n = some k := (ixN_seq (i := (k : Int)) (j := k) (by unfold ixN; rw [if_pos (by omega), if_pos (by omega)]; rfl)).1
theorem ixN_nat {k n : Nat} (h : k < n) : ixN n (k : Int) = some k := by unfold ixN; rw [if_pos (by omega), if_pos (by omega)]; rfl
/-- a comprehension whose element and test leave the heap as it is: the test says c, the element is f -/
theorem lc_fm {ws : List W} {i : Nat} {tt : TT3} {te : TE3} {σ : St3} {M1 : Mp} {S : Mp → Prop} {Q : VK3} (c : W → Bool) (f : W → W) (hz : ws.length < 16777216) (hS : ∀ D l, M1 D = none → S (up M1 D (.lst l)))
    (h1 : ∀ w D acc (R : Bool → Mp → Prop), w ∈ ws → M1 D = none → R (c w) (up M1 D (.lst acc)) → tt (σ.set i (some w)) (up M1 D (.lst acc)) R)
    (h2 : ∀ w D acc (R : W → Mp → Prop), w ∈ ws → M1 D = none → c w = true → R (f w) (up M1 D (.lst acc)) → te (σ.set i (some w)) (up M1 D (.lst acc)) R)
    (q : ∀ D, M1 D = none → Q (.ref D) (up M1 D (.lst ((ws.filter c).map f)))) : lcB ws S i tt te σ M1 Q := by
  intro D hD
  refine ⟨fun k M => M = up M1 D (.lst (((ws.take k).filter c).map f)), .of (by simp), fun k M _ e => by subst e; exact hS _ _ hD, fun k w M hw e => ?_, fun M e => by subst e; rw [List.take_length]; exact q D hD⟩
  subst e
  have hk : k < ws.length := (List.getElem?_eq_some_iff.mp hw).1
  have hl : (((ws.take k).filter c).map f).length < 16777216 := by
    rw [List.length_map]
    exact Nat.lt_of_le_of_lt (Nat.le_trans (List.length_filter_le _ _) (by rw [List.length_take]; omega)) hz
  have ht : ws.take (k + 1) = ws.take k ++ [w] := by rw [List.take_add_one, hw]; rfl
  refine h1 w _ _ _ (List.mem_of_getElem? hw) hD ?_
  cases hc : c w with
  | true =>
    refine iteT (h2 w _ _ _ (List.mem_of_getElem? hw) hD hc ⟨_, up_same, hl, .of ?_⟩)
    show up _ D _ = up M1 D (.lst (((ws.take (k + 1)).filter c).map f))
    rw [up_up, ht, List.filter_append, List.filter_cons, if_pos hc, List.map_append]
    rfl
  | false =>
    refine iteF (.of ?_)
    show up M1 D _ = up M1 D (.lst (((ws.take (k + 1)).filter c).map f))
    rw [ht, List.filter_append, List.filter_cons, if_neg (by rw [hc]; decide)]
    simp
theorem lc_map {ws : List W} {i : Nat} {te : TE3} {σ : St3} {M1 : Mp} {S : Mp → Prop} {Q : VK3} (f : W → W) (hz : ws.length < 16777216) (hS : ∀ D l, M1 D = none → S (up M1 D (.lst l)))
    (h2 : ∀ w D acc (R : W → Mp → Prop), w ∈ ws → M1 D = none → R (f w) (up M1 D (.lst acc)) → te (σ.set i (some w)) (up M1 D (.lst acc)) R)
    (q : ∀ D, M1 D = none → Q (.ref D) (up M1 D (.lst (ws.map f)))) : lcB ws S i tY3 te σ M1 Q :=
  lc_fm (fun _ => true) f hz hS (fun w D acc R _ _ r => r) (fun w D acc R hw hD _ r => h2 w D acc R hw hD r) fun D hD => by rw [List.filter_eq_self.mpr (fun _ _ => rfl)]; exact q D hD
end Z3
set_option Elab.async false
set_option linter.all false
set_option maxRecDepth 100000
namespace Z3
open PySem PySem.Spec PyProof.Rows L2
open C8 (InsC Cal Met Mak)

/-! ## isinstance -/
def tyAt : Option MO → Option (String ⊕ Addr)
  | some (.lst _) => some (.inl "list")
  | some (.dK _) => some (.inl "dict")
  | some (.dT _) => some (.inl "dict")
  | some (.ins C _) => some (.inr C)
  | some (.tab _) => none
  | none => none
/-- the type of a value: a built-in one, or the class of an instance -/
def tyOf (M : Mp) : W → Option (String ⊕ Addr)
  | .non => some (.inl "NoneType")
  | .bl _ => some (.inl "bool")
  | .int _ => some (.inl "int")
  | .str _ => some (.inl "str")
  | .tup _ => some (.inl "tuple")
  | .ref a => tyAt (M a)
  | _ => none
/-- the answers: own classes by a table -/
def isB (own : Addr → Addr → Option Bool) (ob : Addr → String → Option Bool) (bo : String → Addr → Option Bool) : String ⊕ Addr → W → Option Bool
  | .inl a, .ty b => kitB a b
  | .inr a, .ref b => own a b
  | .inr a, .ty b => ob a b
  | .inl a, .ref b => bo a b
  | _, _ => none
def rIs3 (own : Addr → Addr → Option Bool) (ob : Addr → String → Option Bool) (bo : String → Addr → Option Bool) : List W → Mp → VK3 → Prop := fun xs M Q => as2 xs fun x c => ∃ t b, tyOf M x = some t ∧ isB own ob bo t c = some b ∧ Q (.bl b) M
/-- the tables tell the truth of K -/
structure Kit (K : PySem.W.Frag) (own : Addr → Addr → Option Bool) (ob : Addr → String → Option Bool) (bo : String → Addr → Option Bool) : Prop where
  own : ∀ a b r, own a b = some r → InsC K a ∧ PySem.W.kitOne K (.ref a) (.ref b) = some r
  ob : ∀ a b r, ob a b = some r → InsC K a ∧ PySem.W.kitOne K (.ref a) (.type b) = some r
  bo : ∀ a b r, bo a b = some r → PySem.W.kitOne K (.type a) (.ref b) = some r
theorem isi3 {X : Cx} {own ob bo} (kt : Kit X.K own ob bo) : CallR X (.builtin "isinstance") (dC X.K (rIs3 own ob bo)) := CallR.imp call_isi fun vs H Q ⟨ws, M, Q3, rv, ok, q0, k⟩ => by
  obtain ⟨x, c, e1, t, b, ht, hb, q⟩ := as2_inv q0
  subst e1
  cases rv with
  | @cons _ vx _ _ r1 r2 =>
    cases r2 with
    | @cons _ vc _ _ r2 r3 =>
      cases r3
      have q' := k _ _ _ _ q (.bl b) ok .refl
      -- the type by the heap
      have main : ∀ {v : V} (T : Value) (hT : TyX X.K H v T), (match t with | .inl s => T = .type s | .inr C => T = .ref C ∧ InsC X.K C) → rIsi X.K [v, vc] H Q := fun {v} T hT hh => by
        cases t with
        | inl s =>
          have hh : T = .type s := hh
          subst hh
          cases r2 with
          | ty n => exact ⟨_, _, _, _, b, rfl, .ty n, hT, kit_ty hb, q'⟩
          | ref C => exact ⟨_, _, _, _, b, rfl, .own C, hT, kt.bo _ _ _ hb, q'⟩
          | _ => cases hb
        | inr C =>
          obtain ⟨hh, _⟩ : T = .ref C ∧ InsC X.K C := hh
          subst hh
          cases r2 with
          | ty n => exact ⟨_, _, _, _, b, rfl, .ty n, hT, (kt.ob _ _ _ hb).2, q'⟩
          | ref C' => exact ⟨_, _, _, _, b, rfl, .own C', hT, (kt.own _ _ _ hb).2, q'⟩
          | _ => cases hb
      cases r1 with
      | non => cases ht; exact main _ (.base .non) rfl
      | bl x => cases ht; exact main _ (.base (.bl x)) rfl
      | int x => cases ht; exact main _ (.base (.int x)) rfl
      | str x => cases ht; exact main _ (.base (.str x)) rfl
      | ty x => cases ht
      | rls _ _ => cases ht
      | rng _ => cases ht
      | tup s r =>
        cases ht
        rcases s with (s | ⟨o, s⟩) | ⟨o, its, n, h1, h2, _⟩
        · exact main _ (.base (.tup s)) rfl
        · exact main _ (.fTuple s) rfl
        · exact main _ (.kTuple h1 h2) rfl
      | ref l =>
        have ht : tyAt (M l) = some t := ht
        cases hM : M l with
        | none => rw [hM] at ht; cases ht
        | some o =>
          rw [hM] at ht
          have o2 := ok _ _ hM
          cases o with
          | lst ws => cases ht; obtain ⟨vs, e, _⟩ := o2; exact main _ (.base (.lst e)) rfl
          | dK ws => cases ht; obtain ⟨vs, e, _⟩ := o2; exact main _ (.base (.dK e)) rfl
          | dT ws => cases ht; obtain ⟨vs, e, _⟩ := o2; exact main _ (.base (.dT e)) rfl
          | tab q => cases ht
          | ins C fs =>
            cases ht
            obtain ⟨dx, vs, e, _⟩ := o2
            have ic : InsC X.K C := by
              cases r2 with
              | ty n => exact (kt.ob _ _ _ hb).1
              | ref C' => exact (kt.own _ _ _ hb).1
              | _ => cases hb
            exact main _ (.base (.ins e ic.cl ic.ha ic.hn ic.htk ic.hm)) ⟨rfl, ic⟩

/-! ## calls by what a def promises -/
section
variable {X : Cx} {pos p apos : Pos} {e o : Expr} {es : List Expr} {to te : TE3} {t : TA3} {k j : Nat} {C : Addr} {x m : Str} {sp : Sp3}
theorem cal3 (c : Cal X.prog X.w X.K X.mg X.base k x (dSp X.K sp) []) (hr : Room j X.A) (hk : k ≤ j) (hg : Gl X x) (ha : A3 X (e :: es) t)
    (hdb : (x == ("__debug__" : Str)) = false := by decide) (he : starEach (e :: es) X.env = (false, eval e X.env) :: starEach es X.env := by rfl) (hpl : (backTo pos (starEach es X.env)).any (·.1) = false := by rfl) :
    E3 X (.Call (.Name x p) (e :: es) [] pos) (tCl3 sp t) := PE.imp (C8.pe_c c hr hk hg ha hdb he hpl) fun _ _ _ => call_ok
theorem mak3 (c : Mak X.prog X.w X.K X.mg X.base k x C (dSp X.K sp) []) (hr : Room j X.A) (hk : k + 1 ≤ j) (hg : Gl X x) (ha : A3 X (e :: es) t)
    (hdb : (x == ("__debug__" : Str)) = false := by decide) (he : starEach (e :: es) X.env = (false, eval e X.env) :: starEach es X.env := by rfl) (hpl : (backTo pos (starEach es X.env)).any (·.1) = false := by rfl) :
    E3 X (.Call (.Name x p) (e :: es) [] pos) (tMk3 C sp t) := by
  obtain ⟨f, fd, ps, ds, M, F, hm, b, d⟩ := c.ex
  cases d
  exact make3 M F (hr.mono hk) hg hm b ha hdb he hpl
theorem met3 {pl : Sem Bool} (c : Met X.prog X.w X.K X.mg X.base k C m (dSp X.K sp) []) (hr : Room j X.A) (hk : k ≤ j) (he : E3 X o to) (ha : A3 X (e :: es) t)
    (hst : starEach (e :: es) X.env = (false, eval e X.env) :: starEach es X.env := by rfl) (hpl : (backTo pos (starEach es X.env)).any (·.1) = false := by rfl)
    (ht : eval (.Call (.Attribute o m apos) (e :: es) [] pos) X.env = (do
      let ov ← eval o X.env
      standAt apos.atName
      let (f, first) ← holding [ov] (getMethod ov m pl)
      callWith pos f first (backTo pos (starEach (e :: es) X.env)) (backToKw pos (keywordEach [] X.env))) := by rfl) :
    E3 X (.Call (.Attribute o m apos) (e :: es) [] pos) (tMe3 C m sp to t) := by
  obtain ⟨f, fd, ps, ds, hc, hm, F, b, d⟩ := c.ex
  cases d
  exact meth3 (pl := pl) he hc hm F (hr.mono hk) b ha hst hpl ht
theorem met03 {pl : Sem Bool} (c : Met X.prog X.w X.K X.mg X.base k C m (dSp X.K sp) []) (hr : Room j X.A) (hk : k ≤ j) (he : E3 X o to)
    (ht : eval (.Call (.Attribute o m apos) [] [] pos) X.env = (do
      let ov ← eval o X.env
      standAt apos.atName
      let (f, first) ← holding [ov] (getMethod ov m pl)
      callWith pos f first (backTo pos (starEach [] X.env)) (backToKw pos (keywordEach [] X.env))) := by rfl) :
    E3 X (.Call (.Attribute o m apos) [] [] pos) (tMe3 C m sp to tN3) := by
  obtain ⟨f, fd, ps, ds, hc, hm, F, b, d⟩ := c.ex
  cases d
  exact meth03 (pl := pl) he hc hm F (hr.mono hk) b ht
/-- a property of a class -/
structure Prp (P : Program) (w : World) (K : PySem.W.Frag) (mg : Str → Option Value) (base : Heap) (k : Nat) (C : Addr) (f : Str) (sp : Sp) : Prop where
  ex : ∃ (p g : Addr) (fd : FuncData) (ps : List Str), Cls K C ∧ PropOf K C f p g ∧ FnOk P w K mg base CX0 k g fd ps sp ∧ Binds K fd ps []
theorem prop3 {f : Str} (c : Prp X.prog X.w X.K X.mg X.base k C f (dSp X.K sp)) (hr : Room j X.A) (hk : k + 1 ≤ j) (he : E3 X e te) (hab : attributeBase e f X.env (eval e X.env) = eval e X.env := by rfl) : E3 X (.Attribute e f pos) (tPr3 C sp te) := by
  obtain ⟨p, g, fd, ps, hc, hp, F, b⟩ := c.ex
  refine PE.imp (pe_prop he hc hp F (hr.mono hk) b .nil pass0 hab) fun σ H Q ⟨σ3, M, Q3, rs, ok, q, k⟩ => ⟨σ3, M, _, rs, ok, q, fun w M' v H' q0 rv ok' tk => ?_⟩
  obtain ⟨a, e1, fs, h, q⟩ := asR_inv q0
  subst e1; cases rv
  obtain ⟨dx, fs', e2, r⟩ := ok' _ _ h
  exact ⟨a, dx, fs', rfl, e2, [.ref a], M', Q3, X0, .one (.ref a), ok', q, fun _ _ _ _ q2 rv2 ok2 tk2 => k _ _ _ _ q2 rv2 ok2 (tk.trans tk2), fun _ _ _ _ _ z => z.elim⟩
/-- a comparison with None as a test -/
theorem valc3 {t : TE3} (h : E3 X e t) (he : ∀ whole, isTrue e X.env whole = (do let v ← whole; standAt e.pos; holding [v] (truthy v)) := by intro _; rfl) : T3 X e (tTt t) := val3 h he
end
theorem isnT3 {X : Cx} {a : Expr} {ta : TE3} {j pos pos'} (ha : E3 X a ta) : T3 X (.Compare a [.Is] [.Constant .none j pos'] pos) (tTt (tIsN3 ta)) := PT.imp (pt_cmp (pc_isN ha) rfl) fun σ H Q ⟨σ3, M, Q3, rs, ok, q, k⟩ =>
  ⟨σ3, M, _, rs, ok, q, fun w M' v H' q rv ok' tk => ⟨_, rfl, by rw [isN3_ok rv]; exact k _ _ _ q ok' tk⟩⟩
theorem notnT3 {X : Cx} {a : Expr} {ta : TE3} {j pos pos'} (ha : E3 X a ta) : T3 X (.Compare a [.IsNot] [.Constant .none j pos'] pos) (tTt (tNotN3 ta)) := PT.imp (pt_cmp (pc_notN ha) rfl) fun σ H Q ⟨σ3, M, Q3, rs, ok, q, k⟩ =>
  ⟨σ3, M, _, rs, ok, q, fun w M' v H' q rv ok' tk => ⟨_, rfl, by rw [isN3_ok rv]; exact k _ _ _ q ok' tk⟩⟩
section
variable {X : Cx} {e o : Expr} {es : List Expr} {to : TE3} {t : TA3} {apos cpos : Pos}
theorem mpop3 (ho : E3 X o to) (ha : A3 X (e :: es) t) (hbase : attributeBase o "pop" X.env (eval o X.env) = eval o X.env := by rfl)
    (hfew : ((backTo cpos (starEach (e :: es) X.env)).all (fun x => !x.1) && (backToKw cpos (keywordEach [] X.env)).all (fun x => x.1.isSome)
      && decide ((e :: es).length + ([] : List Keyword).length + (if ([] : List Keyword).isEmpty then 0 else 1) < 30)) = true := by rfl)
    (hline : (apos.endLine == cpos.line) = true := by rfl) (hs : starEach (e :: es) X.env = (false, eval e X.env) :: starEach es X.env := by rfl) (hplain : (backTo cpos (starEach es X.env)).any (·.1) = false := by rfl) :
    E3 X (.Call (.Attribute o "pop" apos) (e :: es) [] cpos) (tMt rPopAt3 to t) := mt3 PySem.F.slot_list_pop PySem.F.type_list_pop mt_popAt3 ho ha hbase hfew hline hs hplain
theorem mins3 (ho : E3 X o to) (ha : A3 X (e :: es) t) (hbase : attributeBase o "insert" X.env (eval o X.env) = eval o X.env := by rfl)
    (hfew : ((backTo cpos (starEach (e :: es) X.env)).all (fun x => !x.1) && (backToKw cpos (keywordEach [] X.env)).all (fun x => x.1.isSome)
      && decide ((e :: es).length + ([] : List Keyword).length + (if ([] : List Keyword).isEmpty then 0 else 1) < 30)) = true := by rfl)
    (hline : (apos.endLine == cpos.line) = true := by rfl) (hs : starEach (e :: es) X.env = (false, eval e X.env) :: starEach es X.env := by rfl) (hplain : (backTo cpos (starEach es X.env)).any (·.1) = false := by rfl) :
    E3 X (.Call (.Attribute o "insert" apos) (e :: es) [] cpos) (tMt rIns3 to t) := mt3 PySem.F.slot_list_insert PySem.F.type_list_insert mt_ins3 ho ha hbase hfew hline hs hplain
end
/-- where the classes stand, and what isinstance says of them -/
structure Ad where
  (Forest Log Teller Copy Book Verdict PlainVerdict PlainBook Web Desk Hider : Addr)
  /-- the code objects' table of the def that holds a lambda -/
  tab : Addr
  own : Addr → Addr → Option Bool
  ob : Addr → String → Option Bool
  bo : String → Addr → Option Bool
theorem rIs_ {own ob bo xs M Q} : rIs3 own ob bo xs M Q = as2 xs (fun x c => ∃ t b, tyOf M x = some t ∧ isB own ob bo t c = some b ∧ Q (.bl b) M) := rfl
theorem ty_int {M i} : tyOf M (.int i) = some (.inl "int") := rfl
theorem ty_bl {M i} : tyOf M (.bl i) = some (.inl "bool") := rfl
theorem ty_non {M} : tyOf M .non = some (.inl "NoneType") := rfl
theorem ty_str {M i} : tyOf M (.str i) = some (.inl "str") := rfl
theorem ty_tup {M i} : tyOf M (.tup i) = some (.inl "tuple") := rfl
theorem ty_lst {M : Mp} {a ws} (h : M a = some (.lst ws)) : tyOf M (.ref a) = some (.inl "list") := by show tyAt (M a) = _; rw [h]; rfl
theorem ty_ins {M : Mp} {a C fs} (h : M a = some (.ins C fs)) : tyOf M (.ref a) = some (.inr C) := by show tyAt (M a) = _; rw [h]; rfl
theorem isB_ty {own ob bo a b} : isB own ob bo (.inl a) (.ty b) = kitB a b := rfl
theorem isB_own {own ob bo a b} : isB own ob bo (.inr a) (.ref b) = own a b := rfl
theorem kit_ii : kitB "int" "int" = some true := by decide +kernel
theorem kit_ib : kitB "int" "bool" = some false := by decide +kernel
theorem kit_tt : kitB "tuple" "tuple" = some true := by decide +kernel
theorem kit_lt : kitB "list" "tuple" = some false := by decide +kernel
theorem kit_tl : kitB "tuple" "list" = some false := by decide +kernel
theorem kit_ll : kitB "list" "list" = some true := by decide +kernel
theorem kit_bb : kitB "bool" "bool" = some true := by decide +kernel
theorem kit_bi : kitB "bool" "int" = some true := by decide +kernel
theorem kit_ss : kitB "str" "str" = some true := by decide +kernel
theorem kit_ni : kitB "NoneType" "int" = some false := by decide +kernel
theorem kit_nt : kitB "NoneType" "tuple" = some false := by decide +kernel
theorem kit_it : kitB "int" "tuple" = some false := by decide +kernel
end Z3
set_option Elab.async false
set_option linter.all false
set_option maxRecDepth 100000
set_option maxHeartbeats 1000000
namespace Z3
open PySem PySem.Spec PyProof.Rows L2
open LamX (TabS ExtN)
open NdefX (startF slotAt NScope ncx envF)

/-! ## sorted(xs, key=lambda y: body) -/
/-- a slot as it stands -/
def slot3 (σ : St3) (j : Nat) : Option W := match σ[j]? with
  | some o => o
  | none => none
def lamSt (Nl : List Str) (w : W) (σ : St3) (js : List Nat) : St3 := some w :: (js.map (slot3 σ) ++ List.replicate (Nl.length - 1 - js.length) none)
theorem rst_rep {K H} : ∀ n : Nat, RSt K H (List.replicate n none) (List.replicate n none)
  | 0 => .nil
  | n + 1 => .no (rst_rep n)
theorem rst_slots {K H σ3 σ} (rs : RSt K H σ3 σ) {a : St3} {b : L2.St} (r : RSt K H a b) : ∀ js : List Nat, RSt K H (js.map (slot3 σ3) ++ a) (js.map (slotAt σ) ++ b)
  | [] => r
  | j :: js => by
    have ih := rst_slots rs r js
    show RSt K H (slot3 σ3 j :: (js.map (slot3 σ3) ++ a)) (slotAt σ j :: (js.map (slotAt σ) ++ b))
    cases e : slot3 σ3 j with
    | none => exact .no ih
    | some w =>
      have e2 : σ3[j]? = some (some w) := by
        unfold slot3 at e
        cases q : σ3[j]? with
        | none => rw [q] at e; cases e
        | some o => rw [q] at e; rw [show o = some w from e]
      obtain ⟨v, h1, h2⟩ := rs.get e2
      rw [NdefX.slotAt_of h1]
      exact .yes h2 ih
theorem lam_rst {K H σ3 σ w v} (rs : RSt K H σ3 σ) (rv : RV K H w v) (Nl : List Str) (js : List Nat) : RSt K H (lamSt Nl w σ3 js) (startF Nl [v] (js.map (slotAt σ))) := by
  unfold lamSt startF
  show RSt K H (some w :: _) (some v :: ([] ++ (js.map (slotAt σ) ++ _)))
  refine .yes rv (rst_slots rs ?_ js)
  show RSt K H (List.replicate (Nl.length - 1 - js.length) none) (List.replicate (Nl.length - 1 - (js.map (slotAt σ)).length) none)
  rw [List.length_map]
  exact rst_rep _
/-- xs sorted by whole numbers -/
def sortW (key : W → Int) (ws : List W) : List W := ws.mergeSort fun a b => decide (key a ≤ key b)
theorem rvs_zip {K H} : ∀ {ws vs}, RVs K H ws vs → ∀ p ∈ ws.zip vs, RV K H p.1 p.2
  | _, _, .nil, p, hp => by simp at hp
  | _, _, .cons r t, p, hp => by
    rw [List.zip_cons_cons, List.mem_cons] at hp
    rcases hp with rfl | hp
    · exact r
    · exact rvs_zip t p hp
theorem rvs_unzip {K H} : ∀ {l : List (W × V)}, (∀ p ∈ l, RV K H p.1 p.2) → RVs K H (l.map Prod.fst) (l.map Prod.snd)
  | [], _ => .nil
  | p :: l, h => .cons (h p (List.mem_cons_self ..)) (rvs_unzip fun q hq => h q (List.mem_cons_of_mem _ hq))
theorem sort_rv {K H} {ws : List W} {vs : List V} (r : RVs K H ws vs) (key : W → Int) : RVs K H (sortW key ws) ((((ws.map key).zip vs).mergeSort fun a b => decide (a.1 ≤ b.1)).map Prod.snd) := by
  have l := r.length
  have e1 : ws = (ws.zip vs).map Prod.fst := (List.map_fst_zip (by omega)).symm
  have e2 : (ws.map key).zip vs = (ws.zip vs).map fun p => (key p.1, p.2) := by
    clear e1
    induction ws generalizing vs with
    | nil => rfl
    | cons x xs ih =>
      cases r with
      | cons r1 r2 => rw [List.map_cons, List.zip_cons_cons, List.zip_cons_cons, List.map_cons, ih r2 r2.length]
  have s1 : sortW key ws = ((ws.zip vs).mergeSort fun a b => decide (key a.1 ≤ key b.1)).map Prod.fst := by
    unfold sortW
    rw [List.map_mergeSort (s := fun a b => decide (key a ≤ key b)) (fun a _ b _ => rfl), ← e1]
  have s2 : (((ws.map key).zip vs).mergeSort fun a b => decide (a.1 ≤ b.1)).map Prod.snd = ((ws.zip vs).mergeSort fun a b => decide (key a.1 ≤ key b.1)).map Prod.snd := by
    rw [e2, ← List.map_mergeSort (r := fun a b => decide (key a.1 ≤ key b.1)) (f := fun p : W × V => (key p.1, p.2)) (fun a _ b _ => rfl), List.map_map]
    rfl
  rw [s1, s2]
  exact rvs_unzip fun p hp => rvs_zip r p ((List.mergeSort_perm _ _).mem_iff.mp hp)
def tSortL3 (P : Addr) (q : Str) (Nl : List Str) (js : List Nat) (te tb : TE3) : TE3 := fun σ M Q => te σ M fun x M1 => asR x fun l => ∃ ws, M1 l = some (.lst ws) ∧ M1 P = some (.tab q) ∧
  ∃ key : W → Int, (∀ w ∈ ws, tb (lamSt Nl w σ js) M1 fun v M2 => v = .int (key w) ∧ Le M1 M2) ∧ ∀ p, M1 p = none → Q (.ref p) (up M1 p (.lst (sortW key ws)))
theorem sortl3 {X : Cx} {P c : Addr} {Nl fr : List Str} {y : Str} {js : List Nat} {k j : Nat} {te tb : TE3} {e body : Expr} {params : Arguments} {scope : Scope} {p pos lpos kpos : Pos} (hg : Gl X "sorted") (hm : X.mg "sorted" = none) (he : E3 X e te)
    (TB : LamX.TabB X.base X.mg c P) (hcode : X.env.code = .ref c) (hr : Room j X.A) (hk : k + 4 ≤ j) (S : NScope Nl [y] fr scope)
    (hfree : ∀ z ∈ scope.names, z.2 = .free → X.env.scope.names.lookup z.1 = some .cell ∨ X.env.scope.names.lookup z.1 = some .free) (hfr : ∀ z ∈ fr, (z, NameKind.free) ∈ scope.names) (hjs : js.map (fun j => X.N[j]?) = fr.map some)
    (hdef : defaultsOf params X.env = ([], []))
    (hbind : ∀ (cl : List (Str × Addr)) (pm cv ctv : Value) (u : Value), bindArgs (PySem.W.kla_fn "<lambda>" (X.env.qual ++ "<lambda>") params body scope cl pm cv ctv) ⟨[u], []⟩ = pure [(y, u)])
    (hbody : ∀ (f c' : Addr) (A : Around) (outer : List Env) (s : Shared) (H : Hp) (E : XK), Room k (A.deeper (envF (KJ.lamF X params scope c') f s.heap.objs.size)) → E3 (ncx C8.CX0 X.prog X.w X.K X.mg X.base Nl (KJ.lamF X params scope c') f A outer s H E) body tb)
    (hs : starEach [e] X.env = (false, eval e X.env) :: starEach [] X.env := by rfl) (hst : backTo pos (starEach [e] X.env) = (false, eval e X.env) :: backTo pos (starEach [] X.env) := by rfl) (hpl : (backTo pos (starEach [e] X.env)).any (·.1) = false := by rfl) :
    E3 X (.Call (.Name "sorted" p) [e] [⟨some "key", .Lambda params body scope lpos, kpos⟩] pos) (tSortL3 P (X.env.qual ++ "<lambda>") Nl js te tb) := by
  refine PE.imp (KJ.pe_sortLam (tb := dE X.K tb) hg hm (pa_cons he pa_nil hs) TB hcode (hr.mono hk) S hfree hfr hjs hdef hbind hbody hst hpl) fun σ H Q ⟨σ3, M, Q3, rs, ok, q, kk⟩ => ⟨σ3, M, _, rs, ok, q, fun w M1 v H1 q0 rv ok1 tk => ?_⟩
  obtain ⟨l, e1, ws, hl, hP, key, hb, q⟩ := asR_inv q0
  subst e1; cases rv
  obtain ⟨vs, e2, r⟩ := ok1 _ _ hl
  refine ⟨l, vs, rfl, SqL.of e2, ok1 _ _ hP, fun H2 eN T2 => ?_⟩
  have t2 : TK X.K H1 H2 := TK.of fun a u nw hu => eN a u hu fun ps z => by subst z; exact nw trivial
  have ok2 : OkM X.K M1 H2 := ⟨fun a o ho => by
    cases o with
    | tab q' =>
      obtain rfl := ok1.one a P q' _ ho hP
      rw [hP] at ho; cases ho
      exact T2
    | lst ws' => obtain ⟨u, h1, r1⟩ := ok1 _ _ ho; exact RO.tk t2 ((eN a _ h1 (fun ps z => by cases z)).trans h1.symm) (ok1 _ _ ho)
    | dK ws' => obtain ⟨u, h1, r1⟩ := ok1 _ _ ho; exact RO.tk t2 ((eN a _ h1 (fun ps z => by cases z)).trans h1.symm) (ok1 _ _ ho)
    | dT ws' => obtain ⟨u, h1, r1⟩ := ok1 _ _ ho; exact RO.tk t2 ((eN a _ h1 (fun ps z => by cases z)).trans h1.symm) (ok1 _ _ ho)
    | ins C fs => obtain ⟨dx, u, h1, r1⟩ := ok1 _ _ ho; exact RO.tk t2 ((eN a _ h1 (fun ps z => by cases z)).trans h1.symm) (ok1 _ _ ho), ok1.one⟩
  refine ⟨fun H3 => OkM X.K M1 H3 ∧ TK X.K H2 H3, ws.map key, by rw [List.length_map, r.length], SqL.of (eN _ _ e2 (fun ps z => by cases z)), ⟨ok2, .refl⟩, fun H3 ⟨_, t3⟩ b φ h => t3.ext b φ h, fun H3 i x k0 ⟨ok3, t3⟩ hx hk0 => ?_, fun H3 D ⟨ok3, t3⟩ hD => ?_⟩
  · have t13 := t2.trans t3
    obtain ⟨w, hw, rx⟩ := r.get' hx
    refine ⟨lamSt Nl w σ3 js, M1, _, lam_rst (rs.tk (tk.trans t13)) (rx.tk t13) Nl js, ok3, hb w (List.mem_of_getElem? hw), fun w2 M2 v2 H4 ⟨e4, l4⟩ rv4 ok4 tk4 => ?_⟩
    subst e4; cases rv4
    rw [List.getElem?_map, hw] at hk0
    exact ⟨by rw [← Option.some.inj hk0], ok4.le l4, t3.trans tk4⟩
  · have t13 := t2.trans t3
    exact kk _ _ _ _ (q D (ok3.free hD)) (.ref D) (ok3.new hD ⟨_, upd_same, ((sort_rv r key).tk t13).tk (TK.new hD)⟩) ((tk.trans t13).trans (TK.new hD))
end Z3
set_option Elab.async false
set_option linter.all false
set_option maxRecDepth 100000
set_option maxHeartbeats 1000000
namespace Z3
open PySem PySem.Spec PyProof.Rows L2
open LamX (TabS TabB)

/-! ## defs by names -/
theorem fun_of {K : PySem.W.Frag} {x qual : Str} {st : Stmt} {f : Addr} {fd : FuncData} (F : FunD K x qual (defArgs st) (defBody st) (defScope st) [] [] f fd) : Fun K x qual st f fd := by
  obtain ⟨oc, od, dV, kV, doc, pm, an, cdv, ct, osl, e, lk, c, d, _⟩ := F.ex
  have e2 : dV = .none := by
    rcases d with ⟨_, q⟩ | ⟨q, _⟩
    · exact q
    · exact absurd rfl q
  subst e2
  exact ⟨⟨oc, od, kV, doc, pm, an, cdv, ct, osl, e, lk, c⟩, F.kp⟩
/-- .. whose code object stands at c -/
structure FunC (K : PySem.W.Frag) (x qual : Str) (st : Stmt) (f : Addr) (fd : FuncData) (c : Addr) : Prop where
  ex : ∃ (oc : Value) (od : Option Addr) (kV doc pm : Value) (an : Option Addr) (ct : Value) (osl : Array (Option Value)),
    fd = PySem.W.fnOf x qual (defArgs st) (defBody st) (defScope st) .none kV doc pm an (.ref c) ct ∧ K.lookup f = some ⟨oc, od, .func fd, osl⟩ ∧ PySem.W.codeIn K (.ref c) qual = true
  kp : PySem.W.keepIn K (.ref f) = true
theorem FunC.fun {K x qual st f fd c} (F : FunC K x qual st f fd c) : Fun K x qual st f fd := by
  obtain ⟨oc, od, kV, doc, pm, an, ct, osl, e, lk, h⟩ := F.ex
  exact ⟨⟨oc, od, kV, doc, pm, an, .ref c, ct, osl, e, lk, h⟩, F.kp⟩
theorem funC_of {K : PySem.W.Frag} {x qual : Str} {st : Stmt} {p : Str × Option Str} {fd : FuncData} (F : Fun K x qual st (He.fAd K p) fd) : FunC K x qual st (He.fAd K p) fd (He.codeOf K p) := by
  obtain ⟨oc, od, kV, doc, pm, an, cdv, ct, osl, e, lk, h⟩ := F.ex
  obtain ⟨c, rfl⟩ := He.codeIn_ref h
  have : He.codeOf K p = c := He.codeOf_eq lk (by rw [e])
  rw [this]
  exact ⟨⟨oc, od, kV, doc, pm, an, ct, osl, e, lk, h⟩, F.kp⟩
section
variable {P : Program} {w : World} {K : PySem.W.Frag} {mg : Str → Option Value} {base : Heap}
/-- how a body's reading ends -/
theorem body_ends {K : PySem.W.Frag} {H : Hp} {vs : List V} {ws : List W} {N : List Str} {Q : VK} {Q3 : VK3} {M : Mp} {t : TS3} (rv : RVs K H ws vs) (ok : OkM K M H) (sem : t (ends3 Q3) (start3 N ws) M)
    (k : ∀ w M' v H', Q3 w M' → RV K H' w v → OkM K M' H' → TK K H H' → Q v H') : dS K t { nx := fun _ H' => Q .non H', rt := Q } (L2.start N vs) H := by
  refine ⟨start3 N ws, M, ends3 Q3, start_rel rv, ok, sem, ?_, ?_, fun _ _ _ _ z => z.elim, fun _ _ _ _ z => z.elim⟩
  · rintro σ3 M' σ' H' ⟨M1, l, q⟩ rs ok' tk
    exact k _ _ _ _ q .non (ok'.le l) tk
  · rintro w M' v H' ⟨M1, l, q⟩ rv ok' tk
    exact k _ _ _ _ q rv (ok'.le l) tk
theorem fun3C {x qual : Str} {st : Stmt} {f c : Addr} {fd : FuncData} {N ps : List Str} {k : Nat} {sp : Sp3} (F : FunC K x qual st f fd c) (S : FnScope N ps (defScope st)) (len : ∀ ws M Q E, sp ws M Q E → ws.length = ps.length)
    (t : TS3) (hbody : ∀ (A : Around) (outer : List Env) (s : Shared) (H : Hp) (E : XK), Room k (A.deeper (envOfC qual (defScope st) s.heap.objs.size f (.ref c))) →
      B3 (cxOf CX0 P w K mg base N qual (defScope st) f (.ref c) A outer s H E).nox (defBody st) t)
    (sem : ∀ ws M Q E, sp ws M Q E → t (ends3 Q) (start3 N ws) M) : FnOk P w K mg base CX0 (k + 1) f fd ps (dSp K sp) := by
  obtain ⟨oc, od, kV, doc, pm, an, ct, osl, rfl, lk, h⟩ := F.ex
  refine L2.fn_of lk h S (fun vs H Q E ⟨ws, M, Q3, E3, rv, _, q, _⟩ => by rw [← rv.length]; exact len _ _ _ _ q) fun A outer s H vs Q E hr ⟨ws, M, Q3, E3, rv, ok, q, k1, _⟩ => ?_
  exact ⟨_, (hbody A outer s H E hr).nox, body_ends rv ok (sem _ _ _ _ q) k1⟩

/-! ## defs that are not called from within a repr -/
structure FnOkG (P : Program) (w : World) (K : PySem.W.Frag) (mg : Str → Option Value) (base : Heap) (k : Nat) (f : Addr) (fd : FuncData) (ps : List Str) (sp : Sp) : Prop where
  len : ∀ vs H Q E, sp vs H Q E → vs.length = ps.length
  run : ∀ (A : Around) (outer : List Env) (s : Shared) (H : Hp) (args : Args) (us : List Value) (vs : List V) (Q : VK) (E : XK), A.guards = some [] → Room k A → Env0 P w K mg base A outer s H → BindsTo s fd args (ps.zip us) → Vals vs us → sp vs H Q E →
    codeAny (model P w) A (.call (.ref f) args) (CR CX0 outer P w H s Q E) s
theorem FnOk.g {k f fd ps sp} (F : FnOk P w K mg base CX0 k f fd ps sp) : FnOkG P w K mg base k f fd ps sp := ⟨F.len, fun A outer s H args us vs Q E _ hr => F.run A outer s H args us vs Q E hr⟩
theorem fun3G {x qual : Str} {st : Stmt} {f : Addr} {fd : FuncData} {N ps : List Str} {k : Nat} {sp : Sp3} (F : Fun K x qual st f fd) (S : FnScope N ps (defScope st)) (len : ∀ ws M Q E, sp ws M Q E → ws.length = ps.length)
    (t : TS3) (hbody : ∀ (cdv : Value) (A : Around) (outer : List Env) (s : Shared) (H : Hp) (E : XK), A.guards = some [] → Room k (A.deeper (envOfC qual (defScope st) s.heap.objs.size f cdv)) →
      B3 (cxOf CX0 P w K mg base N qual (defScope st) f cdv A outer s H E).nox (defBody st) t)
    (sem : ∀ ws M Q E, sp ws M Q E → t (ends3 Q) (start3 N ws) M) : FnOkG P w K mg base (k + 1) f fd ps (dSp K sp) := by
  obtain ⟨oc, od, kV, doc, pm, an, cdv, ct, osl, rfl, lk, h⟩ := F.ex
  have hl : ∀ vs H Q E, dSp K sp vs H Q E → vs.length = ps.length := fun vs H Q E ⟨ws, M, Q3, E3, rv, _, q, _⟩ => by rw [← rv.length]; exact len _ _ _ _ q
  refine ⟨hl, fun A outer s H args us vs Q E hg hr e0 hb r hsp => ?_⟩
  have l := hl _ _ _ _ hsp
  obtain ⟨ws, M, Q3, E3, rv, ok, q, k1, _⟩ := hsp
  exact LamX.run_ofS lk h S hr e0 hb r l fun hr' => ⟨_, (hbody cdv A outer s H E hg hr').nox, body_ends rv ok (sem _ _ _ _ q) k1⟩
end

/-! ## repr -/
theorem toD_deep {M : Mp} : ∀ (n : Nat) (w : W) (d : PyData), toD M n w = some d → d.depth ≤ n := by
  have tr : ∀ (n : Nat), (∀ (w : W) (d : PyData), toD M n w = some d → d.depth ≤ n) → ∀ (ws : List W) (ds : List PyData), trav (toD M n) ws = some ds → PyData.depthAll ds ≤ n := by
    intro n h ws
    induction ws with
    | nil => intro ds e; unfold trav at e; cases e; exact Nat.zero_le _
    | cons w ws ih =>
      intro ds e
      unfold trav at e
      cases e1 : toD M n w with
      | none => rw [e1] at e; cases e
      | some d =>
        cases e2 : trav (toD M n) ws with
        | none => rw [e1, e2] at e; cases e
        | some ds' =>
          rw [e1, e2] at e
          cases e
          simp only [PyData.depthAll]
          exact Nat.max_le.mpr ⟨h _ _ e1, ih _ e2⟩
  intro n
  induction n with
  | zero =>
    intro w d e
    cases w <;> unfold toD at e <;> first | (cases e; done) | (cases e; exact Nat.le_refl _)
  | succ n ih =>
    intro w d e
    cases w with
    | tup ws =>
      unfold toD at e
      obtain ⟨ds, e1, rfl⟩ := Option.map_eq_some_iff.mp e
      simp only [PyData.depth]
      have := tr n ih _ _ e1
      omega
    | ref a =>
      unfold toD at e
      cases hM : M a with
      | none => rw [hM] at e; cases e
      | some o =>
        rw [hM] at e
        cases o with
        | lst ws =>
          obtain ⟨ds, e1, rfl⟩ := Option.map_eq_some_iff.mp e
          simp only [PyData.depth]
          have := tr n ih _ _ e1
          omega
        | _ => cases e
    | _ => unfold toD at e; first | (cases e; done) | (cases e; exact Nat.zero_le _)
def isHp : W → Bool
  | .tup _ => true
  | .ref _ => true
  | .int _ => true
  | _ => false
/-- repr of ints, of lists and tuples of plain things -/
def rRepr3 : List W → Mp → VK3 → Prop := fun xs M Q => as1 xs fun x => ∃ d, toD M 9 x = some d ∧ isHp x = true ∧ d.showable = true ∧ d.hasDict = false ∧ d.shown.length ≤ 16777216 ∧ Q (.str d.shown) M
theorem repr3 {X : Cx} (hr : X.A.units + 64 < cLine) (hg : X.A.guards = some []) : CallR X (.builtin "repr") (dC X.K rRepr3) := by
  intro pins s σ H vs us Q I r ⟨ws, M, Q3, rv, ok, q0, k⟩
  obtain ⟨x, e1, d, hd, hp, h1, h2, h3, q⟩ := as1_inv q0
  subst e1
  cases rv with
  | @cons _ v _ _ r1 r2 =>
    cases r2
    have q' := k _ _ _ _ q (.str _) ok .refl
    obtain ⟨u, rfl, ru⟩ := vals1 r
    have hD := toD_ok ok _ _ _ _ hd r1
    have big : ∀ {a : Addr}, u = .ref a → wpAny (model X.prog X.w) X.A (call (.builtin "repr") [u]) (EP X pins σ Q) X.xe s := fun {a} e => by
      subst e
      obtain ⟨as, rd⟩ := Dp.reads I d v (.ref a) hD ru
      have dp := toD_deep _ _ _ hd
      exact repr_of_reads' rd h1 (PyData.noDict_hsm h2) hg (by omega) (fun b o e => e) (fun h' t tk kp => ⟨.str d.shown, H, I.kept kp, ⟨t, rfl⟩, q'⟩) (by rw [sizeLine_eq]; exact h3)
    cases r1 with
    | tup s r => exact big ru
    | ref a => exact big ru
    | int i =>
      unfold toD at hd
      cases hd
      have e2 : (PyData.int i).shown = toString i := by simp only [PyData.shown]
      rw [e2] at q'
      exact SkE.call_repr_int pins s σ H _ _ _ I r ⟨i, rfl, by simpa [PyData.showable] using h1, q'⟩
    | _ => cases hp
end Z3
set_option Elab.async false
set_option linter.all false
set_option maxRecDepth 100000
set_option maxHeartbeats 1000000
namespace Z3
open PySem PySem.Spec PyProof.Rows L2
open LamX (TabS TabB)

/-! ## the end: a law that calls repr; tables of code objects -/
/-- what is known at the law's start: the script (if it is not the module's), the tables -/
def H0 (K : PySem.W.Frag) (a : Addr) (o : Obj) (xs : List V) (ts : List Addr) : Hp := fun b => if b ∈ ts then some (.tbl #[]) else if b = a ∧ K.lookup a = none then some (.frz o (.lst xs)) else none
section
variable {K : PySem.W.Frag} {a b : Addr} {o : Obj} {xs : List V} {ts : List Addr}
theorem H0_tab (h : b ∈ ts) : H0 K a o xs ts b = some (.tbl #[]) := if_pos h
theorem H0_scr (h : a ∉ ts) (n : K.lookup a = none) : H0 K a o xs ts a = some (.frz o (.lst xs)) := (if_neg h).trans (if_pos ⟨rfl, n⟩)
theorem H0_cases {u : HO} (h : H0 K a o xs ts b = some u) : (b ∈ ts ∧ u = .tbl #[]) ∨ (b = a ∧ K.lookup a = none ∧ u = .frz o (.lst xs)) := by
  unfold H0 at h
  split at h
  · rename_i q; cases h; exact .inl ⟨q, rfl⟩
  · split at h
    · rename_i q; cases h; exact .inr ⟨q.1, q.2, rfl⟩
    · cases h
end
/-- the promise of a law: of the script and the tables -/
def LawSp (K : PySem.W.Frag) (cs : List (Addr × Addr)) (n : Nat) (sp : Sp) : Prop := ∀ (H : Hp) (a : Addr) (ns : List Int), ns.length ≤ n → (∀ p ∈ cs, H p.2 = some (.tbl #[])) → FzL K H a (ns.map V.int) → sp [.ref a] H (fun v _ => v = .bl true) fun _ _ _ => False
theorem lawG {P : Program} {w : World} {K : PySem.W.Frag} {mg mb : Str → Option Value} {k n : Nat} {fa a : Addr} {cs : List (Addr × Addr)} {fd : FuncData} {x : Str} {sp : Sp} {s₁ : Shared} {vs : List Value} {ns : List Int}
    (kin : K.In s₁.heap) (nsG : s₁.heap.Ns mainGlobals mg) (nsB : s₁.heap.Ns builtinsNs mb) (isB : ∀ x : Str, x ≠ "__name__" → mb x = bootBuiltins x) (lim : s₁.heap.NoLimit) (gens : s₁.gens = #[])
    (tabE : ∀ p ∈ cs, s₁.heap.get? p.2 = some { cls := .none, data := .fields #[] }) (tabN : ∀ p ∈ cs, K.lookup p.2 = none) (codeH : ∀ p ∈ cs, PySem.W.CodeHd s₁.heap p.1 p.2)
    (bmain : ∃ (bm : Addr) (ob : Obj), mg "__builtins__" = some (.ref bm) ∧ bm ≠ builtinsNs ∧ s₁.heap.get? bm = some ob ∧ ob.cls = .type "module" ∧ ob.dict = some builtinsNs ∧ ob.data = .plain)
    (scr : s₁.heap.get? a = some { cls := .type "list", data := .seq vs.toArray }) (isI : IntsAre vs ns) (len : ns.length ≤ n) (hn : n ≤ sizeLine) (room : Room k callerA)
    (F : ∀ base : Heap, K.In base → base.Ns mainGlobals mg → (∀ p ∈ cs, TabB base mg p.1 p.2) → FnOkG P w K mg base k fa fd [x] sp) (binds : ∀ (s : Shared) (u : Value), BindsTo s fd ⟨[u], []⟩ [(x, u)]) (law : LawSp K cs n sp) :
    codeAny (model P w) callerA (.call (.ref fa) ⟨[.ref a], []⟩) (fun r s' => r = .ok (.ret (.bool true)) ∧ OldK s₁.heap s'.heap ∧ s'.os = s₁.os ∧ AllBare s'.gens) s₁ := by
  have rel := vals_ints isI
  have small : ns.length ≤ sizeLine := Nat.le_trans len hn
  let ts := cs.map Prod.snd
  have tE : ∀ b ∈ ts, s₁.heap.get? b = some { cls := .none, data := .fields #[] } := fun b hb => by
    obtain ⟨p, hp, rfl⟩ := List.mem_map.mp hb
    exact tabE p hp
  have mem : ∀ p ∈ cs, p.2 ∈ ts := fun p hp => List.mem_map.mpr ⟨p, hp, rfl⟩
  have aN : a ∉ ts := fun z => by
    have q := (tE a z).symm.trans scr
    injection q with q
    injection q with _ _ q
    cases q
  let H := H0 K a { cls := .type "list", data := .seq vs.toArray } (ns.map V.int) ts
  have hok : HOk P w H s₁.heap := fun b u e => by
    rcases H0_cases e with ⟨h, rfl⟩ | ⟨rfl, _, rfl⟩
    · exact tE b h
    · exact ⟨scr, by rw [List.length_map]; exact small, vs, _, rel, scr⟩
  have fz : FzL K H a (ns.map V.int) := by
    cases e : K.lookup a with
    | none => exact .inl ⟨_, H0_scr aN e⟩
    | some o =>
      have q := kin a o e
      rw [scr] at q
      cases q
      exact .inr ⟨_, vs.toArray, _, e, rfl, rfl, rfl, by rw [List.size_toArray, isI.length]; exact small, by simpa using rel⟩
  -- what is neither the script nor a table is not known
  have un : ∀ {b : Addr} {o : Obj}, s₁.heap.get? b = some o → (∀ xs n, o.data ≠ .seq xs n) → o.data ≠ .fields #[] → H b = none := fun {b o} e h1 h2 => by
    cases q : H b with
    | none => rfl
    | some u =>
      rcases H0_cases q with ⟨h, _⟩ | ⟨rfl, _⟩
      · rw [tE b h] at e; cases e; exact absurd rfl h2
      · rw [scr] at e; cases e; exact absurd rfl (h1 _ _)
  have low : ∀ {b : Addr} {o : Obj}, s₁.heap.get? b = some o → H b = none → (hidT s₁.heap H).get? b = some o := hidT_get
  have lowNs : ∀ {b : Addr} {m : Str → Option Value}, s₁.heap.Ns b m → (hidT s₁.heap H).Ns b m := fun {b m} ⟨o, es, ep, e, d, r⟩ => ⟨o, es, ep, low e (un e (fun xs n z => by rw [d] at z; cases z) fun z => by rw [d] at z; cases z), d, r⟩
  have lowK : K.In (hidT s₁.heap H) := fun b o e => low (kin b o e) (by
    cases q : H b with
    | none => rfl
    | some u =>
      rcases H0_cases q with ⟨h, _⟩ | ⟨rfl, h, _⟩
      · obtain ⟨p, hp, rfl⟩ := List.mem_map.mp h
        rw [tabN p hp] at e; cases e
      · rw [h] at e; cases e)
  have lowT : ∀ p ∈ cs, TabB (hidT s₁.heap H) mg p.1 p.2 := fun p hp => by
    obtain ⟨o, us, file, tf, flags, tg, inF, text, tt, e1, r1, r2, r3, r4⟩ := codeH p hp
    obtain ⟨bm, ob, b1, b2, b3, b4, b5, b6⟩ := bmain
    have nG : ∀ {c : Addr} {oc : Obj}, s₁.heap.get? c = some oc → (∀ es ep, oc.data ≠ .dict es ep) → c ≠ mainGlobals := fun {c oc} e nd z => by
      obtain ⟨o', es, ep, e', d, _⟩ := id nsG
      rw [z, e'] at e
      cases e
      exact nd _ _ d
    refine ⟨⟨o, us, file, tf, flags, tg, inF, text, tt, low e1 (un e1 (fun xs n z => by rw [r2] at z; cases z) fun z => by rw [r2] at z; cases z; simp at r3), r1, r2, r3, r4⟩,
      ⟨bm, ob, b1, b2, nG b3 (fun es ep z => by rw [b6] at z; cases z), fun z => ?_, low b3 (un b3 (fun xs n z => by rw [b6] at z; cases z) fun z => by rw [b6] at z; cases z), b4, b5, b6⟩, fun z => nG (tabE p hp) (fun es ep z => by cases z) z.symm⟩
    rw [z, tabE p hp] at b3
    cases b3
    cases b6
  obtain ⟨mc, l1, l2⟩ := id lim
  have e0 : Env0 P w K mg (hidT s₁.heap H) callerA [] s₁ H := ⟨rfl, ⟨lowK, lowNs nsG, ⟨mb, lowNs nsB, isB⟩, ⟨mc, lowNs l1, l2⟩⟩, fun b o e => of_hidT e, Nat.le_of_eq (hidT_size _ _), trivial, (fun b hb => absurd (show b ∈ ([] : List Addr) from hb) (by simp)), hok, .of_eq gens⟩
  refine codeAny_mono ((F _ lowK (lowNs nsG) lowT).run callerA [] s₁ H ⟨[.ref a], []⟩ [.ref a] [.ref a] _ _ rfl room e0 (binds s₁ (.ref a)) (.cons rfl .nil) (law H a ns len (fun p hp => H0_tab (mem p hp)) fz)) fun r s' h => ?_
  cases r with
  | error e => exact absurd h id
  | ok fl =>
    cases fl with
    | next => exact absurd h id
    | brk => exact absurd h id
    | cont => exact absurd h id
    | ret u =>
      obtain ⟨v, H', os, bare, chg, hok', ru, q⟩ := h
      obtain rfl : v = .bl true := q
      obtain rfl : u = Value.bool true := ru
      have stay : ∀ b o, b ∉ ts → s₁.heap.get? b = some o → s'.heap.get? b = some o := fun b o nb e => by
        cases q : H b with
        | none => exact chg.keep b o e q (fun z => absurd (show b ∈ ([] : List Addr) from z) (by simp)) (by simp)
        | some u =>
          rcases H0_cases q with ⟨h, _⟩ | ⟨rfl, _, rfl⟩
          · exact absurd h nb
          · have q2 := (hok' b _ (chg.frzs b _ _ q)).1
            rw [scr] at e
            cases e
            exact q2
      have tabs : ∀ p ∈ cs, ∃ more : Array Value, s'.heap.get? p.2 = some { cls := .none, data := .fields (#[] ++ more) } := fun p hp => by
        obtain ⟨more, z⟩ := chg.tbls p.2 #[] (H0_tab (mem p hp))
        exact ⟨more, hok' p.2 _ z⟩
      refine ⟨rfl, ⟨fun b o e => ?_, fun b o e => ?_⟩, os, bare⟩
      · by_cases hb : b ∈ ts
        · obtain ⟨p, hp, rfl⟩ := List.mem_map.mp hb
          obtain ⟨more, z⟩ := tabs p hp
          rw [tabE p hp] at e
          cases e
          exact .inr (.inl ⟨((codeH p hp).tab (tabE p hp)).isCodeTable, rfl, #[], more, rfl, z⟩)
        · exact .inl (stay b o hb e)
      · by_cases hb : b ∈ ts
        · obtain ⟨p, hp, rfl⟩ := List.mem_map.mp hb
          obtain ⟨more, z⟩ := tabs p hp
          exact ⟨_, z⟩
        · exact ⟨o, stay b o hb e⟩
theorem walkG {l : PySem.W.OpenLaw} {n k : Nat} {q : Program} {loose : List Str} {XP : (Str → Option Value) → Heap → Prop} {YP : World → Heap → Prop} {d : DefRec} {x : Str}
    (hm : l.most = some n) (hn : n ≤ sizeLine) (hdf : d.params.defaults = []) (room : Room k callerA)
    (F : ∀ (w : World) (mg : Str → Option Value) (fa : Addr) (h : Heap), YP w h → h.Ns mainGlobals mg → mg d.name = some (.ref fa) → ∃ (K : PySem.W.Frag) (fd : FuncData) (cs : List (Addr × Addr)) (sp : Sp), K.In h ∧ (∀ p ∈ cs, h.get? p.2 = some { cls := .none, data := .fields #[] }) ∧ (∀ p ∈ cs, K.lookup p.2 = none) ∧ (∀ p ∈ cs, PySem.W.CodeHd h p.1 p.2) ∧
      (∀ (s : Shared) (u : Value), BindsTo s fd ⟨[u], []⟩ [(x, u)]) ∧ LawSp K cs n sp ∧ ∀ base : Heap, K.In base → base.Ns mainGlobals mg → (∀ p ∈ cs, TabB base mg p.1 p.2) → FnOkG l.prog w K mg base k fa fd [x] sp) :
    PySem.W.WalkO q loose XP YP l.row.toRowW d [] (fun f vs => PySem.call f vs) := by
  refine Att.attach_callB hm hdf fun w s₀ s₁ mg mb fa o pm cd doc a vs ns G Y ho hd hcd hmg hobj hints hlen hbits hg => ?_
  obtain ⟨K, fd, cs, sp, kin, t1, t2, t3, b, law, F⟩ := F w mg fa _ Y G.T.g hmg
  exact lawG kin G.T.g G.T.b G.T.builtins G.T.nolimit hg t1 t2 t3 G.T.bmain hobj hints hlen hn room F b law
end Z3
set_option Elab.async false
set_option linter.all false
set_option maxRecDepth 100000
set_option maxHeartbeats 1000000
namespace Z3
open PySem PySem.Spec PyProof.Rows L2

/-! ## comprehensions over pairs -/
section
variable {X : Cx} {pos : Pos} {te : TE3}
def tLcP3 (wi : TI3) (i j : Nat) (tt : TT3) (te : TE3) : TE3 := fun σ M Q => wi σ M fun ws S M1 => ∀ D, M1 D = none → ∃ Pv : Nat → Mp → Prop, Wm (Pv 0) (up M1 D (.lst [])) ∧ (∀ k M, k ≤ ws.length → Pv k M → S M) ∧
  (∀ k w M, ws[k]? = some w → Pv k M → ∃ a b, w = .tup [a, b] ∧ tt ((σ.set i (some a)).set j (some b)) M fun c M3 => if c = true then te ((σ.set i (some a)).set j (some b)) M3 fun y M4 => ∃ acc, M4 D = some (.lst acc) ∧ acc.length < 16777216 ∧ Wm (Pv (k + 1)) (up M4 D (.lst (acc ++ [y]))) else Wm (Pv (k + 1)) M3) ∧
  ∀ M, Pv ws.length M → Q (.ref D) M
theorem wipe_two (σ : L2.St) (i j : Nat) : wipe σ [i, j] = (σ.set j none).set i none := rfl
theorem lcp_ok {K σ H Q} {wi : TI3} {i j : Nat} {tt : TT3} (hij : i ≠ j) (h : dE K (tLcP3 wi i j tt te) σ H Q) : tLc (dI K wi) (gTup K 2 (gCons (gName i) (gCons (gName j) gNil))) (dT K tt) (dE K te) [i, j] σ H Q := by
  obtain ⟨σ3, M, Q3, rs, ok, q, k⟩ := h
  refine ⟨σ3, M, _, rs, ok, q, fun ws S M1 J H1 q it ok1 tk D hD => ?_⟩
  obtain ⟨Pv, h0, hS, ht, hd⟩ := q D (ok1.free hD)
  have tk1 : TK K H1 (upd H1 D (.lst [])) := TK.new hD
  have wk : ∀ {i : Nat} {M : Mp} {H2 : Hp}, Wm (Pv i) M → OkM K M H2 → TK K H1 H2 → ∃ M, OkM K M H2 ∧ TK K H1 H2 ∧ Pv i M := fun ⟨M2, l, p⟩ o t => ⟨M2, o.le l, t, p⟩
  refine ⟨fun n m H2 => m = ws.length - n ∧ n ≤ ws.length ∧ ∃ M, OkM K M H2 ∧ TK K H1 H2 ∧ Pv n M, ⟨ws.length, rfl, Nat.zero_le _, wk h0 (ok1.new hD ⟨[], upd_same, .nil⟩) tk1⟩, ?_⟩
  rintro n m H2 ⟨rfl, hn, M4, ok4, tk4, p4⟩
  obtain ⟨st, go⟩ := it n M4 H2 ok4 tk4 (hS _ _ hn p4)
  by_cases e : ws.length = n
  · refine .inl ⟨st e, ?_⟩
    subst e
    exact k _ _ _ _ (hd _ p4) (.ref D) ok4 (tk.trans tk4)
  · have hlt : n < ws.length := by omega
    have hw := List.getElem?_eq_getElem hlt
    obtain ⟨g1, g2⟩ := go _ hw
    refine .inr ⟨g1, fun H' => ∃ M, OkM K M H' ∧ TK K H1 H' ∧ Pv (n + 1) M, fun H' z => ⟨_, Nat.lt_of_lt_of_le (by omega : ws.length - (n + 1) < ws.length - n) (Nat.le_refl _), rfl, hlt, z⟩, fun x H' y => ?_⟩
    obtain ⟨rv, ok5, tk5⟩ := g2 x H' y
    have tkA := tk4.trans tk5
    obtain ⟨a, b, ew, q5⟩ := ht _ _ _ hw p4
    rw [ew] at rv
    obtain ⟨ad, vs, rfl, sq, rvs⟩ := rv.tup_inv
    cases rvs with
    | @cons _ va _ _ ra rvs =>
      cases rvs with
      | @cons _ vb _ _ rb rvs =>
        cases rvs
        have rs2 : RSt K H' ((σ3.set i (some a)).set j (some b)) (((wipe σ [i, j]).set i (some va)).set j (some vb)) := by
          have h1 := ((((rs.tk (tk.trans tkA)).wipe j none).wipe i none).set ra i).set rb j
          rw [List.set_set, List.set_comm (i := j) (j := i) _ _ (Ne.symm hij), List.set_set] at h1
          exact h1
        refine ⟨ad, _, rfl, sq, rfl, va, _, rfl, vb, _, rfl, rfl, ?_, _, M4, _, rs2, ok5, q5, fun c M6 H6 q6 ok6 tk6 => ?_⟩
        · show wipe (((wipe σ [i, j]).set i (some va)).set j (some vb)) [i, j] = wipe σ [i, j]
          rw [wipe_two, wipe_two]
          simp only [List.set_set, List.set_comm _ _ hij]
        · cases c with
          | true =>
            rw [if_pos rfl] at q6
            refine iteT ⟨_, M6, _, rs2.tk tk6, ok6, q6, fun yw M7 yv H7 ⟨acc, hacc, hz, q7⟩ rv7 ok7 tk7 => ?_⟩
            obtain ⟨us, e7, r7⟩ := ok7 _ _ hacc
            have t8 : TK K H7 (upd H7 D (.lst (us ++ [yv]))) := TK.set e7 trivial
            exact ⟨us, e7, by rw [← r7.length, sizeLine_eq]; exact hz, wk q7 (ok7.set e7 trivial ⟨_, upd_same, (r7.append (.one rv7)).tk t8⟩) (((tkA.trans tk6).trans tk7).trans t8)⟩
          | false =>
            rw [if_neg Bool.false_ne_true] at q6
            exact iteF (wk q6 ok6 (tkA.trans tk6))
theorem lcp3 {elt iter : Expr} {ifs : List Expr} {scope : Scope} {x y : Str} {i j z : Nat} {xp yp tp : Pos} {wi : TI3} {tt : TT3} (hij : i ≠ j) (hc : X.calm = true) (hN : X.N.Nodup) (hi : I3 X (.Tuple [.Name x xp, .Name y yp] z tp) iter wi) (ok : BlkOk X.N X.env.scope scope [(x, i), (y, j)])
    (hg : ∀ (s : Shared) (H : Hp) (C : Addr) (cl : List (Str × Addr)) (fp : List Addr), PG (X.blk s H scope (compEnvC scope cl C X.env) fp) (.Name x xp) (gName i)) (hg2 : ∀ (s : Shared) (H : Hp) (C : Addr) (cl : List (Str × Addr)) (fp : List Addr), PG (X.blk s H scope (compEnvC scope cl C X.env) fp) (.Name y yp) (gName j))
    (ht : ∀ (s : Shared) (H : Hp) (C : Addr) (cl : List (Str × Addr)) (fp : List Addr), Ts3 (X.blk s H scope (compEnvC scope cl C X.env) fp) ifs tt)
    (he : ∀ (s : Shared) (H : Hp) (C : Addr) (cl : List (Str × Addr)) (fp : List Addr), E3 (X.blk s H scope (compEnvC scope cl C X.env) fp) elt te) (hs : ∀ x, foldedSetIterable iter X.env x = pure x := by intro _; rfl) :
    E3 X (.ListComp elt [⟨.Tuple [.Name x xp, .Name y yp] z tp, iter, ifs, 0⟩] scope pos) (tLcP3 wi i j tt te) :=
  PE.imp (pe_lc (g := gTup X.K 2 (gCons (gName i) (gCons (gName j) gNil))) (tt := dT X.K tt) (te := dE X.K te) hc hN hi ok (fun s H C cl fp => pg_tup hc (pgs_cons (hg s H C cl fp) (pgs_cons (hg2 s H C cl fp) pgs_nil))) ht he hs) fun _ _ _ => lcp_ok hij
theorem setlcp3 {l : Nat} {v : Str} {pv : Pos} {elt iter : Expr} {ifs : List Expr} {scope : Scope} {x y : Str} {i j z : Nat} {xp yp tp spos : Pos} {wi : TI3} {tt : TT3} (hij : i ≠ j) (hc : X.calm = true) (hN : X.N.Nodup) (hv : X.N[l]? = some v) (hvl : X.env.scope.names.lookup v = some .local)
    (hsw : swapsWith (.ListComp elt [⟨.Tuple [.Name x xp, .Name y yp] z tp, iter, ifs, 0⟩] scope pos) (some (.Name v pv)) spos.line X.env = pure true) (hi : I3 X (.Tuple [.Name x xp, .Name y yp] z tp) iter wi) (ok : BlkOk X.N X.env.scope scope [(x, i), (y, j)])
    (hg : ∀ (s : Shared) (H : Hp) (C : Addr) (cl : List (Str × Addr)) (fp : List Addr), PG (X.blk s H scope (compEnvC scope cl C X.env) fp) (.Name x xp) (gName i)) (hg2 : ∀ (s : Shared) (H : Hp) (C : Addr) (cl : List (Str × Addr)) (fp : List Addr), PG (X.blk s H scope (compEnvC scope cl C X.env) fp) (.Name y yp) (gName j))
    (ht : ∀ (s : Shared) (H : Hp) (C : Addr) (cl : List (Str × Addr)) (fp : List Addr), Ts3 (X.blk s H scope (compEnvC scope cl C X.env) fp) ifs tt)
    (he : ∀ (s : Shared) (H : Hp) (C : Addr) (cl : List (Str × Addr)) (fp : List Addr), E3 (X.blk s H scope (compEnvC scope cl C X.env) fp) elt te) (hs : ∀ x, foldedSetIterable iter X.env x = pure x := by intro _; rfl) :
    S3 X (.Assign [.Name v pv] (.ListComp elt [⟨.Tuple [.Name x xp, .Name y yp] z tp, iter, ifs, 0⟩] scope pos) spos) (tAs3 (tLcP3 wi i j tt te) (gN3 l)) :=
  PS.imp (ps_setLc (g := gTup X.K 2 (gCons (gName i) (gCons (gName j) gNil))) (tt := dT X.K tt) (te := dE X.K te) hc hN hv hvl hsw hi ok (fun s H C cl fp => pg_tup hc (pgs_cons (hg s H C cl fp) (pgs_cons (hg2 s H C cl fp) pgs_nil))) ht he hs) fun D σ H ⟨σ3, M, D3, rs, ok, q, k1, k2, k3, k4⟩ =>
  lcp_ok hij ⟨σ3, M, _, rs, ok, q, fun w M' v H' q rv ok' tk => k1 _ _ _ _ q ((rs.tk tk).set rv l) ok' tk⟩
end
/-- the name of a lambda in the def x -/
abbrev lamQ (x : Str) : Str := (x ++ ".<locals>.") ++ "<lambda>"
def lcpB (ws : List W) (S : Mp → Prop) (i j : Nat) (tt : TT3) (te : TE3) (σ : St3) (M1 : Mp) (Q : VK3) : Prop := ∀ D, M1 D = none → ∃ Pv : Nat → Mp → Prop, Wm (Pv 0) (up M1 D (.lst [])) ∧ (∀ k M, k ≤ ws.length → Pv k M → S M) ∧
  (∀ k w M, ws[k]? = some w → Pv k M → ∃ a b, w = .tup [a, b] ∧ tt ((σ.set i (some a)).set j (some b)) M fun c M3 => if c = true then te ((σ.set i (some a)).set j (some b)) M3 fun y M4 => ∃ acc, M4 D = some (.lst acc) ∧ acc.length < 16777216 ∧ Wm (Pv (k + 1)) (up M4 D (.lst (acc ++ [y]))) else Wm (Pv (k + 1)) M3) ∧
  ∀ M, Pv ws.length M → Q (.ref D) M
theorem tLcP_ {wi : TI3} {i j : Nat} {tt : TT3} {te : TE3} {σ M Q} : tLcP3 wi i j tt te σ M Q = wi σ M (fun ws S M1 => lcpB ws S i j tt te σ M1 Q) := rfl
theorem rRepr_ {xs M Q} : rRepr3 xs M Q = as1 xs (fun x => ∃ d, toD M 9 x = some d ∧ isHp x = true ∧ d.showable = true ∧ d.hasDict = false ∧ d.shown.length ≤ 16777216 ∧ Q (.str d.shown) M) := rfl
theorem tSortL_ {P q Nl js te tb σ M Q} : tSortL3 P q Nl js te tb σ M Q = te σ M (fun x M1 => asR x fun l => ∃ ws, M1 l = some (.lst ws) ∧ M1 P = some (.tab q) ∧
  ∃ key : W → Int, (∀ w ∈ ws, tb (lamSt Nl w σ js) M1 fun v M2 => v = .int (key w) ∧ Le M1 M2) ∧ ∀ p, M1 p = none → Q (.ref p) (up M1 p (.lst (sortW key ws)))) := rfl
end Z3
set_option Elab.async false
set_option linter.all false
set_option maxRecDepth 100000
set_option maxHeartbeats 2000000
namespace Z3
open PySem PySem.Spec PyProof.Rows L2
open He (ga ma FnW ba eqO eqO_ok dflB dflB_ok kwdB kwdB_ok)
/-! ## the head's facts, properties too -/
/-- a property's getter -/
structure PrD where
  cls : Str
  f : Str
  qual : Str
  st : Stmt
def PrD.at_ (K : PySem.W.Frag) (p : PrD) : Addr := ma K (ga K p.cls) p.f
def PrD.get (K : PySem.W.Frag) (p : PrD) : Addr := match PySem.W.recIn K (p.at_ K) "property" with
  | some (.ref g :: _) => g
  | _ => 0
def fnAtW (K : PySem.W.Frag) (a : Addr) : FnW := match K.lookup a with
  | some ⟨_, _, .func fd, _⟩ => some (fd.name, fd.qualname, fd.params, fd.body, fd.scope, fd.globals, fd.closure, fd.builtins)
  | _ => none
def PrD.val (p : PrD) : FnW := some (p.f, p.qual, defArgs p.st, .stmts (defBody p.st), defScope p.st, mainGlobals, [], builtinsNs)
def PrD.okB (K : PySem.W.Frag) (p : PrD) : Bool :=
  eqO (PySem.W.findIn K (.ref (ga K p.cls)) p.f) (some (some (.ref (p.at_ K)))) && (eqO (PySem.W.specialIn K (.ref (p.at_ K)) "__get__") (some (some (.builtin "property.__get__"))) && (decide (PySem.W.takesIn K (.ref (p.at_ K)) = some true) &&
  ((match PySem.W.recIn K (p.at_ K) "property" with
    | some (.ref _ :: _) => true
    | _ => false) && (PySem.W.keepIn K (.ref (p.get K)) && (match K.lookup (p.get K) with
    | some ⟨_, _, .func fd, _⟩ => PySem.W.codeIn K fd.code p.qual && (dflB K fd.defaults [] && kwdB K fd.kwdefaults [])
    | _ => false)))))
theorem fnAt_of {K : PySem.W.Frag} {a : Addr} {x q : Str} {st : Stmt} (e : fnAtW K a = some (x, q, defArgs st, .stmts (defBody st), defScope st, mainGlobals, [], builtinsNs)) (k : PySem.W.keepIn K (.ref a) = true)
    (c : (match K.lookup a with
    | some ⟨_, _, .func fd, _⟩ => PySem.W.codeIn K fd.code q && (dflB K fd.defaults [] && kwdB K fd.kwdefaults [])
    | _ => false) = true) : ∃ fd, Fun K x q st a fd := by
  unfold fnAtW at e
  cases h : K.lookup a with
  | none => rw [h] at c; cases c
  | some o =>
    obtain ⟨oc, od, dt, osl⟩ := o
    rw [h] at c e
    cases dt with
    | func fd =>
      obtain ⟨n1, n2, n3, n4, n5, n6, n7, n8, n9, n10, n11, n12, n13, n14, n15⟩ := fd
      have e2 : (some (n1, n2, n3, n4, n5, n6, n7, n15) : FnW) = some (x, q, defArgs st, .stmts (defBody st), defScope st, mainGlobals, [], builtinsNs) := e
      simp only [Option.some.injEq, Prod.mk.injEq] at e2
      obtain ⟨r1, r2, r3, r4, r5, r6, r7, r8⟩ := e2
      subst r1 r2 r3 r4 r5 r6 r7 r8
      obtain ⟨k1, k2⟩ := ba c
      obtain ⟨k3, k4⟩ := ba k2
      exact ⟨_, fun_of ⟨⟨oc, od, n8, n9, n10, n11, n12, n13, n14, osl, rfl, h, k1, dflB_ok k3, .inl rfl⟩, k⟩⟩
    | _ => cases c
theorem PrD.ok {K : PySem.W.Frag} {p : PrD} (e : fnAtW K (p.get K) = p.val) (c : p.okB K = true) : PropOf K (ga K p.cls) p.f (p.at_ K) (p.get K) ∧ ∃ fd, Fun K p.f p.qual p.st (p.get K) fd := by
  obtain ⟨c1, c⟩ := ba c
  obtain ⟨c2, c⟩ := ba c
  obtain ⟨c3, c⟩ := ba c
  obtain ⟨c4, c⟩ := ba c
  obtain ⟨c5, c6⟩ := ba c
  refine ⟨⟨eqO_ok c1, eqO_ok c2, of_decide_eq_true c3, ?_⟩, fnAt_of e c5 c6⟩
  unfold PrD.get
  cases h : PySem.W.recIn K (p.at_ K) "property" with
  | none => rw [h] at c4; cases c4
  | some l =>
    cases l with
    | nil => rw [h] at c4; cases c4
    | cons v r =>
      cases v with
      | ref g => exact ⟨r, rfl⟩
      | _ => rw [h] at c4; cases c4
abbrev AlP : Type := He.AlX × List FnW × Bool
def obsP (n : Nat) (fa : List He.Fa) (fn : List He.DefD) (tf : List He.Defn) (ex : PySem.W.Frag → Bool) (pr : List PrD) (g : Addr → Option Obj) : AlP :=
  (He.obsX n fa fn [] tf ex g, pr.map fun p => fnAtW (He.frT g (He.asD g n)) (p.get (He.frT g (He.asD g n))), pr.all fun p => p.okB (He.frT g (He.asD g n)))
def valP (fn : List He.DefD) (pr : List PrD) (w : World) : AlP := (He.valX fn [] w, pr.map PrD.val, true)
structure SaysP (fa : List He.Fa) (fn : List He.DefD) (tf : List He.Defn) (ex : PySem.W.Frag → Bool) (pr : List PrD) (w : World) (h : Heap) (K : PySem.W.Frag) : Prop where
  x : He.SaysX fa fn [] tf ex w h K
  pr : ∀ p ∈ pr, PropOf K (ga K p.cls) p.f (p.at_ K) (p.get K) ∧ ∃ fd, Fun K p.f p.qual p.st (p.get K) fd
theorem map_at {α β : Type} {f g : α → β} : ∀ {l : List α}, l.map f = l.map g → ∀ x ∈ l, f x = g x
  | [], _, x, h => by cases h
  | y :: l, e, x, h => by
    rw [List.map_cons, List.map_cons] at e
    injection e with e1 e2
    rcases List.mem_cons.mp h with rfl | h
    · exact e1
    · exact map_at e2 x h
def hookP (n : Nat) (fa : List He.Fa) (fn : List He.DefD) (tf : List He.Defn) (ex : PySem.W.Frag → Bool) (pr : List PrD) : PySem.W.Hook where
  α := AlP
  obs := fun s => obsP n fa fn tf ex pr s.heap.get?
  val := fun w => valP fn pr w
  says := fun w h => ∃ K : PySem.W.Frag, K.In h ∧ SaysP fa fn tf ex pr w h K
  of := fun _ _ e => ⟨_, He.frT_in, He.saysX_of (congrArg (fun z : AlP => z.1) e), fun p hp => by
    have e1 := congrArg (fun z : AlP => z.2.1) e
    have e2 := congrArg (fun z : AlP => z.2.2) e
    exact PrD.ok (map_at e1 p hp) (List.all_eq_true.mp e2 p hp)⟩
  keeps := fun _ _ _ ⟨K, hK, c⟩ k => ⟨K, PySem.W.Frag.In.keeps hK k, ⟨⟨c.x.t, c.x.more, c.x.hd, c.x.out, fun p hp => k _ _ (c.x.empty p hp)⟩, c.pr⟩⟩
theorem obsP_eq {n : Nat} {fa : List He.Fa} {fn : List He.DefD} {tf : List He.Defn} {ex : PySem.W.Frag → Bool} {pr : List PrD} {g : Addr → Option Obj} {s : Shared} (h : ∀ a, g a = s.heap.get? a) : obsP n fa fn tf ex pr g = (hookP n fa fn tf ex pr).obs s := by
  have e : g = s.heap.get? := funext h
  rw [e] <;> rfl
section
variable {fa : List He.Fa} {fn : List He.DefD} {tf : List He.Defn} {ex : PySem.W.Frag → Bool} {pr : List PrD} {w : World} {h : Heap} {K : PySem.W.Frag}
theorem SaysP.d (c : SaysP fa fn tf ex pr w h K) : He.SaysD fa fn K := congrArg (fun z : He.AlT => z.1) c.x.t
theorem SaysP.fact (c : SaysP fa fn tf ex pr w h K) (i : Nat) {f : He.Fa} (e : fa[i]? = some f := by rfl) : f.ok K = true := c.d.fact i e
theorem SaysP.fun_ (c : SaysP fa fn tf ex pr w h K) (i : Nat) {d : He.DefD} {st : Stmt} (e : fn[i]? = some d) (e2 : d = ⟨d.at_, d.name, d.qual, defArgs st, defBody st, defScope st, [], []⟩) : ∃ fd, Fun K d.name d.qual st (He.fAd K d.at_) fd := by
  obtain ⟨fd, F⟩ := c.d.def_ i e
  rw [e2] at F
  exact ⟨fd, fun_of F⟩
end

theorem bindsTo_of {K : PySem.W.Frag} {x qual : Str} {st : Stmt} {f : Addr} {fd : FuncData} {p : Str} (F : Fun K x qual st f fd)
    (h : ∀ (kV doc pm : Value) (an : Option Addr) (cdv ct : Value) (us : List Value), us.length = [p].length → bindArgs (PySem.W.fnOf x qual (defArgs st) (defBody st) (defScope st) .none kV doc pm an cdv ct) ⟨us, []⟩ = pure ([p].zip us)) (s : Shared) (u : Value) : BindsTo s fd ⟨[u], []⟩ [(p, u)] := by
  obtain ⟨oc, od, kV, doc, pm, an, cdv, ct, osl, rfl, lk, c⟩ := F.ex
  exact BindsTo.of_eq (h kV doc pm an cdv ct [u] rfl)
/-! ## the law's start -/
theorem rvs_ints {K H} : ∀ xs : List Int, RVs K H (xs.map W.int) (xs.map V.int)
  | [] => .nil
  | x :: xs => .cons (.int x) (rvs_ints xs)
def tabM (P : Addr) (q : Str) : Mp := fun b => if b = P then some (.tab q) else none
theorem tabM_at {P q} : tabM P q P = some (.tab q) := if_pos rfl
theorem tabM_is {P q b o} (e : tabM P q b = some o) : P = b := by
  unfold tabM at e
  split at e
  · rename_i z; exact z.symm
  · cases e
theorem tabM_ok {P q b o} (e : tabM P q b = some o) : (.tab q : MO) = o := by
  unfold tabM at e
  split at e
  · exact Option.some.inj e
  · cases e
theorem lawSp0 {K : PySem.W.Frag} {n : Nat} {sp : Sp3} (h : ∀ (xs : List Int) (Q : VK3), xs.length ≤ n → (∀ M', Q (.bl true) M') → sp [.rls (xs.map .int)] (fun _ => none) Q X0) : LawSp K [] n (dSp K sp) := fun H a ns hl _ fz =>
  ⟨[.rls (ns.map .int)], fun _ => none, fun w _ => w = .bl true, X0, .one (.rls fz (rvs_ints ns)), ⟨fun _ _ e => (by cases e), fun _ _ _ _ e => (by cases e)⟩, h ns _ hl fun _ => rfl, fun w M' v H' e r _ _ => by subst e; cases r; rfl, fun _ _ _ _ _ z => z.elim⟩
theorem lawSp1 {K : PySem.W.Frag} {n : Nat} {sp : Sp3} {c P : Addr} {q : Str} (h : ∀ (xs : List Int) (Q : VK3), xs.length ≤ n → (∀ M', Q (.bl true) M') → sp [.rls (xs.map .int)] (tabM P q) Q X0) : LawSp K [(c, P)] n (dSp K sp) := fun H a ns hl ht fz =>
  ⟨[.rls (ns.map .int)], tabM P q, fun w _ => w = .bl true, X0, .one (.rls fz (rvs_ints ns)), ⟨fun b o e => (tabM_ok e) ▸ LamX.TabS.nil (tabM_is e ▸ ht (c, P) (List.mem_singleton.mpr rfl)), fun a b _ _ e1 e2 => (tabM_is e1).symm.trans (tabM_is e2)⟩, h ns _ hl fun _ => rfl, fun w M' v H' e r _ _ => by subst e; cases r; rfl, fun _ _ _ _ _ z => z.elim⟩
end Z3
set_option Elab.async false
set_option linter.all false
/-! plain: forests, paths, merges -/
namespace FR
/-- parents: none at a root -/
abbrev Par := List (Option Nat)
def parent (ps : Par) (f : Nat) : Option Nat := (ps[f]?).join
/-- each way to the parents ends -/
structure WF (ps : Par) : Prop where
  rank : ∃ r : Nat → Nat, ∀ f, f < ps.length → r f < ps.length ∧ ∀ p, parent ps f = some p → p < ps.length ∧ r p < r f
def upFrom (ps : Par) : Nat → Nat → List Nat
  | 0, f => [f]
  | n + 1, f => f :: match parent ps f with
    | none => []
    | some p => upFrom ps n p
/-- from the field up to its root -/
def upl (ps : Par) (f : Nat) : List Nat := upFrom ps ps.length f
def pathOf (ps : Par) (f : Nat) : List Nat := (upl ps f).reverse
theorem upFrom_stable {ps : Par} {r : Nat → Nat} (h : ∀ f, f < ps.length → r f < ps.length ∧ ∀ p, parent ps f = some p → p < ps.length ∧ r p < r f) :
    ∀ (n m f : Nat), f < ps.length → r f ≤ n → r f ≤ m → upFrom ps n f = upFrom ps m f := by
  intro n
  induction n with
  | zero =>
    intro m f hf hn hm
    cases m with
    | zero => rfl
    | succ m =>
      unfold upFrom
      cases hp : parent ps f with
      | none => rfl
      | some p => have := ((h f hf).2 p hp).2; omega
  | succ n ih =>
    intro m f hf hn hm
    cases m with
    | zero =>
      unfold upFrom
      cases hp : parent ps f with
      | none => rfl
      | some p => have := ((h f hf).2 p hp).2; omega
    | succ m =>
      unfold upFrom
      cases hp : parent ps f with
      | none => rfl
      | some p =>
        have := (h f hf).2 p hp
        show f :: upFrom ps n p = f :: upFrom ps m p
        rw [ih m p this.1 (by omega) (by omega)]
theorem upl_eq {ps : Par} (w : WF ps) {f : Nat} (hf : f < ps.length) : upl ps f = f :: match parent ps f with
    | none => []
    | some p => upl ps p := by
  obtain ⟨r, h⟩ := w.rank
  have h1 : upl ps f = upFrom ps (ps.length + 1) f := upFrom_stable h _ _ f hf (Nat.le_of_lt (h f hf).1) (by have := (h f hf).1; omega)
  rw [h1]
  rfl
theorem upl_none {ps : Par} (w : WF ps) {f : Nat} (hf : f < ps.length) (h : parent ps f = none) : upl ps f = [f] := by rw [upl_eq w hf, h]
theorem upl_some {ps : Par} (w : WF ps) {f p : Nat} (hf : f < ps.length) (h : parent ps f = some p) : upl ps f = f :: upl ps p := by rw [upl_eq w hf, h]
theorem WF.lt {ps : Par} (w : WF ps) {f p : Nat} (hf : f < ps.length) (h : parent ps f = some p) : p < ps.length := by
  obtain ⟨r, q⟩ := w.rank
  exact ((q f hf).2 p h).1
theorem parent_lt {ps : Par} {f p : Nat} (h : parent ps f = some p) : f < ps.length := by
  unfold parent at h
  by_cases hf : f < ps.length
  · exact hf
  · rw [List.getElem?_eq_none (by omega)] at h; cases h
/-- induction along the parents -/
theorem WF.ind {ps : Par} (w : WF ps) {P : Nat → Prop} (h : ∀ f, f < ps.length → (∀ p, parent ps f = some p → P p) → P f) : ∀ f, f < ps.length → P f := by
  obtain ⟨r, q⟩ := w.rank
  have : ∀ n f, f < ps.length → r f ≤ n → P f := by
    intro n
    induction n with
    | zero => intro f hf hn; exact h f hf fun p hp => by have := ((q f hf).2 p hp).2; omega
    | succ n ih => intro f hf hn; exact h f hf fun p hp => ih p ((q f hf).2 p hp).1 (by have := ((q f hf).2 p hp).2; omega)
  intro f hf
  exact this (r f) f hf (Nat.le_refl _)
theorem path_none {ps : Par} (w : WF ps) {f : Nat} (hf : f < ps.length) (h : parent ps f = none) : pathOf ps f = [f] := by unfold pathOf; rw [upl_none w hf h]; rfl
theorem path_some {ps : Par} (w : WF ps) {f p : Nat} (hf : f < ps.length) (h : parent ps f = some p) : pathOf ps f = pathOf ps p ++ [f] := by unfold pathOf; rw [upl_some w hf h, List.reverse_cons]
theorem path_ne {ps : Par} {f : Nat} : pathOf ps f ≠ [] := by
  unfold pathOf upl
  cases ps.length <;> simp [upFrom]
theorem path_lt {ps : Par} (w : WF ps) {f : Nat} (hf : f < ps.length) : ∀ g ∈ pathOf ps f, g < ps.length := by
  refine w.ind (P := fun f => ∀ g ∈ pathOf ps f, g < ps.length) (fun f hf ih => ?_) f hf
  cases h : parent ps f with
  | none => rw [path_none w hf h]; intro g hg; rw [List.mem_singleton] at hg; omega
  | some p =>
    rw [path_some w hf h]
    intro g hg
    rcases List.mem_append.mp hg with hg | hg
    · exact ih p h g hg
    · rw [List.mem_singleton] at hg; omega
theorem path_len {ps : Par} {f : Nat} : (pathOf ps f).length ≤ ps.length + 1 := by
  unfold pathOf upl
  rw [List.length_reverse]
  have : ∀ n f, (upFrom ps n f).length ≤ n + 1 := by
    intro n
    induction n with
    | zero => intro f; simp [upFrom]
    | succ n ih =>
      intro f
      unfold upFrom
      cases parent ps f with
      | none => simp
      | some p => have := ih p; simp; omega
  exact this _ _
theorem mem_path_self {ps : Par} (w : WF ps) {f : Nat} (hf : f < ps.length) : f ∈ pathOf ps f := by
  cases h : parent ps f with
  | none => rw [path_none w hf h]; simp
  | some p => rw [path_some w hf h]; simp

inductive Kd where | up | down | first | last
  deriving DecidableEq
def kd (ks : List Kd) (f : Nat) : Kd := ks.getD f .up
abbrev Rec := List Int
def at_ (x : Rec) (f : Nat) : Int := x.getD f 0
def better (k : Kd) (a b : Int) : Bool := match k with
  | .up => decide (b < a)
  | .down => decide (a < b)
  | _ => false
def unlike (path : List Nat) (a b : Rec) : Option Nat := path.find? fun f => decide (at_ a f ≠ at_ b f)
/-- does the field's value come from the older record -/
def olderWins (ks : List Kd) (a b : Rec) (o : Option Nat) : Bool := match o with
  | none => true
  | some g => decide (kd ks g = .first) || better (kd ks g) (at_ a g) (at_ b g)
def mrg1 (ps : Par) (ks : List Kd) (a b : Rec) (f : Nat) : Int := if olderWins ks a b (unlike (pathOf ps f) a b) then at_ a f else at_ b f
def mrg (ps : Par) (ks : List Kd) (a b : Rec) : Rec := (List.range ps.length).map (mrg1 ps ks a b)
theorem mrg_len {ps : Par} {ks a b} : (mrg ps ks a b).length = ps.length := by unfold mrg; simp
end FR
set_option Elab.async false
set_option linter.all false
/-! plain: rows that need all their records -/
namespace FR
theorem mrg_at {ps : Par} {ks a b} {f : Nat} (h : f < ps.length) : at_ (mrg ps ks a b) f = mrg1 ps ks a b f := by
  unfold at_ mrg
  rw [List.getD_eq_getElem?_getD, List.getElem?_map, List.getElem?_range h]
  rfl
theorem mrg_or {ps : Par} {ks a b} {f : Nat} (h : f < ps.length) : at_ (mrg ps ks a b) f = at_ a f ∨ at_ (mrg ps ks a b) f = at_ b f := by
  rw [mrg_at h]; unfold mrg1; split <;> simp
/-- a path goes through the path of each of its fields -/
theorem path_pre {ps : Par} (w : WF ps) {f : Nat} (hf : f < ps.length) : ∀ g ∈ pathOf ps f, ∃ r, pathOf ps f = pathOf ps g ++ r := by
  refine w.ind (P := fun f => ∀ g ∈ pathOf ps f, ∃ r, pathOf ps f = pathOf ps g ++ r) (fun f hf ih => ?_) f hf
  intro g hg
  cases h : parent ps f with
  | none =>
    rw [path_none w hf h, List.mem_singleton] at hg
    subst hg
    exact ⟨[], by simp⟩
  | some p =>
    rw [path_some w hf h] at hg ⊢
    rcases List.mem_append.mp hg with hg | hg
    · obtain ⟨r, e⟩ := ih p h g hg
      exact ⟨r ++ [f], by rw [e, List.append_assoc]⟩
    · rw [List.mem_singleton] at hg
      subst hg
      exact ⟨[], by rw [path_some w hf h]; simp⟩
theorem unlike_app {p q : List Nat} {a b : Rec} : unlike (p ++ q) a b = (unlike p a b).or (unlike q a b) := by unfold unlike; rw [List.find?_append]
theorem unlike_none {p : List Nat} {a b : Rec} (h : unlike p a b = none) : ∀ g ∈ p, at_ a g = at_ b g := fun g hg => by
  unfold unlike at h
  have := List.find?_eq_none.mp h g hg
  simpa using this
theorem unlike_some {p : List Nat} {a b : Rec} {h : Nat} (e : unlike p a b = some h) : h ∈ p ∧ at_ a h ≠ at_ b h := by
  unfold unlike at e
  exact ⟨List.mem_of_find?_eq_some e, by simpa using List.find?_some e⟩
/-- along a path a merge is the one record or the other -/
theorem mrg_path {ps : Par} (w : WF ps) {ks a b} {f : Nat} (hf : f < ps.length) : ∀ g ∈ pathOf ps f, at_ (mrg ps ks a b) g = if olderWins ks a b (unlike (pathOf ps f) a b) then at_ a g else at_ b g := by
  intro g hg
  have hgl := path_lt w hf g hg
  obtain ⟨r, e⟩ := path_pre w hf g hg
  rw [mrg_at hgl]
  unfold mrg1
  rw [e, unlike_app]
  cases h : unlike (pathOf ps g) a b with
  | some x => rfl
  | none =>
    have q := unlike_none h g (mem_path_self w hgl)
    have : (if olderWins ks a b none = true then at_ a g else at_ b g) = at_ a g := rfl
    rw [this]
    split
    · rfl
    · exact q
theorem mrg_path_or {ps : Par} (w : WF ps) {ks a b} {f : Nat} (hf : f < ps.length) : (∀ g ∈ pathOf ps f, at_ (mrg ps ks a b) g = at_ a g) ∨ (∀ g ∈ pathOf ps f, at_ (mrg ps ks a b) g = at_ b g) := by
  by_cases h : olderWins ks a b (unlike (pathOf ps f) a b) = true
  · exact .inl fun g hg => by rw [mrg_path w hf g hg, if_pos h]
  · exact .inr fun g hg => by rw [mrg_path w hf g hg, if_neg h]
/-- the fields above a field -/
def above (ps : Par) (f : Nat) : List Nat := (pathOf ps f).dropLast
theorem above_none {ps : Par} (w : WF ps) {f : Nat} (hf : f < ps.length) (h : parent ps f = none) : above ps f = [] := by unfold above; rw [path_none w hf h]; rfl
theorem above_some {ps : Par} (w : WF ps) {f p : Nat} (hf : f < ps.length) (h : parent ps f = some p) : above ps f = pathOf ps p := by unfold above; rw [path_some w hf h]; simp
theorem path_above {ps : Par} (w : WF ps) {f : Nat} (hf : f < ps.length) : pathOf ps f = above ps f ++ [f] := by
  cases h : parent ps f with
  | none => rw [above_none w hf h, path_none w hf h]; rfl
  | some p => rw [above_some w hf h, path_some w hf h]
/-- what stands above a field is a parent -/
theorem above_parent {ps : Par} (w : WF ps) {f : Nat} (hf : f < ps.length) : ∀ g ∈ above ps f, ∃ c, parent ps c = some g := by
  refine w.ind (P := fun f => ∀ g ∈ above ps f, ∃ c, parent ps c = some g) (fun f hf ih => ?_) f hf
  intro g hg
  cases h : parent ps f with
  | none => rw [above_none w hf h] at hg; cases hg
  | some p =>
    rw [above_some w hf h, path_above w (w.lt hf h)] at hg
    rcases List.mem_append.mp hg with hg | hg
    · exact ih p h g hg
    · rw [List.mem_singleton] at hg
      subst hg
      exact ⟨f, h⟩
/-- the value of a raised field -/
def rz (k : Kd) : Int := if k = .down then -1 else 1
theorem rz_ne {k} : rz k ≠ 0 := by unfold rz; split <;> decide
def Bin (ps : Par) (ks : List Kd) (x : Rec) : Prop := ∀ g, g < ps.length → at_ x g = 0 ∨ at_ x g = rz (kd ks g)
theorem Bin.mrg {ps : Par} {ks a b} (ha : Bin ps ks a) (hb : Bin ps ks b) : Bin ps ks (mrg ps ks a b) := fun g hg => by
  rcases mrg_or (ks := ks) (a := a) (b := b) hg with e | e
  · rw [e]; exact ha g hg
  · rw [e]; exact hb g hg
def foldE (ps : Par) (ks : List Kd) : List Rec → Rec
  | [] => []
  | x :: xs => xs.foldl (mrg ps ks) x
theorem foldE_ind {ps : Par} {ks} {P : Rec → Prop} (hm : ∀ a b, P a → P b → P (mrg ps ks a b)) : ∀ {rs : List Rec}, rs ≠ [] → (∀ x ∈ rs, P x) → P (foldE ps ks rs)
  | [], h, _ => absurd rfl h
  | x :: xs, _, h => by
    show P (xs.foldl (mrg ps ks) x)
    have : ∀ (l : List Rec) (y : Rec), P y → (∀ z ∈ l, P z) → P (l.foldl (mrg ps ks) y) := by
      intro l
      induction l with
      | nil => intro y hy _; exact hy
      | cons z l ih => intro y hy hl; exact ih _ (hm _ _ hy (hl z (List.mem_cons_self ..))) fun u hu => hl u (List.mem_cons_of_mem _ hu)
    exact this xs x (h x (List.mem_cons_self ..)) fun z hz => h z (List.mem_cons_of_mem _ hz)
def Full (ps : Par) (ks : List Kd) (x : Rec) (f : Nat) : Prop := ∀ g ∈ pathOf ps f, at_ x g = rz (kd ks g)
/-- some field above f is not raised -/
def Low (ps : Par) (x : Rec) (f : Nat) : Prop := ∃ g ∈ above ps f, at_ x g = 0
theorem Low.mrg {ps : Par} (w : WF ps) {ks a b} {f : Nat} (hf : f < ps.length) (ha : Low ps a f) (hb : Low ps b f) : Low ps (mrg ps ks a b) f := by
  cases h : parent ps f with
  | none => obtain ⟨g, hg, _⟩ := ha; rw [above_none w hf h] at hg; cases hg
  | some p =>
    unfold Low at *
    rw [above_some w hf h] at *
    rcases mrg_path_or (ks := ks) (a := a) (b := b) w (w.lt hf h) with e | e
    · obtain ⟨g, hg, z⟩ := ha; exact ⟨g, hg, by rw [e g hg]; exact z⟩
    · obtain ⟨g, hg, z⟩ := hb; exact ⟨g, hg, by rw [e g hg]; exact z⟩
def Mid (ps : Par) (ks : List Kd) : Prop := ∀ f p, parent ps f = some p → kd ks p = .up ∨ kd ks p = .down
theorem low_first {ps : Par} (w : WF ps) {a b : Rec} {f g : Nat} (hf : f < ps.length) (hg : g ∈ above ps f) (ne : at_ a g ≠ at_ b g) : ∃ h ∈ above ps f, unlike (pathOf ps f) a b = some h := by
  rw [path_above w hf, unlike_app]
  cases e : unlike (above ps f) a b with
  | none => exact absurd (unlike_none e g hg) ne
  | some h => exact ⟨h, (unlike_some e).1, rfl⟩
theorem better_rz {k : Kd} (h : k = .up ∨ k = .down) : better k (rz k) 0 = true ∧ better k 0 (rz k) = false := by rcases h with rfl | rfl <;> decide
theorem win_old {ps : Par} (w : WF ps) {ks a b} (m : Mid ps ks) {f : Nat} (hf : f < ps.length) (ha : Full ps ks a f) (hb : Bin ps ks b) (hl : kd ks f = .last → Low ps b f) : Full ps ks (mrg ps ks a b) f := by
  have key : olderWins ks a b (unlike (pathOf ps f) a b) = true := by
    cases e : unlike (pathOf ps f) a b with
    | none => rfl
    | some h =>
      obtain ⟨hm, ne⟩ := unlike_some e
      have e1 := ha h hm
      have e2 : at_ b h = 0 := by
        rcases hb h (path_lt w hf h hm) with z | z
        · exact z
        · rw [z] at ne; exact absurd e1 ne
      have up : (kd ks h = .up ∨ kd ks h = .down) → olderWins ks a b (some h) = true := fun q => by
        unfold olderWins
        simp only [e1, e2, (better_rz q).1, Bool.or_true]
      rw [path_above w hf] at hm
      rcases List.mem_append.mp hm with q | q
      · obtain ⟨c, hc⟩ := above_parent w hf h q
        exact up (m c h hc)
      · rw [List.mem_singleton] at q
        subst q
        cases hk : kd ks h with
        | up => exact up (.inl hk)
        | down => exact up (.inr hk)
        | first => unfold olderWins; simp [hk]
        | last =>
          obtain ⟨g, hg, z⟩ := hl hk
          have hgp : g ∈ pathOf ps h := by rw [path_above w hf]; exact List.mem_append_left _ hg
          obtain ⟨h', hh, e'⟩ := low_first (a := a) (b := b) w hf hg (by rw [ha g hgp, z]; exact rz_ne)
          rw [e] at e'
          cases e'
          obtain ⟨c, hc⟩ := above_parent w hf _ hh
          rcases m c _ hc with z | z <;> rw [hk] at z <;> cases z
  intro g hg
  rw [mrg_path w hf g hg, if_pos key]
  exact ha g hg
theorem win_new {ps : Par} (w : WF ps) {ks a b} (m : Mid ps ks) {f : Nat} (hf : f < ps.length) (ha : Bin ps ks a) (hb : Full ps ks b f) (hl : kd ks f = .first → Low ps a f) : Full ps ks (mrg ps ks a b) f := by
  cases e : unlike (pathOf ps f) a b with
  | none =>
    intro g hg
    rw [mrg_path w hf g hg, e]
    show at_ a g = _
    rw [unlike_none e g hg]
    exact hb g hg
  | some h =>
    have key : olderWins ks a b (some h) = false := by
      obtain ⟨hm, ne⟩ := unlike_some e
      have e1 := hb h hm
      have e2 : at_ a h = 0 := by
        rcases ha h (path_lt w hf h hm) with z | z
        · exact z
        · rw [z] at ne; exact absurd e1.symm ne
      have up : (kd ks h = .up ∨ kd ks h = .down) → olderWins ks a b (some h) = false := fun q => by
        unfold olderWins
        simp only [e1, e2, (better_rz q).2, Bool.or_false]
        rcases q with q | q <;> rw [q] <;> rfl
      rw [path_above w hf] at hm
      rcases List.mem_append.mp hm with q | q
      · obtain ⟨c, hc⟩ := above_parent w hf h q
        exact up (m c h hc)
      · rw [List.mem_singleton] at q
        subst q
        cases hk : kd ks h with
        | up => exact up (.inl hk)
        | down => exact up (.inr hk)
        | last => unfold olderWins; simp [hk, better]
        | first =>
          obtain ⟨g, hg, z⟩ := hl hk
          have hgp : g ∈ pathOf ps h := by rw [path_above w hf]; exact List.mem_append_left _ hg
          obtain ⟨h', hh, e'⟩ := low_first (a := a) (b := b) w hf hg (by rw [hb g hgp, z]; exact Ne.symm rz_ne)
          rw [e] at e'
          cases e'
          obtain ⟨c, hc⟩ := above_parent w hf _ hh
          rcases m c _ hc with z | z <;> rw [hk] at z <;> cases z
    intro g hg
    rw [mrg_path w hf g hg, e, if_neg (by rw [key]; decide)]
    exact hb g hg
theorem foldE_app {ps : Par} {ks} : ∀ {A : List Rec} {r : Rec} {B : List Rec}, foldE ps ks (A ++ r :: B) = B.foldl (mrg ps ks) (match A with | [] => r | _ => mrg ps ks (foldE ps ks A) r)
  | [], r, B => rfl
  | x :: A, r, B => by
    show (A ++ r :: B).foldl (mrg ps ks) x = _
    rw [List.foldl_append]
    rfl
/-- a record that is full along f's path decides f -/
theorem fold_full {ps : Par} (w : WF ps) {ks} (m : Mid ps ks) {f : Nat} (hf : f < ps.length) {A B : List Rec} {r : Rec} (hr : Full ps ks r f) (hA : ∀ x ∈ A, Bin ps ks x) (hB : ∀ x ∈ B, Bin ps ks x) (lA : kd ks f = .first → ∀ x ∈ A, Low ps x f) (lB : kd ks f = .last → ∀ x ∈ B, Low ps x f) :
    Full ps ks (foldE ps ks (A ++ r :: B)) f := by
  rw [foldE_app]
  have tail : ∀ (B : List Rec) (y : Rec), Full ps ks y f → (∀ x ∈ B, Bin ps ks x) → (kd ks f = .last → ∀ x ∈ B, Low ps x f) → Full ps ks (B.foldl (mrg ps ks) y) f := by
    intro B
    induction B with
    | nil => intro y hy _ _; exact hy
    | cons b B ih => intro y hy h1 h2; exact ih _ (win_old w m hf hy (h1 b (List.mem_cons_self ..)) fun z => h2 z b (List.mem_cons_self ..)) (fun x hx => h1 x (List.mem_cons_of_mem _ hx)) fun z x hx => h2 z x (List.mem_cons_of_mem _ hx)
  refine tail B _ ?_ hB lB
  cases A with
  | nil => exact hr
  | cons x A => exact win_new w m hf (foldE_ind (P := Bin ps ks) (fun a b ha hb => ha.mrg hb) (by simp) hA) hr fun z => foldE_ind (P := fun x => Low ps x f) (fun a b ha hb => Low.mrg w hf ha hb) (by simp) (lA z)
theorem fold_zero {ps : Par} {ks} {f : Nat} (hf : f < ps.length) {rs : List Rec} (h : rs ≠ []) (hz : ∀ x ∈ rs, at_ x f = 0) : at_ (foldE ps ks rs) f = 0 :=
  foldE_ind (P := fun x => at_ x f = 0) (fun a b ha hb => by rcases mrg_or (ks := ks) (a := a) (b := b) hf with e | e <;> rw [e] <;> assumption) h hz
theorem fold_len {ps : Par} {ks} {rs : List Rec} (h : rs ≠ []) (hz : ∀ x ∈ rs, x.length = ps.length) : (foldE ps ks rs).length = ps.length :=
  foldE_ind (P := fun x => x.length = ps.length) (fun a b _ _ => mrg_len) h hz
end FR
set_option Elab.async false
set_option linter.all false
/-! plain: bearer classes -/
namespace FR
/-- the children of a field, or the roots -/
def chn (ps : Par) (o : Option Nat) : List Nat := (List.range ps.length).filter fun f => decide (parent ps f = o)
/-- those of one kind -/
def hang (ps : Par) (ks : List Kd) (o : Option Nat) (k : Kd) : List Nat := (chn ps o).filter fun f => decide (kd ks f = k)
def plcs (ps : Par) : List (Option Nat) := none :: (List.range ps.length).map some
def hangs (ps : Par) (ks : List Kd) (k : Kd) : List (Option Nat × List Nat) := ((plcs ps).map fun o => (o, hang ps ks o k)).filter fun p => !p.2.isEmpty
def hd (c : List Nat) : Nat := c.headD 0
def plen (ps : Par) (c : List Nat) : Nat := (pathOf ps (hd c)).length
def clsK (ps : Par) (ks : List Kd) (k : Kd) : List (List Nat) := ((hangs ps ks k).map Prod.snd).mergeSort fun a b => decide (plen ps a ≤ plen ps b)
def leafP (ps : Par) (ks : List Kd) : List (List Nat) := ((List.range ps.length).filter fun f => !(ps.contains (some f)) && (decide (kd ks f = .up) || decide (kd ks f = .down))).map fun f => [f]
def classes (ps : Par) (ks : List Kd) : List (List Nat) := clsK ps ks .first ++ leafP ps ks ++ (clsK ps ks .last).reverse
def lifted (ps : Par) (c : List Nat) : List Nat := above ps (hd c) ++ c
def rowOf (ps : Par) (ks : List Kd) (c : List Nat) : Rec := (List.range ps.length).map fun f => if f ∈ lifted ps c then rz (kd ks f) else 0
def needy (ps : Par) (ks : List Kd) : List Rec := (classes ps ks).map (rowOf ps ks)
theorem row_at {ps : Par} {ks c} {f : Nat} (h : f < ps.length) : at_ (rowOf ps ks c) f = if f ∈ lifted ps c then rz (kd ks f) else 0 := by
  unfold at_ rowOf
  rw [List.getD_eq_getElem?_getD, List.getElem?_map, List.getElem?_range h]
  rfl
theorem row_bin {ps : Par} {ks c} : Bin ps ks (rowOf ps ks c) := fun g hg => by rw [row_at hg]; split <;> simp
theorem row_len {ps : Par} {ks c} : (rowOf ps ks c).length = ps.length := by unfold rowOf; simp
theorem mem_hang {ps : Par} {ks o k} {f : Nat} : f ∈ hang ps ks o k ↔ f < ps.length ∧ parent ps f = o ∧ kd ks f = k := by
  unfold hang chn
  simp only [List.mem_filter, List.mem_range, decide_eq_true_eq, and_assoc]
/-- a class of leaves that are told by their place -/
def IsH (ps : Par) (ks : List Kd) (k : Kd) (c : List Nat) : Prop := ∃ o, c = hang ps ks o k ∧ c ≠ []
theorem mem_clsK {ps : Par} {ks k} {c : List Nat} (h : c ∈ clsK ps ks k) : IsH ps ks k c := by
  unfold clsK at h
  rw [List.mem_mergeSort] at h
  obtain ⟨⟨o, l⟩, hp, rfl⟩ := List.mem_map.mp h
  unfold hangs at hp
  obtain ⟨hp, ne⟩ := List.mem_filter.mp hp
  obtain ⟨o', _, e⟩ := List.mem_map.mp hp
  injection e with e1 e2
  exact ⟨o', e2.symm, by simpa using ne⟩
theorem hd_mem {c : List Nat} (h : c ≠ []) : hd c ∈ c := by cases c with
  | nil => exact absurd rfl h
  | cons x r => simp [hd]
theorem IsH.hd {ps : Par} {ks k} {c : List Nat} (h : IsH ps ks k c) : hd c ∈ c ∧ hd c < ps.length ∧ kd ks (hd c) = k ∧ c = hang ps ks (parent ps (hd c)) k := by
  obtain ⟨o, e, ne⟩ := h
  have m := hd_mem ne
  have m2 := m
  rw [e] at m2
  obtain ⟨h1, h2, h3⟩ := mem_hang.mp m2
  rw [← e] at h1 h2 h3
  exact ⟨m, h1, h3, by rw [h2]; exact e⟩
theorem IsH.mem {ps : Par} {ks k} {c : List Nat} (h : IsH ps ks k c) {f : Nat} (hf : f ∈ c) : f < ps.length ∧ kd ks f = k ∧ c = hang ps ks (parent ps f) k := by
  obtain ⟨o, e, ne⟩ := h
  rw [e] at hf
  obtain ⟨h1, h2, h3⟩ := mem_hang.mp hf
  exact ⟨h1, h3, by rw [h2]; exact e⟩
theorem plcs_nodup {ps : Par} : (plcs ps).Nodup := by
  unfold plcs
  rw [List.nodup_cons]
  refine ⟨by simp, ?_⟩
  exact List.Pairwise.map _ (fun a b h => by simpa using h) List.nodup_range
def Apart (c d : List Nat) : Prop := ∀ x ∈ c, x ∉ d
theorem Apart.symm {c d} (h : Apart c d) : Apart d c := fun x hx hc => h x hc hx
theorem clsK_apart {ps : Par} {ks k} : (clsK ps ks k).Pairwise Apart := by
  have h0 : ((hangs ps ks k).map Prod.snd).Pairwise Apart := by
    unfold hangs
    rw [List.pairwise_map]
    refine List.Pairwise.filter _ ?_
    rw [List.pairwise_map]
    refine plcs_nodup.imp fun {a b} ne x hx hy => ?_
    exact ne ((mem_hang.mp hx).2.1.symm.trans (mem_hang.mp hy).2.1)
  unfold clsK
  exact ((List.mergeSort_perm _ _).pairwise_iff fun h => h.symm).mpr h0
theorem clsK_sorted {ps : Par} {ks k} : (clsK ps ks k).Pairwise fun a b => plen ps a ≤ plen ps b := by
  unfold clsK
  refine (List.pairwise_mergeSort (le := fun a b => decide (plen ps a ≤ plen ps b)) (fun a b c h1 h2 => ?_) (fun a b => ?_) _).imp fun {a b} h => by simpa using h
  · simp only [decide_eq_true_eq] at *; omega
  · simp only [Bool.or_eq_true, decide_eq_true_eq]; omega
theorem mem_leafP {ps : Par} {ks} {c : List Nat} (h : c ∈ leafP ps ks) : ∃ f, c = [f] ∧ f < ps.length ∧ (∀ g, parent ps g ≠ some f) ∧ (kd ks f = .up ∨ kd ks f = .down) := by
  unfold leafP at h
  obtain ⟨f, hf, rfl⟩ := List.mem_map.mp h
  obtain ⟨h1, h2⟩ := List.mem_filter.mp hf
  rw [List.mem_range] at h1
  simp only [Bool.and_eq_true, Bool.not_eq_true', Bool.or_eq_true, decide_eq_true_eq] at h2
  refine ⟨f, rfl, h1, fun g e => ?_, h2.2⟩
  have : ps.contains (some f) = true := by
    rw [List.contains_iff_mem]
    unfold parent at e
    cases q : ps[g]? with
    | none => rw [q] at e; cases e
    | some o =>
      rw [q] at e
      have e : o = some f := e
      rw [← e]
      exact List.mem_of_getElem? q
  rw [this] at h2
  exact absurd h2.1 (by decide)
theorem leafP_apart {ps : Par} {ks} : (leafP ps ks).Pairwise Apart := by
  unfold leafP
  rw [List.pairwise_map]
  refine List.Pairwise.filter _ (List.nodup_range.imp fun {a b} ne x hx hy => ?_)
  rw [List.mem_singleton] at hx hy
  exact ne (hx.symm.trans hy)
/-- what a class is -/
structure Cl (ps : Par) (ks : List Kd) (c : List Nat) : Prop where
  ne : c ≠ []
  lt : ∀ f ∈ c, f < ps.length
  kin : ∀ f ∈ c, kd ks f = kd ks (hd c)
  leaf : ∀ f ∈ c, ∀ g, parent ps g ≠ some f
theorem cl_of {ps : Par} {ks} (m : Mid ps ks) {c : List Nat} (h : c ∈ classes ps ks) : Cl ps ks c := by
  have hk : ∀ k, (k = .first ∨ k = .last) → IsH ps ks k c → Cl ps ks c := fun k hk h => by
    obtain ⟨h1, h2, h3, h4⟩ := h.hd
    refine ⟨fun e => by (rw [e] at h1; cases h1), fun f hf => (h.mem hf).1, fun f hf => by rw [(h.mem hf).2.1, h3], fun f hf g e => ?_⟩
    have := (h.mem hf).2.1
    rcases m g f e with z | z <;> rw [this] at z <;> rcases hk with rfl | rfl <;> cases z
  unfold classes at h
  rcases List.mem_append.mp h with h | h
  · rcases List.mem_append.mp h with h | h
    · exact hk .first (.inl rfl) (mem_clsK h)
    · obtain ⟨f, rfl, h1, h2, h3⟩ := mem_leafP h
      exact ⟨by simp, fun g hg => by rw [List.mem_singleton] at hg; rw [hg]; exact h1, fun g hg => by rw [List.mem_singleton] at hg; rw [hg]; rfl, fun g hg => by rw [List.mem_singleton] at hg; rw [hg]; exact h2⟩
  · exact hk .last (.inr rfl) (mem_clsK (List.mem_reverse.mp h))
theorem kin_first {ps : Par} {ks} {c : List Nat} (h : c ∈ clsK ps ks .first) : kd ks (hd c) = .first := (mem_clsK h).hd.2.2.1
theorem kin_last {ps : Par} {ks} {c : List Nat} (h : c ∈ (clsK ps ks .last).reverse) : kd ks (hd c) = .last := (mem_clsK (List.mem_reverse.mp h)).hd.2.2.1
theorem kin_plain {ps : Par} {ks} {c : List Nat} (h : c ∈ leafP ps ks) : kd ks (hd c) = .up ∨ kd ks (hd c) = .down := by
  obtain ⟨f, rfl, _, _, h3⟩ := mem_leafP h
  exact h3
theorem kinds_apart {ps : Par} {ks} {c d : List Nat} (hc : Cl ps ks c) (hd' : Cl ps ks d) (ne : kd ks (hd c) ≠ kd ks (hd d)) : Apart c d := fun x h1 h2 => ne ((hc.kin x h1).symm.trans (hd'.kin x h2))
theorem classes_apart {ps : Par} {ks} (m : Mid ps ks) : (classes ps ks).Pairwise Apart := by
  have cl : ∀ c ∈ classes ps ks, Cl ps ks c := fun c hc => cl_of m hc
  have cl1 : ∀ c ∈ clsK ps ks .first, Cl ps ks c := fun c hc => cl c (by unfold classes; simp [hc])
  have cl2 : ∀ c ∈ leafP ps ks, Cl ps ks c := fun c hc => cl c (by unfold classes; simp [hc])
  have cl3 : ∀ c ∈ (clsK ps ks .last).reverse, Cl ps ks c := fun c hc => cl c (by unfold classes; rw [List.mem_append]; exact .inr hc)
  unfold classes
  rw [List.pairwise_append, List.pairwise_append]
  refine ⟨⟨clsK_apart, leafP_apart, fun c hc d hd' => kinds_apart (cl1 c hc) (cl2 d hd') ?_⟩, ?_, fun c hc d hd' => ?_⟩
  · rw [kin_first hc]; rcases kin_plain hd' with e | e <;> rw [e] <;> decide
  · rw [List.pairwise_reverse]; exact clsK_apart.imp fun h => h.symm
  · rcases List.mem_append.mp hc with hc | hc
    · exact kinds_apart (cl1 c hc) (cl3 d hd') (by rw [kin_first hc, kin_last hd']; decide)
    · exact kinds_apart (cl2 c hc) (cl3 d hd') (by rw [kin_last hd']; rcases kin_plain hc with e | e <;> rw [e] <;> decide)
/-- of two classes of one kind the one that lies no deeper is low above the other -/
theorem low_of {ps : Par} (w : WF ps) {ks} (m : Mid ps ks) {k : Kd} (hk : k = .first ∨ k = .last) {c d : List Nat} (hc : IsH ps ks k c) (hd' : IsH ps ks k d) (ap : Apart d c) (le : plen ps d ≤ plen ps c) : Low ps (rowOf ps ks d) (hd c) := by
  obtain ⟨c1, c2, c3, c4⟩ := hc.hd
  obtain ⟨d1, d2, d3, d4⟩ := hd'.hd
  have same : parent ps (hd d) = parent ps (hd c) → False := fun e => by
    have : d = c := by rw [d4, c4, e]
    subst this
    exact ap _ c1 c1
  have notd : ∀ g ∈ above ps (hd c), g ∉ d := fun g hg hgd => by
    obtain ⟨x, hx⟩ := above_parent w c2 g hg
    have := (hd'.mem hgd).2.1
    rcases m x g hx with z | z <;> rw [this] at z <;> rcases hk with rfl | rfl <;> cases z
  unfold plen at le
  rw [path_above w c2, path_above w d2, List.length_append, List.length_append] at le
  simp only [List.length_cons, List.length_nil] at le
  cases hp : parent ps (hd c) with
  | none =>
    rw [above_none w c2 hp] at le
    cases hq : parent ps (hd d) with
    | none => exact absurd (hq.trans hp.symm) same
    | some q =>
      rw [above_some w d2 hq] at le
      have : 0 < (pathOf ps q).length := List.length_pos_iff.mpr path_ne
      rw [List.length_nil] at le
      omega
  | some p =>
    have pl := w.lt c2 hp
    have hpa : p ∈ above ps (hd c) := by rw [above_some w c2 hp]; exact mem_path_self w pl
    refine ⟨p, hpa, ?_⟩
    rw [row_at pl, if_neg]
    intro hl
    unfold lifted at hl
    rcases List.mem_append.mp hl with hl | hl
    · cases hq : parent ps (hd d) with
      | none => rw [above_none w d2 hq] at hl; cases hl
      | some q =>
        rw [above_some w c2 hp, above_some w d2 hq] at le
        rw [above_some w d2 hq] at hl
        have ql := w.lt d2 hq
        obtain ⟨r, e⟩ := path_pre w ql p hl
        have hr : r = [] := by
          have := congrArg List.length e
          rw [List.length_append] at this
          exact List.length_eq_zero_iff.mp (by omega)
        subst hr
        rw [List.append_nil, path_above w ql, path_above w pl] at e
        have := (List.append_inj' e rfl).2
        injection this with this
        exact same (by rw [hp, hq, this])
    · exact notd p hpa hl
theorem split_kin {α : Type} {P : α → Prop} {X Y A B : List α} {c : α} (e : X ++ Y = A ++ c :: B) (hY : ∀ y ∈ Y, ¬ P y) (hc : P c) : ∃ B', X = A ++ c :: B' ∧ B = B' ++ Y := by
  rcases List.append_eq_append_iff.mp e with ⟨as, h1, h2⟩ | ⟨bs, h1, h2⟩
  · cases as with
    | nil =>
      rw [List.nil_append] at h2
      exact absurd hc (hY c (by rw [h2]; simp))
    | cons z as =>
      rw [h2] at hY
      exact absurd hc (hY c (by simp))
  · cases bs with
    | nil =>
      rw [List.nil_append] at h2
      exact absurd hc (hY c (by rw [← h2]; simp))
    | cons z bs =>
      rw [List.cons_append] at h2
      injection h2 with h2 h3
      subst h2
      exact ⟨bs, h1, h3⟩
theorem full_row {ps : Par} (w : WF ps) {ks} {c : List Nat} (hc : Cl ps ks c) : Full ps ks (rowOf ps ks c) (hd c) := fun g hg => by
  have hl := hc.lt _ (hd_mem hc.ne)
  rw [row_at (path_lt w hl g hg), if_pos]
  rw [path_above w hl] at hg
  unfold lifted
  rcases List.mem_append.mp hg with hg | hg
  · exact List.mem_append_left _ hg
  · rw [List.mem_singleton] at hg; rw [hg]; exact List.mem_append_right _ (hd_mem hc.ne)
theorem zero_row {ps : Par} (w : WF ps) {ks} {c d : List Nat} (hc : Cl ps ks c) (hd' : Cl ps ks d) (ap : Apart d c) : at_ (rowOf ps ks d) (hd c) = 0 := by
  have hl := hc.lt _ (hd_mem hc.ne)
  rw [row_at hl, if_neg]
  intro h
  unfold lifted at h
  rcases List.mem_append.mp h with h | h
  · obtain ⟨x, hx⟩ := above_parent w (hd'.lt _ (hd_mem hd'.ne)) _ h
    exact hc.leaf _ (hd_mem hc.ne) x hx
  · exact ap _ h (hd_mem hc.ne)
/-- each record of the needy row is needed -/
theorem needs {ps : Par} (w : WF ps) {ks} (m : Mid ps ks) {A B : List Rec} {r : Rec} (e : needy ps ks = A ++ r :: B) (ne : A ++ B ≠ []) : foldE ps ks (A ++ B) ≠ foldE ps ks (A ++ r :: B) := by
  unfold needy at e
  obtain ⟨A', B0, e1, rfl, e2⟩ := List.map_eq_append_iff.mp e
  obtain ⟨c, B', rfl, rfl, rfl⟩ := List.map_eq_cons_iff.mp e2
  have cl : ∀ d ∈ A' ++ c :: B', Cl ps ks d := fun d hd' => cl_of m (by rw [e1]; exact hd')
  have hc := cl c (by simp)
  have hl := hc.lt _ (hd_mem hc.ne)
  have ap := classes_apart (ps := ps) m
  rw [e1, List.pairwise_append, List.pairwise_cons] at ap
  obtain ⟨ap1, ⟨ap2, ap3⟩, ap4⟩ := ap
  have apA : ∀ d ∈ A', Apart d c := fun d hd' => ap4 d hd' c (by simp)
  have apB : ∀ d ∈ B', Apart d c := fun d hd' => (ap2 d hd').symm
  have lA : kd ks (hd c) = .first → ∀ x ∈ A'.map (rowOf ps ks), Low ps x (hd c) := fun hk x hx => by
    obtain ⟨d, hd', rfl⟩ := List.mem_map.mp hx
    unfold classes at e1
    rw [List.append_assoc] at e1
    obtain ⟨B2, e3, _⟩ := split_kin (P := fun c => kd ks (hd c) = .first) e1 (fun y hy z => by
      rcases List.mem_append.mp hy with hy | hy
      · rcases kin_plain hy with q | q <;> rw [q] at z <;> cases z
      · rw [kin_last hy] at z; cases z) hk
    have so := clsK_sorted (ps := ps) (ks := ks) (k := .first)
    rw [e3, List.pairwise_append] at so
    exact low_of w m (.inl rfl) (mem_clsK (by rw [e3]; simp)) (mem_clsK (by rw [e3]; exact List.mem_append_left _ hd')) (apA d hd') (so.2.2 d hd' c (by simp))
  have lB : kd ks (hd c) = .last → ∀ x ∈ B'.map (rowOf ps ks), Low ps x (hd c) := fun hk x hx => by
    obtain ⟨d, hd', rfl⟩ := List.mem_map.mp hx
    have e4 := congrArg List.reverse e1
    unfold classes at e4
    rw [List.reverse_append, List.reverse_reverse, List.reverse_append, List.reverse_append, List.reverse_cons, List.append_assoc, List.singleton_append] at e4
    obtain ⟨B2, e3, _⟩ := split_kin (P := fun c => kd ks (hd c) = .last) e4 (fun y hy z => by
      rcases List.mem_append.mp hy with hy | hy
      · rcases kin_plain (List.mem_reverse.mp hy) with q | q <;> rw [q] at z <;> cases z
      · rw [kin_first (List.mem_reverse.mp hy)] at z; cases z) hk
    have so := clsK_sorted (ps := ps) (ks := ks) (k := .last)
    rw [e3, List.pairwise_append] at so
    have hd2 : d ∈ B'.reverse := List.mem_reverse.mpr hd'
    exact low_of w m (.inr rfl) (mem_clsK (by rw [e3]; simp)) (mem_clsK (by rw [e3]; exact List.mem_append_left _ hd2)) (apB d hd') (so.2.2 d hd2 c (by simp))
  have bin : ∀ (l : List (List Nat)), ∀ x ∈ l.map (rowOf ps ks), Bin ps ks x := fun l x hx => by obtain ⟨d, _, rfl⟩ := List.mem_map.mp hx; exact row_bin
  have full := fold_full w m hl (full_row w hc) (bin A') (bin B') lA lB (hd c) (mem_path_self w hl)
  have zero : at_ (foldE ps ks (A'.map (rowOf ps ks) ++ B'.map (rowOf ps ks))) (hd c) = 0 := fold_zero hl ne fun x hx => by
    rcases List.mem_append.mp hx with hx | hx
    · obtain ⟨d, hd', rfl⟩ := List.mem_map.mp hx
      exact zero_row w hc (cl d (by simp [hd'])) (apA d hd')
    · obtain ⟨d, hd', rfl⟩ := List.mem_map.mp hx
      exact zero_row w hc (cl d (by simp [hd'])) (apB d hd')
  intro q
  rw [q, full] at zero
  exact rz_ne zero
theorem needy_ne {ps : Par} {ks} (h : classes ps ks ≠ []) : needy ps ks ≠ [] := by unfold needy; simpa using h
end FR
set_option Elab.async false
set_option linter.all false
set_option maxRecDepth 100000
namespace Z3
open PySem L2
local macro_rules | `(tactic| walk_at "x") => `(tactic| try simp only [tLcP_, rRepr_, tSortL_, tSq_, tIfS_, tTt_, tO_, tV_, tK_, rEq_, rNe_, start3_eq, ends_rt, ends_nx, tRt_, tRn_, tNx_, tEx_, tAs_, gN_, gIx_, tIsN_, tNotN_, tNeg_, rIx_, tMt_, rApp_, rPop_, rIns_, tCB_, rLen_, rList_, rTuple_, tC_, tN_, tLst_, tTup_, tRev_, tSl_, tPa_, tNo_,
    tAnd_, tOr_, tNot_, tAndV_, tOrV_, tNotV_, tIf_, tChain_, rIn_, iSeq_, iR1_, iR2_, tLr1_, tFor_, tWh_, tLc_, tY_, tCl_, tMe_, tFl_, tSf_, tMk_, tPr_, tBk_, tCt_, tNv_,
    sl_some, asB_bl, asI_int, asR_ref, as1_one, as2_two, items_tup, items_rls, items_lst, lstAt_lst, rAdd_int, rAdd_tup, rAdd_lst, rSub_int, rMul_int, rDiv_int, rMod_int, rPow_int, rI_int, rInt_int, rInt_bl, rAbs_int, eqK_some, sc_ii, sc_ss, sc_bb, sc_ni, sc_in, sc_nn,
    isN_non, isN_int, isN_ref, isN_tup, isN_bl, isN_str, sl3_tup, sl3_ref, up_same, List.map_cons, List.map_nil, List.length_cons, List.length_nil, List.cons_append, List.nil_append, List.getElem?_cons_succ, List.getElem?_cons_zero, List.set_cons_zero, List.set_cons_succ, List.replicate_zero, List.replicate_succ, List.append_nil,
    Option.some.injEq, MO.lst.injEq, exists_eq_left', exists_eq_left, exists_eq', and_true, true_and, if_true, Bool.false_eq_true, if_false, reduceIte, Nat.zero_add, Nat.reduceAdd, Nat.reduceSub, Nat.reduceLeDiff, Bool.not_true, Bool.not_false, ne_eq, not_true_eq_false, not_false_eq_true, atI_z, atI_o, ixN_z, ixN_o, Int.reduceLE, Int.reduceLT, Int.reduceNeg, Int.reduceToNat, Int.reducePow, Int.reduceAdd, Int.reduceMul, Int.reduceSub, natAbs10, Nat.reducePow, Nat.reduceLT, Int.reduceEq, decide_true, decide_false, true_or, or_true, false_or, or_false, and_false, false_and])

local macro_rules | `(tactic| walk_at "xs") => `(tactic| try simp only [tLcP_, rRepr_, tSortL_, tSq_, tIfS_, tTt_, tO_, tV_, tK_, rEq_, rNe_, start3_eq, ends_rt, ends_nx, tRt_, tRn_, tNx_, tEx_, tAs_, gN_, gIx_, tIsN_, tNotN_, tNeg_, rIx_, tMt_, rApp_, rPop_, rIns_, tCB_, rLen_, rList_, rTuple_, tC_, tN_, tLst_, tTup_, tRev_, tSl_, tPa_, tNo_,
    tAnd_, tOr_, tNot_, tAndV_, tOrV_, tNotV_, tIf_, tChain_, rIn_, iSeq_, iR1_, iR2_, tLr1_, tFor_, tWh_, tLc_, tY_, tCl_, tMe_, tFl_, tSf_, tMk_, tPr_, tBk_, tCt_, tNv_,
    sl_some, asB_bl, asI_int, asR_ref, as1_one, as2_two, items_tup, items_rls, items_lst, lstAt_lst, rAdd_int, rAdd_tup, rAdd_lst, rSub_int, rMul_int, rDiv_int, rMod_int, rPow_int, rI_int, rInt_int, rInt_bl, rAbs_int, eqK_some, sc_ii, sc_ss, sc_bb, sc_ni, sc_in, sc_nn,
    isN_non, isN_int, isN_ref, isN_tup, isN_bl, isN_str, sl3_tup, sl3_ref, up_same, List.map_cons, List.map_nil, List.length_cons, List.length_nil, List.cons_append, List.nil_append, List.getElem?_cons_succ, List.getElem?_cons_zero, List.set_cons_zero, List.set_cons_succ, List.replicate_zero, List.replicate_succ, List.append_nil,
    Option.some.injEq, MO.lst.injEq, exists_eq_left', exists_eq_left, exists_eq', and_true, true_and, if_true, Bool.false_eq_true, if_false, reduceIte, Nat.zero_add, Nat.reduceAdd, Nat.reduceSub, Nat.reduceLeDiff, Bool.not_true, Bool.not_false, ne_eq, not_true_eq_false, not_false_eq_true, atI_z, atI_o, ixN_z, ixN_o, Int.reduceLE, Int.reduceLT, Int.reduceNeg, Int.reduceToNat, Int.reducePow, Int.reduceAdd, Int.reduceMul, Int.reduceSub, natAbs10, Nat.reducePow, Nat.reduceLT, Int.reduceEq, decide_true, decide_false, true_or, or_true, false_or, or_false, and_false, false_and, *])

/-! ## how the data lie -/
def wI (n : Nat) : W := .int n
def wO : Option Nat → W
  | none => .non
  | some p => .int p
def kS : FR.Kd → Str
  | .up => "up"
  | .down => "down"
  | .first => "first"
  | .last => "last"
def wK (k : FR.Kd) : W := .str (kS k)
def wR (x : FR.Rec) : W := .tup (x.map .int)
theorem get_at {x : FR.Rec} {f : Nat} (h : f < x.length) : x[f]? = some (FR.at_ x f) := by unfold FR.at_; rw [List.getD_eq_getElem?_getD, List.getElem?_eq_getElem h]; rfl
theorem get_par {ps : FR.Par} {f : Nat} (h : f < ps.length) : ps[f]? = some (FR.parent ps f) := by unfold FR.parent; rw [List.getElem?_eq_getElem h]; rfl
theorem get_kd {ks : List FR.Kd} {f : Nat} (h : f < ks.length) : ks[f]? = some (FR.kd ks f) := by unfold FR.kd; rw [List.getD_eq_getElem?_getD, List.getElem?_eq_getElem h]; rfl
theorem kS_up : (kS k = "up") = (k = .up) := by cases k <;> simp [kS] <;> decide
theorem kS_down : (kS k = "down") = (k = .down) := by cases k <;> simp [kS] <;> decide
theorem kS_first : (kS k = "first") = (k = .first) := by cases k <;> simp [kS] <;> decide
theorem kS_last : (kS k = "last") = (k = .last) := by cases k <;> simp [kS] <;> decide

def sp_better : Sp3 := fun ws M Q _ => ∃ k i j, ws = [wK k, .int i, .int j] ∧ Q (.bl (FR.better k i j)) M
def rd_better : TS3 :=
  (tSq (tIfS3 (tTt (tO rEq3 (tV 0) (tK (.str ("up" : Str))))) (tRt3 (tO rGt3 (tV 1) (tV 2))) tNx3)
    (tSq (tIfS3 (tTt (tO rEq3 (tV 0) (tK (.str ("down" : Str))))) (tRt3 (tO rLt3 (tV 1) (tV 2))) tNx3)
    (tRt3 (tK (.bl false)))))

theorem sem_better : ∀ ws M Q E, sp_better ws M Q E → rd_better (ends3 Q) (start3 ["kind", "value", "other"] ws) M := by
  rintro ws M Q E ⟨k, i, j, rfl, q⟩
  unfold rd_better wK
  walk_at "x"
  simp only [kS_up, kS_down, decide_eq_true_eq]
  cases k <;> exact .of (by simpa [FR.better] using q)

def sp_path_of : Sp3 := fun ws M Q _ => ∃ wp ps f, ws = [wp, wI f] ∧ itemsOf M wp = some (ps.map wO) ∧ FR.WF ps ∧ f < ps.length ∧ ps.length < 1000 ∧ Q (.tup ((FR.pathOf ps f).map wI)) M
def rd_path_of : TS3 :=
  (tSq (tAs3 (tLst3 (tC3 (tV 1) tN3)) (gN3 2))
    (tSq (tWh3 (tTt (tNotN3 (tO rIx3 (tV 0) (tO rIx3 (tV 2) (tNeg3 (tK (.int 1))))))) (tEx3 (tMt rApp3 (tV 2) (tC3 (tO rIx3 (tV 0) (tO rIx3 (tV 2) (tNeg3 (tK (.int 1))))) tN3))))
    (tRt3 (tCB3 rTuple3 (tC3 (tRev3 (tV 2)) tN3)))))

theorem sem_path_of : ∀ ws M Q E, sp_path_of ws M Q E → rd_path_of (ends3 Q) (start3 ["parents", "field", "path"] ws) M := by
  rintro ws M Q E ⟨wp, ps, f, rfl, hw, wf, hf, hz, q⟩
  unfold rd_path_of
  walk_at "x"
  intro p hp
  refine wh_by (fun n σ M' => ∃ L g, σ = [some wp, some (wI f), some (.ref p)] ∧ M' = up M p (.lst ((L ++ [g]).map wI)) ∧ L ++ FR.upl ps g = FR.upl ps f ∧ g < ps.length ∧ n = (FR.upl ps g).length)
    ⟨_, .of ⟨[], f, rfl, rfl, rfl, hf, rfl⟩⟩ ?_
  rintro n σ M' ⟨L, g, rfl, rfl, hL, hg, rfl⟩
  have hi : itemsOf (up M p (.lst ((L ++ [g]).map wI))) wp = some (ps.map wO) := by rw [items_keep hp (by rw [hw]; rfl), hw]
  have hlen : L.length + 1 < 16777216 := by
    have h1 := congrArg List.length hL
    have h2 := FR.path_len (ps := ps) (f := f)
    unfold FR.pathOf at h2
    rw [List.length_reverse] at h2
    rw [List.length_append] at h1
    have h3 : 0 < (FR.upl ps g).length := by rw [FR.upl_eq wf hg]; simp
    omega
  walk_at "x"
  simp only [hi, atI_end, wI, asI_int, Option.some.injEq, exists_eq_left', atI_ok (get_par hg)]
  cases hpa : FR.parent ps g with
  | none =>
    simp only [wO, isN_non, Bool.not_true, Bool.false_eq_true, if_false]
    intro p2 hp2
    refine wm_le (.trans (Le.new hp) (.new hp2)) ?_
    rw [FR.upl_none wf hg hpa] at hL
    rw [← List.map_reverse, hL]
    exact q
  | some r =>
    simp only [wO, isN_int, Bool.not_false, if_true, atI_end, Option.some.injEq, exists_eq_left', asI_int, hi, atI_ok (get_par hg), hpa]
    have hr := FR.WF.lt wf hg hpa
    refine ⟨by simpa using hlen, .of ⟨_, ?_, L ++ [g], r, rfl, ?_, ?_, hr, rfl⟩⟩
    · rw [FR.upl_some wf hg hpa]; simp
    · rw [up_up]; simp [wI]
    · rw [← hL, FR.upl_some wf hg hpa]; simp

def sp_first_unlike_on : Sp3 := fun ws M Q _ => ∃ path a b n, ws = [.tup (path.map wI), wR a, wR b] ∧ (∀ f ∈ path, f < n) ∧ a.length = n ∧ b.length = n ∧ Q (wO (FR.unlike path a b)) M
def rd_first_unlike_on : TS3 :=
  (tSq (tFor3 (iSeq3 (tV 0)) (gN3 3) (tIfS3 (tTt (tO rNe3 (tO rIx3 (tV 1) (tV 3)) (tO rIx3 (tV 2) (tV 3)))) (tRt3 (tV 3)) tNx3))
    (tRt3 (tK .non)))

theorem sem_first_unlike_on : ∀ ws M Q E, sp_first_unlike_on ws M Q E → rd_first_unlike_on (ends3 Q) (start3 ["path", "first", "second", "field"] ws) M := by
  rintro ws M Q E ⟨path, a, b, n, rfl, hp, ha, hb, q⟩
  unfold rd_first_unlike_on wR
  walk_at "x"
  refine for_sq (fun i σ M' => ∃ o, σ = [some (.tup (path.map wI)), some (wR a), some (wR b), o] ∧ M' = M ∧ ∀ f ∈ path.take i, FR.at_ a f = FR.at_ b f) (.of ⟨_, rfl, rfl, by simp⟩) (fun _ _ _ _ _ => trivial) ?_ ?_
  · rintro i w σ M' hw ⟨o, rfl, rfl, hi⟩
    rw [List.getElem?_map] at hw
    obtain ⟨f, hf, rfl⟩ := Option.map_eq_some_iff.mp hw
    have hn := hp f (List.mem_of_getElem? hf)
    have ht : path.take (i + 1) = path.take i ++ [f] := by rw [List.take_add_one, hf]; rfl
    unfold wR wI
    walk_at "x"
    simp only [atI_ok (get_at (ha ▸ hn)), atI_ok (get_at (hb ▸ hn)), Option.some.injEq, exists_eq_left', sc_ii, eqK_some, asB_bl]
    by_cases e : FR.at_ a f = FR.at_ b f
    · simp only [e, decide_true, Bool.not_true, Bool.false_eq_true, if_false]
      refine .of ⟨_, rfl, rfl, fun g hg => ?_⟩
      rw [ht] at hg
      rcases List.mem_append.mp hg with hg | hg
      · exact hi g hg
      · rw [List.mem_singleton] at hg; subst hg; exact e
    · simp only [e, decide_false, Bool.not_false, if_true]
      refine .of ?_
      have : FR.unlike path a b = some f := by
        unfold FR.unlike
        rw [List.find?_eq_some_iff_getElem]
        refine ⟨by simpa using e, i, (List.getElem?_eq_some_iff.mp hf).1, (List.getElem?_eq_some_iff.mp hf).2, fun j hj => ?_⟩
        have hjl : j < path.length := Nat.lt_trans hj (List.getElem?_eq_some_iff.mp hf).1
        have := hi path[j] (by rw [List.mem_take_iff_getElem]; exact ⟨j, by omega, rfl⟩)
        simpa using this
      rw [this] at q
      exact q
  · rintro σ M' ⟨o, rfl, rfl, hi⟩
    refine .of ?_
    have : FR.unlike path a b = none := by
      unfold FR.unlike
      rw [List.find?_eq_none]
      intro f hf
      have := hi f (by rw [List.length_map, List.take_length]; exact hf)
      simpa using this
    rw [this] at q
    exact q
def sp_merged_record : Sp3 := fun ws M Q _ => ∃ wp wk ps ks a b, ws = [wp, wk, wR a, wR b] ∧ itemsOf M wp = some (ps.map wO) ∧ itemsOf M wk = some (ks.map wK) ∧ FR.WF ps ∧ ps.length < 1000 ∧ ks.length = ps.length ∧ a.length = ps.length ∧ b.length = ps.length ∧ Q (wR (FR.mrg ps ks a b)) M
def rd_merged_record : TS3 :=
  (tSq (tAs3 (tLst3 tN3) (gN3 4))
    (tSq (tFor3 (iR1 (tC3 (tCB3 rLen3 (tC3 (tV 0) tN3)) tN3)) (gN3 5) (tSq (tAs3 (tCl3 sp_first_unlike_on (tC3 (tCl3 sp_path_of (tC3 (tV 0) (tC3 (tV 5) tN3))) (tC3 (tV 2) (tC3 (tV 3) tN3)))) (gN3 6))
    (tIfS3 (tOr3 (tTt (tIsN3 (tV 6))) (tOr3 (tTt (tO rEq3 (tO rIx3 (tV 1) (tV 6)) (tK (.str ("first" : Str))))) (tTt (tCl3 sp_better (tC3 (tO rIx3 (tV 1) (tV 6)) (tC3 (tO rIx3 (tV 2) (tV 6)) (tC3 (tO rIx3 (tV 3) (tV 6)) tN3))))))) (tEx3 (tMt rApp3 (tV 4) (tC3 (tO rIx3 (tV 2) (tV 5)) tN3))) (tEx3 (tMt rApp3 (tV 4) (tC3 (tO rIx3 (tV 3) (tV 5)) tN3))))))
    (tRt3 (tCB3 rTuple3 (tC3 (tV 4) tN3)))))

theorem sem_merged_record : ∀ ws M Q E, sp_merged_record ws M Q E → rd_merged_record (ends3 Q) (start3 ["parents", "kinds", "older", "newer", "result", "field", "place"] ws) M := by
  rintro ws M Q E ⟨wp, wk, ps, ks, a, b, rfl, hwp, hwk, wf, hz, hk, ha, hb, q⟩
  unfold rd_merged_record
  walk_at "x"
  intro p hp
  have h1 : ∀ l, itemsOf (up M p (.lst l)) wp = some (ps.map wO) := fun l => by rw [items_keep hp (by rw [hwp]; rfl), hwp]
  have h2 : ∀ l, itemsOf (up M p (.lst l)) wk = some (ks.map wK) := fun l => by rw [items_keep hp (by rw [hwk]; rfl), hwk]
  refine ⟨_, h1 _, by omega, by rw [List.length_map]; omega, ?_⟩
  rw [List.length_map, Int.toNat_natCast]
  refine for_rg (fun i σ M' => ∃ o5 o6, σ = [some wp, some wk, some (wR a), some (wR b), some (.ref p), o5, o6] ∧ M' = up M p (.lst (((List.range i).map (FR.mrg1 ps ks a b)).map .int))) (.of ⟨_, _, rfl, rfl⟩) ?_ ?_
  · rintro i σ M' hi ⟨o5, o6, rfl, rfl⟩
    rw [Int.zero_add]
    walk_at "x"
    refine ⟨wp, ps, i, rfl, h1 _, wf, hi, hz, ?_⟩
    refine ⟨FR.pathOf ps i, a, b, ps.length, rfl, FR.path_lt wf hi, ha, hb, ?_⟩
    have happ : ∀ y, y = W.int (FR.mrg1 ps ks a b i) → Wk (fun σ M' => ∃ o5 o6, σ = [some wp, some wk, some (wR a), some (wR b), some (.ref p), o5, o6] ∧ M' = up M p (.lst (((List.range (i + 1)).map (FR.mrg1 ps ks a b)).map .int)))
        [some wp, some wk, some (wR a), some (wR b), some (.ref p), some (.int i), some (wO (FR.unlike (FR.pathOf ps i) a b))] (up (up M p (.lst (((List.range i).map (FR.mrg1 ps ks a b)).map .int))) p (.lst (((List.range i).map (FR.mrg1 ps ks a b)).map .int ++ [y]))) := fun y e => by
      refine .of ⟨_, _, rfl, ?_⟩
      rw [up_up, e, List.range_succ, List.map_append, List.map_append]
      rfl
    have hl : (((List.range i).map (FR.mrg1 ps ks a b)).map W.int).length < 16777216 := by simp; omega
    have ea : ∀ g, g < ps.length → atI (a.map W.int) (g : Int) = some (W.int (FR.at_ a g)) := fun g hg => atI_ok (get_at (ha ▸ hg))
    have eb : ∀ g, g < ps.length → atI (b.map W.int) (g : Int) = some (W.int (FR.at_ b g)) := fun g hg => atI_ok (get_at (hb ▸ hg))
    have ia : ∀ M, itemsOf M (wR a) = some (a.map .int) := fun _ => rfl
    have ib : ∀ M, itemsOf M (wR b) = some (b.map .int) := fun _ => rfl
    walk_at "x"
    cases hu : FR.unlike (FR.pathOf ps i) a b with
    | none =>
      rw [hu] at happ
      simp only [wO, isN_non, if_true, ia, Option.some.injEq, exists_eq_left', ea i hi]
      exact ⟨hl, happ _ (by unfold FR.mrg1; rw [hu]; rfl)⟩
    | some g =>
      rw [hu] at happ
      have hg : g < ps.length := FR.path_lt wf hi g (List.mem_of_find?_eq_some hu)
      simp only [wO, isN_int, Bool.false_eq_true, if_false, asI_int, h2, Option.some.injEq, exists_eq_left', atI_ok (get_kd (hk ▸ hg)), wK, sc_ss, eqK_some, kS_first, decide_eq_true_eq, ia, ib, ea i hi, eb i hi, ea g hg, eb g hg]
      by_cases hf : FR.kd ks g = .first
      · rw [if_pos hf]
        exact ⟨hl, happ _ (by unfold FR.mrg1; rw [hu]; simp [FR.olderWins, hf])⟩
      · rw [if_neg hf]
        refine ⟨FR.kd ks g, _, _, rfl, ?_⟩
        show (if FR.better (FR.kd ks g) (FR.at_ a g) (FR.at_ b g) = true then _ else _)
        split
        · rename_i hb2
          exact ⟨⟨_, up_same⟩, _, up_same, hl, happ _ (by unfold FR.mrg1; rw [hu]; simp [FR.olderWins, hf, hb2])⟩
        · rename_i hb2
          exact ⟨⟨_, up_same⟩, _, up_same, hl, happ _ (by unfold FR.mrg1; rw [hu]; simp [FR.olderWins, hf, hb2])⟩
  · rintro σ M' ⟨o5, o6, rfl, rfl⟩
    walk_at "x"
    exact wm_le (Le.new hp) q

def sp_check_record : Sp3 := fun ws M Q _ => ∃ n xs, ws = [.int n, .tup xs] ∧ (xs.length : Int) = n ∧ Q .non M
def rd_check_record : TS3 :=
  (tIfS3 (tTt (tO rNe3 (tCB3 rLen3 (tC3 (tV 1) tN3)) (tV 0))) tNv3 tNx3)

theorem sem_check_record : ∀ ws M Q E, sp_check_record ws M Q E → rd_check_record (ends3 Q) (start3 ["fields", "record"] ws) M := by
  rintro ws M Q E ⟨n, xs, rfl, h, q⟩
  unfold rd_check_record
  walk_at "x"
  simp only [h, decide_true, Bool.not_true, Bool.false_eq_true, if_false]
  exact .of q
end Z3
set_option Elab.async false
set_option linter.all false
set_option maxRecDepth 100000
namespace Z3
open PySem L2
local macro_rules | `(tactic| walk_at "x") => `(tactic| try simp only [tLcP_, rRepr_, tSortL_, tSq_, tIfS_, tTt_, tO_, tV_, tK_, rEq_, rNe_, start3_eq, ends_rt, ends_nx, tRt_, tRn_, tNx_, tEx_, tAs_, gN_, gIx_, tIsN_, tNotN_, tNeg_, rIx_, tMt_, rApp_, rPop_, rIns_, tCB_, rLen_, rList_, rTuple_, tC_, tN_, tLst_, tTup_, tRev_, tSl_, tPa_, tNo_,
    tAnd_, tOr_, tNot_, tAndV_, tOrV_, tNotV_, tIf_, tChain_, rIn_, iSeq_, iR1_, iR2_, tLr1_, tFor_, tWh_, tLc_, tY_, tCl_, tMe_, tFl_, tSf_, tMk_, tPr_, tBk_, tCt_, tNv_,
    sl_some, asB_bl, asI_int, asR_ref, as1_one, as2_two, items_tup, items_rls, items_lst, lstAt_lst, rAdd_int, rAdd_tup, rAdd_lst, rSub_int, rMul_int, rDiv_int, rMod_int, rPow_int, rI_int, rInt_int, rInt_bl, rAbs_int, eqK_some, sc_ii, sc_ss, sc_bb, sc_ni, sc_in, sc_nn,
    isN_non, isN_int, isN_ref, isN_tup, isN_bl, isN_str, sl3_tup, sl3_ref, up_same, List.map_cons, List.map_nil, List.length_cons, List.length_nil, List.cons_append, List.nil_append, List.getElem?_cons_succ, List.getElem?_cons_zero, List.set_cons_zero, List.set_cons_succ, List.replicate_zero, List.replicate_succ, List.append_nil,
    Option.some.injEq, MO.lst.injEq, exists_eq_left', exists_eq_left, exists_eq', and_true, true_and, if_true, Bool.false_eq_true, if_false, reduceIte, Nat.zero_add, Nat.reduceAdd, Nat.reduceSub, Nat.reduceLeDiff, Bool.not_true, Bool.not_false, ne_eq, not_true_eq_false, not_false_eq_true, atI_z, atI_o, ixN_z, ixN_o, Int.reduceLE, Int.reduceLT, Int.reduceNeg, Int.reduceToNat, Int.reducePow, Int.reduceAdd, Int.reduceMul, Int.reduceSub, natAbs10, Nat.reducePow, Nat.reduceLT, Int.reduceEq, decide_true, decide_false, true_or, or_true, false_or, or_false, and_false, false_and])

local macro_rules | `(tactic| walk_at "xs") => `(tactic| try simp only [tLcP_, rRepr_, tSortL_, tSq_, tIfS_, tTt_, tO_, tV_, tK_, rEq_, rNe_, start3_eq, ends_rt, ends_nx, tRt_, tRn_, tNx_, tEx_, tAs_, gN_, gIx_, tIsN_, tNotN_, tNeg_, rIx_, tMt_, rApp_, rPop_, rIns_, tCB_, rLen_, rList_, rTuple_, tC_, tN_, tLst_, tTup_, tRev_, tSl_, tPa_, tNo_,
    tAnd_, tOr_, tNot_, tAndV_, tOrV_, tNotV_, tIf_, tChain_, rIn_, iSeq_, iR1_, iR2_, tLr1_, tFor_, tWh_, tLc_, tY_, tCl_, tMe_, tFl_, tSf_, tMk_, tPr_, tBk_, tCt_, tNv_,
    sl_some, asB_bl, asI_int, asR_ref, as1_one, as2_two, items_tup, items_rls, items_lst, lstAt_lst, rAdd_int, rAdd_tup, rAdd_lst, rSub_int, rMul_int, rDiv_int, rMod_int, rPow_int, rI_int, rInt_int, rInt_bl, rAbs_int, eqK_some, sc_ii, sc_ss, sc_bb, sc_ni, sc_in, sc_nn,
    isN_non, isN_int, isN_ref, isN_tup, isN_bl, isN_str, sl3_tup, sl3_ref, up_same, List.map_cons, List.map_nil, List.length_cons, List.length_nil, List.cons_append, List.nil_append, List.getElem?_cons_succ, List.getElem?_cons_zero, List.set_cons_zero, List.set_cons_succ, List.replicate_zero, List.replicate_succ, List.append_nil,
    Option.some.injEq, MO.lst.injEq, exists_eq_left', exists_eq_left, exists_eq', and_true, true_and, if_true, Bool.false_eq_true, if_false, reduceIte, Nat.zero_add, Nat.reduceAdd, Nat.reduceSub, Nat.reduceLeDiff, Bool.not_true, Bool.not_false, ne_eq, not_true_eq_false, not_false_eq_true, atI_z, atI_o, ixN_z, ixN_o, Int.reduceLE, Int.reduceLT, Int.reduceNeg, Int.reduceToNat, Int.reducePow, Int.reduceAdd, Int.reduceMul, Int.reduceSub, natAbs10, Nat.reducePow, Nat.reduceLT, Int.reduceEq, decide_true, decide_false, true_or, or_true, false_or, or_false, and_false, false_and, *])

theorem erase_map {α β : Type} (f : α → β) : ∀ (l : List α) (i : Nat), (l.map f).eraseIdx i = (l.eraseIdx i).map f
  | [], _ => rfl
  | _ :: _, 0 => rfl
  | a :: l, i + 1 => by show f a :: (l.map f).eraseIdx i = f a :: (l.eraseIdx i).map f; rw [erase_map f l i]
theorem erase_perm {α : Type} : ∀ (l : List α) (i : Nat) (h : i < l.length), (l[i] :: l.eraseIdx i).Perm l
  | a :: l, 0, _ => .refl _
  | a :: l, i + 1, h => by
    have := erase_perm l i (by simpa using h)
    exact (List.Perm.swap _ _ _).trans (this.cons a)
def tpO (c k : Int) : MO := .lst [.int c, .int k]
def sp_law_tape : Sp3 := fun ws M Q _ => ∃ (xs : List Int) (k : Nat), ws = [.rls (xs.map .int), .int k] ∧ ∀ p c, M p = none → 0 ≤ c → Q (.ref p) (up M p (tpO c 0))
def rd_law_tape : TS3 :=
  (tSq (tIfS3 (tTt (tO rLt3 (tV 1) (tCB3 rLen3 (tC3 (tV 0) tN3)))) (tRt3 (tLst3 (tC3 (tCB3 rAbs3 (tC3 (tO rIx3 (tV 0) (tV 1)) tN3)) (tC3 (tK (.int 0)) tN3)))) tNx3)
    (tRt3 (tLst3 (tC3 (tV 1) (tC3 (tK (.int 0)) tN3)))))

theorem sem_law_tape : ∀ ws M Q E, sp_law_tape ws M Q E → rd_law_tape (ends3 Q) (start3 ["_law_script", "_law_k"] ws) M := by
  rintro ws M Q E ⟨xs, k, rfl, q⟩
  unfold rd_law_tape
  walk_at "x"
  split
  · rename_i h
    simp only [List.length_map, decide_eq_true_eq, Int.ofNat_lt] at h
    refine ⟨.int xs[k], atI_ok (List.getElem?_eq_getElem h), ?_⟩
    walk_at "x"
    intro p hp
    refine .of (q p _ hp ?_)
    split <;> omega
  · intro p hp
    exact .of (q p _ hp (by omega))
def sp_law_take : Sp3 := fun ws M Q _ => ∃ t s c k, ws = [.ref t, .int s] ∧ M t = some (tpO c k) ∧ 0 ≤ c ∧ 0 < s ∧ s < 1073741824 ∧ ∀ c' k' r : Int, 0 ≤ c' → 0 ≤ r → r < s → Q (.int r) (up M t (tpO c' k'))
def rd_law_take : TS3 :=
  (tSq (tAs3 (tO rIx3 (tV 0) (tK (.int 0))) (gN3 2))
    (tSq (tAs3 (tO rAdd3 (tO rIx3 (tV 0) (tK (.int 1))) (tK (.int 1))) (gIx3 (tV 0) (tK (.int 1))))
    (tSq (tAs3 (tO rIx3 (tV 0) (tK (.int 1))) (gN3 3))
    (tSq (tIfS3 (tTt (tO rGe3 (tV 2) (tO rPow3 (tK (.int 10)) (tK (.int 18))))) (tSq (tAs3 (tO rDiv3 (tV 2) (tV 1)) (gIx3 (tV 0) (tK (.int 0))))
    (tRt3 (tO rMod3 (tCB3 rInt3 (tC3 (tV 2) tN3)) (tV 1)))) tNx3)
    (tSq (tAs3 (tO rMod3 (tCB3 rInt3 (tC3 (tO rAdd3 (tO rAdd3 (tV 2) (tO rMul3 (tK (.int 7919)) (tV 3))) (tK (.int 13))) tN3)) (tK (.int 2147483647))) (gN3 4))
    (tSq (tAs3 (tO rMod3 (tCB3 rInt3 (tC3 (tO rMul3 (tV 4) (tO rAdd3 (tV 4) (tK (.int 48271)))) tN3)) (tK (.int 2147483629))) (gN3 4))
    (tSq (tAs3 (tO rMod3 (tCB3 rInt3 (tC3 (tO rAdd3 (tO rMul3 (tV 4) (tO rAdd3 (tV 4) (tK (.int 69621)))) (tO rMul3 (tK (.int 31)) (tV 3))) tN3)) (tK (.int 2147483647))) (gN3 4))
    (tRt3 (tO rMod3 (tCB3 rInt3 (tC3 (tO rDiv3 (tV 4) (tK (.int 9))) tN3)) (tV 1))))))))))

theorem sem_law_take : ∀ ws M Q E, sp_law_take ws M Q E → rd_law_take (ends3 Q) (start3 ["_law_tape_here", "_law_size", "_law_cell", "_law_k", "_law_mixed"] ws) M := by
  rintro ws M Q E ⟨t, s, c, k, rfl, ht, hc, hs, hs2, q⟩
  unfold rd_law_take
  unfold tpO at *
  walk_at "xs"
  split
  · rw [up_up]
    exact .of (q _ _ _ (Int.ediv_nonneg hc (by omega)) (Int.emod_nonneg _ (by omega)) (Int.emod_lt_of_pos _ hs))
  · refine ⟨.inl ⟨by omega, by omega⟩, .inl ⟨by omega, by omega⟩, .of (q _ _ _ hc (Int.emod_nonneg _ (by omega)) (Int.emod_lt_of_pos _ hs))⟩
def sp_law_turns : Sp3 := fun ws M Q _ => ∃ t n c k, ws = [.ref t, wI n] ∧ M t = some (tpO c k) ∧ 0 ≤ c ∧ n < 1000 ∧ ∀ c' k' p (ts : List Nat), 0 ≤ c' → ts.Perm (List.range n) → M p = none → Q (.ref p) (up (up M t (tpO c' k')) p (.lst (ts.map wI)))
def rd_law_turns : TS3 :=
  (tSq (tAs3 (tLr1 (tV 1)) (gN3 2))
    (tSq (tAs3 (tLst3 tN3) (gN3 3))
    (tSq (tFor3 (iR1 (tC3 (tV 1) tN3)) (gN3 4) (tEx3 (tMt rApp3 (tV 3) (tC3 (tMt rPopAt3 (tV 2) (tC3 (tCl3 sp_law_take (tC3 (tV 0) (tC3 (tCB3 rLen3 (tC3 (tV 2) tN3)) tN3))) tN3)) tN3))))
    (tRt3 (tV 3)))))

theorem sem_law_turns : ∀ ws M Q E, sp_law_turns ws M Q E → rd_law_turns (ends3 Q) (start3 ["_law_tape_here", "_law_n", "_law_left", "_law_turns_here", "_law_k"] ws) M := by
  rintro ws M Q E ⟨t, n, c, k, rfl, ht, hc, hn, q⟩
  unfold rd_law_turns wI
  walk_at "x"
  refine ⟨by omega, by omega, fun p1 h1 p2 h2 => ⟨by omega, by omega, ?_⟩⟩
  rw [Int.toNat_natCast]
  have n1 : t ≠ p1 := ne_new ht h1
  have n2 : p1 ≠ p2 := free_ne h2
  have n3 : t ≠ p2 := ne_new ht (free_old h2)
  refine for_rg (fun i σ M' => ∃ o c k L T, σ = [some (.ref t), some (.int n), some (.ref p1), some (.ref p2), o] ∧ M' = up (up (up M t (tpO c k)) p1 (.lst (L.map wI))) p2 (.lst (T.map wI)) ∧ 0 ≤ c ∧ (T ++ L).Perm (List.range n) ∧ T.length = i)
    (.of ⟨none, c, k, List.range n, [], rfl, ?_, hc, by simp, rfl⟩) ?_ ?_
  · have : rgW 0 n = (List.range n).map wI := by unfold rgW wI; simp
    rw [this, up_self ht]; rfl
  · rintro i σ M' hi ⟨o, c, k, L, T, rfl, rfl, hc, hp, hT⟩
    have hl : T.length + L.length = n := by have := hp.length_eq; simpa using this
    walk_at "x"
    simp only [get2 n2]
    walk_at "x"
    refine ⟨t, _, c, k, rfl, get3 n1 n3, hc, by simp; omega, by simp; omega, fun c' k' r h0 hr1 hr2 => ?_⟩
    obtain ⟨r, rfl⟩ := Int.eq_ofNat_of_zero_le hr1
    have hrl : r < L.length := by simpa using hr2
    rw [put3 n1 n3]
    refine ⟨_, get2 n2, by omega, by omega, r, seqIndex_nat (by simpa using hrl), wI L[r], by simp [hrl], ?_⟩
    rw [put2 n2]
    refine ⟨_, up_same, by simp; omega, .of ⟨_, c', k', L.eraseIdx r, T ++ [L[r]], rfl, ?_, h0, ?_, by simp [hT]⟩⟩
    · rw [up_up, List.map_append, erase_map]; rfl
    · refine List.Perm.trans ?_ hp
      rw [List.append_assoc]
      exact List.Perm.append_left _ (erase_perm L r hrl)
  · rintro σ M' ⟨o, c, k, L, T, rfl, rfl, hc, hp, hT⟩
    have hl : T.length + L.length = n := by have := hp.length_eq; simpa using this
    have hL : L = [] := List.eq_nil_of_length_eq_zero (by omega)
    subst hL
    walk_at "x"
    exact wm_le (Le.upm (Le.new (up_free h1 n1))) (q c k p2 T hc (by simpa using hp) (free_old h2))
/-- a list of parents in which each parent stands earlier in the row ts -/
def ParOk (ts : List Nat) (ps : FR.Par) : Prop := ∀ f p, FR.parent ps f = some p → ∃ a b : Nat, a < b ∧ ts[a]? = some p ∧ ts[b]? = some f
theorem ParOk.wf {ts : List Nat} {ps : FR.Par} {n : Nat} (h : ParOk ts ps) (hp : ts.Perm (List.range n)) (hn : ps.length = n) : FR.WF ps := by
  have nd : ts.Nodup := hp.nodup_iff.mpr List.nodup_range
  have mem : ∀ f, f ∈ ts ↔ f < n := fun f => by rw [hp.mem_iff, List.mem_range]
  have hl : ts.length = n := by have := hp.length_eq; simpa using this
  have idx : ∀ (a f : Nat), ts[a]? = some f → ts.idxOf f = a := fun a f e => by
    obtain ⟨h1, h2⟩ := List.getElem?_eq_some_iff.mp e
    rw [← h2]
    exact nd.idxOf_getElem _ h1
  refine ⟨⟨fun f => ts.idxOf f, fun f hf => ⟨?_, fun p hp2 => ?_⟩⟩⟩
  · rw [hn, ← hl]; exact List.idxOf_lt_length_of_mem ((mem f).mpr (by omega))
  · obtain ⟨a, b, hab, h1, h2⟩ := h f p hp2
    refine ⟨by rw [hn]; exact (mem p).mp (List.mem_of_getElem? h1), ?_⟩
    show ts.idxOf p < ts.idxOf f
    rw [idx a p h1, idx b f h2]
    exact hab
theorem parent_set {ps : FR.Par} {f g : Nat} {o : Option Nat} (hf : f < ps.length) : FR.parent (ps.set f o) g = if g = f then o else FR.parent ps g := by
  unfold FR.parent
  by_cases e : g = f
  · subst e; rw [if_pos rfl, List.getElem?_set_self hf]; rfl
  · rw [if_neg e, List.getElem?_set_ne (Ne.symm e)]
theorem map_set {α β : Type} (f : α → β) (l : List α) (i : Nat) (a : α) : (l.map f).set i (f a) = (l.set i a).map f := by rw [List.map_set]
def sp_law_parents : Sp3 := fun ws M Q _ => ∃ t n c k, ws = [.ref t, wI n] ∧ M t = some (tpO c k) ∧ 0 ≤ c ∧ n < 1000 ∧ ∀ c' k' p (ps : FR.Par), 0 ≤ c' → FR.WF ps → ps.length = n → M p = none → Q (.ref p) (up (up M t (tpO c' k')) p (.lst (ps.map wO)))
def rd_law_parents : TS3 :=
  (tSq (tAs3 (tCl3 sp_law_turns (tC3 (tV 0) (tC3 (tV 1) tN3))) (gN3 2))
    (tSq (tAs3 (tCl3 sp_law_take (tC3 (tV 0) (tC3 (tK (.int 4)) tN3))) (gN3 3))
    (tSq (tAs3 (tLc3 (iR1 (tC3 (tV 1) tN3)) 5 tY3 (tK .non)) (gN3 4))
    (tSq (tFor3 (iR2 (tC3 (tK (.int 1)) (tC3 (tV 1) tN3))) (gN3 5) (tSq (tAs3 (tCl3 sp_law_take (tC3 (tV 0) (tC3 (tO rAdd3 (tV 5) (tK (.int 1))) tN3))) (gN3 6))
    (tCut (tIfS3 (tTt (tO rEq3 (tV 3) (tK (.int 0)))) (tAs3 (tV 5) (gN3 6)) tNx3)
    (tCut (tIfS3 (tTt (tO rEq3 (tV 3) (tK (.int 1)))) (tAs3 (tK (.int 0)) (gN3 6)) tNx3)
    (tIfS3 (tTt (tO rGt3 (tV 6) (tK (.int 0)))) (tAs3 (tO rIx3 (tV 2) (tO rSub3 (tV 6) (tK (.int 1)))) (gIx3 (tV 4) (tO rIx3 (tV 2) (tV 5)))) tNx3)))))
    (tRt3 (tV 4))))))

theorem sem_law_parents : ∀ ws M Q E, sp_law_parents ws M Q E → rd_law_parents (ends3 Q) (start3 ["_law_tape_here", "_law_n", "_law_turns_here", "_law_bend", "_law_parents_here", "_law_k", "_law_pick"] ws) M := by
  rintro ws M Q E ⟨t, n, c, k, rfl, ht, hc, hn, q⟩
  unfold rd_law_parents wI
  walk_at "x"
  refine ⟨t, n, c, k, rfl, ht, hc, hn, fun c k p1 ts hc hp h1 => ?_⟩
  have n1 : t ≠ p1 := ne_new ht h1
  have hl : ts.length = n := by have := hp.length_eq; simpa using this
  have mem : ∀ f, f ∈ ts ↔ f < n := fun f => by rw [hp.mem_iff, List.mem_range]
  walk_at "x"
  refine ⟨t, _, c, k, rfl, get2 n1, hc, by omega, by omega, fun c k bend hc _ _ => ?_⟩
  rw [put2 n1]
  walk_at "x"
  refine ⟨by omega, by omega, ?_⟩
  rw [Int.toNat_natCast]
  refine lc_map (fun _ => .non) (by rw [rgW_len]; omega) (fun _ _ _ => trivial) (fun w D acc R _ _ h => h) fun p2 h2 => ?_
  have n2 : p1 ≠ p2 := free_ne h2
  have n3 : t ≠ p2 := free_ne (free_old h2)
  walk_at "x"
  refine ⟨by omega, ?_⟩
  refine for_rg (fun i σ M' => ∃ o5 o6 c k ps, σ = [some (.ref t), some (.int n), some (.ref p1), some (.int bend), some (.ref p2), o5, o6] ∧ M' = up (up (up M t (tpO c k)) p1 (.lst (ts.map wI))) p2 (.lst (ps.map wO)) ∧ 0 ≤ c ∧ ParOk ts ps ∧ ps.length = n)
    (.of ⟨none, none, c, k, List.replicate n none, rfl, ?_, hc, ?_, by simp⟩) ?_ ?_
  · congr 2
    unfold rgW
    rw [List.map_map, List.map_replicate]
    exact List.eq_replicate_iff.mpr ⟨by simp, fun b hb => by obtain ⟨a, _, rfl⟩ := List.mem_map.mp hb; rfl⟩
  · intro f p h
    unfold FR.parent at h
    rw [List.getElem?_replicate] at h
    split at h <;> cases h
  · rintro i σ M' hi ⟨o5, o6, c, k, ps, rfl, rfl, hc, hok, hps⟩
    have hk : i + 1 < n := by omega
    walk_at "x"
    refine ⟨t, _, c, k, rfl, get3 n1 n3, hc, by omega, by omega, fun c k pick hc hp0 hp1 => ?_⟩
    rw [put3 n1 n3]
    walk_at "x"
    refine ⟨fun σ' M' => ∃ pick : Nat, pick ≤ i + 1 ∧ σ' = [some (.ref t), some (.int n), some (.ref p1), some (.int bend), some (.ref p2), some (.int (1 + i)), some (.int pick)] ∧ M' = up (up (up M t (tpO c k)) p1 (.lst (ts.map wI))) p2 (.lst (ps.map wO)), ?_, ?_⟩
    · walk_at "x"
      split
      · exact ⟨i + 1, by omega, by rw [show ((i + 1 : Nat) : Int) = 1 + (i : Int) by omega]⟩
      · exact ⟨pick.toNat, by omega, by rw [Int.toNat_of_nonneg hp0]⟩
    · rintro σ' M' ⟨pick, hpick, rfl, rfl⟩
      refine ⟨fun σ' M' => ∃ pick : Nat, pick ≤ i + 1 ∧ σ' = [some (.ref t), some (.int n), some (.ref p1), some (.int bend), some (.ref p2), some (.int (1 + i)), some (.int pick)] ∧ M' = up (up (up M t (tpO c k)) p1 (.lst (ts.map wI))) p2 (.lst (ps.map wO)), ?_, ?_⟩
      · walk_at "x"
        split
        · exact ⟨0, by omega, rfl⟩
        · exact ⟨pick, hpick, rfl⟩
      · rintro σ' M' ⟨pick, hpick, rfl, rfl⟩
        walk_at "x"
        split
        · rename_i hpos
          have hpos : 0 < pick := by simpa using hpos
          have a1 : pick - 1 < ts.length := by omega
          have a2 : i + 1 < ts.length := by omega
          have e1 : ((pick : Int) - 1) = ((pick - 1 : Nat) : Int) := by omega
          have e2 : (1 + (i : Int)) = ((i + 1 : Nat) : Int) := by omega
          have g1 : atI (ts.map wI) ((pick : Int) - 1) = some (wI ts[pick - 1]) := by rw [e1]; exact atI_ok (List.getElem?_eq_getElem a1)
          have g2 : atI (ts.map wI) (1 + (i : Int)) = some (wI ts[i + 1]) := by rw [e2]; exact atI_ok (List.getElem?_eq_getElem a2)
          have hlt : ts[i + 1] < n := (mem _).mp (List.getElem_mem a2)
          simp only [get2 n2, lstAt_lst, Option.some.injEq, exists_eq_left', g1, g2, wI, asI_int, MO.lst.injEq, List.length_map, up_same]
          refine ⟨_, ixN_nat (by omega), .of ⟨_, _, c, k, ps.set ts[i + 1] (some ts[pick - 1]), rfl, ?_, hc, ?_, by simp [hps]⟩⟩
          · rw [up_up, ← map_set]; rfl
          · intro f p h
            rw [parent_set (by omega)] at h
            split at h
            · cases h
              subst_vars
              exact ⟨pick - 1, i + 1, by omega, List.getElem?_eq_getElem a1, List.getElem?_eq_getElem a2⟩
            · exact hok f p h
        · exact .of ⟨_, _, c, k, ps, rfl, rfl, hc, hok, hps⟩
  · rintro σ M' ⟨o5, o6, c, k, ps, rfl, rfl, hc, hok, hps⟩
    walk_at "x"
    exact wm_le (Le.upm (Le.new (up_free h1 n1))) (q c k p2 ps hc (hok.wf hp hps) hps (free_old (free_old h2)))
/-- a kind list that suits the parents: first and last at leaves alone -/
def KdOk (ps : FR.Par) (ks : List FR.Kd) : Prop := ∀ f p, FR.parent ps f = some p → FR.kd ks p = .up ∨ FR.kd ks p = .down
def Fair (ks : List FR.Kd) : Prop := ∀ k ∈ ks, k = .up ∨ k = .down
theorem flat_par (ps : FR.Par) : (ps.map wO).all flat3 = true := by rw [List.all_eq_true]; intro x hx; obtain ⟨o, _, rfl⟩ := List.mem_map.mp hx; cases o <;> rfl
theorem in_par {ps : FR.Par} {f : Nat} : in3 (.int f) (ps.map wO) = true ↔ ∃ g, FR.parent ps g = some f := by
  unfold in3
  rw [List.any_eq_true]
  constructor
  · rintro ⟨x, hx, e⟩
    obtain ⟨o, ho, rfl⟩ := List.mem_map.mp hx
    cases o with
    | none => cases e
    | some p =>
      have : (p : Int) = f := by simpa [wO, eq3] using e
      have : p = f := by omega
      subst this
      obtain ⟨g, hg⟩ := List.getElem?_of_mem ho
      exact ⟨g, by unfold FR.parent; rw [hg]; rfl⟩
  · rintro ⟨g, hg⟩
    refine ⟨wO (some f), List.mem_map.mpr ⟨some f, ?_, rfl⟩, by simp [wO, eq3]⟩
    unfold FR.parent at hg
    cases e : ps[g]? with
    | none => rw [e] at hg; cases hg
    | some o => rw [e] at hg; have : o = some f := hg; subst this; exact List.mem_of_getElem? e
def kdOf : Nat → FR.Kd
  | 0 => .up
  | 1 => .down
  | 2 => .first
  | _ => .last
def sp_law_kinds : Sp3 := fun ws M Q _ => ∃ t lp ps fair c k, ws = [.ref t, .ref lp, .bl fair] ∧ M t = some (tpO c k) ∧ M lp = some (.lst (ps.map wO)) ∧ t ≠ lp ∧ 0 ≤ c ∧ ps.length < 1000 ∧ ∀ c' k' p (ks : List FR.Kd), 0 ≤ c' → ks.length = ps.length → KdOk ps ks → (fair = true → Fair ks) → M p = none → Q (.ref p) (up (up M t (tpO c' k')) p (.lst (ks.map wK)))
def rd_law_kinds : TS3 :=
  (tSq (tAs3 (tLst3 tN3) (gN3 3))
    (tSq (tFor3 (iR1 (tC3 (tCB3 rLen3 (tC3 (tV 1) tN3)) tN3)) (gN3 4) (tSq (tAs3 (tCl3 sp_law_take (tC3 (tV 0) (tC3 (tK (.int 4)) tN3))) (gN3 5))
    (tCut (tIfS3 (tOr3 (tTt (tV 2)) (tTt (tO (rIn3 false) (tV 4) (tV 1)))) (tAs3 (tO rMod3 (tCB3 rInt3 (tC3 (tV 5) tN3)) (tK (.int 2))) (gN3 5)) tNx3)
    (tEx3 (tMt rApp3 (tV 3) (tC3 (tO rIx3 (tLst3 (tC3 (tK (.str ("up" : Str))) (tC3 (tK (.str ("down" : Str))) (tC3 (tK (.str ("first" : Str))) (tC3 (tK (.str ("last" : Str))) tN3))))) (tV 5)) tN3))))))
    (tRt3 (tV 3))))

theorem sem_law_kinds : ∀ ws M Q E, sp_law_kinds ws M Q E → rd_law_kinds (ends3 Q) (start3 ["_law_tape_here", "_law_parents_here", "_law_fair", "_law_kinds_here", "_law_field", "_law_pick"] ws) M := by
  rintro ws M Q E ⟨t, lp, ps, fair, c, k, rfl, ht, hlp, n0, hc, hn, q⟩
  unfold rd_law_kinds
  walk_at "x"
  intro p hp
  have n1 : t ≠ p := ne_new ht hp
  have n2 : lp ≠ p := ne_new hlp hp
  simp only [up_ne n2, hlp]
  walk_at "x"
  refine ⟨by omega, by rw [List.length_map]; omega, ?_⟩
  rw [Int.toNat_natCast, List.length_map]
  refine for_rg (fun i σ M' => ∃ o4 o5 c k ks, σ = [some (.ref t), some (.ref lp), some (.bl fair), some (.ref p), o4, o5] ∧ M' = up (up M t (tpO c k)) p (.lst (ks.map wK)) ∧ 0 ≤ c ∧ ks.length = i ∧ (∀ g f, FR.parent ps g = some f → f < i → FR.kd ks f = .up ∨ FR.kd ks f = .down) ∧ (fair = true → Fair ks))
    (.of ⟨none, none, c, k, [], rfl, by rw [up_self ht]; rfl, hc, rfl, fun g f _ h => by omega, fun _ k hk => by cases hk⟩) ?_ ?_
  · rintro i σ M' hi ⟨o4, o5, c, k, ks, rfl, rfl, hc, hks, hok, hf⟩
    walk_at "x"
    refine ⟨t, _, c, k, rfl, get2 n1, hc, by omega, by omega, fun c k pick hc h0 h1 => ?_⟩
    rw [put2 n1]
    obtain ⟨pick, rfl⟩ := Int.eq_ofNat_of_zero_le h0
    rw [Int.zero_add]
    walk_at "x"
    refine ⟨fun σ' M' => ∃ pick : Nat, pick < 4 ∧ ((fair = true ∨ ∃ g, FR.parent ps g = some i) → pick < 2) ∧ σ' = [some (.ref t), some (.ref lp), some (.bl fair), some (.ref p), some (.int i), some (.int pick)] ∧ M' = up (up M t (tpO c k)) p (.lst (ks.map wK)), ?_, ?_⟩
    · walk_at "x"
      have hl2 : lstAt (up (up M t (tpO c k)) p (.lst (ks.map wK)) lp) = some (ps.map wO) := by rw [up_ne n2, up_ne n0.symm, hlp]; rfl
      have two : ∀ (P : Prop), ∃ q : Nat, q < 4 ∧ (P → q < 2) ∧ ((pick : Int) % 2) = q := fun P => ⟨pick % 2, by omega, fun _ => by omega, by omega⟩
      cases fair with
      | true =>
        rw [if_pos rfl]
        obtain ⟨q, a, b, e⟩ := two True
        exact ⟨q, a, fun _ => b trivial, by rw [e]⟩
      | false =>
        rw [if_neg (by decide), hl2]
        refine ⟨_, rfl, rfl, flat_par ps, ?_⟩
        split
        · obtain ⟨q, a, b, e⟩ := two True
          exact ⟨q, a, fun _ => b trivial, by walk_at "x"; rw [e]⟩
        · rename_i hnot
          refine ⟨pick, by omega, fun h => ?_, rfl⟩
          rcases h with h | h
          · cases h
          · exact absurd (in_par.mpr h) (by simpa using hnot)
    · rintro σ' M' ⟨pick, hpk, himp, rfl, rfl⟩
      walk_at "x"
      intro pl hpl
      have n4 : p ≠ pl := free_ne hpl
      have hg : atI [W.str (Str.ofString "up"), W.str (Str.ofString "down"), W.str (Str.ofString "first"), W.str (Str.ofString "last")] (pick : Int) = some (wK (kdOf pick)) := by
        match pick, hpk with
        | 0, _ => rfl
        | 1, _ => rfl
        | 2, _ => rfl
        | 3, _ => rfl
      refine ⟨_, hg, _, get2 n4, by rw [List.length_map]; omega, ?_⟩
      rw [put2 n4]
      refine ⟨_, _, .refl, Le.new (p := pl) (up_free (free_old hpl) n4), _, _, c, k, ks ++ [kdOf pick], rfl, ?_, hc, by simp [hks], ?_, ?_⟩
      · rw [List.map_append]; rfl
      · intro g f hp hf2
        unfold FR.kd
        by_cases e : f < i
        · rw [List.getD_eq_getElem?_getD, List.getElem?_append_left (by omega), ← List.getD_eq_getElem?_getD]; exact hok g f hp e
        · have : f = i := by omega
          subst this
          have h2 := himp (.inr ⟨g, hp⟩)
          rw [List.getD_eq_getElem?_getD, List.getElem?_append_right (by omega), hks, Nat.sub_self]
          match pick, h2 with
          | 0, _ => exact .inl rfl
          | 1, _ => exact .inr rfl
      · intro hfa kk hk
        rcases List.mem_append.mp hk with hk | hk
        · exact hf hfa kk hk
        · have h2 := himp (.inl hfa)
          rw [List.mem_singleton] at hk
          subst hk
          match pick, h2 with
          | 0, _ => exact .inl rfl
          | 1, _ => exact .inr rfl
  · rintro σ M' ⟨o4, o5, c, k, ks, rfl, rfl, hc, hks, hok, hf⟩
    walk_at "x"
    refine .of (q c k p ks hc hks (fun g f h => ?_) hf hp)
    by_cases e : f < ps.length
    · exact hok g f h e
    · left; unfold FR.kd; rw [List.getD_eq_getElem?_getD, List.getElem?_eq_none (by omega)]; rfl

def sp_law_path : Sp3 := fun ws M Q _ => ∃ wp ps f, ws = [wp, wI f] ∧ itemsOf M wp = some (ps.map wO) ∧ FR.WF ps ∧ f < ps.length ∧ ps.length < 1000 ∧ ∀ p, M p = none → Q (.ref p) (up M p (.lst ((FR.pathOf ps f).map wI)))
def rd_law_path : TS3 :=
  (tSq (tAs3 (tLst3 (tC3 (tV 1) tN3)) (gN3 2))
    (tSq (tFor3 (iR1 (tC3 (tCB3 rLen3 (tC3 (tV 0) tN3)) tN3)) (gN3 3) (tIfS3 (tTt (tNotN3 (tO rIx3 (tV 0) (tO rIx3 (tV 2) (tK (.int 0)))))) (tEx3 (tMt rIns3 (tV 2) (tC3 (tK (.int 0)) (tC3 (tO rIx3 (tV 0) (tO rIx3 (tV 2) (tK (.int 0)))) tN3)))) tNx3))
    (tRt3 (tV 2))))

theorem sem_law_path : ∀ ws M Q E, sp_law_path ws M Q E → rd_law_path (ends3 Q) (start3 ["_law_parents_here", "_law_field", "_law_path_here", "_law_k"] ws) M := by
  rintro ws M Q E ⟨wp, ps, f, rfl, hw, wf, hf, hz, q⟩
  unfold rd_law_path
  walk_at "x"
  intro p hp
  have hi : ∀ l, itemsOf (up M p (.lst l)) wp = some (ps.map wO) := fun l => by rw [items_keep hp (by rw [hw]; rfl), hw]
  refine ⟨_, hi _, by omega, by rw [List.length_map]; omega, ?_⟩
  rw [Int.toNat_natCast, List.length_map]
  refine for_rg (fun i σ M' => ∃ o L g, σ = [some wp, some (wI f), some (.ref p), o] ∧ M' = up M p (.lst ((g :: L).map wI)) ∧ (FR.upl ps g).reverse ++ L = FR.pathOf ps f ∧ g < ps.length ∧ (FR.upl ps g).length ≤ ps.length - i + 1)
    (.of ⟨none, [], f, rfl, rfl, by simp [FR.pathOf], hf, ?_⟩) ?_ ?_
  · have := FR.path_len (ps := ps) (f := f)
    unfold FR.pathOf at this
    rw [List.length_reverse] at this
    omega
  · rintro i σ M' hil ⟨o, L, g, rfl, rfl, hL, hg, hlen⟩
    walk_at "x"
    simp only [List.map_cons, atI_z, Option.some.injEq, exists_eq_left', wI, asI_int]
    refine ⟨_, hi _, _, atI_ok (get_par hg), ?_⟩
    cases hpa : FR.parent ps g with
    | none =>
      simp only [wO, isN_non, Bool.not_true, Bool.false_eq_true, if_false]
      refine .of ⟨_, L, g, rfl, rfl, hL, hg, ?_⟩
      rw [FR.upl_none wf hg hpa]; simp
    | some r =>
      have hr := FR.WF.lt wf hg hpa
      simp only [wO, isN_int, Bool.not_false, if_true]
      refine ⟨_, hi _, _, atI_ok (get_par hg), ?_⟩
      have hl3 := congrArg List.length hL
      have := FR.path_len (ps := ps) (f := f)
      rw [List.length_append] at hl3
      refine ⟨by simp; omega, .of ⟨_, g :: L, r, rfl, ?_, ?_, hr, ?_⟩⟩
      · rw [up_up, hpa]; rfl
      · rw [← hL, FR.upl_some wf hg hpa]; simp
      · rw [FR.upl_some wf hg hpa] at hlen; simp at hlen ⊢; omega
  · rintro σ M' ⟨o, L, g, rfl, rfl, hL, hg, hlen⟩
    walk_at "x"
    have h1 : FR.upl ps g = [g] := by
      cases hpa : FR.parent ps g with
      | none => exact FR.upl_none wf hg hpa
      | some r =>
        have hr := FR.WF.lt wf hg hpa
        have h0 : 0 < (FR.upl ps r).length := by rw [FR.upl_eq wf hr]; simp
        rw [FR.upl_some wf hg hpa, List.length_cons] at hlen
        omega
    rw [h1] at hL
    refine .of ?_
    have hL2 : g :: L = FR.pathOf ps f := hL
    show Q (.ref p) (up M p (.lst ((g :: L).map wI)))
    rw [hL2]
    exact q p hp
end Z3
set_option Elab.async false
set_option linter.all false
set_option maxRecDepth 100000
namespace Z3
open PySem L2
local macro_rules | `(tactic| walk_at "x") => `(tactic| try simp only [tLcP_, rRepr_, tSortL_, tSq_, tIfS_, tTt_, tO_, tV_, tK_, rEq_, rNe_, start3_eq, ends_rt, ends_nx, tRt_, tRn_, tNx_, tEx_, tAs_, gN_, gIx_, tIsN_, tNotN_, tNeg_, rIx_, tMt_, rApp_, rPop_, rIns_, tCB_, rLen_, rList_, rTuple_, tC_, tN_, tLst_, tTup_, tRev_, tSl_, tPa_, tNo_,
    tAnd_, tOr_, tNot_, tAndV_, tOrV_, tNotV_, tIf_, tChain_, rIn_, iSeq_, iR1_, iR2_, tLr1_, tFor_, tWh_, tLc_, tY_, tCl_, tMe_, tFl_, tSf_, tMk_, tPr_, tBk_, tCt_, tNv_,
    sl_some, asB_bl, asI_int, asR_ref, as1_one, as2_two, items_tup, items_rls, items_lst, lstAt_lst, rAdd_int, rAdd_tup, rAdd_lst, rSub_int, rMul_int, rDiv_int, rMod_int, rPow_int, rI_int, rInt_int, rInt_bl, rAbs_int, eqK_some, sc_ii, sc_ss, sc_bb, sc_ni, sc_in, sc_nn,
    isN_non, isN_int, isN_ref, isN_tup, isN_bl, isN_str, sl3_tup, sl3_ref, up_same, List.map_cons, List.map_nil, List.length_cons, List.length_nil, List.cons_append, List.nil_append, List.getElem?_cons_succ, List.getElem?_cons_zero, List.set_cons_zero, List.set_cons_succ, List.replicate_zero, List.replicate_succ, List.append_nil,
    Option.some.injEq, MO.lst.injEq, exists_eq_left', exists_eq_left, exists_eq', and_true, true_and, if_true, Bool.false_eq_true, if_false, reduceIte, Nat.zero_add, Nat.reduceAdd, Nat.reduceSub, Nat.reduceLeDiff, Bool.not_true, Bool.not_false, ne_eq, not_true_eq_false, not_false_eq_true, atI_z, atI_o, ixN_z, ixN_o, Int.reduceLE, Int.reduceLT, Int.reduceNeg, Int.reduceToNat, Int.reducePow, Int.reduceAdd, Int.reduceMul, Int.reduceSub, natAbs10, Nat.reducePow, Nat.reduceLT, Int.reduceEq, decide_true, decide_false, true_or, or_true, false_or, or_false, and_false, false_and])

local macro_rules | `(tactic| walk_at "xs") => `(tactic| try simp only [tLcP_, rRepr_, tSortL_, tSq_, tIfS_, tTt_, tO_, tV_, tK_, rEq_, rNe_, start3_eq, ends_rt, ends_nx, tRt_, tRn_, tNx_, tEx_, tAs_, gN_, gIx_, tIsN_, tNotN_, tNeg_, rIx_, tMt_, rApp_, rPop_, rIns_, tCB_, rLen_, rList_, rTuple_, tC_, tN_, tLst_, tTup_, tRev_, tSl_, tPa_, tNo_,
    tAnd_, tOr_, tNot_, tAndV_, tOrV_, tNotV_, tIf_, tChain_, rIn_, iSeq_, iR1_, iR2_, tLr1_, tFor_, tWh_, tLc_, tY_, tCl_, tMe_, tFl_, tSf_, tMk_, tPr_, tBk_, tCt_, tNv_,
    sl_some, asB_bl, asI_int, asR_ref, as1_one, as2_two, items_tup, items_rls, items_lst, lstAt_lst, rAdd_int, rAdd_tup, rAdd_lst, rSub_int, rMul_int, rDiv_int, rMod_int, rPow_int, rI_int, rInt_int, rInt_bl, rAbs_int, eqK_some, sc_ii, sc_ss, sc_bb, sc_ni, sc_in, sc_nn,
    isN_non, isN_int, isN_ref, isN_tup, isN_bl, isN_str, sl3_tup, sl3_ref, up_same, List.map_cons, List.map_nil, List.length_cons, List.length_nil, List.cons_append, List.nil_append, List.getElem?_cons_succ, List.getElem?_cons_zero, List.set_cons_zero, List.set_cons_succ, List.replicate_zero, List.replicate_succ, List.append_nil,
    Option.some.injEq, MO.lst.injEq, exists_eq_left', exists_eq_left, exists_eq', and_true, true_and, if_true, Bool.false_eq_true, if_false, reduceIte, Nat.zero_add, Nat.reduceAdd, Nat.reduceSub, Nat.reduceLeDiff, Bool.not_true, Bool.not_false, ne_eq, not_true_eq_false, not_false_eq_true, atI_z, atI_o, ixN_z, ixN_o, Int.reduceLE, Int.reduceLT, Int.reduceNeg, Int.reduceToNat, Int.reducePow, Int.reduceAdd, Int.reduceMul, Int.reduceSub, natAbs10, Nat.reducePow, Nat.reduceLT, Int.reduceEq, decide_true, decide_false, true_or, or_true, false_or, or_false, and_false, false_and, *])

def sp_law_side : Sp3 := fun ws M Q _ => ∃ wp wk ps ks f a b, ws = [wp, wk, wI f, wR a, wR b] ∧ itemsOf M wp = some (ps.map wO) ∧ itemsOf M wk = some (ks.map wK) ∧ FR.WF ps ∧ f < ps.length ∧ ps.length < 1000 ∧ ks.length = ps.length ∧ a.length = ps.length ∧ b.length = ps.length ∧ Q (.int (if FR.olderWins ks a b (FR.unlike (FR.pathOf ps f) a b) then 0 else 1)) M
def rd_law_side : TS3 :=
  (tSq (tFor3 (iSeq3 (tCl3 sp_law_path (tC3 (tV 0) (tC3 (tV 2) tN3)))) (gN3 5) (tIfS3 (tTt (tO rNe3 (tO rIx3 (tV 3) (tV 5)) (tO rIx3 (tV 4) (tV 5)))) (tSq (tIfS3 (tTt (tO rEq3 (tO rIx3 (tV 1) (tV 5)) (tK (.str ("first" : Str))))) (tRt3 (tK (.int 0))) tNx3)
    (tSq (tIfS3 (tTt (tO rEq3 (tO rIx3 (tV 1) (tV 5)) (tK (.str ("last" : Str))))) (tRt3 (tK (.int 1))) tNx3)
    (tRt3 (tCB3 rInt3 (tC3 (tO rNe3 (tO rGt3 (tO rIx3 (tV 3) (tV 5)) (tO rIx3 (tV 4) (tV 5))) (tO rEq3 (tO rIx3 (tV 1) (tV 5)) (tK (.str ("up" : Str))))) tN3))))) tNx3))
    (tRt3 (tK (.int 0))))

theorem sem_law_side : ∀ ws M Q E, sp_law_side ws M Q E → rd_law_side (ends3 Q) (start3 ["_law_parents_here", "_law_kinds_here", "_law_field", "_law_older", "_law_newer", "_law_place"] ws) M := by
  rintro ws M Q E ⟨wp, wk, ps, ks, f, a, b, rfl, hwp, hwk, wf, hf, hz, hk, ha, hb, q⟩
  unfold rd_law_side
  walk_at "x"
  refine ⟨wp, ps, f, rfl, hwp, wf, hf, hz, fun p hp => ?_⟩
  have h2 : ∀ l, itemsOf (up M p (.lst l)) wk = some (ks.map wK) := fun l => by rw [items_keep hp (by rw [hwk]; rfl), hwk]
  walk_at "x"
  have ea : ∀ g, g < ps.length → atI (a.map W.int) (g : Int) = some (W.int (FR.at_ a g)) := fun g hg => atI_ok (get_at (ha ▸ hg))
  have eb : ∀ g, g < ps.length → atI (b.map W.int) (g : Int) = some (W.int (FR.at_ b g)) := fun g hg => atI_ok (get_at (hb ▸ hg))
  have ia : ∀ M, itemsOf M (wR a) = some (a.map .int) := fun _ => rfl
  have ib : ∀ M, itemsOf M (wR b) = some (b.map .int) := fun _ => rfl
  refine for_sq (fun i σ M' => ∃ o, σ = [some wp, some wk, some (wI f), some (wR a), some (wR b), o] ∧ M' = up M p (.lst ((FR.pathOf ps f).map wI)) ∧ ∀ g ∈ (FR.pathOf ps f).take i, FR.at_ a g = FR.at_ b g)
    (.of ⟨_, rfl, rfl, by simp⟩) (fun i σ M' _ ⟨o, _, e, _⟩ => by subst e; rw [up_same]; rfl) ?_ ?_
  · rintro i w σ M' hw ⟨o, rfl, rfl, hi⟩
    rw [List.getElem?_map] at hw
    obtain ⟨g, hg, rfl⟩ := Option.map_eq_some_iff.mp hw
    have hn := FR.path_lt wf hf g (List.mem_of_getElem? hg)
    have ht : (FR.pathOf ps f).take (i + 1) = (FR.pathOf ps f).take i ++ [g] := by rw [List.take_add_one, hg]; rfl
    unfold wI
    walk_at "x"
    simp only [ia, ib, Option.some.injEq, exists_eq_left', ea g hn, eb g hn, sc_ii, eqK_some, h2, atI_ok (get_kd (hk ▸ hn))]
    by_cases e : FR.at_ a g = FR.at_ b g
    · simp only [e, decide_true, Bool.not_true, Bool.false_eq_true, if_false]
      refine .of ⟨_, rfl, rfl, fun g' hg' => ?_⟩
      rw [ht] at hg'
      rcases List.mem_append.mp hg' with hg' | hg'
      · exact hi g' hg'
      · rw [List.mem_singleton] at hg'; subst hg'; exact e
    · simp only [e, decide_false, Bool.not_false, if_true]
      have hu : FR.unlike (FR.pathOf ps f) a b = some g := by
        unfold FR.unlike
        rw [List.find?_eq_some_iff_getElem]
        refine ⟨by simpa using e, i, (List.getElem?_eq_some_iff.mp hg).1, (List.getElem?_eq_some_iff.mp hg).2, fun j hj => ?_⟩
        have hjl : j < (FR.pathOf ps f).length := Nat.lt_trans hj (List.getElem?_eq_some_iff.mp hg).1
        have := hi (FR.pathOf ps f)[j] (by rw [List.mem_take_iff_getElem]; exact ⟨j, by omega, rfl⟩)
        simpa using this
      rw [hu] at q
      unfold wK
      walk_at "x"
      simp only [kS_first, kS_last, kS_up, decide_eq_true_eq]
      have fin : ∀ (v : Int) l, v = (if FR.olderWins ks a b (some g) then 0 else 1) → Wm (Q (.int v)) (up M p (.lst l)) := fun v l e => by subst e; exact wm_le (Le.new hp) q
      cases hkd : FR.kd ks g with
      | first => exact fin _ _ (by simp [FR.olderWins, hkd])
      | last => simp; exact fin _ _ (by simp [FR.olderWins, hkd, FR.better])
      | up =>
        simp only [reduceCtorEq, if_false, h2, Option.some.injEq, exists_eq_left', atI_ok (get_kd (hk ▸ hn)), wK, sc_ss, eqK_some, kS_up, hkd]
        refine fin _ _ ?_
        by_cases e2 : FR.at_ b g < FR.at_ a g <;> simp [FR.olderWins, hkd, FR.better, e2]
      | down =>
        simp only [reduceCtorEq, if_false, h2, Option.some.injEq, exists_eq_left', atI_ok (get_kd (hk ▸ hn)), wK, sc_ss, eqK_some, kS_up, hkd]
        refine fin _ _ ?_
        by_cases e2 : FR.at_ b g < FR.at_ a g
        · have e3 : ¬ FR.at_ a g < FR.at_ b g := by omega
          simp [FR.olderWins, hkd, FR.better, e2, e3]
        · have e3 : FR.at_ a g < FR.at_ b g := by omega
          simp [FR.olderWins, hkd, FR.better, e2, e3]
  · rintro σ M' ⟨o, rfl, rfl, hi⟩
    refine wm_le (Le.new hp) ?_
    have : FR.unlike (FR.pathOf ps f) a b = none := by
      unfold FR.unlike
      rw [List.find?_eq_none]
      intro g hg
      have := hi g (by rw [List.length_map, List.take_length]; exact hg)
      simpa using this
    rw [this] at q
    exact q
def sp_law_merge : Sp3 := fun ws M Q _ => ∃ wp wk ps ks a b, ws = [wp, wk, wR a, wR b] ∧ itemsOf M wp = some (ps.map wO) ∧ itemsOf M wk = some (ks.map wK) ∧ FR.WF ps ∧ ps.length < 1000 ∧ ks.length = ps.length ∧ a.length = ps.length ∧ b.length = ps.length ∧ Q (wR (FR.mrg ps ks a b)) M
def rd_law_merge : TS3 :=
  (tSq (tAs3 (tLst3 (tC3 (tV 2) (tC3 (tV 3) tN3))) (gN3 4))
    (tRt3 (tCB3 rTuple3 (tC3 (tLc3 (iR1 (tC3 (tCB3 rLen3 (tC3 (tV 0) tN3)) tN3)) 5 tY3 (tO rIx3 (tO rIx3 (tV 4) (tCl3 sp_law_side (tC3 (tV 0) (tC3 (tV 1) (tC3 (tV 5) (tC3 (tV 2) (tC3 (tV 3) tN3))))))) (tV 5))) tN3))))

def natF (g : Nat → W) : W → W
  | .int i => g i.toNat
  | w => w
theorem map_natF {g : Nat → W} {n : Nat} : (rgW 0 n).map (natF g) = (List.range n).map g := by
  unfold rgW; rw [List.map_map]
  exact List.map_congr_left fun a _ => by show natF g (.int (0 + (a : Int))) = g a; simp [natF]
theorem mem_rgW {n : Nat} {w : W} (h : w ∈ rgW 0 n) : ∃ i : Nat, i < n ∧ w = .int i := by
  obtain ⟨i, hi⟩ := List.getElem?_of_mem h
  obtain ⟨h1, h2⟩ := rgW_get hi
  exact ⟨i, h1, by rw [h2, Int.zero_add]⟩
theorem sem_law_merge : ∀ ws M Q E, sp_law_merge ws M Q E → rd_law_merge (ends3 Q) (start3 ["_law_parents_here", "_law_kinds_here", "_law_older", "_law_newer", "_law_pair", "_law_f"] ws) M := by
  rintro ws M Q E ⟨wp, wk, ps, ks, a, b, rfl, hwp, hwk, wf, hz, hk, ha, hb, q⟩
  unfold rd_law_merge
  walk_at "x"
  intro p hp
  have h1 : ∀ l, itemsOf (up M p (.lst l)) wp = some (ps.map wO) := fun l => by rw [items_keep hp (by rw [hwp]; rfl), hwp]
  have h2 : ∀ l, itemsOf (up M p (.lst l)) wk = some (ks.map wK) := fun l => by rw [items_keep hp (by rw [hwk]; rfl), hwk]
  refine ⟨_, h1 _, by omega, by rw [List.length_map]; omega, ?_⟩
  rw [Int.toNat_natCast, List.length_map]
  have ea : ∀ g, g < ps.length → atI (a.map W.int) (g : Int) = some (W.int (FR.at_ a g)) := fun g hg => atI_ok (get_at (ha ▸ hg))
  have eb : ∀ g, g < ps.length → atI (b.map W.int) (g : Int) = some (W.int (FR.at_ b g)) := fun g hg => atI_ok (get_at (hb ▸ hg))
  refine lc_map (natF fun i => .int (FR.mrg1 ps ks a b i)) (by rw [rgW_len]; omega) (fun _ _ _ => trivial) ?_ ?_
  · intro w D acc R hw hD r
    obtain ⟨i, hi, rfl⟩ := mem_rgW hw
    walk_at "x"
    refine ⟨wp, wk, ps, ks, i, a, b, rfl, ?_, ?_, wf, hi, hz, hk, ha, hb, ?_⟩
    · rw [items_keep hD (by rw [h1]; rfl), h1]
    · rw [items_keep hD (by rw [h2]; rfl), h2]
    · walk_at "x"
      have er : natF (fun i => W.int (FR.mrg1 ps ks a b i)) (.int i) = .int (FR.mrg1 ps ks a b i) := by simp [natF]
      rw [er] at r
      unfold FR.mrg1 at r
      rw [up_ne (free_ne hD), up_same]
      refine ⟨_, rfl, ?_⟩
      split at r
      · rename_i h; rw [if_pos h]; exact ⟨wR a, atI_z, _, rfl, _, ea i hi, r⟩
      · rename_i h; rw [if_neg h]; exact ⟨wR b, atI_o, _, rfl, _, eb i hi, r⟩
  · intro D hD
    walk_at "x"
    refine wm_le (M := M) (.trans (Le.new hp) (Le.new hD)) ?_
    rw [map_natF]
    have : wR (FR.mrg ps ks a b) = .tup ((List.range ps.length).map fun i => .int (FR.mrg1 ps ks a b i)) := by unfold wR FR.mrg; rw [List.map_map]; rfl
    rw [← this]
    exact q
end Z3
set_option Elab.async false
set_option linter.all false
set_option maxRecDepth 100000
namespace Z3
open PySem L2
local macro_rules | `(tactic| walk_at "x") => `(tactic| try simp only [tLcP_, rRepr_, tSortL_, tSq_, tIfS_, tTt_, tO_, tV_, tK_, rEq_, rNe_, start3_eq, ends_rt, ends_nx, tRt_, tRn_, tNx_, tEx_, tAs_, gN_, gIx_, tIsN_, tNotN_, tNeg_, rIx_, tMt_, rApp_, rPop_, rIns_, tCB_, rLen_, rList_, rTuple_, tC_, tN_, tLst_, tTup_, tRev_, tSl_, tPa_, tNo_,
    tAnd_, tOr_, tNot_, tAndV_, tOrV_, tNotV_, tIf_, tChain_, rIn_, iSeq_, iR1_, iR2_, tLr1_, tFor_, tWh_, tLc_, tY_, tCl_, tMe_, tFl_, tSf_, tMk_, tPr_, tBk_, tCt_, tNv_,
    sl_some, asB_bl, asI_int, asR_ref, as1_one, as2_two, items_tup, items_rls, items_lst, lstAt_lst, rAdd_int, rAdd_tup, rAdd_lst, rSub_int, rMul_int, rDiv_int, rMod_int, rPow_int, rI_int, rInt_int, rInt_bl, rAbs_int, eqK_some, sc_ii, sc_ss, sc_bb, sc_ni, sc_in, sc_nn,
    isN_non, isN_int, isN_ref, isN_tup, isN_bl, isN_str, sl3_tup, sl3_ref, up_same, List.map_cons, List.map_nil, List.length_cons, List.length_nil, List.cons_append, List.nil_append, List.getElem?_cons_succ, List.getElem?_cons_zero, List.set_cons_zero, List.set_cons_succ, List.replicate_zero, List.replicate_succ, List.append_nil,
    Option.some.injEq, MO.lst.injEq, exists_eq_left', exists_eq_left, exists_eq', and_true, true_and, if_true, Bool.false_eq_true, if_false, reduceIte, Nat.zero_add, Nat.reduceAdd, Nat.reduceSub, Nat.reduceLeDiff, Bool.not_true, Bool.not_false, ne_eq, not_true_eq_false, not_false_eq_true, atI_z, atI_o, ixN_z, ixN_o, Int.reduceLE, Int.reduceLT, Int.reduceNeg, Int.reduceToNat, Int.reducePow, Int.reduceAdd, Int.reduceMul, Int.reduceSub, natAbs10, Nat.reducePow, Nat.reduceLT, Int.reduceEq, decide_true, decide_false, true_or, or_true, false_or, or_false, and_false, false_and])

local macro_rules | `(tactic| walk_at "xs") => `(tactic| try simp only [tLcP_, rRepr_, tSortL_, tSq_, tIfS_, tTt_, tO_, tV_, tK_, rEq_, rNe_, start3_eq, ends_rt, ends_nx, tRt_, tRn_, tNx_, tEx_, tAs_, gN_, gIx_, tIsN_, tNotN_, tNeg_, rIx_, tMt_, rApp_, rPop_, rIns_, tCB_, rLen_, rList_, rTuple_, tC_, tN_, tLst_, tTup_, tRev_, tSl_, tPa_, tNo_,
    tAnd_, tOr_, tNot_, tAndV_, tOrV_, tNotV_, tIf_, tChain_, rIn_, iSeq_, iR1_, iR2_, tLr1_, tFor_, tWh_, tLc_, tY_, tCl_, tMe_, tFl_, tSf_, tMk_, tPr_, tBk_, tCt_, tNv_,
    sl_some, asB_bl, asI_int, asR_ref, as1_one, as2_two, items_tup, items_rls, items_lst, lstAt_lst, rAdd_int, rAdd_tup, rAdd_lst, rSub_int, rMul_int, rDiv_int, rMod_int, rPow_int, rI_int, rInt_int, rInt_bl, rAbs_int, eqK_some, sc_ii, sc_ss, sc_bb, sc_ni, sc_in, sc_nn,
    isN_non, isN_int, isN_ref, isN_tup, isN_bl, isN_str, sl3_tup, sl3_ref, up_same, List.map_cons, List.map_nil, List.length_cons, List.length_nil, List.cons_append, List.nil_append, List.getElem?_cons_succ, List.getElem?_cons_zero, List.set_cons_zero, List.set_cons_succ, List.replicate_zero, List.replicate_succ, List.append_nil,
    Option.some.injEq, MO.lst.injEq, exists_eq_left', exists_eq_left, exists_eq', and_true, true_and, if_true, Bool.false_eq_true, if_false, reduceIte, Nat.zero_add, Nat.reduceAdd, Nat.reduceSub, Nat.reduceLeDiff, Bool.not_true, Bool.not_false, ne_eq, not_true_eq_false, not_false_eq_true, atI_z, atI_o, ixN_z, ixN_o, Int.reduceLE, Int.reduceLT, Int.reduceNeg, Int.reduceToNat, Int.reducePow, Int.reduceAdd, Int.reduceMul, Int.reduceSub, natAbs10, Nat.reducePow, Nat.reduceLT, Int.reduceEq, decide_true, decide_false, true_or, or_true, false_or, or_false, and_false, false_and, *])

/-- what the law's test of an integer says -/
def isI : W → Bool
  | .int _ => true
  | _ => false
def sp_law_is_integer : Sp3 := fun ws M Q _ => ∃ x, ws = [x] ∧ ((∃ i, x = .int i) ∨ (∃ b, x = .bl b) ∨ (∃ t, x = .tup t) ∨ x = .non) ∧ Q (.bl (isI x)) M
def rd_law_is_integer (A : Ad) : TS3 :=
  (tRt3 (tAndV3 (tCB3 (rIs3 A.own A.ob A.bo) (tC3 (tV 0) (tC3 (tK (.ty "int")) tN3))) (tNotV3 (tCB3 (rIs3 A.own A.ob A.bo) (tC3 (tV 0) (tC3 (tK (.ty "bool")) tN3))))))

theorem kit_ti : kitB "tuple" "int" = some false := by decide +kernel
theorem sem_law_is_integer (A : Ad) : ∀ ws M Q E, sp_law_is_integer ws M Q E → rd_law_is_integer A (ends3 Q) (start3 ["_law_actual"] ws) M := by
  rintro ws M Q E ⟨x, rfl, h, q⟩
  unfold rd_law_is_integer
  walk_at "x"
  simp only [rIs_]
  walk_at "x"
  rcases h with ⟨i, rfl⟩ | ⟨b, rfl⟩ | ⟨t, rfl⟩ | rfl
  · exact ⟨_, _, ty_int, kit_ii, by walk_at "x"; exact ⟨_, _, ty_int, kit_ib, by walk_at "x"; exact .of q⟩⟩
  · exact ⟨_, _, ty_bl, kit_bi, by walk_at "x"; exact ⟨_, _, ty_bl, kit_bb, by walk_at "x"; exact .of q⟩⟩
  · exact ⟨_, _, ty_tup, kit_ti, by walk_at "x"; exact .of q⟩
  · exact ⟨_, _, ty_non, kit_ni, by walk_at "x"; exact .of q⟩
def sp_law_is_record : Sp3 := fun ws M Q _ => ∃ x n, ws = [wR x, .int n] ∧ Q (.bl (decide ((x.length : Int) = n))) M
def rd_law_is_record (A : Ad) : TS3 :=
  (tSq (tIfS3 (tOr3 (tNot3 (tTt (tCB3 (rIs3 A.own A.ob A.bo) (tC3 (tV 0) (tC3 (tK (.ty "tuple")) tN3))))) (tTt (tO rNe3 (tCB3 rLen3 (tC3 (tV 0) tN3)) (tV 1)))) (tRt3 (tK (.bl false))) tNx3)
    (tSq (tFor3 (iSeq3 (tV 0)) (gN3 2) (tIfS3 (tNot3 (tTt (tCl3 sp_law_is_integer (tC3 (tV 2) tN3)))) (tRt3 (tK (.bl false))) tNx3))
    (tRt3 (tK (.bl true)))))

theorem sem_law_is_record (A : Ad) : ∀ ws M Q E, sp_law_is_record ws M Q E → rd_law_is_record A (ends3 Q) (start3 ["_law_actual", "_law_n", "_law_value_here"] ws) M := by
  rintro ws M Q E ⟨x, n, rfl, q⟩
  unfold rd_law_is_record wR
  walk_at "x"
  simp only [rIs_]
  walk_at "x"
  refine ⟨_, _, ty_tup, kit_tt, ?_⟩
  walk_at "x"
  simp only [List.length_map]
  by_cases h : (x.length : Int) = n
  · rw [decide_eq_true h] at q
    simp only [h, decide_true, Bool.not_true, Bool.false_eq_true, if_false]
    refine for_sq (fun i σ M' => ∃ o, σ = [some (.tup (x.map .int)), some (.int n), o] ∧ M' = M) (.of ⟨_, rfl, rfl⟩) (fun _ _ _ _ _ => trivial) ?_ ?_
    · rintro i w σ M' hw ⟨o, rfl, rfl⟩
      rw [List.getElem?_map] at hw
      obtain ⟨v, _, rfl⟩ := Option.map_eq_some_iff.mp hw
      walk_at "x"
      refine ⟨_, rfl, .inl ⟨_, rfl⟩, ?_⟩
      exact .of ⟨_, rfl, rfl⟩
    · rintro σ M' ⟨o, rfl, rfl⟩
      exact .of q
  · rw [decide_eq_false h] at q
    simp only [h, decide_false, Bool.not_false, if_true]
    exact .of q
def sp_law_fields : Sp3 := fun ws M Q _ => ∃ t c k, ws = [.ref t] ∧ M t = some (tpO c k) ∧ 0 ≤ c ∧ ∀ c' k' (n : Nat), 0 ≤ c' → 1 ≤ n → n ≤ 8 → Q (wI n) (up M t (tpO c' k'))
def rd_law_fields : TS3 :=
  (tSq (tIfS3 (tTt (tO rEq3 (tCl3 sp_law_take (tC3 (tV 0) (tC3 (tK (.int 8)) tN3))) (tK (.int 7)))) (tRt3 (tO rAdd3 (tK (.int 7)) (tCl3 sp_law_take (tC3 (tV 0) (tC3 (tK (.int 2)) tN3))))) tNx3)
    (tRt3 (tO rAdd3 (tK (.int 1)) (tCl3 sp_law_take (tC3 (tV 0) (tC3 (tK (.int 6)) tN3))))))

theorem sem_law_fields : ∀ ws M Q E, sp_law_fields ws M Q E → rd_law_fields (ends3 Q) (start3 ["_law_tape_here"] ws) M := by
  rintro ws M Q E ⟨t, c, k, rfl, ht, hc, q⟩
  unfold rd_law_fields
  walk_at "x"
  refine ⟨t, 8, c, k, rfl, ht, hc, by omega, by omega, fun c k r hc h0 h1 => ?_⟩
  walk_at "x"
  split
  · refine ⟨t, 2, c, k, rfl, up_same, hc, by omega, by omega, fun c k r hc h0 h1 => ?_⟩
    obtain ⟨r, rfl⟩ := Int.eq_ofNat_of_zero_le h0
    walk_at "x"
    rw [up_up]
    exact .of (by have := q c k (7 + r) hc (by omega) (by omega); simpa [wI] using this)
  · refine ⟨t, 6, c, k, rfl, up_same, hc, by omega, by omega, fun c k r hc h0 h1 => ?_⟩
    obtain ⟨r, rfl⟩ := Int.eq_ofNat_of_zero_le h0
    walk_at "x"
    rw [up_up]
    exact .of (by have := q c k (1 + r) hc (by omega) (by omega); simpa [wI] using this)
def sp_law_value : Sp3 := fun ws M Q _ => ∃ t c k s, ws = [.ref t, .int s] ∧ M t = some (tpO c k) ∧ 0 ≤ c ∧ 0 < s ∧ s < 1073741824 ∧ ∀ c' k' v, 0 ≤ c' → Q (.int v) (up M t (tpO c' k'))
def rd_law_value : TS3 :=
  (tSq (tAs3 (tCl3 sp_law_take (tC3 (tV 0) (tC3 (tK (.int 8)) tN3))) (gN3 2))
    (tSq (tIfS3 (tTt (tO rEq3 (tV 2) (tK (.int 0)))) (tSq (tAs3 (tCl3 sp_law_take (tC3 (tV 0) (tC3 (tO rPow3 (tK (.int 10)) (tK (.int 9))) tN3))) (gN3 3))
    (tSq (tAs3 (tO rSub3 (tO rMul3 (tV 3) (tO rPow3 (tK (.int 10)) (tK (.int 30)))) (tCl3 sp_law_take (tC3 (tV 0) (tC3 (tO rPow3 (tK (.int 10)) (tK (.int 9))) tN3)))) (gN3 4))
    (tRt3 (tO rIx3 (tLst3 (tC3 (tV 4) (tC3 (tO rSub3 (tK (.int 0)) (tV 4)) (tC3 (tO rMul3 (tV 4) (tO rPow3 (tK (.int 10)) (tK (.int 20)))) (tC3 (tO rSub3 (tK (.int 0)) (tO rMul3 (tV 4) (tO rPow3 (tK (.int 10)) (tK (.int 20))))) tN3))))) (tO rMod3 (tCB3 rInt3 (tC3 (tV 3) tN3)) (tK (.int 4))))))) tNx3)
    (tSq (tIfS3 (tTt (tO rEq3 (tV 2) (tK (.int 1)))) (tRt3 (tO rSub3 (tK (.int 0)) (tCl3 sp_law_take (tC3 (tV 0) (tC3 (tV 1) tN3))))) tNx3)
    (tRt3 (tCl3 sp_law_take (tC3 (tV 0) (tC3 (tV 1) tN3)))))))

theorem sem_law_value : ∀ ws M Q E, sp_law_value ws M Q E → rd_law_value (ends3 Q) (start3 ["_law_tape_here", "_law_span", "_law_pick", "_law_high", "_law_value_here"] ws) M := by
  rintro ws M Q E ⟨t, c, k, s, rfl, ht, hc, hs, hs2, q⟩
  unfold rd_law_value
  walk_at "x"
  refine ⟨t, 8, c, k, rfl, ht, hc, by omega, by omega, fun c k r hc h0 h1 => ?_⟩
  walk_at "x"
  split
  · refine ⟨t, _, c, k, rfl, up_same, hc, by omega, by omega, fun c k hi hc h0 h1 => ?_⟩
    walk_at "x"
    refine ⟨.inl ⟨by omega, by omega⟩, ?_⟩
    refine ⟨t, _, c, k, rfl, by rw [up_up, up_same], hc, by omega, by omega, fun c k lo hc h2 h3 => ?_⟩
    walk_at "x"
    have hb : (hi * 1000000000000000000000000000000 - lo).natAbs < 2 ^ 140 := by
      have : (2 : Nat) ^ 140 = 1393796574908163946345982392040522594123776 := by decide
      omega
    have hm : CMulW (hi * 1000000000000000000000000000000 - lo) 100000000000000000000 := wide_mul hb (b := 70) (by decide) (by decide) (by decide) (by decide)
    obtain ⟨hi, rfl⟩ := Int.eq_ofNat_of_zero_le h0
    refine ⟨.inr hm, .inr hm, fun p hp => ?_⟩
    have fin : ∀ v l, Wm (Q (.int v)) (up (up (up (up M t _) t _) t (tpO c k)) p (.lst l)) := fun v l => by
      refine wm_le (Le.new hp) ?_
      rw [up_up, up_up]
      exact q c k v hc
    have e4 : ((hi : Int) % 4) = ((hi % 4 : Nat) : Int) := by omega
    rw [e4]
    have h4 : hi % 4 < 4 := by omega
    generalize hi % 4 = m at h4
    match m, h4 with
    | 0, _ => exact ⟨_, rfl, fin _ _⟩
    | 1, _ => exact ⟨_, rfl, fin _ _⟩
    | 2, _ => exact ⟨_, rfl, fin _ _⟩
    | 3, _ => exact ⟨_, rfl, fin _ _⟩
  · split
    · refine ⟨t, _, c, k, rfl, up_same, hc, hs, hs2, fun c k r hc h0 h1 => ?_⟩
      walk_at "x"
      rw [up_up]
      exact .of (q _ _ _ hc)
    · refine ⟨t, _, c, k, rfl, up_same, hc, hs, hs2, fun c k r hc h0 h1 => ?_⟩
      rw [up_up]
      exact .of (q _ _ _ hc)
/-- a list comprehension or loop that draws n values -/
def sp_law_record : Sp3 := fun ws M Q _ => ∃ t c k n s, ws = [.ref t, wI n, .int s] ∧ M t = some (tpO c k) ∧ 0 ≤ c ∧ 0 < s ∧ s < 1073741824 ∧ n < 1000 ∧ ∀ c' k' (x : FR.Rec), 0 ≤ c' → x.length = n → Q (wR x) (up M t (tpO c' k'))
def rd_law_record : TS3 :=
  (tRt3 (tCB3 rTuple3 (tC3 (tLc3 (iR1 (tC3 (tV 1) tN3)) 3 tY3 (tCl3 sp_law_value (tC3 (tV 0) (tC3 (tV 2) tN3)))) tN3)))

theorem sem_law_record : ∀ ws M Q E, sp_law_record ws M Q E → rd_law_record (ends3 Q) (start3 ["_law_tape_here", "_law_n", "_law_span", "_law_k"] ws) M := by
  rintro ws M Q E ⟨t, c, k, n, s, rfl, ht, hc, hs, hs2, hn, q⟩
  unfold rd_law_record wI
  walk_at "x"
  refine ⟨by omega, by omega, ?_⟩
  rw [Int.toNat_natCast]
  intro D hD
  have n1 : t ≠ D := ne_new ht hD
  refine ⟨fun i M' => ∃ c k, ∃ x : FR.Rec, M' = up (up M t (tpO c k)) D (.lst (x.map .int)) ∧ 0 ≤ c ∧ x.length = i, .of ⟨c, k, [], by rw [up_self ht]; rfl, hc, rfl⟩, fun _ _ _ _ => trivial, ?_, ?_⟩
  · rintro i w M' hw ⟨c, k, x, rfl, hc, hx⟩
    walk_at "x"
    refine ⟨t, c, k, s, rfl, get2 n1, hc, hs, hs2, fun c k v hc => ?_⟩
    have hi := (rgW_get hw).1
    rw [put2 n1]
    refine ⟨_, up_same, by rw [List.length_map]; omega, .of ⟨c, k, x ++ [v], ?_, hc, by simp [hx]⟩⟩
    rw [up_up, List.map_append]; rfl
  · rintro M' ⟨c, k, x, rfl, hc, hx⟩
    rw [rgW_len] at hx
    walk_at "x"
    exact wm_le (Le.new (up_free hD n1)) (q c k x hc hx)
end Z3
set_option Elab.async false
set_option linter.all false
set_option maxRecDepth 100000
namespace Z3
open PySem L2
local macro_rules | `(tactic| walk_at "x") => `(tactic| try simp only [tLcP_, rRepr_, tSortL_, tSq_, tIfS_, tTt_, tO_, tV_, tK_, rEq_, rNe_, start3_eq, ends_rt, ends_nx, tRt_, tRn_, tNx_, tEx_, tAs_, gN_, gIx_, tIsN_, tNotN_, tNeg_, rIx_, tMt_, rApp_, rPop_, rIns_, tCB_, rLen_, rList_, rTuple_, tC_, tN_, tLst_, tTup_, tRev_, tSl_, tPa_, tNo_,
    tAnd_, tOr_, tNot_, tAndV_, tOrV_, tNotV_, tIf_, tChain_, rIn_, iSeq_, iR1_, iR2_, tLr1_, tFor_, tWh_, tLc_, tY_, tCl_, tMe_, tFl_, tSf_, tMk_, tPr_, tBk_, tCt_, tNv_,
    sl_some, asB_bl, asI_int, asR_ref, as1_one, as2_two, items_tup, items_rls, items_lst, lstAt_lst, rAdd_int, rAdd_tup, rAdd_lst, rSub_int, rMul_int, rDiv_int, rMod_int, rPow_int, rI_int, rInt_int, rInt_bl, rAbs_int, eqK_some, sc_ii, sc_ss, sc_bb, sc_ni, sc_in, sc_nn,
    isN_non, isN_int, isN_ref, isN_tup, isN_bl, isN_str, sl3_tup, sl3_ref, up_same, List.map_cons, List.map_nil, List.length_cons, List.length_nil, List.cons_append, List.nil_append, List.getElem?_cons_succ, List.getElem?_cons_zero, List.set_cons_zero, List.set_cons_succ, List.replicate_zero, List.replicate_succ, List.append_nil,
    Option.some.injEq, MO.lst.injEq, exists_eq_left', exists_eq_left, exists_eq', and_true, true_and, if_true, Bool.false_eq_true, if_false, reduceIte, Nat.zero_add, Nat.reduceAdd, Nat.reduceSub, Nat.reduceLeDiff, Bool.not_true, Bool.not_false, ne_eq, not_true_eq_false, not_false_eq_true, atI_z, atI_o, ixN_z, ixN_o, Int.reduceLE, Int.reduceLT, Int.reduceNeg, Int.reduceToNat, Int.reducePow, Int.reduceAdd, Int.reduceMul, Int.reduceSub, natAbs10, Nat.reducePow, Nat.reduceLT, Int.reduceEq, decide_true, decide_false, true_or, or_true, false_or, or_false, and_false, false_and])

local macro_rules | `(tactic| walk_at "xs") => `(tactic| try simp only [tLcP_, rRepr_, tSortL_, tSq_, tIfS_, tTt_, tO_, tV_, tK_, rEq_, rNe_, start3_eq, ends_rt, ends_nx, tRt_, tRn_, tNx_, tEx_, tAs_, gN_, gIx_, tIsN_, tNotN_, tNeg_, rIx_, tMt_, rApp_, rPop_, rIns_, tCB_, rLen_, rList_, rTuple_, tC_, tN_, tLst_, tTup_, tRev_, tSl_, tPa_, tNo_,
    tAnd_, tOr_, tNot_, tAndV_, tOrV_, tNotV_, tIf_, tChain_, rIn_, iSeq_, iR1_, iR2_, tLr1_, tFor_, tWh_, tLc_, tY_, tCl_, tMe_, tFl_, tSf_, tMk_, tPr_, tBk_, tCt_, tNv_,
    sl_some, asB_bl, asI_int, asR_ref, as1_one, as2_two, items_tup, items_rls, items_lst, lstAt_lst, rAdd_int, rAdd_tup, rAdd_lst, rSub_int, rMul_int, rDiv_int, rMod_int, rPow_int, rI_int, rInt_int, rInt_bl, rAbs_int, eqK_some, sc_ii, sc_ss, sc_bb, sc_ni, sc_in, sc_nn,
    isN_non, isN_int, isN_ref, isN_tup, isN_bl, isN_str, sl3_tup, sl3_ref, up_same, List.map_cons, List.map_nil, List.length_cons, List.length_nil, List.cons_append, List.nil_append, List.getElem?_cons_succ, List.getElem?_cons_zero, List.set_cons_zero, List.set_cons_succ, List.replicate_zero, List.replicate_succ, List.append_nil,
    Option.some.injEq, MO.lst.injEq, exists_eq_left', exists_eq_left, exists_eq', and_true, true_and, if_true, Bool.false_eq_true, if_false, reduceIte, Nat.zero_add, Nat.reduceAdd, Nat.reduceSub, Nat.reduceLeDiff, Bool.not_true, Bool.not_false, ne_eq, not_true_eq_false, not_false_eq_true, atI_z, atI_o, ixN_z, ixN_o, Int.reduceLE, Int.reduceLT, Int.reduceNeg, Int.reduceToNat, Int.reducePow, Int.reduceAdd, Int.reduceMul, Int.reduceSub, natAbs10, Nat.reducePow, Nat.reduceLT, Int.reduceEq, decide_true, decide_false, true_or, or_true, false_or, or_false, and_false, false_and, *])

/-! ## the forest -/
def sp_raised : Sp3 := fun ws M Q _ => ∃ k v b, ws = [wK k, .int v, .int b] ∧ Q (.int (if k = .down then v - b else v + b)) M
def rd_raised : TS3 :=
  (tSq (tIfS3 (tTt (tO rEq3 (tV 0) (tK (.str ("down" : Str))))) (tRt3 (tO rSub3 (tV 1) (tV 2))) tNx3)
    (tRt3 (tO rAdd3 (tV 1) (tV 2))))

theorem sem_raised : ∀ ws M Q E, sp_raised ws M Q E → rd_raised (ends3 Q) (start3 ["kind", "value", "by"] ws) M := by
  rintro ws M Q E ⟨k, i, j, rfl, q⟩
  unfold rd_raised wK
  walk_at "x"
  simp only [kS_down, decide_eq_true_eq]
  cases k <;> exact .of (by simpa using q)

def sp_never_ends : Sp3 := fun ws M Q _ => ∃ wp ps f, ws = [wp, wI f] ∧ itemsOf M wp = some (ps.map wO) ∧ FR.WF ps ∧ f < ps.length ∧ ps.length < 1000 ∧ Q (.bl false) M
def rd_never_ends : TS3 :=
  (tSq (tAs3 (tV 1) (gN3 2))
    (tSq (tFor3 (iR1 (tC3 (tCB3 rLen3 (tC3 (tV 0) tN3)) tN3)) (gN3 3) (tSq (tIfS3 (tTt (tIsN3 (tV 2))) (tRt3 (tK (.bl false))) tNx3)
    (tAs3 (tO rIx3 (tV 0) (tV 2)) (gN3 2))))
    (tRt3 (tNotN3 (tV 2)))))

theorem sem_never_ends : ∀ ws M Q E, sp_never_ends ws M Q E → rd_never_ends (ends3 Q) (start3 ["parents", "field", "place", "_"] ws) M := by
  rintro ws M Q E ⟨wp, ps, f, rfl, hw, wf, hf, hz, q⟩
  unfold rd_never_ends
  walk_at "x"
  obtain ⟨r, hr⟩ := wf.rank
  refine ⟨_, hw, by omega, by rw [List.length_map]; omega, ?_⟩
  rw [List.length_map, Int.toNat_natCast]
  refine for_rg (fun i σ M' => ∃ o o3, σ = [some wp, some (wI f), some (wO o), o3] ∧ M' = M ∧ ∀ g, o = some g → g < ps.length ∧ r g + i < ps.length) (.of ⟨some f, none, rfl, rfl, fun g e => by cases e; exact ⟨hf, (hr f hf).1⟩⟩) ?_ ?_
  · rintro i σ M' hi ⟨o, o3, rfl, rfl, ho⟩
    walk_at "x"
    cases o with
    | none =>
      simp only [wO, isN_non, if_true]
      exact .of q
    | some g =>
      obtain ⟨h1, h2⟩ := ho g rfl
      simp only [wO, isN_int, Bool.false_eq_true, if_false, hw, asI_int, Option.some.injEq, exists_eq_left', atI_ok (get_par h1)]
      refine .of ⟨_, _, rfl, rfl, fun p hp => ?_⟩
      have := (hr g h1).2 p hp
      exact ⟨this.1, by omega⟩
  · rintro σ M' ⟨o, o3, rfl, rfl, ho⟩
    walk_at "x"
    cases o with
    | none =>
      simp only [wO, isN_non, Bool.not_true]
      exact .of q
    | some g => have := (ho g rfl).2; omega
/-- what a forest is made of -/
structure FoOk (ps : FR.Par) (ks : List FR.Kd) : Prop where
  wf : FR.WF ps
  mid : FR.Mid ps ks
  len : ks.length = ps.length
  lo : 1 ≤ ps.length
  hi : ps.length ≤ 16
theorem FoOk.lt {ps ks} (h : FoOk ps ks) : ps.length < 1000 := by have := h.hi; omega
theorem par_lt {ps : FR.Par} (w : FR.WF ps) {f p : Nat} (h : FR.parent ps f = some p) : p < ps.length := w.lt (FR.parent_lt h) h
def sp_check_shape : Sp3 := fun ws M Q _ => ∃ wp wk ps ks, ws = [wp, wk] ∧ itemsOf M wp = some (ps.map wO) ∧ itemsOf M wk = some (ks.map wK) ∧ FoOk ps ks ∧ Q .non M
theorem in_fl {k : FR.Kd} : in3 (wK k) [.str "first", .str "last"] = (decide (k = .first) || decide (k = .last)) := by cases k <;> decide
def rd_check_shape : TS3 :=
  (tSq (tAs3 (tCB3 rLen3 (tC3 (tV 0) tN3)) (gN3 2))
    (tSq (tIfS3 (tOr3 (tTt (tO rNe3 (tV 2) (tCB3 rLen3 (tC3 (tV 1) tN3)))) (tNot3 (tTt (tChain3 rLe3 rLe3 (tK (.int 1)) (tV 2) (tK (.int 16)))))) tNv3 tNx3)
    (tSq (tFor3 (iR1 (tC3 (tV 2) tN3)) (gN3 3) (tIfS3 (tAnd3 (tTt (tNotN3 (tO rIx3 (tV 0) (tV 3)))) (tNot3 (tTt (tChain3 rLe3 rLt3 (tK (.int 0)) (tO rIx3 (tV 0) (tV 3)) (tV 2))))) tNv3 tNx3))
    (tSq (tFor3 (iR1 (tC3 (tV 2) tN3)) (gN3 3) (tIfS3 (tTt (tCl3 sp_never_ends (tC3 (tV 0) (tC3 (tV 3) tN3)))) tNv3 tNx3))
    (tFor3 (iR1 (tC3 (tV 2) tN3)) (gN3 3) (tIfS3 (tAnd3 (tTt (tO (rIn3 false) (tO rIx3 (tV 1) (tV 3)) (tTup3 (tC3 (tK (.str ("first" : Str))) (tC3 (tK (.str ("last" : Str))) tN3))))) (tTt (tO (rIn3 false) (tV 3) (tV 0)))) tNv3 tNx3))))))

theorem sem_check_shape : ∀ ws M Q E, sp_check_shape ws M Q E → rd_check_shape (ends3 Q) (start3 ["parents", "kinds", "fields", "field"] ws) M := by
  rintro ws M Q E ⟨wp, wk, ps, ks, rfl, hp, hk, F, q⟩
  unfold rd_check_shape
  walk_at "x"
  have l1 := F.lo
  have l2 := F.hi
  have l3 := F.len
  have e1 : (1 : Int) ≤ (ps.length : Int) := by omega
  have e2 : (ps.length : Int) ≤ 16 := by omega
  simp only [hp, hk, Option.some.injEq, exists_eq_left', List.length_map, l3, sc_ii, eqK_some, decide_true, Bool.not_true, Bool.false_eq_true, if_false, e1, e2, if_true]
  refine ⟨by omega, by omega, ?_⟩
  rw [Int.toNat_natCast]
  refine for_rg (fun i σ M' => ∃ o, σ = [some wp, some wk, some (wI ps.length), o] ∧ M' = M) (.of ⟨_, rfl, rfl⟩) ?_ ?_
  · rintro i σ M' hi ⟨o, rfl, rfl⟩
    rw [Int.zero_add]
    walk_at "x"
    simp only [hp, Option.some.injEq, exists_eq_left', atI_ok (get_par hi)]
    cases h : FR.parent ps i with
    | none =>
      simp only [wO, isN_non, Bool.not_true, Bool.false_eq_true, if_false]
      exact .of ⟨_, rfl, rfl⟩
    | some p =>
      have e3 : (0 : Int) ≤ (p : Int) := by omega
      have e4 : (p : Int) < (ps.length : Int) := by have := par_lt F.wf h; omega
      simp only [wO, isN_int, Bool.not_false, if_true, rI_int, e3, decide_true, asB_bl, wI, e4, Bool.not_true, Bool.false_eq_true, if_false]
      exact .of ⟨_, rfl, rfl⟩
  · rintro σ M1 ⟨o, rfl, rfl⟩
    unfold wI
    walk_at "x"
    refine ⟨by omega, by omega, ?_⟩
    rw [Int.toNat_natCast]
    refine for_rg (fun i σ M2 => ∃ o, σ = [some wp, some wk, some (wI ps.length), o] ∧ M2 = M1) (.of ⟨_, rfl, rfl⟩) ?_ ?_
    · intro i σ M2 hi h2
      obtain ⟨o, e1, e2⟩ := h2
      subst e1
      cases e2
      rw [Int.zero_add]
      walk_at "x"
      refine ⟨wp, ps, i, rfl, hp, F.wf, hi, F.lt, ?_⟩
      simp only [Bool.false_eq_true, if_false, asB_bl]
      exact .of ⟨_, rfl, rfl⟩
    · intro σ M2 h2
      obtain ⟨o, e1, e2⟩ := h2
      subst e1
      cases e2
      unfold wI
      walk_at "x"
      refine ⟨by omega, by omega, ?_⟩
      rw [Int.toNat_natCast]
      refine for_rg (fun i σ M2 => ∃ o, σ = [some wp, some wk, some (wI ps.length), o] ∧ M2 = M1) (.of ⟨_, rfl, rfl⟩) ?_ ?_
      · intro i σ M2 hi h2
        obtain ⟨o, e1, e2⟩ := h2
        subst e1
        cases e2
        rw [Int.zero_add]
        walk_at "x"
        simp only [hk, hp, Option.some.injEq, exists_eq_left', atI_ok (get_kd (l3 ▸ hi))]
        refine ⟨rfl, rfl, ?_⟩
        rw [show (W.str (Str.ofString "first") :: [W.str (Str.ofString "last")]) = [W.str ("first" : Str), W.str ("last" : Str)] from rfl, in_fl]
        by_cases h : FR.kd ks i = .first ∨ FR.kd ks i = .last
        · have h' : (decide (FR.kd ks i = .first) || decide (FR.kd ks i = .last)) = true := by simpa using h
          rw [h']
          rw [if_pos rfl]
          refine ⟨rfl, flat_par ps, ?_⟩
          have : in3 (.int i) (ps.map wO) = false := by
            rw [Bool.eq_false_iff]
            intro z
            obtain ⟨g, hg⟩ := in_par.mp z
            rcases F.mid g i hg with y | y <;> rw [y] at h <;> rcases h with h | h <;> cases h
          simp only [this, Bool.false_eq_true, if_false]
          exact .of ⟨_, rfl, rfl⟩
        · have h' : (decide (FR.kd ks i = .first) || decide (FR.kd ks i = .last)) = false := by simpa using h
          rw [h', if_neg (by decide)]
          exact .of ⟨_, rfl, rfl⟩
      · intro σ M2 h2
        obtain ⟨o, e1, e2⟩ := h2
        subst e1
        cases e2
        walk_at "x"
        exact .of q
/-- an instance's fields -/
def frF (ps : FR.Par) (ks : List FR.Kd) : List (Str × W) := [("fields", .int ps.length), ("parents", .tup (ps.map wO)), ("kinds", .tup (ks.map wK))]
def sp_Forest_init (A : Ad) : Sp3 := fun ws M Q _ => ∃ x wp wk ps ks, ws = [.ref x, wp, wk] ∧ M x = some (.ins A.Forest []) ∧ itemsOf M wp = some (ps.map wO) ∧ itemsOf M wk = some (ks.map wK) ∧ FoOk ps ks ∧ Q .non (up M x (.ins A.Forest (frF ps ks)))
def rd_Forest_init (A : Ad) : TS3 :=
  (tSq (tEx3 (tCl3 sp_check_shape (tC3 (tV 1) (tC3 (tV 2) tN3))))
    (tSq (tSf3 A.Forest ("fields" : Str) (tV 0) (tCB3 rLen3 (tC3 (tV 1) tN3)))
    (tSq (tSf3 A.Forest ("parents" : Str) (tV 0) (tCB3 rTuple3 (tC3 (tV 1) tN3)))
    (tSf3 A.Forest ("kinds" : Str) (tV 0) (tCB3 rTuple3 (tC3 (tV 2) tN3))))))

theorem sem_Forest_init (A : Ad) : ∀ ws M Q E, sp_Forest_init A ws M Q E → rd_Forest_init A (ends3 Q) (start3 ["self", "parents", "kinds"] ws) M := by
  rintro ws M Q E ⟨x, wp, wk, ps, ks, rfl, hx, hp, hk, F, q⟩
  have np : wp ≠ .ref x := fun e => by subst e; have z : lstAt (M x) = some _ := hp; rw [hx] at z; cases z
  have nk : wk ≠ .ref x := fun e => by subst e; have z : lstAt (M x) = some _ := hk; rw [hx] at z; cases z
  unfold rd_Forest_init
  walk_at "x"
  refine ⟨wp, wk, ps, ks, rfl, hp, hk, F, ?_⟩
  simp only [hp, Option.some.injEq, exists_eq_left', hx, MO.ins.injEq, true_and, items_set np, items_set nk, hk, up_same, up_up]
  refine ⟨(by decide : (0 : Nat) < 1000), (by decide : (1 : Nat) < 1000), (by decide : (2 : Nat) < 1000), ?_⟩
  rw [List.length_map]
  exact .of q

def sp_Forest_path (A : Ad) : Sp3 := fun ws M Q _ => ∃ a ps ks f, ws = [.ref a, wI f] ∧ M a = some (.ins A.Forest (frF ps ks)) ∧ FoOk ps ks ∧ f < ps.length ∧ Q (.tup ((FR.pathOf ps f).map wI)) M
def rd_Forest_path (A : Ad) : TS3 :=
  (tRt3 (tCl3 sp_path_of (tC3 (tFl3 A.Forest ("parents" : Str) (tV 0)) (tC3 (tV 1) tN3))))

theorem sem_Forest_path (A : Ad) : ∀ ws M Q E, sp_Forest_path A ws M Q E → rd_Forest_path A (ends3 Q) (start3 ["self", "field"] ws) M := by
  rintro ws M Q E ⟨a, ps, ks, f, rfl, ha, F, hf, q⟩
  unfold rd_Forest_path
  walk_at "x"
  refine ⟨_, ha, _, rfl, _, ps, f, rfl, rfl, F.wf, hf, F.lt, .of q⟩
end Z3
set_option Elab.async false
set_option linter.all false
set_option maxRecDepth 100000
set_option maxHeartbeats 1000000
namespace Z3
open PySem L2
local macro_rules | `(tactic| walk_at "x") => `(tactic| try simp only [tLcP_, rRepr_, tSortL_, tSq_, tIfS_, tTt_, tO_, tV_, tK_, rEq_, rNe_, start3_eq, ends_rt, ends_nx, tRt_, tRn_, tNx_, tEx_, tAs_, gN_, gIx_, tIsN_, tNotN_, tNeg_, rIx_, tMt_, rApp_, rPop_, rIns_, tCB_, rLen_, rList_, rTuple_, tC_, tN_, tLst_, tTup_, tRev_, tSl_, tPa_, tNo_,
    tAnd_, tOr_, tNot_, tAndV_, tOrV_, tNotV_, tIf_, tChain_, rIn_, iSeq_, iR1_, iR2_, tLr1_, tFor_, tWh_, tLc_, tY_, tCl_, tMe_, tFl_, tSf_, tMk_, tPr_, tBk_, tCt_, tNv_,
    sl_some, asB_bl, asI_int, asR_ref, as1_one, as2_two, items_tup, items_rls, items_lst, lstAt_lst, rAdd_int, rAdd_tup, rAdd_lst, rSub_int, rMul_int, rDiv_int, rMod_int, rPow_int, rI_int, rInt_int, rInt_bl, rAbs_int, eqK_some, sc_ii, sc_ss, sc_bb, sc_ni, sc_in, sc_nn,
    isN_non, isN_int, isN_ref, isN_tup, isN_bl, isN_str, sl3_tup, sl3_ref, up_same, List.map_cons, List.map_nil, List.length_cons, List.length_nil, List.cons_append, List.nil_append, List.getElem?_cons_succ, List.getElem?_cons_zero, List.set_cons_zero, List.set_cons_succ, List.replicate_zero, List.replicate_succ, List.append_nil,
    Option.some.injEq, MO.lst.injEq, exists_eq_left', exists_eq_left, exists_eq', and_true, true_and, if_true, Bool.false_eq_true, if_false, reduceIte, Nat.zero_add, Nat.reduceAdd, Nat.reduceSub, Nat.reduceLeDiff, Bool.not_true, Bool.not_false, ne_eq, not_true_eq_false, not_false_eq_true, atI_z, atI_o, ixN_z, ixN_o, Int.reduceLE, Int.reduceLT, Int.reduceNeg, Int.reduceToNat, Int.reducePow, Int.reduceAdd, Int.reduceMul, Int.reduceSub, natAbs10, Nat.reducePow, Nat.reduceLT, Int.reduceEq, decide_true, decide_false, true_or, or_true, false_or, or_false, and_false, false_and])

local macro_rules | `(tactic| walk_at "xs") => `(tactic| try simp only [tLcP_, rRepr_, tSortL_, tSq_, tIfS_, tTt_, tO_, tV_, tK_, rEq_, rNe_, start3_eq, ends_rt, ends_nx, tRt_, tRn_, tNx_, tEx_, tAs_, gN_, gIx_, tIsN_, tNotN_, tNeg_, rIx_, tMt_, rApp_, rPop_, rIns_, tCB_, rLen_, rList_, rTuple_, tC_, tN_, tLst_, tTup_, tRev_, tSl_, tPa_, tNo_,
    tAnd_, tOr_, tNot_, tAndV_, tOrV_, tNotV_, tIf_, tChain_, rIn_, iSeq_, iR1_, iR2_, tLr1_, tFor_, tWh_, tLc_, tY_, tCl_, tMe_, tFl_, tSf_, tMk_, tPr_, tBk_, tCt_, tNv_,
    sl_some, asB_bl, asI_int, asR_ref, as1_one, as2_two, items_tup, items_rls, items_lst, lstAt_lst, rAdd_int, rAdd_tup, rAdd_lst, rSub_int, rMul_int, rDiv_int, rMod_int, rPow_int, rI_int, rInt_int, rInt_bl, rAbs_int, eqK_some, sc_ii, sc_ss, sc_bb, sc_ni, sc_in, sc_nn,
    isN_non, isN_int, isN_ref, isN_tup, isN_bl, isN_str, sl3_tup, sl3_ref, up_same, List.map_cons, List.map_nil, List.length_cons, List.length_nil, List.cons_append, List.nil_append, List.getElem?_cons_succ, List.getElem?_cons_zero, List.set_cons_zero, List.set_cons_succ, List.replicate_zero, List.replicate_succ, List.append_nil,
    Option.some.injEq, MO.lst.injEq, exists_eq_left', exists_eq_left, exists_eq', and_true, true_and, if_true, Bool.false_eq_true, if_false, reduceIte, Nat.zero_add, Nat.reduceAdd, Nat.reduceSub, Nat.reduceLeDiff, Bool.not_true, Bool.not_false, ne_eq, not_true_eq_false, not_false_eq_true, atI_z, atI_o, ixN_z, ixN_o, Int.reduceLE, Int.reduceLT, Int.reduceNeg, Int.reduceToNat, Int.reducePow, Int.reduceAdd, Int.reduceMul, Int.reduceSub, natAbs10, Nat.reducePow, Nat.reduceLT, Int.reduceEq, decide_true, decide_false, true_or, or_true, false_or, or_false, and_false, false_and, *])

/-! ## classes -/
def natP (g : Nat → Bool) : W → Bool
  | .int i => g i.toNat
  | _ => false
theorem natP_int {g : Nat → Bool} {i : Nat} : natP g (.int i) = g i := by simp [natP]
theorem natF_int {g : Nat → W} {i : Nat} : natF g (.int i) = g i := by simp [natF]
theorem filt_rg {g : Nat → Bool} {n : Nat} : (rgW 0 n).filter (natP g) = ((List.range n).filter g).map wI := by
  unfold rgW
  rw [List.filter_map]
  have e1 : (natP g ∘ fun i : Nat => W.int (0 + (i : Int))) = g := by funext i; show natP g (.int (0 + (i : Int))) = g i; simp [natP]
  have e2 : (fun i : Nat => W.int (0 + (i : Int))) = wI := by funext i; show W.int (0 + (i : Int)) = .int i; rw [Int.zero_add]
  rw [e1, e2]
theorem filt_wI {g : Nat → Bool} {l : List Nat} : (l.map wI).filter (natP g) = (l.filter g).map wI := by
  rw [List.filter_map]
  have e1 : (natP g ∘ wI) = g := by funext i; show natP g (.int (i : Int)) = g i; simp [natP]
  rw [e1]
theorem sc_OO {p o : Option Nat} : sc3 (wO p) (wO o) = some (decide (p = o)) := by
  cases p <;> cases o <;> simp [wO, sc3]
  rename_i a b
  by_cases e : a = b
  · subst e; simp
  · have : (a : Int) ≠ (b : Int) := by omega
    simp [e, this]
theorem kS_inj {a b : FR.Kd} : (kS a = kS b) = (a = b) := by cases a <;> cases b <;> simp [kS] <;> decide
theorem sc_KK {a b : FR.Kd} : sc3 (wK a) (wK b) = some (decide (a = b)) := by unfold wK sc3; rw [Option.some.injEq, decide_eq_decide, kS_inj]
theorem in_ud {k : FR.Kd} : in3 (wK k) [.str "up", .str "down"] = (decide (k = .up) || decide (k = .down)) := by cases k <;> decide
theorem fr_f {ps ks} : (frF ps ks).lookup ("fields" : Str) = some (.int ps.length) := rfl
theorem fr_p {ps ks} : (frF ps ks).lookup ("parents" : Str) = some (.tup (ps.map wO)) := rfl
theorem fr_k {ps ks} : (frF ps ks).lookup ("kinds" : Str) = some (.tup (ks.map wK)) := rfl
theorem map_id_wI {l : List Nat} : (l.map wI).map id = l.map wI := List.map_id _
/-- the forest at a -/
abbrev IsFo (A : Ad) (M : Mp) (a : Addr) (ps : FR.Par) (ks : List FR.Kd) : Prop := M a = some (.ins A.Forest (frF ps ks))
theorem fo_new {A M a ps ks p o} (h : IsFo A M a ps ks) (n : M p = none) : IsFo A (up M p o) a ps ks := up_old h n

def sp_Forest_children (A : Ad) : Sp3 := fun ws M Q _ => ∃ a ps ks o, ws = [.ref a, wO o] ∧ IsFo A M a ps ks ∧ FoOk ps ks ∧ Q (.tup ((FR.chn ps o).map wI)) M
def rd_Forest_children (A : Ad) : TS3 :=
  (tRt3 (tCB3 rTuple3 (tC3 (tLc3 (iR1 (tC3 (tFl3 A.Forest ("fields" : Str) (tV 0)) tN3)) 2 (tTt (tO rEq3 (tO rIx3 (tFl3 A.Forest ("parents" : Str) (tV 0)) (tV 2)) (tV 1))) (tV 2)) tN3)))

theorem sem_Forest_children (A : Ad) : ∀ ws M Q E, sp_Forest_children A ws M Q E → rd_Forest_children A (ends3 Q) (start3 ["self", "field", "child"] ws) M := by
  rintro ws M Q E ⟨a, ps, ks, o, rfl, ha, F, q⟩
  have hi := F.hi
  unfold rd_Forest_children
  walk_at "x"
  refine ⟨_, ha, _, fr_f, ?_⟩
  walk_at "x"
  refine ⟨by omega, by omega, ?_⟩
  rw [Int.toNat_natCast]
  refine lc_fm (natP fun f => decide (FR.parent ps f = o)) id (by rw [rgW_len]; omega) (fun _ _ _ => trivial) ?_ ?_ ?_
  · intro w D acc R hw hD r
    obtain ⟨i, hi, rfl⟩ := mem_rgW hw
    walk_at "x"
    refine ⟨_, fo_new ha hD, _, fr_p, ?_⟩
    walk_at "x"
    refine ⟨_, atI_ok (get_par hi), ?_⟩
    rw [sc_OO, eqK_some]
    walk_at "x"
    rw [natP_int] at r
    exact r
  · intro w D acc R hw hD hc r
    obtain ⟨i, hi, rfl⟩ := mem_rgW hw
    walk_at "x"
    exact r
  · intro D hD
    rw [filt_rg, map_id_wI]
    walk_at "x"
    exact wm_le (Le.new hD) q
def sp_Forest_leaves (A : Ad) : Sp3 := fun ws M Q _ => ∃ a ps ks, ws = [.ref a] ∧ IsFo A M a ps ks ∧ FoOk ps ks ∧ Q (.tup (((List.range ps.length).filter fun f => !(ps.contains (some f))).map wI)) M
theorem in_cont {ps : FR.Par} {f : Nat} : in3 (.int f) (ps.map wO) = ps.contains (some f) := by
  rw [Bool.eq_iff_iff, in_par, List.contains_iff_mem]
  constructor
  · rintro ⟨g, hg⟩
    unfold FR.parent at hg
    cases q : ps[g]? with
    | none => rw [q] at hg; cases hg
    | some o =>
      rw [q] at hg
      have e : o = some f := hg
      rw [← e]
      exact List.mem_of_getElem? q
  · intro h
    obtain ⟨g, hg⟩ := List.getElem?_of_mem h
    exact ⟨g, by unfold FR.parent; rw [hg]; rfl⟩
def rd_Forest_leaves (A : Ad) : TS3 :=
  (tRt3 (tCB3 rTuple3 (tC3 (tLc3 (iR1 (tC3 (tCB3 rLen3 (tC3 (tFl3 A.Forest ("parents" : Str) (tV 0)) tN3)) tN3)) 1 (tTt (tO (rIn3 true) (tV 1) (tFl3 A.Forest ("parents" : Str) (tV 0)))) (tV 1)) tN3)))

theorem sem_Forest_leaves (A : Ad) : ∀ ws M Q E, sp_Forest_leaves A ws M Q E → rd_Forest_leaves A (ends3 Q) (start3 ["self", "field"] ws) M := by
  rintro ws M Q E ⟨a, ps, ks, rfl, ha, F, q⟩
  have hi := F.hi
  unfold rd_Forest_leaves
  walk_at "x"
  refine ⟨_, ha, _, fr_p, ?_⟩
  walk_at "x"
  rw [List.length_map]
  refine ⟨by omega, by omega, ?_⟩
  rw [Int.toNat_natCast]
  refine lc_fm (natP fun f => !(ps.contains (some f))) id (by rw [rgW_len]; omega) (fun _ _ _ => trivial) ?_ ?_ ?_
  · intro w D acc R hw hD r
    obtain ⟨i, hi, rfl⟩ := mem_rgW hw
    walk_at "x"
    refine ⟨_, fo_new ha hD, _, fr_p, ?_⟩
    walk_at "x"
    refine ⟨rfl, flat_par ps, ?_⟩
    rw [in_cont]
    walk_at "x"
    rw [natP_int] at r
    exact r
  · intro w D acc R hw hD hc r
    obtain ⟨i, hi, rfl⟩ := mem_rgW hw
    walk_at "x"
    exact r
  · intro D hD
    rw [filt_rg, map_id_wI]
    walk_at "x"
    exact wm_le (Le.new hD) q
/-- the classes as they are found -/
def wH (p : Option Nat × List Nat) : W := .tup [wO p.1, .tup (p.2.map wI)]
def wC (c : List Nat) : W := .tup (c.map wI)
def hangsTo (ps : FR.Par) (ks : List FR.Kd) (k : FR.Kd) (n : Nat) : List (Option Nat × List Nat) := (((FR.plcs ps).take n).map fun o => (o, FR.hang ps ks o k)).filter fun p => !p.2.isEmpty
theorem plcs_len {ps : FR.Par} : (FR.plcs ps).length = ps.length + 1 := by unfold FR.plcs; simp
theorem hangsTo_all {ps ks k} : hangsTo ps ks k (ps.length + 1) = FR.hangs ps ks k := by
  unfold hangsTo FR.hangs
  rw [List.take_of_length_le (Nat.le_of_eq plcs_len)]
theorem hangsTo_succ {ps ks k} {n : Nat} {o : Option Nat} (h : (FR.plcs ps)[n]? = some o) : hangsTo ps ks k (n + 1) = hangsTo ps ks k n ++ (if (FR.hang ps ks o k).isEmpty then [] else [(o, FR.hang ps ks o k)]) := by
  unfold hangsTo
  rw [List.take_add_one, h, List.map_append, List.filter_append]
  congr 1
  show List.filter _ [(o, FR.hang ps ks o k)] = _
  cases h2 : (FR.hang ps ks o k).isEmpty <;> simp [List.filter, h2]
theorem hangsTo_len {ps ks k} {n : Nat} : (hangsTo ps ks k n).length ≤ n := by
  unfold hangsTo
  refine Nat.le_trans (List.length_filter_le _ _) ?_
  rw [List.length_map, List.length_take]
  omega
theorem hang_len {ps ks o k} : (FR.hang ps ks o k).length ≤ ps.length := by
  unfold FR.hang FR.chn
  exact Nat.le_trans (List.length_filter_le _ _) (Nat.le_trans (List.length_filter_le _ _) (by rw [List.length_range]; omega))
def sp_hanging_leaves (A : Ad) : Sp3 := fun ws M Q _ => ∃ a ps ks k, ws = [.ref a, wK k] ∧ IsFo A M a ps ks ∧ FoOk ps ks ∧ ∀ p, M p = none → Q (.ref p) (up M p (.lst ((FR.hangs ps ks k).map wH)))
def rd_hanging_leaves (A : Ad) : TS3 :=
  (tSq (tAs3 (tLst3 tN3) (gN3 2))
    (tSq (tFor3 (iSeq3 (tO rAdd3 (tLst3 (tC3 (tK .non) tN3)) (tLr1 (tFl3 A.Forest ("fields" : Str) (tV 0))))) (gN3 3) (tSq (tAs3 (tLc3 (iSeq3 (tMe3 A.Forest ("children" : Str) (sp_Forest_children A) (tV 0) (tC3 (tV 3) tN3))) 5 (tTt (tO rEq3 (tO rIx3 (tFl3 A.Forest ("kinds" : Str) (tV 0)) (tV 5)) (tV 1))) (tV 5)) (gN3 4))
    (tIfS3 (tTt (tO rGt3 (tCB3 rLen3 (tC3 (tV 4) tN3)) (tK (.int 0)))) (tEx3 (tMt rApp3 (tV 2) (tC3 (tTup3 (tC3 (tV 3) (tC3 (tCB3 rTuple3 (tC3 (tV 4) tN3)) tN3))) tN3))) tNx3)))
    (tRt3 (tV 2))))

theorem sem_hanging_leaves (A : Ad) : ∀ ws M Q E, sp_hanging_leaves A ws M Q E → rd_hanging_leaves A (ends3 Q) (start3 ["forest", "kind", "found", "parent", "leaves", "field"] ws) M := by
  rintro ws M Q E ⟨a, ps, ks, k, rfl, ha, F, q⟩
  have hi := F.hi
  unfold rd_hanging_leaves
  walk_at "x"
  intro p hp p1 hp1
  have ha1 := fo_new (o := .lst [.non]) (fo_new (o := .lst []) ha hp) hp1
  refine ⟨_, ha1, _, fr_f, ?_⟩
  walk_at "x"
  refine ⟨by omega, by omega, fun p2 hp2 => ⟨_, _, up_old up_same hp2, rfl, by rw [rgW_len]; simp; omega, fun p3 hp3 => ?_⟩⟩
  rw [Int.toNat_natCast] at *
  have eW : [W.non] ++ rgW 0 ps.length = (FR.plcs ps).map wO := by
    unfold FR.plcs rgW
    rw [List.map_cons, List.map_map]
    show W.non :: _ = W.non :: _
    congr 1
    exact List.map_congr_left fun i _ => by show W.int (0 + (i : Int)) = .int i; rw [Int.zero_add]
  rw [eW]
  have q3 : M p3 = none := free_old (free_old (free_old hp3))
  have n3 : p ≠ p3 := free_ne (free_old (free_old hp3))
  have na : a ≠ p := ne_new ha hp
  have na3 : a ≠ p3 := ne_new ha q3
  refine for_sq (fun i σ M' => ∃ o3 o4 o5, σ = [some (.ref a), some (wK k), some (.ref p), o3, o4, o5] ∧ M' = up (up M p3 (.lst ((FR.plcs ps).map wO))) p (.lst ((hangsTo ps ks k i).map wH))) ⟨_, _, .refl, ?_, _, _, _, rfl, rfl⟩ ?_ ?_ ?_
  · rw [up_swap n3.symm]
    exact Le.upm (.trans (Le.new hp1) (Le.new hp2))
  · rintro i σ M' _ ⟨o3, o4, o5, rfl, rfl⟩
    rw [get2 n3.symm]; rfl
  · rintro i w σ M' hw ⟨o3, o4, o5, rfl, rfl⟩
    rw [List.getElem?_map] at hw
    obtain ⟨o, ho, rfl⟩ := Option.map_eq_some_iff.mp hw
    have ha' : IsFo A (up (up M p3 (.lst ((FR.plcs ps).map wO))) p (.lst ((hangsTo ps ks k i).map wH))) a ps ks := by unfold IsFo; rw [up_ne na, up_ne na3]; exact ha
    walk_at "x"
    refine ⟨_, ha', by rfl, a, ps, ks, o, rfl, ha', F, ?_⟩
    walk_at "x"
    refine lc_fm (natP fun f => decide (FR.kd ks f = k)) id ?_ (fun _ _ _ => trivial) ?_ ?_ ?_
    · rw [List.length_map]
      have : (FR.chn ps o).length ≤ ps.length := by unfold FR.chn; exact Nat.le_trans (List.length_filter_le _ _) (by rw [List.length_range]; omega)
      omega
    · intro w D acc R hw hD r
      obtain ⟨f, hf, rfl⟩ := List.mem_map.mp hw
      have hfl : f < ps.length := by unfold FR.chn at hf; exact List.mem_range.mp (List.mem_filter.mp hf).1
      unfold wI at r ⊢
      walk_at "x"
      refine ⟨_, fo_new ha' hD, _, fr_k, ?_⟩
      walk_at "x"
      refine ⟨_, atI_ok (get_kd (F.len ▸ hfl)), ?_⟩
      rw [sc_KK, eqK_some]
      walk_at "x"
      rw [natP_int] at r
      exact r
    · intro w D acc R hw hD hc r
      walk_at "x"
      exact r
    · intro D hD
      rw [filt_wI, map_id_wI]
      have nD : p ≠ D := free_ne hD
      have hlen : ((hangsTo ps ks k i).map wH).length < 16777216 := by
        have := hangsTo_len (ps := ps) (ks := ks) (k := k) (n := i)
        have h2 : i < (FR.plcs ps).length := (List.getElem?_eq_some_iff.mp ho).1
        rw [plcs_len] at h2
        rw [List.length_map]; omega
      have eh : (FR.chn ps o).filter (fun f => decide (FR.kd ks f = k)) = FR.hang ps ks o k := rfl
      rw [eh]
      walk_at "x"
      have es := hangsTo_succ (ks := ks) (k := k) ho
      cases hh : (FR.hang ps ks o k).isEmpty with
      | true =>
        have : FR.hang ps ks o k = [] := by simpa using hh
        rw [this]
        rw [show decide ((0 : Int) < (((List.map wI ([] : List Nat)).length : Nat) : Int)) = false from rfl, if_neg (by decide)]
        rw [hh, if_pos rfl, List.append_nil] at es
        refine ⟨_, _, .refl, Le.new hD, _, _, _, rfl, ?_⟩
        rw [es]
      | false =>
        have hpos : 0 < (FR.hang ps ks o k).length := List.length_pos_iff.mpr (by intro e; rw [e] at hh; cases hh)
        rw [hh, if_neg (by decide)] at es
        have : decide ((0 : Int) < (((FR.hang ps ks o k).map wI).length : Int)) = true := by rw [List.length_map]; simpa using hpos
        rw [this, if_pos rfl]
        refine ⟨⟨_, get2 nD⟩, _, get2 nD, hlen, ?_⟩
        rw [put2 nD]
        refine ⟨_, _, .refl, Le.new (up_free (free_old hD) nD), _, _, _, rfl, ?_⟩
        rw [es, List.map_append]
        rfl
  · rintro σ M' ⟨o3, o4, o5, rfl, rfl⟩
    walk_at "x"
    rw [List.length_map, plcs_len, hangsTo_all]
    exact wm_le (Le.upm (Le.new q3)) (q p hp)

def HasTab (A : Ad) (M : Mp) : Prop := M A.tab = some (.tab (lamQ "classes_of_kind"))
def keyC (ps : FR.Par) : W → Int
  | .tup (.int f :: _) => ((FR.pathOf ps f.toNat).length : Nat)
  | _ => 0
theorem keyC_eq {ps : FR.Par} {c : List Nat} (h : c ≠ []) : keyC ps (wC c) = (FR.plen ps c : Nat) := by
  cases c with
  | nil => exact absurd rfl h
  | cons x r => unfold wC keyC FR.plen FR.hd wI; simp
theorem hangs_ne {ps ks k} {p : Option Nat × List Nat} (h : p ∈ FR.hangs ps ks k) : p.2 ≠ [] ∧ ∀ f ∈ p.2, f < ps.length := by
  unfold FR.hangs at h
  obtain ⟨h1, h2⟩ := List.mem_filter.mp h
  obtain ⟨o, _, e⟩ := List.mem_map.mp h1
  refine ⟨by simpa using h2, fun f hf => ?_⟩
  rw [← e] at hf
  exact (FR.mem_hang.mp hf).1
theorem hangs_len {ps ks k} : (FR.hangs ps ks k).length ≤ ps.length + 1 := by rw [← hangsTo_all]; exact hangsTo_len
def sp_classes_of_kind (A : Ad) : Sp3 := fun ws M Q _ => ∃ a ps ks k, ws = [.ref a, wK k] ∧ IsFo A M a ps ks ∧ FoOk ps ks ∧ HasTab A M ∧ ∀ p, M p = none → Q (.ref p) (up M p (.lst ((FR.clsK ps ks k).map wC)))
def rd_classes_of_kind (A : Ad) : TS3 :=
  (tSq (tAs3 (tLcP3 (iSeq3 (tCl3 (sp_hanging_leaves A) (tC3 (tV 0) (tC3 (tV 1) tN3)))) 3 4 tY3 (tV 4)) (gN3 2))
    (tRt3 (tSortL3 A.tab (lamQ ("classes_of_kind" : Str)) ["leaves", "forest"] [0] (tV 2) (tCB3 rLen3 (tC3 (tMe3 A.Forest ("path" : Str) (sp_Forest_path A) (tV 1) (tC3 (tO rIx3 (tV 0) (tK (.int 0))) tN3)) tN3)))))

theorem sem_classes_of_kind (A : Ad) : ∀ ws M Q E, sp_classes_of_kind A ws M Q E → rd_classes_of_kind A (ends3 Q) (start3 ["forest", "kind", "classes", "parent", "leaves"] ws) M := by
  rintro ws M Q E ⟨a, ps, ks, k, rfl, ha, F, ht, q⟩
  have hi := F.hi
  unfold rd_classes_of_kind
  walk_at "x"
  refine ⟨a, ps, ks, k, rfl, ha, F, fun p hp => ?_⟩
  walk_at "x"
  intro D hD
  have nD : p ≠ D := free_ne hD
  refine ⟨fun i M' => M' = up (up M p (.lst ((FR.hangs ps ks k).map wH))) D (.lst ((((FR.hangs ps ks k).take i).map Prod.snd).map wC)), .of rfl, ?_, ?_, ?_⟩
  · rintro i M' _ rfl
    rw [get2 nD]; rfl
  · rintro i w M' hw rfl
    rw [List.getElem?_map] at hw
    obtain ⟨⟨o, c⟩, ho, rfl⟩ := Option.map_eq_some_iff.mp hw
    refine ⟨_, _, rfl, ?_⟩
    walk_at "x"
    refine ⟨?_, .of ?_⟩
    · have := hangs_len (ps := ps) (ks := ks) (k := k)
      rw [List.length_map, List.length_map, List.length_take]; omega
    · rw [List.take_add_one, ho, List.map_append, List.map_append, up_up]
      rfl
  · rintro M' rfl
    rw [List.length_map, List.take_length]
    walk_at "x"
    have ntp : A.tab ≠ p := ne_new ht hp
    have ntD : A.tab ≠ D := ne_new ht (free_old hD)
    have nap : a ≠ p := ne_new ha hp
    have naD : a ≠ D := ne_new ha (free_old hD)
    refine ⟨by rw [up_ne ntD, up_ne ntp]; exact ht, keyC ps, fun w hw => ?_, fun p2 hp2 => ?_⟩
    · obtain ⟨c, hc, rfl⟩ := List.mem_map.mp hw
      obtain ⟨⟨o, c'⟩, hp', rfl⟩ := List.mem_map.mp hc
      obtain ⟨ne, hl⟩ := hangs_ne hp'
      have ne : c' ≠ [] := ne
      obtain ⟨x, r, rfl⟩ := List.exists_cons_of_ne_nil ne
      have hx : x < ps.length := hl x (List.mem_cons_self ..)
      rw [keyC_eq ne]
      have el : lamSt [Str.ofString "leaves", Str.ofString "forest"] (wC (x :: r)) [some (W.ref a), some (wK k), some (W.ref D), none, none] [0] = [some (wC (x :: r)), some (.ref a)] := rfl
      rw [el]
      unfold wC
      walk_at "x"
      refine ⟨_, by rw [up_ne naD, up_ne nap]; exact ha, by rfl, a, ps, ks, x, rfl, by rw [up_ne naD, up_ne nap]; exact ha, F, hx, ?_⟩
      walk_at "x"
      rw [List.length_map]
      exact ⟨rfl, .refl⟩
    · have e : sortW (keyC ps) (((FR.hangs ps ks k).map Prod.snd).map wC) = (FR.clsK ps ks k).map wC := by
        unfold sortW FR.clsK
        rw [List.map_mergeSort]
        intro c hc d hd
        obtain ⟨p', hp', rfl⟩ := List.mem_map.mp hc
        obtain ⟨p'', hp'', rfl⟩ := List.mem_map.mp hd
        rw [keyC_eq (hangs_ne hp').1, keyC_eq (hangs_ne hp'').1]
        exact decide_eq_decide.mpr (by omega)
      rw [e]
      exact wm_le (Le.upm (.trans (Le.new hp) (Le.new hD))) (q p2 (free_old (free_old hp2)))

theorem HasTab.new {A M p o} (h : HasTab A M) (n : M p = none) : HasTab A (up M p o) := up_old h n
theorem clsK_len {ps ks k} : (FR.clsK ps ks k).length ≤ ps.length + 1 := by
  unfold FR.clsK
  rw [List.length_mergeSort, List.length_map]
  exact hangs_len
theorem leafP_len {ps ks} : (FR.leafP ps ks).length ≤ ps.length := by
  unfold FR.leafP
  rw [List.length_map]
  exact Nat.le_trans (List.length_filter_le _ _) (by rw [List.length_range]; omega)
theorem classes_len {ps ks} : (FR.classes ps ks).length ≤ 3 * ps.length + 2 := by
  unfold FR.classes
  have h1 := clsK_len (ps := ps) (ks := ks) (k := .first)
  have h2 := clsK_len (ps := ps) (ks := ks) (k := .last)
  have h3 := leafP_len (ps := ps) (ks := ks)
  rw [List.length_append, List.length_append, List.length_reverse]
  omega
def sp_bearer_classes (A : Ad) : Sp3 := fun ws M Q _ => ∃ a ps ks, ws = [.ref a] ∧ IsFo A M a ps ks ∧ FoOk ps ks ∧ HasTab A M ∧ ∀ p, M p = none → Q (.ref p) (up M p (.lst ((FR.classes ps ks).map wC)))
def rd_bearer_classes (A : Ad) : TS3 :=
  (tSq (tAs3 (tLc3 (iSeq3 (tPr3 A.Forest (sp_Forest_leaves A) (tV 0))) 3 (tTt (tO (rIn3 false) (tO rIx3 (tFl3 A.Forest ("kinds" : Str) (tV 0)) (tV 3)) (tTup3 (tC3 (tK (.str ("up" : Str))) (tC3 (tK (.str ("down" : Str))) tN3))))) (tTup3 (tC3 (tV 3) tN3))) (gN3 1))
    (tSq (tAs3 (tCl3 (sp_classes_of_kind A) (tC3 (tV 0) (tC3 (tK (.str ("last" : Str))) tN3))) (gN3 2))
    (tRt3 (tO rAdd3 (tO rAdd3 (tCl3 (sp_classes_of_kind A) (tC3 (tV 0) (tC3 (tK (.str ("first" : Str))) tN3))) (tV 1)) (tRev3 (tV 2))))))

theorem sem_bearer_classes (A : Ad) : ∀ ws M Q E, sp_bearer_classes A ws M Q E → rd_bearer_classes A (ends3 Q) (start3 ["forest", "plain", "last", "leaf"] ws) M := by
  rintro ws M Q E ⟨a, ps, ks, rfl, ha, F, ht, q⟩
  have hi := F.hi
  unfold rd_bearer_classes
  walk_at "x"
  refine ⟨_, ha, a, ps, ks, rfl, ha, F, ?_⟩
  walk_at "x"
  refine lc_fm (natP fun f => decide (FR.kd ks f = .up) || decide (FR.kd ks f = .down)) (natF fun f => wC [f]) ?_ (fun _ _ _ => trivial) ?_ ?_ ?_
  · rw [List.length_map]
    exact Nat.lt_of_le_of_lt (List.length_filter_le _ _) (by rw [List.length_range]; omega)
  · intro w D acc R hw hD r
    obtain ⟨f, hf, rfl⟩ := List.mem_map.mp hw
    have hfl : f < ps.length := List.mem_range.mp (List.mem_filter.mp hf).1
    unfold wI at r ⊢
    walk_at "x"
    refine ⟨_, fo_new ha hD, _, fr_k, ?_⟩
    walk_at "x"
    refine ⟨_, atI_ok (get_kd (F.len ▸ hfl)), rfl, ?_⟩
    rw [show (W.str (Str.ofString "up") :: [W.str (Str.ofString "down")]) = [W.str ("up" : Str), W.str ("down" : Str)] from rfl, in_ud]
    rw [natP_int] at r
    exact ⟨rfl, r⟩
  · intro w D acc R hw hD hc r
    obtain ⟨f, hf, rfl⟩ := List.mem_map.mp hw
    unfold wI at r ⊢
    rw [natF_int] at r
    walk_at "x"
    exact r
  · intro D hD
    rw [filt_wI, List.filter_filter]
    have e1 : (((List.range ps.length).filter fun f => (decide (FR.kd ks f = .up) || decide (FR.kd ks f = .down)) && !(ps.contains (some f))).map wI).map (natF fun f => wC [f]) = (FR.leafP ps ks).map wC := by
      unfold FR.leafP
      rw [List.map_map, List.map_map]
      rw [show (fun f => (decide (FR.kd ks f = .up) || decide (FR.kd ks f = .down)) && !(ps.contains (some f))) = fun f => !(ps.contains (some f)) && (decide (FR.kd ks f = .up) || decide (FR.kd ks f = .down)) from by funext f; rw [Bool.and_comm]]
      exact List.map_congr_left fun f _ => by show natF _ (wI f) = wC [f]; exact natF_int
    rw [e1]
    walk_at "x"
    have hD0 : M D = none := hD
    have ha1 := fo_new (o := .lst ((FR.leafP ps ks).map wC)) ha hD
    have ht1 := HasTab.new (o := .lst ((FR.leafP ps ks).map wC)) ht hD
    refine ⟨a, ps, ks, .last, rfl, ha1, F, ht1, fun p1 hp1 => ?_⟩
    have ha2 := fo_new (o := .lst ((FR.clsK ps ks .last).map wC)) ha1 hp1
    have ht2 := HasTab.new (o := .lst ((FR.clsK ps ks .last).map wC)) ht1 hp1
    walk_at "x"
    refine ⟨a, ps, ks, .first, rfl, ha2, F, ht2, fun p2 hp2 => ?_⟩
    walk_at "x"
    have n1 : D ≠ p1 := free_ne hp1
    have n2 : D ≠ p2 := free_ne (free_old hp2)
    have n3 : p1 ≠ p2 := free_ne hp2
    have b1 := clsK_len (ps := ps) (ks := ks) (k := .first)
    have b2 := clsK_len (ps := ps) (ks := ks) (k := .last)
    have b3 := leafP_len (ps := ps) (ks := ks)
    refine ⟨_, _, rfl, get3 n1 n2, by rw [List.length_map, List.length_map]; omega, fun p3 hp3 => ?_⟩
    walk_at "x"
    have n4 : p1 ≠ p3 := free_ne (free_old hp3)
    refine ⟨_, get3 n3 n4, fun p4 hp4 => ?_⟩
    have n5 : p3 ≠ p4 := free_ne hp4
    refine ⟨_, _, get2 n5, rfl, by rw [List.length_append, List.length_map, List.length_map, List.length_reverse, List.length_map]; omega, fun p5 hp5 => ?_⟩
    have e2 : (FR.clsK ps ks .first).map wC ++ (FR.leafP ps ks).map wC ++ ((FR.clsK ps ks .last).map wC).reverse = (FR.classes ps ks).map wC := by
      unfold FR.classes
      rw [List.map_append, List.map_append, List.map_reverse]
    rw [e2]
    have m4 := free_old hp5
    have m3 := free_old m4
    refine wm_le (Le.upm (.trans (.trans (.trans (.trans (Le.new hD) (Le.new hp1)) (Le.new hp2)) (Le.new hp3)) (Le.new hp4))) (q p5 (free_old (free_old (free_old m3))))
def sp_class_count (A : Ad) : Sp3 := fun ws M Q _ => ∃ a ps ks, ws = [.ref a] ∧ IsFo A M a ps ks ∧ FoOk ps ks ∧ HasTab A M ∧ Q (.int (FR.classes ps ks).length) M
def rd_class_count (A : Ad) : TS3 :=
  (tRt3 (tCB3 rLen3 (tC3 (tCl3 (sp_bearer_classes A) (tC3 (tV 0) tN3)) tN3)))

theorem sem_class_count (A : Ad) : ∀ ws M Q E, sp_class_count A ws M Q E → rd_class_count A (ends3 Q) (start3 ["forest"] ws) M := by
  rintro ws M Q E ⟨a, ps, ks, rfl, ha, F, ht, q⟩
  unfold rd_class_count
  walk_at "x"
  refine ⟨a, ps, ks, rfl, ha, F, ht, fun p hp => ?_⟩
  walk_at "x"
  rw [List.length_map]
  exact wm_le (Le.new hp) q
end Z3
set_option Elab.async false
set_option linter.all false
set_option maxRecDepth 100000
set_option maxHeartbeats 1000000
namespace Z3
open PySem L2
local macro_rules | `(tactic| walk_at "x") => `(tactic| try simp only [tLcP_, rRepr_, tSortL_, tSq_, tIfS_, tTt_, tO_, tV_, tK_, rEq_, rNe_, start3_eq, ends_rt, ends_nx, tRt_, tRn_, tNx_, tEx_, tAs_, gN_, gIx_, tIsN_, tNotN_, tNeg_, rIx_, tMt_, rApp_, rPop_, rIns_, tCB_, rLen_, rList_, rTuple_, tC_, tN_, tLst_, tTup_, tRev_, tSl_, tPa_, tNo_,
    tAnd_, tOr_, tNot_, tAndV_, tOrV_, tNotV_, tIf_, tChain_, rIn_, iSeq_, iR1_, iR2_, tLr1_, tFor_, tWh_, tLc_, tY_, tCl_, tMe_, tFl_, tSf_, tMk_, tPr_, tBk_, tCt_, tNv_,
    sl_some, asB_bl, asI_int, asR_ref, as1_one, as2_two, items_tup, items_rls, items_lst, lstAt_lst, rAdd_int, rAdd_tup, rAdd_lst, rSub_int, rMul_int, rDiv_int, rMod_int, rPow_int, rI_int, rInt_int, rInt_bl, rAbs_int, eqK_some, sc_ii, sc_ss, sc_bb, sc_ni, sc_in, sc_nn,
    isN_non, isN_int, isN_ref, isN_tup, isN_bl, isN_str, sl3_tup, sl3_ref, up_same, List.map_cons, List.map_nil, List.length_cons, List.length_nil, List.cons_append, List.nil_append, List.getElem?_cons_succ, List.getElem?_cons_zero, List.set_cons_zero, List.set_cons_succ, List.replicate_zero, List.replicate_succ, List.append_nil,
    Option.some.injEq, MO.lst.injEq, exists_eq_left', exists_eq_left, exists_eq', and_true, true_and, if_true, Bool.false_eq_true, if_false, reduceIte, Nat.zero_add, Nat.reduceAdd, Nat.reduceSub, Nat.reduceLeDiff, Bool.not_true, Bool.not_false, ne_eq, not_true_eq_false, not_false_eq_true, atI_z, atI_o, ixN_z, ixN_o, Int.reduceLE, Int.reduceLT, Int.reduceNeg, Int.reduceToNat, Int.reducePow, Int.reduceAdd, Int.reduceMul, Int.reduceSub, natAbs10, Nat.reducePow, Nat.reduceLT, Int.reduceEq, decide_true, decide_false, true_or, or_true, false_or, or_false, and_false, false_and])

local macro_rules | `(tactic| walk_at "xs") => `(tactic| try simp only [tLcP_, rRepr_, tSortL_, tSq_, tIfS_, tTt_, tO_, tV_, tK_, rEq_, rNe_, start3_eq, ends_rt, ends_nx, tRt_, tRn_, tNx_, tEx_, tAs_, gN_, gIx_, tIsN_, tNotN_, tNeg_, rIx_, tMt_, rApp_, rPop_, rIns_, tCB_, rLen_, rList_, rTuple_, tC_, tN_, tLst_, tTup_, tRev_, tSl_, tPa_, tNo_,
    tAnd_, tOr_, tNot_, tAndV_, tOrV_, tNotV_, tIf_, tChain_, rIn_, iSeq_, iR1_, iR2_, tLr1_, tFor_, tWh_, tLc_, tY_, tCl_, tMe_, tFl_, tSf_, tMk_, tPr_, tBk_, tCt_, tNv_,
    sl_some, asB_bl, asI_int, asR_ref, as1_one, as2_two, items_tup, items_rls, items_lst, lstAt_lst, rAdd_int, rAdd_tup, rAdd_lst, rSub_int, rMul_int, rDiv_int, rMod_int, rPow_int, rI_int, rInt_int, rInt_bl, rAbs_int, eqK_some, sc_ii, sc_ss, sc_bb, sc_ni, sc_in, sc_nn,
    isN_non, isN_int, isN_ref, isN_tup, isN_bl, isN_str, sl3_tup, sl3_ref, up_same, List.map_cons, List.map_nil, List.length_cons, List.length_nil, List.cons_append, List.nil_append, List.getElem?_cons_succ, List.getElem?_cons_zero, List.set_cons_zero, List.set_cons_succ, List.replicate_zero, List.replicate_succ, List.append_nil,
    Option.some.injEq, MO.lst.injEq, exists_eq_left', exists_eq_left, exists_eq', and_true, true_and, if_true, Bool.false_eq_true, if_false, reduceIte, Nat.zero_add, Nat.reduceAdd, Nat.reduceSub, Nat.reduceLeDiff, Bool.not_true, Bool.not_false, ne_eq, not_true_eq_false, not_false_eq_true, atI_z, atI_o, ixN_z, ixN_o, Int.reduceLE, Int.reduceLT, Int.reduceNeg, Int.reduceToNat, Int.reducePow, Int.reduceAdd, Int.reduceMul, Int.reduceSub, natAbs10, Nat.reducePow, Nat.reduceLT, Int.reduceEq, decide_true, decide_false, true_or, or_true, false_or, or_false, and_false, false_and, *])

theorem cut_last {ws : List W} : cut3 ws none (some (-1)) = ws.dropLast := by
  unfold cut3
  rw [List.dropLast_eq_take]
  cases ws with
  | nil => rfl
  | cons x r =>
    simp [HT.sIx]
    omega
theorem in_wI {l : List Nat} {f : Nat} : in3 (.int f) (l.map wI) = decide (f ∈ l) := by
  unfold in3
  rw [List.any_map, Bool.eq_iff_iff, List.any_eq_true, decide_eq_true_eq]
  constructor
  · rintro ⟨g, hg, e⟩
    have e : ((g : Int) == (f : Int)) = true := e
    have : g = f := by have := eq_of_beq e; omega
    rw [← this]; exact hg
  · intro h
    exact ⟨f, h, by show ((f : Int) == (f : Int)) = true; exact beq_self_eq_true _⟩
theorem flat_wI {l : List Nat} : (l.map wI).all flat3 = true := by
  rw [List.all_map, List.all_eq_true]
  exact fun _ _ => rfl
theorem path_cut {ps : FR.Par} {f : Nat} : ((FR.pathOf ps f).map wI).dropLast = (FR.above ps f).map wI := by unfold FR.above; rw [List.map_dropLast]
theorem cls_short {ps ks} (h1 : 1 ≤ ps.length) {c : List Nat} (h : c ∈ FR.classes ps ks) : c.length ≤ ps.length := by
  have hk : ∀ k, FR.IsH ps ks k c → c.length ≤ ps.length := fun k h => by rw [h.hd.2.2.2]; exact hang_len
  unfold FR.classes at h
  rcases List.mem_append.mp h with h | h
  · rcases List.mem_append.mp h with h | h
    · exact hk _ (FR.mem_clsK h)
    · obtain ⟨f, rfl, _⟩ := FR.mem_leafP h
      exact h1
  · exact hk _ (FR.mem_clsK (List.mem_reverse.mp h))
def sp_needy_row (A : Ad) : Sp3 := fun ws M Q _ => ∃ a ps ks, ws = [.ref a] ∧ IsFo A M a ps ks ∧ FoOk ps ks ∧ HasTab A M ∧ ∀ p, M p = none → Q (.ref p) (up M p (.lst ((FR.needy ps ks).map wR)))
def rd_needy_row (A : Ad) : TS3 :=
  (tSq (tAs3 (tLst3 tN3) (gN3 1))
    (tSq (tFor3 (iSeq3 (tCl3 (sp_bearer_classes A) (tC3 (tV 0) tN3))) (gN3 2) (tSq (tAs3 (tO rAdd3 (tSl3 (tMe3 A.Forest ("path" : Str) (sp_Forest_path A) (tV 0) (tC3 (tO rIx3 (tV 2) (tK (.int 0))) tN3)) tNo3 (tPa3 (tNeg3 (tK (.int 1))))) (tV 2)) (gN3 3))
    (tSq (tAs3 (tLst3 tN3) (gN3 4))
    (tSq (tFor3 (iR1 (tC3 (tFl3 A.Forest ("fields" : Str) (tV 0)) tN3)) (gN3 5) (tEx3 (tMt rApp3 (tV 4) (tC3 (tCl3 sp_raised (tC3 (tO rIx3 (tFl3 A.Forest ("kinds" : Str) (tV 0)) (tV 5)) (tC3 (tK (.int 0)) (tC3 (tCB3 rInt3 (tC3 (tO (rIn3 false) (tV 5) (tV 3)) tN3)) tN3)))) tN3))))
    (tEx3 (tMt rApp3 (tV 1) (tC3 (tCB3 rTuple3 (tC3 (tV 4) tN3)) tN3)))))))
    (tRt3 (tV 1))))

theorem sem_needy_row (A : Ad) : ∀ ws M Q E, sp_needy_row A ws M Q E → rd_needy_row A (ends3 Q) (start3 ["forest", "row", "leaves", "lifted", "record", "field"] ws) M := by
  rintro ws M Q E ⟨a, ps, ks, rfl, ha, F, ht, q⟩
  have hi := F.hi
  unfold rd_needy_row
  walk_at "x"
  intro p hp
  refine ⟨a, ps, ks, rfl, fo_new ha hp, F, HasTab.new ht hp, fun p2 hp2 => ?_⟩
  have n2 : p ≠ p2 := free_ne hp2
  have q2 : M p2 = none := free_old hp2
  have na : a ≠ p := ne_new ha hp
  have na2 : a ≠ p2 := ne_new ha q2
  walk_at "x"
  refine for_sq (fun i σ M' => ∃ o2 o3 o4 o5, σ = [some (.ref a), some (.ref p), o2, o3, o4, o5] ∧ M' = up (up M p2 (.lst ((FR.classes ps ks).map wC))) p (.lst ((((FR.classes ps ks).take i).map (FR.rowOf ps ks)).map wR))) (.of ⟨_, _, _, _, rfl, by rw [up_swap n2]; rfl⟩) ?_ ?_ ?_
  · rintro i σ M' _ ⟨o2, o3, o4, o5, rfl, rfl⟩
    rw [get2 n2.symm]; rfl
  · rintro i w σ M' hw ⟨o2, o3, o4, o5, rfl, rfl⟩
    rw [List.getElem?_map] at hw
    obtain ⟨c, hc, rfl⟩ := Option.map_eq_some_iff.mp hw
    have hcm := List.mem_of_getElem? hc
    have cl := FR.cl_of F.mid hcm
    have hd := cl.lt _ (FR.hd_mem cl.ne)
    have ha' : IsFo A (up (up M p2 (.lst ((FR.classes ps ks).map wC))) p (.lst ((((FR.classes ps ks).take i).map (FR.rowOf ps ks)).map wR))) a ps ks := by unfold IsFo; rw [up_ne na, up_ne na2]; exact ha
    have hh : ∃ r, c = FR.hd c :: r := by
      have := cl.ne
      cases c with
      | nil => exact absurd rfl this
      | cons x r => exact ⟨r, rfl⟩
    walk_at "x"
    refine ⟨_, ha', by rfl, ?_⟩
    refine ⟨c.map wI, rfl, wI (FR.hd c), by obtain ⟨r, hr⟩ := hh; rw [hr]; exact atI_z, a, ps, ks, FR.hd c, rfl, ha', F, hd, ?_⟩
    unfold wC
    walk_at "x"
    rw [cut_last, path_cut, ← List.map_append]
    have hl1 : (FR.above ps (FR.hd c)).length ≤ 1000 := by
      have h1 := FR.path_len (ps := ps) (f := FR.hd c)
      unfold FR.above
      rw [List.length_dropLast]; omega
    have hl2 := cls_short F.lo hcm
    have hlow := F.lo
    refine ⟨by rw [List.length_map, List.length_map]; omega, ?_⟩
    intro p3 hp3
    have n3 : p ≠ p3 := free_ne hp3
    have na3 : a ≠ p3 := ne_new ha' hp3
    refine ⟨_, fo_new ha' hp3, _, fr_f, ?_⟩
    walk_at "x"
    refine ⟨by omega, by omega, ?_⟩
    rw [Int.toNat_natCast]
    have eL : FR.above ps (FR.hd c) ++ c = FR.lifted ps c := rfl
    rw [eL]
    refine for_rg (fun j σ M' => ∃ o5, σ = [some (.ref a), some (.ref p), some (.tup (c.map wI)), some (.tup ((FR.lifted ps c).map wI)), some (.ref p3), o5] ∧
      M' = up (up (up M p2 (.lst ((FR.classes ps ks).map wC))) p (.lst ((((FR.classes ps ks).take i).map (FR.rowOf ps ks)).map wR))) p3 (.lst (((List.range j).map fun f => if f ∈ FR.lifted ps c then FR.rz (FR.kd ks f) else 0).map .int))) (.of ⟨_, rfl, rfl⟩) ?_ ?_
    · rintro j σ M' hj ⟨o5, rfl, rfl⟩
      rw [Int.zero_add]
      walk_at "x"
      refine ⟨_, fo_new ha' hp3, _, fr_k, ?_⟩
      walk_at "x"
      refine ⟨_, atI_ok (get_kd (F.len ▸ hj)), rfl, flat_wI, ?_⟩
      rw [in_wI]
      refine ⟨FR.kd ks j, 0, _, rfl, ?_⟩
      walk_at "x"
      refine ⟨by rw [List.length_map, List.length_map, List.length_range]; omega, .of ⟨_, rfl, ?_⟩⟩
      have ev : ∀ b : Bool, (if FR.kd ks j = .down then (0 : Int) - (if b = true then 1 else 0) else 0 + (if b = true then 1 else 0)) = if b = true then FR.rz (FR.kd ks j) else 0 := fun b => by
        unfold FR.rz
        cases b <;> simp
      rw [up_up, List.range_succ, List.map_append, List.map_append, ev]
      simp only [decide_eq_true_eq]
      rfl
    · rintro σ M' ⟨o5, rfl, rfl⟩
      walk_at "x"
      refine ⟨⟨_, get2 n3⟩, _, get2 n3, ?_, ?_⟩
      · have := classes_len (ps := ps) (ks := ks)
        rw [List.length_map, List.length_map, List.length_take]; omega
      · rw [put2 n3]
        refine ⟨_, _, .refl, Le.new (up_free (free_old hp3) n3), _, _, _, _, rfl, ?_⟩
        rw [List.take_add_one, hc, List.map_append, List.map_append]
        rfl
  · rintro σ M' ⟨o2, o3, o4, o5, rfl, rfl⟩
    walk_at "x"
    rw [List.length_map, List.take_length]
    exact wm_le (Le.upm (Le.new q2)) (q p hp)
end Z3
set_option Elab.async false
set_option linter.all false
set_option maxRecDepth 100000
set_option maxHeartbeats 1000000
namespace Z3
open PySem L2
local macro_rules | `(tactic| walk_at "x") => `(tactic| try simp only [tLcP_, rRepr_, tSortL_, tSq_, tIfS_, tTt_, tO_, tV_, tK_, rEq_, rNe_, start3_eq, ends_rt, ends_nx, tRt_, tRn_, tNx_, tEx_, tAs_, gN_, gIx_, tIsN_, tNotN_, tNeg_, rIx_, tMt_, rApp_, rPop_, rIns_, tCB_, rLen_, rList_, rTuple_, tC_, tN_, tLst_, tTup_, tRev_, tSl_, tPa_, tNo_,
    tAnd_, tOr_, tNot_, tAndV_, tOrV_, tNotV_, tIf_, tChain_, rIn_, iSeq_, iR1_, iR2_, tLr1_, tFor_, tWh_, tLc_, tY_, tCl_, tMe_, tFl_, tSf_, tMk_, tPr_, tBk_, tCt_, tNv_,
    sl_some, asB_bl, asI_int, asR_ref, as1_one, as2_two, items_tup, items_rls, items_lst, lstAt_lst, rAdd_int, rAdd_tup, rAdd_lst, rSub_int, rMul_int, rDiv_int, rMod_int, rPow_int, rI_int, rInt_int, rInt_bl, rAbs_int, eqK_some, sc_ii, sc_ss, sc_bb, sc_ni, sc_in, sc_nn,
    isN_non, isN_int, isN_ref, isN_tup, isN_bl, isN_str, sl3_tup, sl3_ref, up_same, List.map_cons, List.map_nil, List.length_cons, List.length_nil, List.cons_append, List.nil_append, List.getElem?_cons_succ, List.getElem?_cons_zero, List.set_cons_zero, List.set_cons_succ, List.replicate_zero, List.replicate_succ, List.append_nil,
    Option.some.injEq, MO.lst.injEq, exists_eq_left', exists_eq_left, exists_eq', and_true, true_and, if_true, Bool.false_eq_true, if_false, reduceIte, Nat.zero_add, Nat.reduceAdd, Nat.reduceSub, Nat.reduceLeDiff, Bool.not_true, Bool.not_false, ne_eq, not_true_eq_false, not_false_eq_true, atI_z, atI_o, ixN_z, ixN_o, Int.reduceLE, Int.reduceLT, Int.reduceNeg, Int.reduceToNat, Int.reducePow, Int.reduceAdd, Int.reduceMul, Int.reduceSub, natAbs10, Nat.reducePow, Nat.reduceLT, Int.reduceEq, decide_true, decide_false, true_or, or_true, false_or, or_false, and_false, false_and])

local macro_rules | `(tactic| walk_at "xs") => `(tactic| try simp only [tLcP_, rRepr_, tSortL_, tSq_, tIfS_, tTt_, tO_, tV_, tK_, rEq_, rNe_, start3_eq, ends_rt, ends_nx, tRt_, tRn_, tNx_, tEx_, tAs_, gN_, gIx_, tIsN_, tNotN_, tNeg_, rIx_, tMt_, rApp_, rPop_, rIns_, tCB_, rLen_, rList_, rTuple_, tC_, tN_, tLst_, tTup_, tRev_, tSl_, tPa_, tNo_,
    tAnd_, tOr_, tNot_, tAndV_, tOrV_, tNotV_, tIf_, tChain_, rIn_, iSeq_, iR1_, iR2_, tLr1_, tFor_, tWh_, tLc_, tY_, tCl_, tMe_, tFl_, tSf_, tMk_, tPr_, tBk_, tCt_, tNv_,
    sl_some, asB_bl, asI_int, asR_ref, as1_one, as2_two, items_tup, items_rls, items_lst, lstAt_lst, rAdd_int, rAdd_tup, rAdd_lst, rSub_int, rMul_int, rDiv_int, rMod_int, rPow_int, rI_int, rInt_int, rInt_bl, rAbs_int, eqK_some, sc_ii, sc_ss, sc_bb, sc_ni, sc_in, sc_nn,
    isN_non, isN_int, isN_ref, isN_tup, isN_bl, isN_str, sl3_tup, sl3_ref, up_same, List.map_cons, List.map_nil, List.length_cons, List.length_nil, List.cons_append, List.nil_append, List.getElem?_cons_succ, List.getElem?_cons_zero, List.set_cons_zero, List.set_cons_succ, List.replicate_zero, List.replicate_succ, List.append_nil,
    Option.some.injEq, MO.lst.injEq, exists_eq_left', exists_eq_left, exists_eq', and_true, true_and, if_true, Bool.false_eq_true, if_false, reduceIte, Nat.zero_add, Nat.reduceAdd, Nat.reduceSub, Nat.reduceLeDiff, Bool.not_true, Bool.not_false, ne_eq, not_true_eq_false, not_false_eq_true, atI_z, atI_o, ixN_z, ixN_o, Int.reduceLE, Int.reduceLT, Int.reduceNeg, Int.reduceToNat, Int.reducePow, Int.reduceAdd, Int.reduceMul, Int.reduceSub, natAbs10, Nat.reducePow, Nat.reduceLT, Int.reduceEq, decide_true, decide_false, true_or, or_true, false_or, or_false, and_false, false_and, *])

/-! ## records as data -/
def datR (x : FR.Rec) : PyData := .tuple (x.map .int)
theorem trav_map {α : Type} {f : W → Option PyData} {g : α → W} {h : α → PyData} : ∀ {l : List α}, (∀ x ∈ l, f (g x) = some (h x)) → trav f (l.map g) = some (l.map h)
  | [], _ => rfl
  | x :: l, e => by
    rw [List.map_cons, List.map_cons]
    unfold trav
    rw [e x (List.mem_cons_self ..), trav_map fun y hy => e y (List.mem_cons_of_mem _ hy)]
theorem toD_int {M n i} : toD M n (.int i) = some (.int i) := by cases n <;> rfl
theorem toD_non {M n} : toD M n .non = some .none := by cases n <;> rfl
theorem toD_str {M n x} : toD M n (.str x) = some (.str x) := by cases n <;> rfl
theorem toD_wO {M n o} : toD M n (wO o) = some (match o with | none => .none | some p => .int p) := by cases o <;> cases n <;> rfl
theorem toD_rec {M n x} : toD M (n + 1) (wR x) = some (datR x) := by
  unfold wR toD
  rw [trav_map (f := toD M n) (g := W.int) (h := PyData.int) fun x _ => toD_int]
  rfl
theorem toD_recs {M : Mp} {n a} {rs : List FR.Rec} (h : M a = some (.lst (rs.map wR))) : toD M (n + 2) (.ref a) = some (.list (rs.map datR)) := by
  unfold toD
  rw [h]
  show (trav (toD M (n + 1)) (rs.map wR)).map PyData.list = _
  rw [trav_map (f := toD M (n + 1)) (g := wR) (h := datR) fun x _ => toD_rec]
  rfl
theorem eqvAll_map {α : Type} {f : α → PyData} {e : α → α → Bool} (h : ∀ x y, PyData.eqv (f x) (f y) = e x y) : ∀ {xs ys : List α}, PyData.eqvAll (xs.map f) (ys.map f) = (decide (xs.length = ys.length) && (xs.zip ys).all fun p => e p.1 p.2)
  | [], [] => rfl
  | [], _ :: _ => rfl
  | _ :: _, [] => rfl
  | x :: xs, y :: ys => by
    rw [List.map_cons, List.map_cons, PyData.eqvAll, h, eqvAll_map h]
    simp only [List.length_cons, Nat.add_right_cancel_iff, List.zip_cons_cons, List.all_cons]
    cases e x y <;> simp
theorem eqvAll_dec {α : Type} [DecidableEq α] {f : α → PyData} (h : ∀ x y, PyData.eqv (f x) (f y) = decide (x = y)) : ∀ {xs ys : List α}, PyData.eqvAll (xs.map f) (ys.map f) = decide (xs = ys)
  | [], [] => rfl
  | [], _ :: _ => rfl
  | _ :: _, [] => rfl
  | x :: xs, y :: ys => by
    rw [List.map_cons, List.map_cons, PyData.eqvAll, h, eqvAll_dec h]
    simp only [List.cons.injEq]
    by_cases e : x = y <;> by_cases e2 : xs = ys <;> simp [e, e2]
theorem eqv_int {i j : Int} : PyData.eqv (.int i) (.int j) = decide (i = j) := by
  rw [PyData.eqv]
  by_cases e : i = j <;> simp [e]
theorem eqv_dR {x y : FR.Rec} : PyData.eqv (datR x) (datR y) = decide (x = y) := by
  unfold datR
  rw [PyData.eqv]
  exact eqvAll_dec fun _ _ => eqv_int
theorem eqv_recs {x y : List FR.Rec} : PyData.eqv (.list (x.map datR)) (.list (y.map datR)) = decide (x = y) := by
  rw [PyData.eqv]
  exact eqvAll_dec fun _ _ => eqv_dR
theorem lay_all {α : Type} {f : α → PyData} (h : ∀ x, (f x).canLay0 = true) : ∀ l : List α, PyData.canLayAll0 (l.map f) = true
  | [] => rfl
  | x :: l => by rw [List.map_cons, PyData.canLayAll0, h, lay_all h l]; rfl
theorem deep_all {α : Type} {f : α → PyData} {n : Nat} (h : ∀ x, (f x).depth ≤ n) : ∀ l : List α, PyData.depthAll (l.map f) ≤ n
  | [] => Nat.zero_le _
  | x :: l => by rw [List.map_cons]; simp only [PyData.depthAll]; exact Nat.max_le.mpr ⟨h x, deep_all h l⟩
theorem lay_dR {x : FR.Rec} : (datR x).canLay0 = true := by unfold datR; rw [PyData.canLay0]; exact lay_all (fun _ => by rw [PyData.canLay0]) x
theorem deep_dR {x : FR.Rec} : (datR x).depth ≤ 1 := by
  unfold datR
  simp only [PyData.depth]
  have := deep_all (f := PyData.int) (n := 0) (fun _ => by simp only [PyData.depth]; omega) x
  omega
theorem shp_dR {x : FR.Rec} : SeqAt.shaped (datR x) = true := by
  unfold SeqAt.shaped
  rw [lay_dR, Bool.true_and, decide_eq_true_eq]
  exact Nat.le_trans deep_dR (by decide)
theorem shp_recs {x : List FR.Rec} : SeqAt.shaped (.list (x.map datR)) = true := by
  unfold SeqAt.shaped
  rw [PyData.canLay0, lay_all (fun _ => lay_dR) x, Bool.true_and, decide_eq_true_eq]
  simp only [PyData.depth]
  have := deep_all (f := datR) (n := 1) (fun _ => deep_dR) x
  omega
theorem eqK_rec {M : Mp} {x y : FR.Rec} {Q : Bool → Prop} (q : Q (decide (x = y))) : eqK M (wR x) (wR y) (sc3 (wR x) (wR y)) Q :=
  ⟨_, _, toD_rec, toD_rec, shp_dR, shp_dR, by rw [eqv_dR]; exact q⟩
theorem eqK_recs {M : Mp} {a b : Addr} {x y : List FR.Rec} {Q : Bool → Prop} (ha : M a = some (.lst (x.map wR))) (hb : M b = some (.lst (y.map wR))) (q : Q (decide (x = y))) : eqK M (.ref a) (.ref b) (sc3 (.ref a) (.ref b)) Q :=
  ⟨_, _, toD_recs ha, toD_recs hb, shp_recs, shp_recs, by rw [eqv_recs]; exact q⟩

theorem cut_1 {ws : List W} : cut3 ws (some 1) none = ws.drop 1 := by
  unfold cut3
  cases ws with
  | nil => rfl
  | cons x r =>
    simp [HT.sIx]
def sp_law_fold : Sp3 := fun ws M Q _ => ∃ wp wk l ps ks rs, ws = [wp, wk, .ref l] ∧ itemsOf M wp = some (ps.map wO) ∧ itemsOf M wk = some (ks.map wK) ∧ FR.WF ps ∧ ps.length < 1000 ∧ ks.length = ps.length ∧ M l = some (.lst (rs.map wR)) ∧ rs ≠ [] ∧ (∀ x ∈ rs, x.length = ps.length) ∧ Q (wR (FR.foldE ps ks rs)) M
theorem foldl_len {ps : FR.Par} {ks} : ∀ {l : List FR.Rec} {x : FR.Rec}, x.length = ps.length → (l.foldl (FR.mrg ps ks) x).length = ps.length
  | [], _, h => h
  | _ :: l, _, _ => foldl_len (l := l) FR.mrg_len
def rd_law_fold : TS3 :=
  (tSq (tAs3 (tO rIx3 (tV 2) (tK (.int 0))) (gN3 3))
    (tSq (tFor3 (iSeq3 (tSl3 (tV 2) (tPa3 (tK (.int 1))) tNo3)) (gN3 4) (tAs3 (tCl3 sp_law_merge (tC3 (tV 0) (tC3 (tV 1) (tC3 (tV 3) (tC3 (tV 4) tN3))))) (gN3 3)))
    (tRt3 (tV 3))))

theorem sem_law_fold : ∀ ws M Q E, sp_law_fold ws M Q E → rd_law_fold (ends3 Q) (start3 ["_law_parents_here", "_law_kinds_here", "_law_records", "_law_end", "_law_record_here"] ws) M := by
  rintro ws M Q E ⟨wp, wk, l, ps, ks, rs, rfl, hwp, hwk, wf, hz, hk, hl, ne, hlen, q⟩
  obtain ⟨x, t, rfl⟩ := List.exists_cons_of_ne_nil ne
  unfold rd_law_fold
  walk_at "x"
  refine ⟨_, by rw [hl]; rfl, wR x, atI_z, ?_⟩
  walk_at "x"
  refine ⟨_, hl, fun p hp => ?_⟩
  rw [cut_1]
  walk_at "x"
  have n1 : l ≠ p := ne_new hl hp
  have h1 : ∀ o, itemsOf (up M p o) wp = some (ps.map wO) := fun o => by rw [items_keep hp (by rw [hwp]; rfl), hwp]
  have h2 : ∀ o, itemsOf (up M p o) wk = some (ks.map wK) := fun o => by rw [items_keep hp (by rw [hwk]; rfl), hwk]
  show forB (t.map wR) _ _ _ _ _ (up M p (.lst (t.map wR)))
  refine for_sq (fun i σ M' => ∃ o, σ = [some wp, some wk, some (.ref l), some (wR ((t.take i).foldl (FR.mrg ps ks) x)), o] ∧ M' = up M p (.lst (t.map wR))) (.of ⟨_, rfl, rfl⟩) ?_ ?_ ?_
  · rintro i σ M' _ ⟨o, rfl, rfl⟩
    rw [up_same]; rfl
  · rintro i w σ M' hw ⟨o, rfl, rfl⟩
    rw [List.getElem?_map] at hw
    obtain ⟨y, hy, rfl⟩ := Option.map_eq_some_iff.mp hw
    walk_at "x"
    refine ⟨wp, wk, ps, ks, _, y, rfl, h1 _, h2 _, wf, hz, hk, foldl_len (hlen x (by simp)), hlen y (List.mem_cons_of_mem _ (List.mem_of_getElem? hy)), .of ⟨some (wR y), ?_, rfl⟩⟩
    rw [List.take_add_one, hy, List.foldl_append]
    rfl
  · rintro σ M' ⟨o, rfl, rfl⟩
    walk_at "x"
    rw [List.length_map, List.take_length]
    exact wm_le (Le.new hp) q
/-! ## the law's count -/
def b2n (b : Bool) : Nat := if b then 1 else 0
def hasK (ps : FR.Par) (ks : List FR.Kd) (o : Option Nat) (k : FR.Kd) : Bool := !(FR.hang ps ks o k).isEmpty
def cntTo (ps : FR.Par) (ks : List FR.Kd) (n : Nat) : Nat := (((FR.plcs ps).take n).map fun o => b2n (hasK ps ks o .first) + b2n (hasK ps ks o .last)).sum
theorem sum_two {α : Type} (f g : α → Bool) : ∀ l : List α, (l.map fun o => b2n (f o) + b2n (g o)).sum = (l.filter f).length + (l.filter g).length
  | [] => rfl
  | x :: l => by
    rw [List.map_cons, List.sum_cons, sum_two f g l, List.filter_cons, List.filter_cons]
    cases f x <;> cases g x <;> simp [b2n] <;> omega
theorem clsK_count {ps ks k} : (FR.clsK ps ks k).length = ((FR.plcs ps).filter fun o => hasK ps ks o k).length := by
  unfold FR.clsK FR.hangs hasK
  rw [List.length_mergeSort, List.length_map, List.filter_map, List.length_map]
  rfl
theorem count_all {ps ks} : (FR.leafP ps ks).length + cntTo ps ks (ps.length + 1) = (FR.classes ps ks).length := by
  unfold cntTo
  rw [List.take_of_length_le (Nat.le_of_eq plcs_len), sum_two]
  unfold FR.classes
  rw [List.length_append, List.length_append, List.length_reverse, clsK_count, clsK_count]
  omega
theorem cnt_succ {ps ks} {n : Nat} {o : Option Nat} (h : (FR.plcs ps)[n]? = some o) : cntTo ps ks (n + 1) = cntTo ps ks n + (b2n (hasK ps ks o .first) + b2n (hasK ps ks o .last)) := by
  unfold cntTo
  rw [List.take_add_one, h, List.map_append, List.sum_append]
  simp
theorem eq_KK {a b : FR.Kd} : eq3 (wK a) (wK b) = decide (a = b) := by cases a <;> cases b <;> decide
theorem in_hang {ps : FR.Par} {ks o k} : in3 (wK k) ((FR.chn ps o).map fun f => wK (FR.kd ks f)) = hasK ps ks o k := by
  unfold in3 hasK FR.hang
  rw [List.any_map, Bool.eq_iff_iff, List.any_eq_true]
  constructor
  · rintro ⟨f, hf, e⟩
    have e : eq3 (wK (FR.kd ks f)) (wK k) = true := e
    rw [eq_KK] at e
    have : f ∈ (FR.chn ps o).filter fun f => decide (FR.kd ks f = k) := List.mem_filter.mpr ⟨hf, e⟩
    cases h : (FR.chn ps o).filter fun f => decide (FR.kd ks f = k) with
    | nil => rw [h] at this; cases this
    | cons _ _ => rfl
  · intro h
    cases h2 : (FR.chn ps o).filter fun f => decide (FR.kd ks f = k) with
    | nil => rw [h2] at h; cases h
    | cons f r =>
      have : f ∈ (FR.chn ps o).filter fun f => decide (FR.kd ks f = k) := by rw [h2]; simp
      obtain ⟨h3, h4⟩ := List.mem_filter.mp this
      exact ⟨f, h3, by show eq3 (wK (FR.kd ks f)) (wK k) = true; rw [eq_KK]; exact h4⟩
def leafB (ps : FR.Par) (ks : List FR.Kd) (f : Nat) : Bool := !(ps.contains (some f)) && (decide (FR.kd ks f = .up) || decide (FR.kd ks f = .down))
def leafTo (ps : FR.Par) (ks : List FR.Kd) (n : Nat) : Nat := ((List.range n).filter (leafB ps ks)).length
theorem leafTo_succ {ps ks n} : leafTo ps ks (n + 1) = leafTo ps ks n + b2n (leafB ps ks n) := by
  unfold leafTo
  rw [List.range_succ, List.filter_append, List.length_append]
  cases h : leafB ps ks n <;> simp [List.filter, h, b2n]
theorem leafTo_all {ps ks} : leafTo ps ks ps.length = (FR.leafP ps ks).length := by
  unfold leafTo FR.leafP
  rw [List.length_map]
  rfl
theorem items_le {M M1 : Mp} (l : Le M M1) {w : W} {ws : List W} (h : itemsOf M w = some ws) : itemsOf M1 w = some ws := by
  cases w with
  | ref a =>
    have h : lstAt (M a) = some ws := h
    show lstAt (M1 a) = some ws
    cases e : M a with
    | none => rw [e] at h; cases h
    | some o => rw [e] at h; rw [l _ _ e]; exact h
  | _ => exact h
def sp_law_class_count : Sp3 := fun ws M Q _ => ∃ wp wk ps ks, ws = [wp, wk] ∧ itemsOf M wp = some (ps.map wO) ∧ itemsOf M wk = some (ks.map wK) ∧ FoOk ps ks ∧ Q (.int (FR.classes ps ks).length) M
def rd_law_class_count : TS3 :=
  (tSq (tAs3 (tK (.int 0)) (gN3 2))
    (tSq (tFor3 (iR1 (tC3 (tCB3 rLen3 (tC3 (tV 0) tN3)) tN3)) (gN3 3) (tIfS3 (tAnd3 (tTt (tO (rIn3 true) (tV 3) (tV 0))) (tTt (tO (rIn3 false) (tO rIx3 (tV 1) (tV 3)) (tLst3 (tC3 (tK (.str ("up" : Str))) (tC3 (tK (.str ("down" : Str))) tN3)))))) (tAs3 (tO rAdd3 (tV 2) (tK (.int 1))) (gN3 2)) tNx3))
    (tSq (tFor3 (iSeq3 (tO rAdd3 (tLst3 (tC3 (tK .non) tN3)) (tLr1 (tCB3 rLen3 (tC3 (tV 0) tN3))))) (gN3 4) (tSq (tAs3 (tLc3 (iR1 (tC3 (tCB3 rLen3 (tC3 (tV 0) tN3)) tN3)) 3 (tTt (tO rEq3 (tO rIx3 (tV 0) (tV 3)) (tV 4))) (tO rIx3 (tV 1) (tV 3))) (gN3 5))
    (tAs3 (tO rAdd3 (tO rAdd3 (tV 2) (tCB3 rInt3 (tC3 (tO (rIn3 false) (tK (.str ("first" : Str))) (tV 5)) tN3))) (tCB3 rInt3 (tC3 (tO (rIn3 false) (tK (.str ("last" : Str))) (tV 5)) tN3))) (gN3 2))))
    (tRt3 (tV 2)))))

theorem sem_law_class_count : ∀ ws M Q E, sp_law_class_count ws M Q E → rd_law_class_count (ends3 Q) (start3 ["_law_parents_here", "_law_kinds_here", "_law_count", "_law_field", "_law_parent", "_law_hanging"] ws) M := by
  rintro ws M Q E ⟨wp, wk, ps, ks, rfl, hwp, hwk, F, q⟩
  have hi := F.hi
  unfold rd_law_class_count
  walk_at "x"
  refine ⟨_, hwp, by omega, by rw [List.length_map]; omega, ?_⟩
  rw [Int.toNat_natCast, List.length_map]
  refine for_rg (fun i σ M' => ∃ o3, σ = [some wp, some wk, some (.int (leafTo ps ks i : Nat)), o3, none, none] ∧ M' = M) (.of ⟨none, rfl, rfl⟩) ?_ ?_
  · intro i σ M' hj h
    obtain ⟨o3, e1, e2⟩ := h
    subst e1
    cases e2
    rw [Int.zero_add]
    walk_at "x"
    simp only [hwp, hwk, Option.some.injEq, exists_eq_left', atI_ok (get_kd (F.len ▸ hj))]
    refine ⟨rfl, flat_par ps, ?_⟩
    rw [in_cont, leafTo_succ]
    unfold leafB
    cases hc : ps.contains (some i) with
    | true =>
      simp only [Bool.not_true, Bool.false_eq_true, if_false, Bool.false_and]
      exact .of ⟨some (.int i), rfl, rfl⟩
    | false =>
      simp only [Bool.not_false, if_true, Bool.true_and]
      intro p hp
      refine ⟨rfl, rfl, ?_⟩
      rw [show (W.str (Str.ofString "up") :: [W.str (Str.ofString "down")]) = [W.str ("up" : Str), W.str ("down" : Str)] from rfl, in_ud]
      cases hd : (decide (FR.kd ks i = .up) || decide (FR.kd ks i = .down)) with
      | true =>
        rw [if_pos rfl]
        exact ⟨_, _, .refl, Le.new hp, some (.int i), rfl, rfl⟩
      | false =>
        rw [if_neg (by decide)]
        exact ⟨_, _, .refl, Le.new hp, some (.int i), rfl, rfl⟩
  · intro σ M' h
    obtain ⟨o3, e1, e2⟩ := h
    subst e1
    cases e2
    rw [leafTo_all]
    walk_at "x"
    intro p hp
    have hwp1 := items_le (Le.new (o := .lst [.non]) hp) hwp
    refine ⟨_, hwp1, ?_⟩
    rw [List.length_map]
    refine ⟨by omega, by omega, fun p1 hp1 => ⟨_, _, up_old up_same hp1, rfl, by rw [rgW_len]; simp; omega, fun p2 hp2 => ?_⟩⟩
    rw [Int.toNat_natCast] at *
    have eW : [W.non] ++ rgW 0 ps.length = (FR.plcs ps).map wO := by
      unfold FR.plcs rgW
      rw [List.map_cons, List.map_map]
      show W.non :: _ = W.non :: _
      congr 1
      exact List.map_congr_left fun i _ => by show W.int (0 + (i : Int)) = .int i; rw [Int.zero_add]
    rw [eW]
    have q2 : M p2 = none := free_old (free_old hp2)
    have hwp2 := items_le (Le.new (o := .lst ((FR.plcs ps).map wO)) q2) hwp
    have hwk2 := items_le (Le.new (o := .lst ((FR.plcs ps).map wO)) q2) hwk
    refine for_sq (fun i σ M' => ∃ o3 o4 o5, σ = [some wp, some wk, some (.int ((FR.leafP ps ks).length + cntTo ps ks i : Nat)), o3, o4, o5] ∧ M' = up M p2 (.lst ((FR.plcs ps).map wO))) ⟨_, _, .refl, Le.upm (.trans (Le.new hp) (Le.new hp1)), o3, none, none, rfl, rfl⟩ ?_ ?_ ?_
    · rintro i σ M' _ ⟨o3, o4, o5, rfl, rfl⟩
      rw [up_same]; rfl
    · rintro i w σ M' hw ⟨o3, o4, o5, rfl, rfl⟩
      rw [List.getElem?_map] at hw
      obtain ⟨o, ho, rfl⟩ := Option.map_eq_some_iff.mp hw
      walk_at "x"
      refine ⟨_, hwp2, ?_⟩
      rw [List.length_map]
      refine ⟨by omega, by omega, ?_⟩
      rw [Int.toNat_natCast]
      refine lc_fm (natP fun f => decide (FR.parent ps f = o)) (natF fun f => wK (FR.kd ks f)) (by rw [rgW_len]; omega) (fun _ _ _ => trivial) ?_ ?_ ?_
      · intro w D acc R hw hD r
        obtain ⟨f, hf, rfl⟩ := mem_rgW hw
        rw [natP_int] at r
        walk_at "x"
        refine ⟨_, items_le (Le.new hD) hwp2, _, atI_ok (get_par hf), ?_⟩
        rw [sc_OO, eqK_some]
        walk_at "x"
        exact r
      · intro w D acc R hw hD hc r
        obtain ⟨f, hf, rfl⟩ := mem_rgW hw
        rw [natF_int] at r
        walk_at "x"
        exact ⟨_, items_le (Le.new hD) hwk2, _, atI_ok (get_kd (F.len ▸ hf)), r⟩
      · intro D hD
        have e1 : ((rgW 0 ps.length).filter (natP fun f => decide (FR.parent ps f = o))).map (natF fun f => wK (FR.kd ks f)) = (FR.chn ps o).map fun f => wK (FR.kd ks f) := by
          rw [filt_rg, List.map_map]
          exact List.map_congr_left fun f _ => by show natF _ (wI f) = _; exact natF_int
        rw [e1]
        have fl : ((FR.chn ps o).map fun f => wK (FR.kd ks f)).all flat3 = true := by rw [List.all_map, List.all_eq_true]; exact fun f _ => rfl
        walk_at "x"
        refine ⟨rfl, fl, ?_⟩
        rw [show W.str (Str.ofString "first") = wK .first from rfl, show W.str (Str.ofString "last") = wK .last from rfl, in_hang, in_hang]
        walk_at "x"
        refine ⟨rfl, fl, ?_⟩
        refine ⟨_, _, .refl, Le.new hD, o3, some (wO o), some (.ref D), ?_, rfl⟩
        rw [cnt_succ ho]
        have eb : ∀ b : Bool, (if b = true then (1 : Int) else 0) = ((b2n b : Nat) : Int) := fun b => by cases b <;> rfl
        rw [eb, eb]
        congr 5
        omega
    · rintro σ M' ⟨o3, o4, o5, rfl, rfl⟩
      walk_at "x"
      rw [List.length_map, plcs_len, count_all]
      exact wm_le (Le.new q2) q
end Z3
set_option Elab.async false
set_option linter.all false
set_option maxRecDepth 100000
set_option maxHeartbeats 1000000
namespace Z3
open PySem L2
local macro_rules | `(tactic| walk_at "x") => `(tactic| try simp only [tLcP_, rRepr_, tSortL_, tSq_, tIfS_, tTt_, tO_, tV_, tK_, rEq_, rNe_, start3_eq, ends_rt, ends_nx, tRt_, tRn_, tNx_, tEx_, tAs_, gN_, gIx_, tIsN_, tNotN_, tNeg_, rIx_, tMt_, rApp_, rPop_, rIns_, tCB_, rLen_, rList_, rTuple_, tC_, tN_, tLst_, tTup_, tRev_, tSl_, tPa_, tNo_,
    tAnd_, tOr_, tNot_, tAndV_, tOrV_, tNotV_, tIf_, tChain_, rIn_, iSeq_, iR1_, iR2_, tLr1_, tFor_, tWh_, tLc_, tY_, tCl_, tMe_, tFl_, tSf_, tMk_, tPr_, tBk_, tCt_, tNv_,
    sl_some, asB_bl, asI_int, asR_ref, as1_one, as2_two, items_tup, items_rls, items_lst, lstAt_lst, rAdd_int, rAdd_tup, rAdd_lst, rSub_int, rMul_int, rDiv_int, rMod_int, rPow_int, rI_int, rInt_int, rInt_bl, rAbs_int, eqK_some, sc_ii, sc_ss, sc_bb, sc_ni, sc_in, sc_nn,
    isN_non, isN_int, isN_ref, isN_tup, isN_bl, isN_str, sl3_tup, sl3_ref, up_same, List.map_cons, List.map_nil, List.length_cons, List.length_nil, List.cons_append, List.nil_append, List.getElem?_cons_succ, List.getElem?_cons_zero, List.set_cons_zero, List.set_cons_succ, List.replicate_zero, List.replicate_succ, List.append_nil,
    Option.some.injEq, MO.lst.injEq, exists_eq_left', exists_eq_left, exists_eq', and_true, true_and, if_true, Bool.false_eq_true, if_false, reduceIte, Nat.zero_add, Nat.reduceAdd, Nat.reduceSub, Nat.reduceLeDiff, Bool.not_true, Bool.not_false, ne_eq, not_true_eq_false, not_false_eq_true, atI_z, atI_o, ixN_z, ixN_o, Int.reduceLE, Int.reduceLT, Int.reduceNeg, Int.reduceToNat, Int.reducePow, Int.reduceAdd, Int.reduceMul, Int.reduceSub, natAbs10, Nat.reducePow, Nat.reduceLT, Int.reduceEq, decide_true, decide_false, true_or, or_true, false_or, or_false, and_false, false_and])

local macro_rules | `(tactic| walk_at "xs") => `(tactic| try simp only [tLcP_, rRepr_, tSortL_, tSq_, tIfS_, tTt_, tO_, tV_, tK_, rEq_, rNe_, start3_eq, ends_rt, ends_nx, tRt_, tRn_, tNx_, tEx_, tAs_, gN_, gIx_, tIsN_, tNotN_, tNeg_, rIx_, tMt_, rApp_, rPop_, rIns_, tCB_, rLen_, rList_, rTuple_, tC_, tN_, tLst_, tTup_, tRev_, tSl_, tPa_, tNo_,
    tAnd_, tOr_, tNot_, tAndV_, tOrV_, tNotV_, tIf_, tChain_, rIn_, iSeq_, iR1_, iR2_, tLr1_, tFor_, tWh_, tLc_, tY_, tCl_, tMe_, tFl_, tSf_, tMk_, tPr_, tBk_, tCt_, tNv_,
    sl_some, asB_bl, asI_int, asR_ref, as1_one, as2_two, items_tup, items_rls, items_lst, lstAt_lst, rAdd_int, rAdd_tup, rAdd_lst, rSub_int, rMul_int, rDiv_int, rMod_int, rPow_int, rI_int, rInt_int, rInt_bl, rAbs_int, eqK_some, sc_ii, sc_ss, sc_bb, sc_ni, sc_in, sc_nn,
    isN_non, isN_int, isN_ref, isN_tup, isN_bl, isN_str, sl3_tup, sl3_ref, up_same, List.map_cons, List.map_nil, List.length_cons, List.length_nil, List.cons_append, List.nil_append, List.getElem?_cons_succ, List.getElem?_cons_zero, List.set_cons_zero, List.set_cons_succ, List.replicate_zero, List.replicate_succ, List.append_nil,
    Option.some.injEq, MO.lst.injEq, exists_eq_left', exists_eq_left, exists_eq', and_true, true_and, if_true, Bool.false_eq_true, if_false, reduceIte, Nat.zero_add, Nat.reduceAdd, Nat.reduceSub, Nat.reduceLeDiff, Bool.not_true, Bool.not_false, ne_eq, not_true_eq_false, not_false_eq_true, atI_z, atI_o, ixN_z, ixN_o, Int.reduceLE, Int.reduceLT, Int.reduceNeg, Int.reduceToNat, Int.reducePow, Int.reduceAdd, Int.reduceMul, Int.reduceSub, natAbs10, Nat.reducePow, Nat.reduceLT, Int.reduceEq, decide_true, decide_false, true_or, or_true, false_or, or_false, and_false, false_and, *])

theorem cut_to {ws : List W} {i : Nat} (h : i ≤ ws.length) : cut3 ws none (some (i : Int)) = ws.take i := by
  unfold cut3
  rw [HT.sIx_none, HT.sIx_nat, Nat.min_eq_left h]
  simp
theorem cut_from {ws : List W} {i : Nat} (h : i ≤ ws.length) : cut3 ws (some (i : Int)) none = ws.drop i := by
  unfold cut3
  rw [HT.sIx_none, HT.sIx_nat, Nat.min_eq_left h]
  exact List.take_of_length_le (by rw [List.length_drop]; omega)
def restAt (rs : List FR.Rec) (i : Nat) : List FR.Rec := rs.take i ++ rs.drop (i + 1)
def sp_law_needs_all : Sp3 := fun ws M Q _ => ∃ wp wk l ps ks rs, ws = [wp, wk, .ref l] ∧ itemsOf M wp = some (ps.map wO) ∧ itemsOf M wk = some (ks.map wK) ∧ FoOk ps ks ∧ M l = some (.lst (rs.map wR)) ∧ rs ≠ [] ∧ rs.length < 1000 ∧ (∀ x ∈ rs, x.length = ps.length) ∧
  (∀ i, i < rs.length → restAt rs i ≠ [] → FR.foldE ps ks (restAt rs i) ≠ FR.foldE ps ks rs) ∧ Q (.bl true) M
def rd_law_needs_all : TS3 :=
  (tSq (tAs3 (tCl3 sp_law_fold (tC3 (tV 0) (tC3 (tV 1) (tC3 (tV 2) tN3)))) (gN3 3))
    (tSq (tFor3 (iR1 (tC3 (tCB3 rLen3 (tC3 (tV 2) tN3)) tN3)) (gN3 4) (tSq (tAs3 (tO rAdd3 (tSl3 (tV 2) tNo3 (tPa3 (tV 4))) (tSl3 (tV 2) (tPa3 (tO rAdd3 (tV 4) (tK (.int 1)))) tNo3)) (gN3 5))
    (tIfS3 (tAnd3 (tTt (tO rNe3 (tV 5) (tLst3 tN3))) (tTt (tO rEq3 (tCl3 sp_law_fold (tC3 (tV 0) (tC3 (tV 1) (tC3 (tV 5) tN3)))) (tV 3)))) (tRt3 (tK (.bl false))) tNx3)))
    (tRt3 (tK (.bl true)))))

theorem sem_law_needs_all : ∀ ws M Q E, sp_law_needs_all ws M Q E → rd_law_needs_all (ends3 Q) (start3 ["_law_parents_here", "_law_kinds_here", "_law_row", "_law_end", "_law_place", "_law_rest"] ws) M := by
  rintro ws M Q E ⟨wp, wk, l, ps, ks, rs, rfl, hwp, hwk, F, hl, ne, hz, hlen, hne, q⟩
  unfold rd_law_needs_all
  walk_at "x"
  refine ⟨wp, wk, l, ps, ks, rs, rfl, hwp, hwk, F.wf, F.lt, F.len, hl, ne, hlen, ?_⟩
  walk_at "x"
  refine ⟨_, by rw [hl]; rfl, by omega, by rw [List.length_map]; omega, ?_⟩
  rw [List.length_map, Int.toNat_natCast]
  refine for_rg (fun i σ M' => ∃ o4 o5, σ = [some wp, some wk, some (.ref l), some (wR (FR.foldE ps ks rs)), o4, o5] ∧ M' = M) (.of ⟨none, none, rfl, rfl⟩) ?_ ?_
  · intro i σ M' hi h
    obtain ⟨o4, o5, e1, e2⟩ := h
    subst e1
    cases e2
    rw [Int.zero_add]
    walk_at "x"
    refine ⟨_, hl, fun p1 hp1 => ?_⟩
    have n1 : l ≠ p1 := ne_new hl hp1
    walk_at "x"
    refine ⟨_, by rw [up_ne n1]; exact hl, fun p2 hp2 => ?_⟩
    have n2 : p1 ≠ p2 := free_ne hp2
    rw [cut_to (by rw [List.length_map]; omega), show ((i : Int) + 1) = ((i + 1 : Nat) : Int) from by omega, cut_from (by rw [List.length_map]; omega)]
    walk_at "x"
    refine ⟨_, _, get2 n2, rfl, by rw [List.length_take, List.length_drop, List.length_map]; omega, fun p3 hp3 => ?_⟩
    rw [← List.map_take, ← List.map_drop, ← List.map_append]
    show (_ : Prop)
    have er : rs.take i ++ rs.drop (i + 1) = restAt rs i := rfl
    rw [er]
    walk_at "x"
    intro p4 hp4
    have n3 : p3 ≠ p4 := free_ne hp4
    have m2 := free_old hp3
    have m3 : M p3 = none := free_old m2
    have c2 : ∀ o, up M p1 o p2 = none := fun o => up_free (free_old hp2) (free_ne hp2)
    have c3 : up (up M p1 (.lst ((rs.take i).map wR))) p2 (.lst ((rs.drop (i + 1)).map wR)) p3 = none := up_free (up_free m3 (free_ne m2)) (free_ne hp3)
    have c4 : up (up (up M p1 (.lst ((rs.take i).map wR))) p2 (.lst ((rs.drop (i + 1)).map wR))) p3 (.lst ((restAt rs i).map wR)) p4 = none := by
      have k1 := free_old hp4
      have k2 := free_old k1
      have k3 := free_old k2
      exact up_free (up_free (up_free k3 (free_ne k2)) (free_ne k1)) n3
    have big : Le M (up (up (up (up M p1 (.lst ((rs.take i).map wR))) p2 (.lst ((rs.drop (i + 1)).map wR))) p3 (.lst ((restAt rs i).map wR))) p4 (.lst [])) :=
      .trans (.trans (.trans (Le.new hp1) (Le.new (c2 _))) (Le.new c3)) (Le.new c4)
    refine eqK_recs (x := restAt rs i) (y := []) (by rw [up_ne n3, up_same]) up_same ?_
    have next : ∀ (M5 : Mp), Le M M5 → Wk (fun σ M' => ∃ o4 o5, σ = [some wp, some wk, some (.ref l), some (wR (FR.foldE ps ks rs)), o4, o5] ∧ M' = M) [some wp, some wk, some (.ref l), some (wR (FR.foldE ps ks rs)), some (.int i), some (.ref p3)] M5 := fun M5 h => ⟨_, _, .refl, h, some (.int i), some (.ref p3), rfl, rfl⟩
    by_cases e : restAt rs i = []
    · simp only [e, decide_true, Bool.not_true, Bool.false_eq_true, if_false]
      rw [e] at big
      exact next _ big
    · simp only [e, decide_false, Bool.not_false, if_true]
      refine ⟨wp, wk, p3, ps, ks, restAt rs i, rfl, items_le big hwp, items_le big hwk, F.wf, F.lt, F.len, by rw [up_ne n3, up_same], e, fun x hx => ?_, ?_⟩
      · unfold restAt at hx
        rcases List.mem_append.mp hx with hx | hx
        · exact hlen x (List.mem_of_mem_take hx)
        · exact hlen x (List.mem_of_mem_drop hx)
      · refine eqK_rec ?_
        have := hne i hi e
        simp only [this, decide_false, Bool.false_eq_true, if_false]
        exact next _ big
  · intro σ M' h
    obtain ⟨o4, o5, e1, e2⟩ := h
    subst e1
    cases e2
    walk_at "x"
    exact .of q

/-- small values -/
theorem small_row {ps ks c} : ∀ v ∈ FR.rowOf ps ks c, -1 ≤ v ∧ v ≤ 1 := fun v hv => by
  unfold FR.rowOf at hv
  obtain ⟨f, _, rfl⟩ := List.mem_map.mp hv
  unfold FR.rz
  split
  · split <;> omega
  · omega
theorem classes_ne {ps ks} (F : FoOk ps ks) : FR.classes ps ks ≠ [] := by
  have hn := F.lo
  obtain ⟨r, hr⟩ := F.wf.rank
  have mx : ∀ n, 1 ≤ n → ∃ f, f < n ∧ ∀ g, g < n → r g ≤ r f := by
    intro n
    induction n with
    | zero => intro h; omega
    | succ n ih =>
      intro _
      by_cases h0 : n = 0
      · subst h0; exact ⟨0, by omega, fun g hg => by have : g = 0 := by omega
                                                     rw [this]; exact Nat.le_refl _⟩
      · obtain ⟨f, hf, hm⟩ := ih (by omega)
        by_cases e : r f ≤ r n
        · exact ⟨n, by omega, fun g hg => by
            by_cases z : g = n
            · rw [z]; exact Nat.le_refl _
            · exact Nat.le_trans (hm g (by omega)) e⟩
        · exact ⟨f, by omega, fun g hg => by
            by_cases z : g = n
            · rw [z]; omega
            · exact hm g (by omega)⟩
  obtain ⟨f, hf, hm⟩ := mx ps.length hn
  have leaf : ∀ g, FR.parent ps g ≠ some f := fun g hg => by
    have hgl := FR.parent_lt hg
    have h1 := (hr g hgl).2 f hg
    have h2 := hm g hgl
    omega
  intro e
  unfold FR.classes at e
  have e1 := List.append_eq_nil_iff.mp e
  have e2 := List.append_eq_nil_iff.mp e1.1
  have e3 : FR.clsK ps ks .last = [] := by simpa using e1.2
  have none_k : ∀ k, FR.clsK ps ks k = [] → FR.kd ks f = k → False := fun k hk hfk => by
    have h0 := congrArg List.length hk
    rw [clsK_count, List.length_nil, List.length_eq_zero_iff, List.filter_eq_nil_iff] at h0
    have hm : f ∈ FR.hang ps ks (FR.parent ps f) k := FR.mem_hang.mpr ⟨hf, rfl, hfk⟩
    have hp : FR.parent ps f ∈ FR.plcs ps := by
      unfold FR.plcs
      cases h : FR.parent ps f with
      | none => simp
      | some p => simp only [List.mem_cons, List.mem_map, List.mem_range, reduceCtorEq, Option.some.injEq, exists_eq_right, false_or]; exact F.wf.lt hf h
    refine h0 _ hp ?_
    unfold hasK
    cases h : FR.hang ps ks (FR.parent ps f) k with
    | nil => rw [h] at hm; cases hm
    | cons _ _ => rfl
  cases hk : FR.kd ks f with
  | first => exact none_k .first e2.1 hk
  | last => exact none_k .last e3 hk
  | up =>
    have : [f] ∈ FR.leafP ps ks := by
      unfold FR.leafP
      refine List.mem_map.mpr ⟨f, List.mem_filter.mpr ⟨List.mem_range.mpr hf, ?_⟩, rfl⟩
      have : ps.contains (some f) = false := by
        rw [← in_cont, Bool.eq_false_iff]
        intro z
        obtain ⟨g, hg⟩ := in_par.mp z
        exact leaf g hg
      rw [this, hk]; rfl
    rw [e2.2] at this
    cases this
  | down =>
    have : [f] ∈ FR.leafP ps ks := by
      unfold FR.leafP
      refine List.mem_map.mpr ⟨f, List.mem_filter.mpr ⟨List.mem_range.mpr hf, ?_⟩, rfl⟩
      have : ps.contains (some f) = false := by
        rw [← in_cont, Bool.eq_false_iff]
        intro z
        obtain ⟨g, hg⟩ := in_par.mp z
        exact leaf g hg
      rw [this, hk]; rfl
    rw [e2.2] at this
    cases this
theorem needy_len {ps ks} : (FR.needy ps ks).length = (FR.classes ps ks).length := by unfold FR.needy; rw [List.length_map]
theorem needy_mem {ps ks} {x : FR.Rec} (h : x ∈ FR.needy ps ks) : x.length = ps.length ∧ ∀ v ∈ x, -1 ≤ v ∧ v ≤ 1 := by
  unfold FR.needy at h
  obtain ⟨c, _, rfl⟩ := List.mem_map.mp h
  exact ⟨FR.row_len, small_row⟩
theorem needy_rest {ps ks} (F : FoOk ps ks) : ∀ i, i < (FR.needy ps ks).length → restAt (FR.needy ps ks) i ≠ [] → FR.foldE ps ks (restAt (FR.needy ps ks) i) ≠ FR.foldE ps ks (FR.needy ps ks) := fun i hi ne => by
  have e : FR.needy ps ks = (FR.needy ps ks).take i ++ (FR.needy ps ks)[i] :: (FR.needy ps ks).drop (i + 1) := by
    rw [List.getElem_cons_drop, List.take_append_drop]
  have := FR.needs F.wf F.mid e ne
  rw [← e] at this
  exact this
def sp_law_is_needy (A : Ad) : Sp3 := fun ws M Q _ => ∃ a lp lk ps ks, ws = [.ref a, .ref lp, .ref lk] ∧ IsFo A M a ps ks ∧ FoOk ps ks ∧ HasTab A M ∧ M lp = some (.lst (ps.map wO)) ∧ M lk = some (.lst (ks.map wK)) ∧ Q (.bl true) M
def rd_law_is_needy (A : Ad) : TS3 :=
  (tSq (tAs3 (tCl3 (sp_class_count A) (tC3 (tV 0) tN3)) (gN3 3))
    (tSq (tIfS3 (tOr3 (tNot3 (tTt (tCl3 sp_law_is_integer (tC3 (tV 3) tN3)))) (tTt (tO rNe3 (tV 3) (tCl3 sp_law_class_count (tC3 (tV 1) (tC3 (tV 2) tN3)))))) (tRt3 (tK (.bl false))) tNx3)
    (tSq (tAs3 (tCl3 (sp_needy_row A) (tC3 (tV 0) tN3)) (gN3 4))
    (tSq (tIfS3 (tOr3 (tNot3 (tTt (tCB3 (rIs3 A.own A.ob A.bo) (tC3 (tV 4) (tC3 (tK (.ty "list")) tN3))))) (tTt (tO rNe3 (tCB3 rLen3 (tC3 (tV 4) tN3)) (tV 3)))) (tRt3 (tK (.bl false))) tNx3)
    (tSq (tFor3 (iSeq3 (tV 4)) (gN3 5) (tSq (tIfS3 (tNot3 (tTt (tCl3 sp_law_is_record (tC3 (tV 5) (tC3 (tCB3 rLen3 (tC3 (tV 1) tN3)) tN3))))) (tRt3 (tK (.bl false))) tNx3)
    (tIfS3 (tTt (tO rNe3 (tLc3 (iSeq3 (tV 5)) 6 (tNot3 (tTt (tChain3 rLe3 rLe3 (tNeg3 (tK (.int 1))) (tV 6) (tK (.int 1))))) (tV 6)) (tLst3 tN3))) (tRt3 (tK (.bl false))) tNx3)))
    (tRt3 (tCl3 sp_law_needs_all (tC3 (tV 1) (tC3 (tV 2) (tC3 (tCB3 rList3 (tC3 (tV 4) tN3)) tN3))))))))))

theorem sem_law_is_needy (A : Ad) : ∀ ws M Q E, sp_law_is_needy A ws M Q E → rd_law_is_needy A (ends3 Q) (start3 ["_law_forest", "_law_parents_here", "_law_kinds_here", "_law_count", "_law_row", "_law_record", "_law_value"] ws) M := by
  rintro ws M Q E ⟨a, lp, lk, ps, ks, rfl, ha, F, ht, hp, hk, q⟩
  have hi := F.hi
  unfold rd_law_is_needy
  walk_at "x"
  refine ⟨a, ps, ks, rfl, ha, F, ht, ?_⟩
  walk_at "x"
  refine ⟨_, rfl, .inl ⟨_, rfl⟩, ?_⟩
  have i1 : itemsOf M (.ref lp) = some (ps.map wO) := items_ref hp
  have i2 : itemsOf M (.ref lk) = some (ks.map wK) := items_ref hk
  simp only [isI, asB_bl, Bool.not_true, Bool.false_eq_true, if_false]
  refine ⟨.ref lp, .ref lk, ps, ks, rfl, i1, i2, F, ?_⟩
  walk_at "x"
  refine ⟨a, ps, ks, rfl, ha, F, ht, fun p hp1 => ?_⟩
  walk_at "x"
  simp only [rIs_]
  walk_at "x"
  refine ⟨_, _, ty_lst up_same, kit_ll, ?_⟩
  walk_at "x"
  have cl := classes_len (ps := ps) (ks := ks)
  simp only [Bool.not_true, Bool.false_eq_true, if_false, List.length_map, needy_len, decide_true]
  have np : lp ≠ p := ne_new hp hp1
  have nk : lk ≠ p := ne_new hk hp1
  refine for_sq (fun i σ M' => ∃ o5 o6, σ = [some (.ref a), some (.ref lp), some (.ref lk), some (.int (FR.classes ps ks).length), some (.ref p), o5, o6] ∧ M' = up M p (.lst ((FR.needy ps ks).map wR))) (.of ⟨none, none, rfl, rfl⟩) ?_ ?_ ?_
  · rintro i σ M' _ ⟨o5, o6, rfl, rfl⟩
    rw [up_same]; rfl
  · rintro i w σ M' hw ⟨o5, o6, rfl, rfl⟩
    rw [List.getElem?_map] at hw
    obtain ⟨x, hx, rfl⟩ := Option.map_eq_some_iff.mp hw
    obtain ⟨x1, x2⟩ := needy_mem (List.mem_of_getElem? hx)
    walk_at "x"
    refine ⟨_, by rw [up_ne np, hp]; rfl, x, _, rfl, ?_⟩
    rw [List.length_map, x1]
    simp only [decide_true, Bool.not_true, Bool.false_eq_true, if_false, asB_bl]
    refine ⟨_, rfl, ?_⟩
    refine lc_fm (fun _ => false) id (by rw [List.length_map]; omega) (fun _ _ _ => rfl) ?_ ?_ ?_
    · intro w D acc R hw hD r
      obtain ⟨v, hv, rfl⟩ := List.mem_map.mp hw
      have z := x2 v hv
      walk_at "x"
      have z1 : decide (-1 ≤ v) = true := by simpa using z.1
      have z2 : decide (v ≤ 1) = true := by simpa using z.2
      simp only [z1, z2, if_true, asB_bl, Bool.not_true]
      exact r
    · intro w D acc R hw hD hc r
      cases hc
    · intro D hD
      rw [show ((x.map W.int).filter fun _ => false) = [] from List.filter_eq_nil_iff.mpr (fun _ _ h => by cases h)]
      walk_at "x"
      intro p9 hp9
      have n9 : D ≠ p9 := free_ne hp9
      refine eqK_recs (x := []) (y := []) (by rw [up_ne n9, up_same]; rfl) up_same ?_
      simp only [decide_true, Bool.not_true, Bool.false_eq_true, if_false]
      exact ⟨_, _, .refl, .trans (Le.new hD) (Le.new hp9), some (wR x), o6, rfl, rfl⟩
  · rintro σ M' ⟨o5, o6, rfl, rfl⟩
    walk_at "x"
    intro p9 hp9
    have big := Le.trans (Le.new (o := .lst ((FR.needy ps ks).map wR)) hp1) (Le.new (o := .lst ((FR.needy ps ks).map wR)) hp9)
    refine ⟨.ref lp, .ref lk, p9, ps, ks, FR.needy ps ks, rfl, items_le big i1, items_le big i2, F, up_same, FR.needy_ne (classes_ne F), by rw [needy_len]; omega, fun x hx => (needy_mem hx).1, needy_rest F, wm_le big q⟩
end Z3
set_option Elab.async false
set_option linter.all false
set_option maxRecDepth 100000
set_option maxHeartbeats 1000000
namespace Z3
open PySem L2
local macro_rules | `(tactic| walk_at "x") => `(tactic| try simp only [tLcP_, rRepr_, tSortL_, tSq_, tIfS_, tTt_, tO_, tV_, tK_, rEq_, rNe_, start3_eq, ends_rt, ends_nx, tRt_, tRn_, tNx_, tEx_, tAs_, gN_, gIx_, tIsN_, tNotN_, tNeg_, rIx_, tMt_, rApp_, rPop_, rIns_, tCB_, rLen_, rList_, rTuple_, tC_, tN_, tLst_, tTup_, tRev_, tSl_, tPa_, tNo_,
    tAnd_, tOr_, tNot_, tAndV_, tOrV_, tNotV_, tIf_, tChain_, rIn_, iSeq_, iR1_, iR2_, tLr1_, tFor_, tWh_, tLc_, tY_, tCl_, tMe_, tFl_, tSf_, tMk_, tPr_, tBk_, tCt_, tNv_,
    sl_some, asB_bl, asI_int, asR_ref, as1_one, as2_two, items_tup, items_rls, items_lst, lstAt_lst, rAdd_int, rAdd_tup, rAdd_lst, rSub_int, rMul_int, rDiv_int, rMod_int, rPow_int, rI_int, rInt_int, rInt_bl, rAbs_int, eqK_some, sc_ii, sc_ss, sc_bb, sc_ni, sc_in, sc_nn,
    isN_non, isN_int, isN_ref, isN_tup, isN_bl, isN_str, sl3_tup, sl3_ref, up_same, List.map_cons, List.map_nil, List.length_cons, List.length_nil, List.cons_append, List.nil_append, List.getElem?_cons_succ, List.getElem?_cons_zero, List.set_cons_zero, List.set_cons_succ, List.replicate_zero, List.replicate_succ, List.append_nil,
    Option.some.injEq, MO.lst.injEq, exists_eq_left', exists_eq_left, exists_eq', and_true, true_and, if_true, Bool.false_eq_true, if_false, reduceIte, Nat.zero_add, Nat.reduceAdd, Nat.reduceSub, Nat.reduceLeDiff, Bool.not_true, Bool.not_false, ne_eq, not_true_eq_false, not_false_eq_true, atI_z, atI_o, ixN_z, ixN_o, Int.reduceLE, Int.reduceLT, Int.reduceNeg, Int.reduceToNat, Int.reducePow, Int.reduceAdd, Int.reduceMul, Int.reduceSub, natAbs10, Nat.reducePow, Nat.reduceLT, Int.reduceEq, decide_true, decide_false, true_or, or_true, false_or, or_false, and_false, false_and])

local macro_rules | `(tactic| walk_at "xs") => `(tactic| try simp only [tLcP_, rRepr_, tSortL_, tSq_, tIfS_, tTt_, tO_, tV_, tK_, rEq_, rNe_, start3_eq, ends_rt, ends_nx, tRt_, tRn_, tNx_, tEx_, tAs_, gN_, gIx_, tIsN_, tNotN_, tNeg_, rIx_, tMt_, rApp_, rPop_, rIns_, tCB_, rLen_, rList_, rTuple_, tC_, tN_, tLst_, tTup_, tRev_, tSl_, tPa_, tNo_,
    tAnd_, tOr_, tNot_, tAndV_, tOrV_, tNotV_, tIf_, tChain_, rIn_, iSeq_, iR1_, iR2_, tLr1_, tFor_, tWh_, tLc_, tY_, tCl_, tMe_, tFl_, tSf_, tMk_, tPr_, tBk_, tCt_, tNv_,
    sl_some, asB_bl, asI_int, asR_ref, as1_one, as2_two, items_tup, items_rls, items_lst, lstAt_lst, rAdd_int, rAdd_tup, rAdd_lst, rSub_int, rMul_int, rDiv_int, rMod_int, rPow_int, rI_int, rInt_int, rInt_bl, rAbs_int, eqK_some, sc_ii, sc_ss, sc_bb, sc_ni, sc_in, sc_nn,
    isN_non, isN_int, isN_ref, isN_tup, isN_bl, isN_str, sl3_tup, sl3_ref, up_same, List.map_cons, List.map_nil, List.length_cons, List.length_nil, List.cons_append, List.nil_append, List.getElem?_cons_succ, List.getElem?_cons_zero, List.set_cons_zero, List.set_cons_succ, List.replicate_zero, List.replicate_succ, List.append_nil,
    Option.some.injEq, MO.lst.injEq, exists_eq_left', exists_eq_left, exists_eq', and_true, true_and, if_true, Bool.false_eq_true, if_false, reduceIte, Nat.zero_add, Nat.reduceAdd, Nat.reduceSub, Nat.reduceLeDiff, Bool.not_true, Bool.not_false, ne_eq, not_true_eq_false, not_false_eq_true, atI_z, atI_o, ixN_z, ixN_o, Int.reduceLE, Int.reduceLT, Int.reduceNeg, Int.reduceToNat, Int.reducePow, Int.reduceAdd, Int.reduceMul, Int.reduceSub, natAbs10, Nat.reducePow, Nat.reduceLT, Int.reduceEq, decide_true, decide_false, true_or, or_true, false_or, or_false, and_false, false_and, *])

/-! ## repr of small records -/
def Small (x : FR.Rec) : Prop := x.length ≤ 16 ∧ ∀ v ∈ x, v.natAbs < 1000000000000
theorem showable_int {v : Int} (h : v.natAbs < 1000000000000) : (PyData.int v).showable = true := by
  simp only [PyData.showable, decide_eq_true_eq]
  by_cases z : v.natAbs = 0
  · rw [z]; decide
  · exact (Nat.log2_lt z).mpr (Nat.lt_trans h (by decide))
theorem showAll {α : Type} {f : α → PyData} : ∀ {l : List α}, (∀ x ∈ l, (f x).showable = true) → PyData.showableAll (l.map f) = true
  | [], _ => rfl
  | x :: l, h => by rw [List.map_cons, PyData.showableAll, h x (List.mem_cons_self ..), showAll fun y hy => h y (List.mem_cons_of_mem _ hy)]; rfl
theorem noDictAll {α : Type} {f : α → PyData} (h : ∀ x, (f x).hasDict = false) : ∀ l : List α, PyData.hasDictAll (l.map f) = false
  | [] => rfl
  | x :: l => by rw [List.map_cons, PyData.hasDictAll, h, noDictAll h l]; rfl
theorem show_datR {x : FR.Rec} (h : Small x) : (datR x).showable = true := by
  unfold datR
  simp only [PyData.showable]
  exact showAll fun v hv => showable_int (h.2 v hv)
theorem noDict_datR {x : FR.Rec} : (datR x).hasDict = false := by
  unfold datR
  simp only [PyData.hasDict]
  exact noDictAll (fun _ => by simp only [PyData.hasDict]) x

theorem weight_int {v : Int} (h : v.natAbs < 1000000000000) : (PyData.int v).weight ≤ 40 := by
  simp only [PyData.weight]
  split
  · omega
  · rename_i z
    have z' : v.natAbs ≠ 0 := by
      intro e
      exact z (by rw [Int.natAbs_eq_zero] at e; rw [e]; rfl)
    have : v.natAbs.log2 < 40 := (Nat.log2_lt z').mpr (Nat.lt_trans h (by decide))
    omega
theorem weight_all {α : Type} {f : α → PyData} {n : Nat} : ∀ {l : List α}, (∀ x ∈ l, (f x).weight ≤ n) → PyData.weightAll (l.map f) ≤ (n + 1) * l.length
  | [], _ => Nat.zero_le _
  | x :: l, h => by
    have h1 := h x (List.mem_cons_self ..)
    have h2 := weight_all (f := f) (n := n) (l := l) fun y hy => h y (List.mem_cons_of_mem _ hy)
    rw [List.map_cons]
    simp only [PyData.weightAll, List.length_cons]
    rw [Nat.mul_succ]
    omega
theorem weight_datR {x : FR.Rec} (h : Small x) : (datR x).weight ≤ 656 := by
  unfold datR
  simp only [PyData.weight]
  have h1 := weight_all (f := PyData.int) (n := 40) fun v hv => weight_int (h.2 v hv)
  have h2 := h.1
  omega
theorem short_all {α : Type} {f : α → PyData} : ∀ {l : List α}, (∀ x ∈ l, (f x).leavesShort 13 = true) → PyData.leavesShortAll 13 (l.map f) = true
  | [], _ => rfl
  | x :: l, h => by rw [List.map_cons, PyData.leavesShortAll, h x (List.mem_cons_self ..), short_all fun y hy => h y (List.mem_cons_of_mem _ hy)]; rfl
theorem short_datR {x : FR.Rec} (h : Small x) : (datR x).leavesShort 13 = true := by
  unfold datR
  simp only [PyData.leavesShort]
  refine short_all fun v hv => ?_
  simp only [PyData.leavesShort, decide_eq_true_eq]
  exact PyData.shown_int_le (h.2 v hv)
/-- repr of a list of small records -/
theorem repr_recs {M : Mp} {a : Addr} {rs : List FR.Rec} {Q : W → Mp → Prop} (ha : M a = some (.lst (rs.map wR))) (hs : ∀ x ∈ rs, Small x) (hn : rs.length ≤ 1000) (q : Q (.str (PyData.list (rs.map datR)).shown) M) : rRepr3 [.ref a] M Q := by
  refine ⟨_, toD_recs ha, rfl, ?_, ?_, ?_, q⟩
  · simp only [PyData.showable]
    exact showAll fun x hx => show_datR (hs x hx)
  · simp only [PyData.hasDict]
    exact noDictAll (fun _ => noDict_datR) rs
  · have := PyData.shown_fits (B := 13) (d := .list (rs.map datR)) (by decide) (by decide) (by simp only [PyData.leavesShort]; exact short_all fun x hx => short_datR (hs x hx)) (by
      simp only [PyData.weight]
      have h1 := weight_all (f := datR) (n := 656) fun x hx => weight_datR (hs x hx)
      omega)
    rw [sizeLine_eq] at this
    exact this
/-! ## tuples of parents, of kinds -/
def datO : Option Nat → PyData
  | none => .none
  | some p => .int p
theorem toD_O {M n o} : toD M n (wO o) = some (datO o) := by cases o <;> cases n <;> rfl
theorem toD_K {M n k} : toD M n (wK k) = some (.str (kS k)) := by cases n <;> rfl
theorem eqv_O {a b : Option Nat} : PyData.eqv (datO a) (datO b) = decide (a = b) := by
  cases a <;> cases b
  · rfl
  · rfl
  · rfl
  · rename_i i j
    show PyData.eqv (.int i) (.int j) = _
    rw [eqv_int]
    exact decide_eq_decide.mpr (by simp; omega)
theorem eqv_K {a b : FR.Kd} : PyData.eqv (.str (kS a)) (.str (kS b)) = decide (a = b) := by cases a <;> cases b <;> decide
theorem lay_K {k : FR.Kd} : (PyData.str (kS k)).canLay0 = true := by cases k <;> decide +kernel
theorem shp_tup {α : Type} {f : α → PyData} (h1 : ∀ x, (f x).canLay0 = true) (h2 : ∀ x, (f x).depth ≤ 0) (l : List α) : SeqAt.shaped (.tuple (l.map f)) = true := by
  unfold SeqAt.shaped
  rw [PyData.canLay0, lay_all h1 l, Bool.true_and, decide_eq_true_eq]
  simp only [PyData.depth]
  have := deep_all (f := f) (n := 0) h2 l
  omega
theorem eqK_par {M : Mp} {x y : FR.Par} {Q : Bool → Prop} (q : Q (decide (x = y))) : eqK M (.tup (x.map wO)) (.tup (y.map wO)) (sc3 (.tup (x.map wO)) (.tup (y.map wO))) Q := by
  refine ⟨.tuple (x.map datO), .tuple (y.map datO), ?_, ?_, shp_tup (fun o => by cases o <;> rfl) (fun o => by cases o <;> simp [datO, PyData.depth]) x, shp_tup (fun o => by cases o <;> rfl) (fun o => by cases o <;> simp [datO, PyData.depth]) y, ?_⟩
  · unfold toD; rw [trav_map (f := toD M 8) (g := wO) (h := datO) fun o _ => toD_O]; rfl
  · unfold toD; rw [trav_map (f := toD M 8) (g := wO) (h := datO) fun o _ => toD_O]; rfl
  · rw [PyData.eqv, eqvAll_dec fun _ _ => eqv_O]; exact q
theorem eqK_kinds {M : Mp} {x y : List FR.Kd} {Q : Bool → Prop} (q : Q (decide (x = y))) : eqK M (.tup (x.map wK)) (.tup (y.map wK)) (sc3 (.tup (x.map wK)) (.tup (y.map wK))) Q := by
  refine ⟨.tuple (x.map fun k => .str (kS k)), .tuple (y.map fun k => .str (kS k)), ?_, ?_, shp_tup (fun _ => lay_K) (fun o => by simp [PyData.depth]) x, shp_tup (fun _ => lay_K) (fun o => by simp [PyData.depth]) y, ?_⟩
  · unfold toD; rw [trav_map (f := toD M 8) (g := wK) (h := fun k => .str (kS k)) fun o _ => toD_K]; rfl
  · unfold toD; rw [trav_map (f := toD M 8) (g := wK) (h := fun k => .str (kS k)) fun o _ => toD_K]; rfl
  · rw [PyData.eqv, eqvAll_dec fun _ _ => eqv_K]; exact q
end Z3
set_option Elab.async false
set_option linter.all false
set_option maxRecDepth 100000
set_option maxHeartbeats 1000000
namespace Z3
open PySem L2
local macro_rules | `(tactic| walk_at "x") => `(tactic| try simp only [tLcP_, rRepr_, tSortL_, tSq_, tIfS_, tTt_, tO_, tV_, tK_, rEq_, rNe_, start3_eq, ends_rt, ends_nx, tRt_, tRn_, tNx_, tEx_, tAs_, gN_, gIx_, tIsN_, tNotN_, tNeg_, rIx_, tMt_, rApp_, rPop_, rIns_, tCB_, rLen_, rList_, rTuple_, tC_, tN_, tLst_, tTup_, tRev_, tSl_, tPa_, tNo_,
    tAnd_, tOr_, tNot_, tAndV_, tOrV_, tNotV_, tIf_, tChain_, rIn_, iSeq_, iR1_, iR2_, tLr1_, tFor_, tWh_, tLc_, tY_, tCl_, tMe_, tFl_, tSf_, tMk_, tPr_, tBk_, tCt_, tNv_,
    sl_some, asB_bl, asI_int, asR_ref, as1_one, as2_two, items_tup, items_rls, items_lst, lstAt_lst, rAdd_int, rAdd_tup, rAdd_lst, rSub_int, rMul_int, rDiv_int, rMod_int, rPow_int, rI_int, rInt_int, rInt_bl, rAbs_int, eqK_some, sc_ii, sc_ss, sc_bb, sc_ni, sc_in, sc_nn,
    isN_non, isN_int, isN_ref, isN_tup, isN_bl, isN_str, sl3_tup, sl3_ref, up_same, List.map_cons, List.map_nil, List.length_cons, List.length_nil, List.cons_append, List.nil_append, List.getElem?_cons_succ, List.getElem?_cons_zero, List.set_cons_zero, List.set_cons_succ, List.replicate_zero, List.replicate_succ, List.append_nil,
    Option.some.injEq, MO.lst.injEq, exists_eq_left', exists_eq_left, exists_eq', and_true, true_and, if_true, Bool.false_eq_true, if_false, reduceIte, Nat.zero_add, Nat.reduceAdd, Nat.reduceSub, Nat.reduceLeDiff, Bool.not_true, Bool.not_false, ne_eq, not_true_eq_false, not_false_eq_true, atI_z, atI_o, ixN_z, ixN_o, Int.reduceLE, Int.reduceLT, Int.reduceNeg, Int.reduceToNat, Int.reducePow, Int.reduceAdd, Int.reduceMul, Int.reduceSub, natAbs10, Nat.reducePow, Nat.reduceLT, Int.reduceEq, decide_true, decide_false, true_or, or_true, false_or, or_false, and_false, false_and])

local macro_rules | `(tactic| walk_at "xs") => `(tactic| try simp only [tLcP_, rRepr_, tSortL_, tSq_, tIfS_, tTt_, tO_, tV_, tK_, rEq_, rNe_, start3_eq, ends_rt, ends_nx, tRt_, tRn_, tNx_, tEx_, tAs_, gN_, gIx_, tIsN_, tNotN_, tNeg_, rIx_, tMt_, rApp_, rPop_, rIns_, tCB_, rLen_, rList_, rTuple_, tC_, tN_, tLst_, tTup_, tRev_, tSl_, tPa_, tNo_,
    tAnd_, tOr_, tNot_, tAndV_, tOrV_, tNotV_, tIf_, tChain_, rIn_, iSeq_, iR1_, iR2_, tLr1_, tFor_, tWh_, tLc_, tY_, tCl_, tMe_, tFl_, tSf_, tMk_, tPr_, tBk_, tCt_, tNv_,
    sl_some, asB_bl, asI_int, asR_ref, as1_one, as2_two, items_tup, items_rls, items_lst, lstAt_lst, rAdd_int, rAdd_tup, rAdd_lst, rSub_int, rMul_int, rDiv_int, rMod_int, rPow_int, rI_int, rInt_int, rInt_bl, rAbs_int, eqK_some, sc_ii, sc_ss, sc_bb, sc_ni, sc_in, sc_nn,
    isN_non, isN_int, isN_ref, isN_tup, isN_bl, isN_str, sl3_tup, sl3_ref, up_same, List.map_cons, List.map_nil, List.length_cons, List.length_nil, List.cons_append, List.nil_append, List.getElem?_cons_succ, List.getElem?_cons_zero, List.set_cons_zero, List.set_cons_succ, List.replicate_zero, List.replicate_succ, List.append_nil,
    Option.some.injEq, MO.lst.injEq, exists_eq_left', exists_eq_left, exists_eq', and_true, true_and, if_true, Bool.false_eq_true, if_false, reduceIte, Nat.zero_add, Nat.reduceAdd, Nat.reduceSub, Nat.reduceLeDiff, Bool.not_true, Bool.not_false, ne_eq, not_true_eq_false, not_false_eq_true, atI_z, atI_o, ixN_z, ixN_o, Int.reduceLE, Int.reduceLT, Int.reduceNeg, Int.reduceToNat, Int.reducePow, Int.reduceAdd, Int.reduceMul, Int.reduceSub, natAbs10, Nat.reducePow, Nat.reduceLT, Int.reduceEq, decide_true, decide_false, true_or, or_true, false_or, or_false, and_false, false_and, *])

theorem needy_small {ps ks} (F : FoOk ps ks) : ∀ x ∈ FR.needy ps ks, Small x := fun x hx => by
  obtain ⟨h1, h2⟩ := needy_mem hx
  exact ⟨by rw [h1]; exact F.hi, fun v hv => by have := h2 v hv; omega⟩
theorem repr_ok {rs : List FR.Rec} (hs : ∀ x ∈ rs, Small x) (hn : rs.length ≤ 1000) : (PyData.list (rs.map datR)).showable = true ∧ (PyData.list (rs.map datR)).hasDict = false ∧ (PyData.list (rs.map datR)).shown.length ≤ 16777216 := by
  have h := repr_recs (M := fun _ => some (.lst (rs.map wR))) (a := 0) (Q := fun _ _ => True) rfl hs hn trivial
  obtain ⟨d, e, _, h1, h2, h3, _⟩ := h
  rw [toD_recs (M := fun _ => some (.lst (rs.map wR))) (a := 0) rfl] at e
  cases e
  exact ⟨h1, h2, h3⟩
def sp_law (A : Ad) : Sp3 := fun ws M Q _ => ∃ xs : List Int, ws = [.rls (xs.map .int)] ∧ HasTab A M ∧ ∀ M', Q (.bl true) M'
def rd_law (A : Ad) : TS3 :=
  (tSq (tAs3 (tCl3 sp_law_tape (tC3 (tV 0) (tC3 (tK (.int 0)) tN3))) (gN3 1))
    (tSq (tAs3 (tCl3 sp_law_parents (tC3 (tV 1) (tC3 (tCl3 sp_law_fields (tC3 (tV 1) tN3)) tN3))) (gN3 2))
    (tSq (tAs3 (tCl3 sp_law_kinds (tC3 (tCl3 sp_law_tape (tC3 (tV 0) (tC3 (tK (.int 1)) tN3))) (tC3 (tV 2) (tC3 (tK (.bl false)) tN3)))) (gN3 3))
    (tSq (tAs3 (tCl3 sp_law_kinds (tC3 (tCl3 sp_law_tape (tC3 (tV 0) (tC3 (tK (.int 2)) tN3))) (tC3 (tV 2) (tC3 (tK (.bl false)) tN3)))) (gN3 4))
    (tSq (tAs3 (tMk3 A.Forest (sp_Forest_init A) (tC3 (tCB3 rList3 (tC3 (tV 2) tN3)) (tC3 (tCB3 rList3 (tC3 (tV 3) tN3)) tN3))) (gN3 5))
    (tSq (tAs3 (tMk3 A.Forest (sp_Forest_init A) (tC3 (tCB3 rList3 (tC3 (tV 2) tN3)) (tC3 (tCB3 rList3 (tC3 (tV 4) tN3)) tN3))) (gN3 6))
    (tSq (tIfS3 (tNot3 (tTt (tCl3 (sp_law_is_needy A) (tC3 (tV 5) (tC3 (tV 2) (tC3 (tV 3) tN3)))))) (tRt3 (tK (.bl false))) tNx3)
    (tSq (tAs3 (tCl3 (sp_needy_row A) (tC3 (tV 5) tN3)) (gN3 7))
    (tSq (tAs3 (tCB3 rRepr3 (tC3 (tV 7) tN3)) (gN3 8))
    (tSq (tEx3 (tMt rIns3 (tV 7) (tC3 (tK (.int 0)) (tC3 (tCB3 rTuple3 (tC3 (tLc3 (iSeq3 (tV 2)) 9 tY3 (tK (.int 1))) tN3)) tN3))))
    (tSq (tEx3 (tMt rApp3 (tV 7) (tC3 (tCB3 rTuple3 (tC3 (tLc3 (iSeq3 (tV 2)) 9 tY3 (tK (.int 0))) tN3)) tN3)))
    (tSq (tIfS3 (tNot3 (tTt (tCl3 (sp_law_is_needy A) (tC3 (tV 6) (tC3 (tV 2) (tC3 (tV 4) tN3)))))) (tRt3 (tK (.bl false))) tNx3)
    (tSq (tIfS3 (tOr3 (tTt (tO rNe3 (tFl3 A.Forest ("parents" : Str) (tV 5)) (tCB3 rTuple3 (tC3 (tV 2) tN3)))) (tTt (tO rNe3 (tFl3 A.Forest ("kinds" : Str) (tV 5)) (tCB3 rTuple3 (tC3 (tV 3) tN3))))) (tRt3 (tK (.bl false))) tNx3)
    (tRt3 (tAndV3 (tO rEq3 (tCB3 rRepr3 (tC3 (tCl3 (sp_needy_row A) (tC3 (tV 5) tN3)) tN3)) (tV 8)) (tCl3 (sp_law_is_needy A) (tC3 (tV 5) (tC3 (tV 2) (tC3 (tV 3) tN3)))))))))))))))))))

theorem sem_law (A : Ad) : ∀ ws M Q E, sp_law A ws M Q E → rd_law A (ends3 Q) (start3 ["_law_script", "_law_tape_here", "_law_parents_here", "_law_kinds_here", "_law_others", "_law_forest", "_law_second", "_law_row", "_law_first", "_law_field"] ws) M := by
  rintro ws M Q E ⟨xs, rfl, ht, q⟩
  unfold rd_law
  walk_at "x"
  refine ⟨xs, 0, rfl, fun t c0 n0 hc0 => ?_⟩
  walk_at "x"
  refine ⟨t, c0, 0, rfl, up_same, hc0, fun c1 k1 n hc1 n1 n8 => ?_⟩
  rw [up_up]
  walk_at "x"
  refine ⟨t, n, c1, k1, rfl, up_same, hc1, by omega, fun c2 k2 lp ps hc2 wf hn hlp => ?_⟩
  have n0t : A.tab ≠ t := ne_new ht n0
  have nlt : t ≠ lp := ne_new (show up M t (tpO c1 k1) t = _ from up_same) hlp
  have nltab : A.tab ≠ lp := ne_new (show up M t (tpO c1 k1) A.tab = _ from (up_ne n0t).trans ht) hlp
  have T3 : HasTab A (up (up (up M t (tpO c1 k1)) t (tpO c2 k2)) lp (.lst (ps.map wO))) := by unfold HasTab; rw [up_ne nltab, up_ne n0t, up_ne n0t]; exact ht
  have P3 : up (up (up M t (tpO c1 k1)) t (tpO c2 k2)) lp (.lst (ps.map wO)) lp = some (.lst (ps.map wO)) := up_same
  generalize up (up (up M t (tpO c1 k1)) t (tpO c2 k2)) lp (.lst (ps.map wO)) = M3 at *
  refine ⟨xs, 1, rfl, fun t1 c3 ht1 hc3 => ?_⟩
  have nt1 : t1 ≠ lp := (ne_new P3 ht1).symm
  have ntt1 : A.tab ≠ t1 := ne_new T3 ht1
  refine ⟨t1, lp, ps, false, c3, 0, rfl, up_same, up_old P3 ht1, nt1, hc3, by omega, fun c4 k4 lk ks hc4 hks hok _ hlk => ?_⟩
  have nlk : lp ≠ lk := ne_new (up_old P3 ht1) hlk
  have nlkt : A.tab ≠ lk := ne_new (up_old T3 ht1) hlk
  have T4 : HasTab A (up (up (up M3 t1 (tpO c3 0)) t1 (tpO c4 k4)) lk (.lst (ks.map wK))) := by unfold HasTab; rw [up_ne nlkt, up_ne ntt1, up_ne ntt1]; exact T3
  have P4 : up (up (up M3 t1 (tpO c3 0)) t1 (tpO c4 k4)) lk (.lst (ks.map wK)) lp = some (.lst (ps.map wO)) := by rw [up_ne nlk, up_ne nt1.symm, up_ne nt1.symm]; exact P3
  have K4 : up (up (up M3 t1 (tpO c3 0)) t1 (tpO c4 k4)) lk (.lst (ks.map wK)) lk = some (.lst (ks.map wK)) := up_same
  generalize up (up (up M3 t1 (tpO c3 0)) t1 (tpO c4 k4)) lk (.lst (ks.map wK)) = M4 at *
  refine ⟨xs, 2, rfl, fun t2 c5 ht2 hc5 => ?_⟩
  have nt2 : t2 ≠ lp := (ne_new P4 ht2).symm
  have nt2k : t2 ≠ lk := (ne_new K4 ht2).symm
  have ntt2 : A.tab ≠ t2 := ne_new T4 ht2
  refine ⟨t2, lp, ps, false, c5, 0, rfl, up_same, up_old P4 ht2, nt2, hc5, by omega, fun c6 k6 lo ks2 hc6 hks2 hok2 _ hlo => ?_⟩
  have nlo : lp ≠ lo := ne_new (up_old P4 ht2) hlo
  have nloK : lk ≠ lo := ne_new (up_old K4 ht2) hlo
  have nlot : A.tab ≠ lo := ne_new (up_old T4 ht2) hlo
  have T5 : HasTab A (up (up (up M4 t2 (tpO c5 0)) t2 (tpO c6 k6)) lo (.lst (ks2.map wK))) := by unfold HasTab; rw [up_ne nlot, up_ne ntt2, up_ne ntt2]; exact T4
  have P5 : up (up (up M4 t2 (tpO c5 0)) t2 (tpO c6 k6)) lo (.lst (ks2.map wK)) lp = some (.lst (ps.map wO)) := by rw [up_ne nlo, up_ne nt2.symm, up_ne nt2.symm]; exact P4
  have K5 : up (up (up M4 t2 (tpO c5 0)) t2 (tpO c6 k6)) lo (.lst (ks2.map wK)) lk = some (.lst (ks.map wK)) := by rw [up_ne nloK, up_ne nt2k.symm, up_ne nt2k.symm]; exact K4
  have O5 : up (up (up M4 t2 (tpO c5 0)) t2 (tpO c6 k6)) lo (.lst (ks2.map wK)) lo = some (.lst (ks2.map wK)) := up_same
  generalize up (up (up M4 t2 (tpO c5 0)) t2 (tpO c6 k6)) lo (.lst (ks2.map wK)) = M5 at *
  have F : FoOk ps ks := ⟨wf, hok, hks, by omega, by omega⟩
  have F2 : FoOk ps ks2 := ⟨wf, hok2, hks2, by omega, by omega⟩
  refine ⟨_, items_ref P5, fun p hp => ⟨_, items_ref (up_old K5 hp), fun p1 hp1 x hx => ⟨x, .ref p, .ref p1, ps, ks, rfl, up_same, ?_, ?_, F, rfl, ?_⟩⟩⟩
  · exact items_ref (up_old (up_old up_same hp1) hx)
  · exact items_ref (up_old up_same hx)
  rw [up_up]
  have T6 : HasTab A (up (up (up M5 p (.lst (ps.map wO))) p1 (.lst (ks.map wK))) x (.ins A.Forest (frF ps ks))) := up_old (up_old (up_old T5 hp) hp1) hx
  have P6 : up (up (up M5 p (.lst (ps.map wO))) p1 (.lst (ks.map wK))) x (.ins A.Forest (frF ps ks)) lp = some (.lst (ps.map wO)) := up_old (up_old (up_old P5 hp) hp1) hx
  have K6 : up (up (up M5 p (.lst (ps.map wO))) p1 (.lst (ks.map wK))) x (.ins A.Forest (frF ps ks)) lk = some (.lst (ks.map wK)) := up_old (up_old (up_old K5 hp) hp1) hx
  have O6 : up (up (up M5 p (.lst (ps.map wO))) p1 (.lst (ks.map wK))) x (.ins A.Forest (frF ps ks)) lo = some (.lst (ks2.map wK)) := up_old (up_old (up_old O5 hp) hp1) hx
  have X6 : IsFo A (up (up (up M5 p (.lst (ps.map wO))) p1 (.lst (ks.map wK))) x (.ins A.Forest (frF ps ks))) x ps ks := up_same
  generalize up (up (up M5 p (.lst (ps.map wO))) p1 (.lst (ks.map wK))) x (.ins A.Forest (frF ps ks)) = M6 at *
  clear hp hp1 hx
  refine ⟨_, items_ref P6, fun p hp => ⟨_, items_ref (up_old O6 hp), fun p1 hp1 y hy => ⟨y, .ref p, .ref p1, ps, ks2, rfl, up_same, ?_, ?_, F2, rfl, ?_⟩⟩⟩
  · exact items_ref (up_old (up_old up_same hp1) hy)
  · exact items_ref (up_old up_same hy)
  rw [up_up]
  have T7 : HasTab A (up (up (up M6 p (.lst (ps.map wO))) p1 (.lst (ks2.map wK))) y (.ins A.Forest (frF ps ks2))) := up_old (up_old (up_old T6 hp) hp1) hy
  have P7 : up (up (up M6 p (.lst (ps.map wO))) p1 (.lst (ks2.map wK))) y (.ins A.Forest (frF ps ks2)) lp = some (.lst (ps.map wO)) := up_old (up_old (up_old P6 hp) hp1) hy
  have K7 : up (up (up M6 p (.lst (ps.map wO))) p1 (.lst (ks2.map wK))) y (.ins A.Forest (frF ps ks2)) lk = some (.lst (ks.map wK)) := up_old (up_old (up_old K6 hp) hp1) hy
  have O7 : up (up (up M6 p (.lst (ps.map wO))) p1 (.lst (ks2.map wK))) y (.ins A.Forest (frF ps ks2)) lo = some (.lst (ks2.map wK)) := up_old (up_old (up_old O6 hp) hp1) hy
  have X7 : IsFo A (up (up (up M6 p (.lst (ps.map wO))) p1 (.lst (ks2.map wK))) y (.ins A.Forest (frF ps ks2))) x ps ks := up_old (up_old (up_old X6 hp) hp1) hy
  have Y7 : IsFo A (up (up (up M6 p (.lst (ps.map wO))) p1 (.lst (ks2.map wK))) y (.ins A.Forest (frF ps ks2))) y ps ks2 := up_same
  generalize up (up (up M6 p (.lst (ps.map wO))) p1 (.lst (ks2.map wK))) y (.ins A.Forest (frF ps ks2)) = M7 at *
  clear hp hp1 hy
  have is1 : ∀ M8, Le M7 M8 → ∀ (R : VK3), R (.bl true) M8 → sp_law_is_needy A [.ref x, .ref lp, .ref lk] M8 R X0 := fun M8 l R r => ⟨x, lp, lk, ps, ks, rfl, l _ _ X7, F, l _ _ T7, l _ _ P7, l _ _ K7, r⟩
  have is2 : ∀ M8, Le M7 M8 → ∀ (R : VK3), R (.bl true) M8 → sp_law_is_needy A [.ref y, .ref lp, .ref lo] M8 R X0 := fun M8 l R r => ⟨y, lp, lo, ps, ks2, rfl, l _ _ Y7, F2, l _ _ T7, l _ _ P7, l _ _ O7, r⟩
  refine is1 M7 .refl _ ?_
  walk_at "x"
  refine ⟨x, ps, ks, rfl, X7, F, T7, fun pr hpr => ?_⟩
  have few : (FR.needy ps ks).length ≤ 1000 := by
    have := classes_len (ps := ps) (ks := ks)
    rw [needy_len]; omega
  obtain ⟨d1, d2, d3⟩ := repr_ok (needy_small F) few
  walk_at "x"
  refine ⟨_, toD_recs up_same, rfl, d1, d2, d3, ?_⟩
  have lit : ∀ {M8 : Mp}, Le M7 M8 → lstAt (M8 lp) = some (ps.map wO) := fun {M8} l => by rw [l _ _ P7]; rfl
  have hpl := F.hi
  refine ⟨_, lit (Le.new hpr), lc_map (fun _ => .int 1) (by rw [List.length_map]; omega) (fun D l hD => lit (.trans (Le.new hpr) (Le.new hD))) (fun w D acc R hw hD r => r) fun D hD => ?_⟩
  have nD : pr ≠ D := free_ne hD
  walk_at "x"
  refine ⟨_, get2 nD, by rw [List.length_map]; omega, ?_⟩
  rw [put2 nD]
  have q7 : ∀ o, up M7 pr o D = none := fun o => up_free (free_old hD) nD
  have l9 : ∀ o o2, Le M7 (up (up M7 pr o) D o2) := fun o o2 => .trans (Le.new hpr) (Le.new (q7 o))
  refine ⟨_, lit (l9 _ _), lc_map (fun _ => .int 0) (by rw [List.length_map]; omega) (fun D2 l hD2 => lit (.trans (l9 _ _) (Le.new hD2))) (fun w D acc R hw hD r => r) fun D2 hD2 => ?_⟩
  have nD2 : pr ≠ D2 := free_ne (free_old hD2)
  walk_at "x"
  refine ⟨_, get3 nD nD2, ?_, ?_⟩
  · simp only [List.length_append, List.length_take, List.length_drop, List.length_map, List.length_cons, List.length_nil]; omega
  rw [put3 nD nD2]
  have q8 : ∀ o o2, up (up M7 pr o) D o2 D2 = none := fun o o2 => up_free (up_free (free_old (free_old hD2)) nD2) (free_ne hD2)
  have l10 : ∀ o o2 o3, Le M7 (up (up (up M7 pr o) D o2) D2 o3) := fun o o2 o3 => .trans (l9 o o2) (Le.new (q8 o o2))
  refine is2 _ (l10 _ _ _) _ ?_
  walk_at "x"
  refine ⟨_, l10 _ _ _ _ _ X7, _, fr_p, _, lit (l10 _ _ _), eqK_par ?_⟩
  simp only [decide_true, Bool.not_true, Bool.false_eq_true, if_false]
  refine ⟨_, l10 _ _ _ _ _ X7, _, fr_k, _, by rw [l10 _ _ _ _ _ K7]; rfl, eqK_kinds ?_⟩
  simp only [decide_true, Bool.not_true, Bool.false_eq_true, if_false]
  refine ⟨x, ps, ks, rfl, l10 _ _ _ _ _ X7, F, l10 _ _ _ _ _ T7, fun p9 hp9 => ?_⟩
  walk_at "x"
  refine ⟨_, toD_recs up_same, rfl, d1, d2, d3, ?_⟩
  walk_at "x"
  exact is1 _ (.trans (l10 _ _ _) (Le.new hp9)) _ (.of (q _))
end Z3
set_option Elab.async false
set_option linter.all false
set_option maxRecDepth 100000
set_option maxHeartbeats 4000000
namespace Z3
open PySem PySem.Spec PyProof.Rows L2
open C8 (InsC Cal Met Mak)
def topS (i : Nat) : Stmt := PySem.Challenge.pw_fieldrides_k41_whole_needy_rows.main.body.getD i (.Pass ⟨0, 0, 0, 0⟩)
structure Bt (K : PySem.W.Frag) (mg : Str → Option Value) (A : Ad) : Prop where
  m_abs : mg ("abs" : Str) = none
  m_bool : mg ("bool" : Str) = none
  m_int : mg ("int" : Str) = none
  m_isinstance : mg ("isinstance" : Str) = none
  m_len : mg ("len" : Str) = none
  m_list : mg ("list" : Str) = none
  m_range : mg ("range" : Str) = none
  m_repr : mg ("repr" : Str) = none
  m_sorted : mg ("sorted" : Str) = none
  m_tuple : mg ("tuple" : Str) = none
  c_MOST_FIELDS : ∃ t, mg ("MOST_FIELDS" : Str) = some (.int 16 t)
  g_Forest : mg ("Forest" : Str) = some (.ref A.Forest)
  cl_Forest : Cls K A.Forest
  na_Forest_fields : NoAttr K A.Forest ("fields" : Str)
  na_Forest_kinds : NoAttr K A.Forest ("kinds" : Str)
  na_Forest_parents : NoAttr K A.Forest ("parents" : Str)
  kit : Kit K A.own A.ob A.bo
section
variable {P : Program} {w : World} {K : PySem.W.Frag} {mg : Str → Option Value} {base : Heap} {A : Ad}
abbrev s_Forest_children : Stmt := inClass (topS 22) 7
theorem sc_Forest_children : FnScope ["self", "field", "child"] ["self", "field"] (defScope s_Forest_children) := ⟨rfl, rfl, rfl, by decide +kernel, rfl, by decide +kernel, by decide +kernel⟩
theorem ok_Forest_children {f : Addr} {fd : FuncData} (B : Bt K mg A) (F : Fun K ("children" : Str) ("Forest.children" : Str) s_Forest_children f fd) (M : Meth K A.Forest ("children" : Str) f)  : Met P w K mg base 1 A.Forest ("children" : Str) (dSp K (sp_Forest_children A)) [] :=
  ⟨f, fd, _, [], B.cl_Forest, M, fun3 (N := ["self", "field", "child"]) (ps := ["self", "field"]) F sc_Forest_children (fun ws M Q E h => by unfold sp_Forest_children at h; repeat' (first | (obtain ⟨rfl, _⟩ := h; rfl) | (obtain ⟨_, h⟩ := h))) (rd_Forest_children A) (fun cdv A_ outer s H E hr =>
    (last3 (ret3 (cty3 tuple3 (by rfl) B.m_tuple boot_tuple (ac3 (lc3 (i := 2) rfl sc_Forest_children.nd (range1 (by rfl) B.m_range (ac3 (fld3 (v3 0) B.cl_Forest B.na_Forest_fields) an3)) (blkOk_by (N := ["self", "field", "child"]) (sc := defScope s_Forest_children) (by decide +kernel)) (fun _ _ _ _ _ => pg_name (i := 2) sc_Forest_children.nd rfl (Or.inl rfl)) (fun _ _ _ _ _ => (ts13 (ct3 (op_eq3 hr.units) (ix3 (fld3 (v3 0) B.cl_Forest B.na_Forest_parents) (v3 2) (fun _ _ => rfl)) (v3 1) (nomark _)))) (fun _ _ _ _ _ => (v3 2))) an3))))) (sem_Forest_children A), (F.binds (ps := ["self", "field"]) fun _ _ _ _ _ _ us hl => match us, hl with | [_, _], _ => rfl), .nil⟩
abbrev s_Forest_leaves : Stmt := inClass (topS 22) 3
theorem sc_Forest_leaves : FnScope ["self", "field"] ["self"] (defScope s_Forest_leaves) := ⟨rfl, rfl, rfl, by decide +kernel, rfl, by decide +kernel, by decide +kernel⟩
theorem ok_Forest_leaves {p f : Addr} {fd : FuncData} (B : Bt K mg A) (F : Fun K ("leaves" : Str) ("Forest.leaves" : Str) s_Forest_leaves f fd) (M : PropOf K A.Forest ("leaves" : Str) p f)  : Prp P w K mg base 1 A.Forest ("leaves" : Str) (dSp K (sp_Forest_leaves A)) :=
  ⟨p, f, fd, _, B.cl_Forest, M, fun3 (N := ["self", "field"]) (ps := ["self"]) F sc_Forest_leaves (fun ws M Q E h => by unfold sp_Forest_leaves at h; repeat' (first | (obtain ⟨rfl, _⟩ := h; rfl) | (obtain ⟨_, h⟩ := h))) (rd_Forest_leaves A) (fun cdv A_ outer s H E hr =>
    (last3 (ret3 (cty3 tuple3 (by rfl) B.m_tuple boot_tuple (ac3 (lc3 (i := 1) rfl sc_Forest_leaves.nd (range1 (by rfl) B.m_range (ac3 (cb3 len3 (by rfl) B.m_len (by decide +kernel) (ac3 (fld3 (v3 0) B.cl_Forest B.na_Forest_parents) an3)) an3)) (blkOk_by (N := ["self", "field"]) (sc := defScope s_Forest_leaves) (by decide +kernel)) (fun _ _ _ _ _ => pg_name (i := 1) sc_Forest_leaves.nd rfl (Or.inl rfl)) (fun _ _ _ _ _ => (ts13 (ct3 op_nin3 (v3 1) (fld3 (v3 0) B.cl_Forest B.na_Forest_parents) (by rfl)))) (fun _ _ _ _ _ => (v3 1))) an3))))) (sem_Forest_leaves A), (F.binds (ps := ["self"]) fun _ _ _ _ _ _ us hl => match us, hl with | [_], _ => rfl)⟩
abbrev s_law_class_count : Stmt := topS 36
theorem sc_law_class_count : FnScope ["_law_parents_here", "_law_kinds_here", "_law_count", "_law_field", "_law_parent", "_law_hanging"] ["_law_parents_here", "_law_kinds_here"] (defScope s_law_class_count) := ⟨rfl, rfl, rfl, by decide +kernel, rfl, by decide +kernel, by decide +kernel⟩
theorem ok_law_class_count {f : Addr} {fd : FuncData} (B : Bt K mg A) (F : Fun K ("_law_class_count" : Str) ("_law_class_count" : Str) s_law_class_count f fd) (mgf : mg ("_law_class_count" : Str) = some (.ref f))  : Cal P w K mg base 1 ("_law_class_count" : Str) (dSp K sp_law_class_count) [] :=
  ⟨f, fd, _, [], fun3 (N := ["_law_parents_here", "_law_kinds_here", "_law_count", "_law_field", "_law_parent", "_law_hanging"]) (ps := ["_law_parents_here", "_law_kinds_here"]) F sc_law_class_count (fun ws M Q E h => by unfold sp_law_class_count at h; repeat' (first | (obtain ⟨rfl, _⟩ := h; rfl) | (obtain ⟨_, h⟩ := h))) (rd_law_class_count) (fun cdv A_ outer s H E hr =>
    (cons3 (set3 (i := 2) sc_law_class_count.nd rfl (.inl rfl) i3)
    (cons3 (for3 PassesOwn.never rfl (range1 (by rfl) B.m_range (ac3 (cb3 len3 (by rfl) B.m_len (by decide +kernel) (ac3 (v3 0) an3)) an3)) (gname3 (i := 3) sc_law_class_count.nd rfl (.inl rfl)) (last3 (ifs3 (W3.t (and3 (ct3 op_nin3 (v3 3) (v3 0) (by rfl)) (and1 (ct3 op_in3 (ix3 (v3 1) (v3 3) (fun _ _ => rfl)) (lst3 (ac3 s3 (ac3 s3 an3))) (by rfl))))) (last3 (set3 (i := 2) sc_law_class_count.nd rfl (.inl rfl) (o3 op_add3 (v3 2) i3))) nil3)))
    (cons3 (for3 PassesOwn.never rfl (seq3 (o3 op_add3 (lst3 (ac3 n3 an3)) (lr1 rfl (by rfl) B.m_list (by rfl) B.m_range (cb3 len3 (by rfl) B.m_len (by decide +kernel) (ac3 (v3 0) an3))))) (gname3 (i := 4) sc_law_class_count.nd rfl (.inr rfl)) (cons3 (setlc3 (i := 3) (j := 5) rfl sc_law_class_count.nd rfl rfl (sw_true rfl rfl rfl (by decide +kernel)) (range1 (by rfl) B.m_range (ac3 (cb3 len3 (by rfl) B.m_len (by decide +kernel) (ac3 (v3 0) an3)) an3)) (blkOk_by (N := ["_law_parents_here", "_law_kinds_here", "_law_count", "_law_field", "_law_parent", "_law_hanging"]) (sc := defScope s_law_class_count) (by decide +kernel)) (fun _ _ _ _ _ => pg_name (i := 3) sc_law_class_count.nd rfl (Or.inl rfl)) (fun _ _ _ _ _ => (ts13 (ct3 (op_eq3 hr.units) (ix3 (v3 0) (v3 3) (fun _ _ => rfl)) (v3 4) (nomark _)))) (fun _ _ _ _ _ => (ix3 (v3 1) (v3 3) (fun _ _ => rfl))))
    (last3 (set3 (i := 2) sc_law_class_count.nd rfl (.inl rfl) (o3 op_add3 (o3 op_add3 (v3 2) (cty3 int3 (by rfl) B.m_int boot_int (ac3 (c3 op_in3 s3 (v3 5) (by rfl)) an3))) (cty3 int3 (by rfl) B.m_int boot_int (ac3 (c3 op_in3 s3 (v3 5) (by rfl)) an3)))))))
    (last3 (ret3 (v3 2))))))) (sem_law_class_count), mgf, F.kp, (F.binds (ps := ["_law_parents_here", "_law_kinds_here"]) fun _ _ _ _ _ _ us hl => match us, hl with | [_, _], _ => rfl), .nil⟩
abbrev s_law_is_integer : Stmt := topS 33
theorem sc_law_is_integer : FnScope ["_law_actual"] ["_law_actual"] (defScope s_law_is_integer) := ⟨rfl, rfl, rfl, by decide +kernel, rfl, by decide +kernel, by decide +kernel⟩
theorem ok_law_is_integer {f : Addr} {fd : FuncData} (B : Bt K mg A) (F : Fun K ("_law_is_integer" : Str) ("_law_is_integer" : Str) s_law_is_integer f fd) (mgf : mg ("_law_is_integer" : Str) = some (.ref f))  : Cal P w K mg base 1 ("_law_is_integer" : Str) (dSp K sp_law_is_integer) [] :=
  ⟨f, fd, _, [], fun3 (N := ["_law_actual"]) (ps := ["_law_actual"]) F sc_law_is_integer (fun ws M Q E h => by unfold sp_law_is_integer at h; repeat' (first | (obtain ⟨rfl, _⟩ := h; rfl) | (obtain ⟨_, h⟩ := h))) (rd_law_is_integer A) (fun cdv A_ outer s H E hr =>
    (last3 (ret3 (andv3 (cb3 (isi3 B.kit) (by rfl) B.m_isinstance (by decide +kernel) (ac3 (v3 0) (ac3 (k_of (pe_bltn (v := V.ty "int") (u := Value.type "int") (by rfl) B.m_int (by decide +kernel) rfl) fun _ => .ty _) an3))) (one3 (notv3 (cb3 (isi3 B.kit) (by rfl) B.m_isinstance (by decide +kernel) (ac3 (v3 0) (ac3 (k_of (pe_bltn (v := V.ty "bool") (u := Value.type "bool") (by rfl) B.m_bool (by decide +kernel) rfl) fun _ => .ty _) an3))))))))) (sem_law_is_integer A), mgf, F.kp, (F.binds (ps := ["_law_actual"]) fun _ _ _ _ _ _ us hl => match us, hl with | [_], _ => rfl), .nil⟩
abbrev s_law_path : Stmt := topS 29
theorem sc_law_path : FnScope ["_law_parents_here", "_law_field", "_law_path_here", "_law_k"] ["_law_parents_here", "_law_field"] (defScope s_law_path) := ⟨rfl, rfl, rfl, by decide +kernel, rfl, by decide +kernel, by decide +kernel⟩
theorem ok_law_path {f : Addr} {fd : FuncData} (B : Bt K mg A) (F : Fun K ("_law_path" : Str) ("_law_path" : Str) s_law_path f fd) (mgf : mg ("_law_path" : Str) = some (.ref f))  : Cal P w K mg base 1 ("_law_path" : Str) (dSp K sp_law_path) [] :=
  ⟨f, fd, _, [], fun3 (N := ["_law_parents_here", "_law_field", "_law_path_here", "_law_k"]) (ps := ["_law_parents_here", "_law_field"]) F sc_law_path (fun ws M Q E h => by unfold sp_law_path at h; repeat' (first | (obtain ⟨rfl, _⟩ := h; rfl) | (obtain ⟨_, h⟩ := h))) (rd_law_path) (fun cdv A_ outer s H E hr =>
    (cons3 (set3 (i := 2) sc_law_path.nd rfl (.inl rfl) (lst3 (ac3 (v3 1) an3)))
    (cons3 (for3 PassesOwn.never rfl (range1 (by rfl) B.m_range (ac3 (cb3 len3 (by rfl) B.m_len (by decide +kernel) (ac3 (v3 0) an3)) an3)) (gname3 (i := 3) sc_law_path.nd rfl (.inl rfl)) (last3 (ifs3 (notnT3 (ix3 (v3 0) (ix3 (v3 2) i3 (fun _ _ => rfl)) (fun _ _ => rfl))) (last3 (expr3 (mins3 (v3 2) (ac3 i3 (ac3 (ix3 (v3 0) (ix3 (v3 2) i3 (fun _ _ => rfl)) (fun _ _ => rfl)) an3))))) nil3)))
    (last3 (ret3 (v3 2)))))) (sem_law_path), mgf, F.kp, (F.binds (ps := ["_law_parents_here", "_law_field"]) fun _ _ _ _ _ _ us hl => match us, hl with | [_, _], _ => rfl), .nil⟩
abbrev s_law_take : Stmt := topS 25
theorem sc_law_take : FnScope ["_law_tape_here", "_law_size", "_law_cell", "_law_k", "_law_mixed"] ["_law_tape_here", "_law_size"] (defScope s_law_take) := ⟨rfl, rfl, rfl, by decide +kernel, rfl, by decide +kernel, by decide +kernel⟩
theorem ok_law_take {f : Addr} {fd : FuncData} (B : Bt K mg A) (F : Fun K ("_law_take" : Str) ("_law_take" : Str) s_law_take f fd) (mgf : mg ("_law_take" : Str) = some (.ref f))  : Cal P w K mg base 1 ("_law_take" : Str) (dSp K sp_law_take) [] :=
  ⟨f, fd, _, [], fun3 (N := ["_law_tape_here", "_law_size", "_law_cell", "_law_k", "_law_mixed"]) (ps := ["_law_tape_here", "_law_size"]) F sc_law_take (fun ws M Q E h => by unfold sp_law_take at h; repeat' (first | (obtain ⟨rfl, _⟩ := h; rfl) | (obtain ⟨_, h⟩ := h))) (rd_law_take) (fun cdv A_ outer s H E hr =>
    (cons3 (set3 (i := 2) sc_law_take.nd rfl (.inl rfl) (ix3 (v3 0) i3 (fun _ _ => rfl)))
    (cons3 (asg3 (o3 op_add3 (ix3 (v3 0) i3 (fun _ _ => rfl)) i3) (gix3 (v3 0) i3))
    (cons3 (set3 (i := 3) sc_law_take.nd rfl (.inl rfl) (ix3 (v3 0) i3 (fun _ _ => rfl)))
    (cons3 (ifs3 (ct3 op_ge3 (v3 2) (o3 op_pow3 i3 i3) (nomark _)) (cons3 (asg3 (o3 op_div3 (v3 2) (v3 1)) (gix3 (v3 0) i3))
    (last3 (ret3 (o3 op_mod3 (cty3 int3 (by rfl) B.m_int boot_int (ac3 (v3 2) an3)) (v3 1))))) nil3)
    (cons3 (set3 (i := 4) sc_law_take.nd rfl (.inl rfl) (o3 op_mod3 (cty3 int3 (by rfl) B.m_int boot_int (ac3 (o3 op_add3 (o3 op_add3 (v3 2) (o3 op_mul3 i3 (v3 3))) i3) an3)) i3))
    (cons3 (set3 (i := 4) sc_law_take.nd rfl (.inl rfl) (o3 op_mod3 (cty3 int3 (by rfl) B.m_int boot_int (ac3 (o3 op_mul3 (v3 4) (o3 op_add3 (v3 4) i3)) an3)) i3))
    (cons3 (set3 (i := 4) sc_law_take.nd rfl (.inl rfl) (o3 op_mod3 (cty3 int3 (by rfl) B.m_int boot_int (ac3 (o3 op_add3 (o3 op_mul3 (v3 4) (o3 op_add3 (v3 4) i3)) (o3 op_mul3 i3 (v3 3))) an3)) i3))
    (last3 (ret3 (o3 op_mod3 (cty3 int3 (by rfl) B.m_int boot_int (ac3 (o3 op_div3 (v3 4) i3) an3)) (v3 1)))))))))))) (sem_law_take), mgf, F.kp, (F.binds (ps := ["_law_tape_here", "_law_size"]) fun _ _ _ _ _ _ us hl => match us, hl with | [_, _], _ => rfl), .nil⟩
abbrev s_law_tape : Stmt := topS 24
theorem sc_law_tape : FnScope ["_law_script", "_law_k"] ["_law_script", "_law_k"] (defScope s_law_tape) := ⟨rfl, rfl, rfl, by decide +kernel, rfl, by decide +kernel, by decide +kernel⟩
theorem ok_law_tape {f : Addr} {fd : FuncData} (B : Bt K mg A) (F : Fun K ("_law_tape" : Str) ("_law_tape" : Str) s_law_tape f fd) (mgf : mg ("_law_tape" : Str) = some (.ref f))  : Cal P w K mg base 1 ("_law_tape" : Str) (dSp K sp_law_tape) [] :=
  ⟨f, fd, _, [], fun3 (N := ["_law_script", "_law_k"]) (ps := ["_law_script", "_law_k"]) F sc_law_tape (fun ws M Q E h => by unfold sp_law_tape at h; repeat' (first | (obtain ⟨rfl, _⟩ := h; rfl) | (obtain ⟨_, h⟩ := h))) (rd_law_tape) (fun cdv A_ outer s H E hr =>
    (cons3 (ifs3 (ct3 op_lt3 (v3 1) (cb3 len3 (by rfl) B.m_len (by decide +kernel) (ac3 (v3 0) an3)) (nomark _)) (last3 (ret3 (lst3 (ac3 (cb3 abs3 (by rfl) B.m_abs (by decide +kernel) (ac3 (ix3 (v3 0) (v3 1) (fun _ _ => rfl)) an3)) (ac3 i3 an3))))) nil3)
    (last3 (ret3 (lst3 (ac3 (v3 1) (ac3 i3 an3))))))) (sem_law_tape), mgf, F.kp, (F.binds (ps := ["_law_script", "_law_k"]) fun _ _ _ _ _ _ us hl => match us, hl with | [_, _], _ => rfl), .nil⟩
abbrev s_never_ends : Stmt := topS 20
theorem sc_never_ends : FnScope ["parents", "field", "place", "_"] ["parents", "field"] (defScope s_never_ends) := ⟨rfl, rfl, rfl, by decide +kernel, rfl, by decide +kernel, by decide +kernel⟩
theorem ok_never_ends {f : Addr} {fd : FuncData} (B : Bt K mg A) (F : Fun K ("never_ends" : Str) ("never_ends" : Str) s_never_ends f fd) (mgf : mg ("never_ends" : Str) = some (.ref f))  : Cal P w K mg base 1 ("never_ends" : Str) (dSp K sp_never_ends) [] :=
  ⟨f, fd, _, [], fun3 (N := ["parents", "field", "place", "_"]) (ps := ["parents", "field"]) F sc_never_ends (fun ws M Q E h => by unfold sp_never_ends at h; repeat' (first | (obtain ⟨rfl, _⟩ := h; rfl) | (obtain ⟨_, h⟩ := h))) (rd_never_ends) (fun cdv A_ outer s H E hr =>
    (cons3 (set3 (i := 2) sc_never_ends.nd rfl (.inl rfl) (v3 1))
    (cons3 (for3 PassesOwn.never rfl (range1 (by rfl) B.m_range (ac3 (cb3 len3 (by rfl) B.m_len (by decide +kernel) (ac3 (v3 0) an3)) an3)) (gname3 (i := 3) sc_never_ends.nd rfl (.inl rfl)) (cons3 (ifs3 (isnT3 (v3 2)) (last3 (ret3 b3)) nil3)
    (last3 (set3 (i := 2) sc_never_ends.nd rfl (.inl rfl) (ix3 (v3 0) (v3 2) (fun _ _ => rfl))))))
    (last3 (ret3 (notn3 (v3 2))))))) (sem_never_ends), mgf, F.kp, (F.binds (ps := ["parents", "field"]) fun _ _ _ _ _ _ us hl => match us, hl with | [_, _], _ => rfl), .nil⟩
abbrev s_path_of : Stmt := topS 8
theorem sc_path_of : FnScope ["parents", "field", "path"] ["parents", "field"] (defScope s_path_of) := ⟨rfl, rfl, rfl, by decide +kernel, rfl, by decide +kernel, by decide +kernel⟩
theorem ok_path_of {f : Addr} {fd : FuncData} (B : Bt K mg A) (F : Fun K ("path_of" : Str) ("path_of" : Str) s_path_of f fd) (mgf : mg ("path_of" : Str) = some (.ref f))  : Cal P w K mg base 1 ("path_of" : Str) (dSp K sp_path_of) [] :=
  ⟨f, fd, _, [], fun3 (N := ["parents", "field", "path"]) (ps := ["parents", "field"]) F sc_path_of (fun ws M Q E h => by unfold sp_path_of at h; repeat' (first | (obtain ⟨rfl, _⟩ := h; rfl) | (obtain ⟨_, h⟩ := h))) (rd_path_of) (fun cdv A_ outer s H E hr =>
    (cons3 (set3 (i := 2) sc_path_of.nd rfl (.inl rfl) (lst3 (ac3 (v3 1) an3)))
    (cons3 (while3 PassesOwn.never (notnT3 (ix3 (v3 0) (ix3 (v3 2) (neg3 i3) (fun _ _ => rfl)) (fun _ _ => rfl))) (last3 (expr3 (mapp3 (v3 2) (ac3 (ix3 (v3 0) (ix3 (v3 2) (neg3 i3) (fun _ _ => rfl)) (fun _ _ => rfl)) an3)))))
    (last3 (ret3 (cty3 tuple3 (by rfl) B.m_tuple boot_tuple (ac3 (rev3 (v3 2)) an3))))))) (sem_path_of), mgf, F.kp, (F.binds (ps := ["parents", "field"]) fun _ _ _ _ _ _ us hl => match us, hl with | [_, _], _ => rfl), .nil⟩
abbrev s_raised : Stmt := topS 7
theorem sc_raised : FnScope ["kind", "value", "by"] ["kind", "value", "by"] (defScope s_raised) := ⟨rfl, rfl, rfl, by decide +kernel, rfl, by decide +kernel, by decide +kernel⟩
theorem ok_raised {f : Addr} {fd : FuncData} (B : Bt K mg A) (F : Fun K ("raised" : Str) ("raised" : Str) s_raised f fd) (mgf : mg ("raised" : Str) = some (.ref f))  : Cal P w K mg base 1 ("raised" : Str) (dSp K sp_raised) [] :=
  ⟨f, fd, _, [], fun3 (N := ["kind", "value", "by"]) (ps := ["kind", "value", "by"]) F sc_raised (fun ws M Q E h => by unfold sp_raised at h; repeat' (first | (obtain ⟨rfl, _⟩ := h; rfl) | (obtain ⟨_, h⟩ := h))) (rd_raised) (fun cdv A_ outer s H E hr =>
    (cons3 (ifs3 (ct3 (op_eq3 hr.units) (v3 0) s3 (nomark _)) (last3 (ret3 (o3 op_sub3 (v3 1) (v3 2)))) nil3)
    (last3 (ret3 (o3 op_add3 (v3 1) (v3 2)))))) (sem_raised), mgf, F.kp, (F.binds (ps := ["kind", "value", "by"]) fun _ _ _ _ _ _ us hl => match us, hl with | [_, _, _], _ => rfl), .nil⟩
abbrev s_Forest_path : Stmt := inClass (topS 22) 5
theorem sc_Forest_path : FnScope ["self", "field"] ["self", "field"] (defScope s_Forest_path) := ⟨rfl, rfl, rfl, by decide +kernel, rfl, by decide +kernel, by decide +kernel⟩
theorem ok_Forest_path {f : Addr} {fd : FuncData} (B : Bt K mg A) (F : Fun K ("path" : Str) ("Forest.path" : Str) s_Forest_path f fd) (M : Meth K A.Forest ("path" : Str) f) (c_path_of : Cal P w K mg base 1 ("path_of" : Str) (dSp K sp_path_of) []) : Met P w K mg base 2 A.Forest ("path" : Str) (dSp K (sp_Forest_path A)) [] :=
  ⟨f, fd, _, [], B.cl_Forest, M, fun3 (N := ["self", "field"]) (ps := ["self", "field"]) F sc_Forest_path (fun ws M Q E h => by unfold sp_Forest_path at h; repeat' (first | (obtain ⟨rfl, _⟩ := h; rfl) | (obtain ⟨_, h⟩ := h))) (rd_Forest_path A) (fun cdv A_ outer s H E hr =>
    (last3 (ret3 (cal3 c_path_of hr (by decide) (by rfl) (ac3 (fld3 (v3 0) B.cl_Forest B.na_Forest_parents) (ac3 (v3 1) an3)))))) (sem_Forest_path A), (F.binds (ps := ["self", "field"]) fun _ _ _ _ _ _ us hl => match us, hl with | [_, _], _ => rfl), .nil⟩
abbrev s_law_fields : Stmt := topS 35
theorem sc_law_fields : FnScope ["_law_tape_here"] ["_law_tape_here"] (defScope s_law_fields) := ⟨rfl, rfl, rfl, by decide +kernel, rfl, by decide +kernel, by decide +kernel⟩
theorem ok_law_fields {f : Addr} {fd : FuncData} (B : Bt K mg A) (F : Fun K ("_law_fields" : Str) ("_law_fields" : Str) s_law_fields f fd) (mgf : mg ("_law_fields" : Str) = some (.ref f)) (c_law_take : Cal P w K mg base 1 ("_law_take" : Str) (dSp K sp_law_take) []) : Cal P w K mg base 2 ("_law_fields" : Str) (dSp K sp_law_fields) [] :=
  ⟨f, fd, _, [], fun3 (N := ["_law_tape_here"]) (ps := ["_law_tape_here"]) F sc_law_fields (fun ws M Q E h => by unfold sp_law_fields at h; repeat' (first | (obtain ⟨rfl, _⟩ := h; rfl) | (obtain ⟨_, h⟩ := h))) (rd_law_fields) (fun cdv A_ outer s H E hr =>
    (cons3 (ifs3 (ct3 (op_eq3 hr.units) (cal3 c_law_take hr (by decide) (by rfl) (ac3 (v3 0) (ac3 i3 an3))) i3 (nomark _)) (last3 (ret3 (o3 op_add3 i3 (cal3 c_law_take hr (by decide) (by rfl) (ac3 (v3 0) (ac3 i3 an3)))))) nil3)
    (last3 (ret3 (o3 op_add3 i3 (cal3 c_law_take hr (by decide) (by rfl) (ac3 (v3 0) (ac3 i3 an3)))))))) (sem_law_fields), mgf, F.kp, (F.binds (ps := ["_law_tape_here"]) fun _ _ _ _ _ _ us hl => match us, hl with | [_], _ => rfl), .nil⟩
abbrev s_law_is_record : Stmt := topS 34
theorem sc_law_is_record : FnScope ["_law_actual", "_law_n", "_law_value"] ["_law_actual", "_law_n"] (defScope s_law_is_record) := ⟨rfl, rfl, rfl, by decide +kernel, rfl, by decide +kernel, by decide +kernel⟩
theorem ok_law_is_record {f : Addr} {fd : FuncData} (B : Bt K mg A) (F : Fun K ("_law_is_record" : Str) ("_law_is_record" : Str) s_law_is_record f fd) (mgf : mg ("_law_is_record" : Str) = some (.ref f)) (c_law_is_integer : Cal P w K mg base 1 ("_law_is_integer" : Str) (dSp K sp_law_is_integer) []) : Cal P w K mg base 2 ("_law_is_record" : Str) (dSp K sp_law_is_record) [] :=
  ⟨f, fd, _, [], fun3 (N := ["_law_actual", "_law_n", "_law_value"]) (ps := ["_law_actual", "_law_n"]) F sc_law_is_record (fun ws M Q E h => by unfold sp_law_is_record at h; repeat' (first | (obtain ⟨rfl, _⟩ := h; rfl) | (obtain ⟨_, h⟩ := h))) (rd_law_is_record A) (fun cdv A_ outer s H E hr =>
    (cons3 (ifs3 (W3.t (or3 (not3 (val3 (cb3 (isi3 B.kit) (by rfl) B.m_isinstance (by decide +kernel) (ac3 (v3 0) (ac3 (k_of (pe_bltn (v := V.ty "tuple") (u := Value.type "tuple") (by rfl) B.m_tuple (by decide +kernel) rfl) fun _ => .ty _) an3))))) (or1 (ct3 (op_ne3 hr.units) (cb3 len3 (by rfl) B.m_len (by decide +kernel) (ac3 (v3 0) an3)) (v3 1) (nomark _))))) (last3 (ret3 b3)) nil3)
    (cons3 (for3 PassesOwn.never rfl (seq3 (v3 0)) (gname3 (i := 2) sc_law_is_record.nd rfl (.inl rfl)) (last3 (ifs3 (not3 (val3 (cal3 c_law_is_integer hr (by decide) (by rfl) (ac3 (v3 2) an3)))) (last3 (ret3 b3)) nil3)))
    (last3 (ret3 b3))))) (sem_law_is_record A), mgf, F.kp, (F.binds (ps := ["_law_actual", "_law_n"]) fun _ _ _ _ _ _ us hl => match us, hl with | [_, _], _ => rfl), .nil⟩
abbrev s_law_kinds : Stmt := topS 28
theorem sc_law_kinds : FnScope ["_law_tape_here", "_law_parents_here", "_law_fair", "_law_kinds_here", "_law_field", "_law_pick"] ["_law_tape_here", "_law_parents_here", "_law_fair"] (defScope s_law_kinds) := ⟨rfl, rfl, rfl, by decide +kernel, rfl, by decide +kernel, by decide +kernel⟩
theorem ok_law_kinds {f : Addr} {fd : FuncData} (B : Bt K mg A) (F : Fun K ("_law_kinds" : Str) ("_law_kinds" : Str) s_law_kinds f fd) (mgf : mg ("_law_kinds" : Str) = some (.ref f)) (c_law_take : Cal P w K mg base 1 ("_law_take" : Str) (dSp K sp_law_take) []) : Cal P w K mg base 2 ("_law_kinds" : Str) (dSp K sp_law_kinds) [] :=
  ⟨f, fd, _, [], fun3 (N := ["_law_tape_here", "_law_parents_here", "_law_fair", "_law_kinds_here", "_law_field", "_law_pick"]) (ps := ["_law_tape_here", "_law_parents_here", "_law_fair"]) F sc_law_kinds (fun ws M Q E h => by unfold sp_law_kinds at h; repeat' (first | (obtain ⟨rfl, _⟩ := h; rfl) | (obtain ⟨_, h⟩ := h))) (rd_law_kinds) (fun cdv A_ outer s H E hr =>
    (cons3 (set3 (i := 3) sc_law_kinds.nd rfl (.inl rfl) (lst3 an3))
    (cons3 (for3 PassesOwn.never rfl (range1 (by rfl) B.m_range (ac3 (cb3 len3 (by rfl) B.m_len (by decide +kernel) (ac3 (v3 1) an3)) an3)) (gname3 (i := 4) sc_law_kinds.nd rfl (.inl rfl)) (cons3 (set3 (i := 5) sc_law_kinds.nd rfl (.inl rfl) (cal3 c_law_take hr (by decide) (by rfl) (ac3 (v3 0) (ac3 i3 an3))))
    (cuts3 (ifs3 (W3.t (or3 (val3 (v3 2)) (or1 (ct3 op_in3 (v3 4) (v3 1) (by rfl))))) (last3 (set3 (i := 5) sc_law_kinds.nd rfl (.inl rfl) (o3 op_mod3 (cty3 int3 (by rfl) B.m_int boot_int (ac3 (v3 5) an3)) i3))) nil3)
    (last3 (expr3 (mapp3 (v3 3) (ac3 (ix3 (lst3 (ac3 s3 (ac3 s3 (ac3 s3 (ac3 s3 an3))))) (v3 5) (fun _ _ => rfl)) an3)))))))
    (last3 (ret3 (v3 3)))))) (sem_law_kinds), mgf, F.kp, (F.binds (ps := ["_law_tape_here", "_law_parents_here", "_law_fair"]) fun _ _ _ _ _ _ us hl => match us, hl with | [_, _, _], _ => rfl), .nil⟩
abbrev s_law_side : Stmt := topS 30
theorem sc_law_side : FnScope ["_law_parents_here", "_law_kinds_here", "_law_field", "_law_older", "_law_newer", "_law_place"] ["_law_parents_here", "_law_kinds_here", "_law_field", "_law_older", "_law_newer"] (defScope s_law_side) := ⟨rfl, rfl, rfl, by decide +kernel, rfl, by decide +kernel, by decide +kernel⟩
theorem ok_law_side {f : Addr} {fd : FuncData} (B : Bt K mg A) (F : Fun K ("_law_side" : Str) ("_law_side" : Str) s_law_side f fd) (mgf : mg ("_law_side" : Str) = some (.ref f)) (c_law_path : Cal P w K mg base 1 ("_law_path" : Str) (dSp K sp_law_path) []) : Cal P w K mg base 2 ("_law_side" : Str) (dSp K sp_law_side) [] :=
  ⟨f, fd, _, [], fun3 (N := ["_law_parents_here", "_law_kinds_here", "_law_field", "_law_older", "_law_newer", "_law_place"]) (ps := ["_law_parents_here", "_law_kinds_here", "_law_field", "_law_older", "_law_newer"]) F sc_law_side (fun ws M Q E h => by unfold sp_law_side at h; repeat' (first | (obtain ⟨rfl, _⟩ := h; rfl) | (obtain ⟨_, h⟩ := h))) (rd_law_side) (fun cdv A_ outer s H E hr =>
    (cons3 (for3 PassesOwn.never rfl (seq3 (cal3 c_law_path hr (by decide) (by rfl) (ac3 (v3 0) (ac3 (v3 2) an3)))) (gname3 (i := 5) sc_law_side.nd rfl (.inl rfl)) (last3 (ifs3 (ct3 (op_ne3 hr.units) (ix3 (v3 3) (v3 5) (fun _ _ => rfl)) (ix3 (v3 4) (v3 5) (fun _ _ => rfl)) (nomark _)) (cons3 (ifs3 (ct3 (op_eq3 hr.units) (ix3 (v3 1) (v3 5) (fun _ _ => rfl)) s3 (nomark _)) (last3 (ret3 i3)) nil3)
    (cons3 (ifs3 (ct3 (op_eq3 hr.units) (ix3 (v3 1) (v3 5) (fun _ _ => rfl)) s3 (nomark _)) (last3 (ret3 i3)) nil3)
    (last3 (ret3 (cty3 int3 (by rfl) B.m_int boot_int (ac3 (c3 (op_ne3 hr.units) (c3 op_gt3 (ix3 (v3 3) (v3 5) (fun _ _ => rfl)) (ix3 (v3 4) (v3 5) (fun _ _ => rfl)) (nomark _)) (c3 (op_eq3 hr.units) (ix3 (v3 1) (v3 5) (fun _ _ => rfl)) s3 (nomark _)) (nomark _)) an3)))))) nil3)))
    (last3 (ret3 i3)))) (sem_law_side), mgf, F.kp, (F.binds (ps := ["_law_parents_here", "_law_kinds_here", "_law_field", "_law_older", "_law_newer"]) fun _ _ _ _ _ _ us hl => match us, hl with | [_, _, _, _, _], _ => rfl), .nil⟩
abbrev s_law_turns : Stmt := topS 26
theorem sc_law_turns : FnScope ["_law_tape_here", "_law_n", "_law_left", "_law_turns_here", "_law_k"] ["_law_tape_here", "_law_n"] (defScope s_law_turns) := ⟨rfl, rfl, rfl, by decide +kernel, rfl, by decide +kernel, by decide +kernel⟩
theorem ok_law_turns {f : Addr} {fd : FuncData} (B : Bt K mg A) (F : Fun K ("_law_turns" : Str) ("_law_turns" : Str) s_law_turns f fd) (mgf : mg ("_law_turns" : Str) = some (.ref f)) (c_law_take : Cal P w K mg base 1 ("_law_take" : Str) (dSp K sp_law_take) []) : Cal P w K mg base 2 ("_law_turns" : Str) (dSp K sp_law_turns) [] :=
  ⟨f, fd, _, [], fun3 (N := ["_law_tape_here", "_law_n", "_law_left", "_law_turns_here", "_law_k"]) (ps := ["_law_tape_here", "_law_n"]) F sc_law_turns (fun ws M Q E h => by unfold sp_law_turns at h; repeat' (first | (obtain ⟨rfl, _⟩ := h; rfl) | (obtain ⟨_, h⟩ := h))) (rd_law_turns) (fun cdv A_ outer s H E hr =>
    (cons3 (set3 (i := 2) sc_law_turns.nd rfl (.inl rfl) (lr1 rfl (by rfl) B.m_list (by rfl) B.m_range (v3 1)))
    (cons3 (set3 (i := 3) sc_law_turns.nd rfl (.inl rfl) (lst3 an3))
    (cons3 (for3 PassesOwn.never rfl (range1 (by rfl) B.m_range (ac3 (v3 1) an3)) (gname3 (i := 4) sc_law_turns.nd rfl (.inl rfl)) (last3 (expr3 (mapp3 (v3 3) (ac3 (mpop3 (v3 2) (ac3 (cal3 c_law_take hr (by decide) (by rfl) (ac3 (v3 0) (ac3 (cb3 len3 (by rfl) B.m_len (by decide +kernel) (ac3 (v3 2) an3)) an3))) an3)) an3)))))
    (last3 (ret3 (v3 3))))))) (sem_law_turns), mgf, F.kp, (F.binds (ps := ["_law_tape_here", "_law_n"]) fun _ _ _ _ _ _ us hl => match us, hl with | [_, _], _ => rfl), .nil⟩
abbrev s_check_shape : Stmt := topS 21
theorem sc_check_shape : FnScope ["parents", "kinds", "fields", "field"] ["parents", "kinds"] (defScope s_check_shape) := ⟨rfl, rfl, rfl, by decide +kernel, rfl, by decide +kernel, by decide +kernel⟩
theorem ok_check_shape {f : Addr} {fd : FuncData} (B : Bt K mg A) (F : Fun K ("check_shape" : Str) ("check_shape" : Str) s_check_shape f fd) (mgf : mg ("check_shape" : Str) = some (.ref f)) (c_never_ends : Cal P w K mg base 1 ("never_ends" : Str) (dSp K sp_never_ends) []) : Cal P w K mg base 2 ("check_shape" : Str) (dSp K sp_check_shape) [] :=
  ⟨f, fd, _, [], fun3 (N := ["parents", "kinds", "fields", "field"]) (ps := ["parents", "kinds"]) F sc_check_shape (fun ws M Q E h => by unfold sp_check_shape at h; repeat' (first | (obtain ⟨rfl, _⟩ := h; rfl) | (obtain ⟨_, h⟩ := h))) (rd_check_shape) (fun cdv A_ outer s H E hr =>
    (cons3 (set3 (i := 2) sc_check_shape.nd rfl (.inl rfl) (cb3 len3 (by rfl) B.m_len (by decide +kernel) (ac3 (v3 0) an3)))
    (cons3 (ifs3 (W3.t (or3 (ct3 (op_ne3 hr.units) (v3 2) (cb3 len3 (by rfl) B.m_len (by decide +kernel) (ac3 (v3 1) an3)) (nomark _)) (or1 (not3 (chainT3 op_le3 op_le3 i3 (v3 2) (k_of (pe_glob (v := V.int 16) (by rfl) (Exists.choose_spec B.c_MOST_FIELDS) ⟨_, rfl⟩) fun _ => .int _)))))) (last3 never3) nil3)
    (cons3 (for3 PassesOwn.never rfl (range1 (by rfl) B.m_range (ac3 (v3 2) an3)) (gname3 (i := 3) sc_check_shape.nd rfl (.inl rfl)) (last3 (ifs3 (W3.t (and3 (notnT3 (ix3 (v3 0) (v3 3) (fun _ _ => rfl))) (and1 (not3 (chainT3 op_le3 op_lt3 i3 (ix3 (v3 0) (v3 3) (fun _ _ => rfl)) (v3 2)))))) (last3 never3) nil3)))
    (cons3 (for3 PassesOwn.never rfl (range1 (by rfl) B.m_range (ac3 (v3 2) an3)) (gname3 (i := 3) sc_check_shape.nd rfl (.inl rfl)) (last3 (ifs3 (val3 (cal3 c_never_ends hr (by decide) (by rfl) (ac3 (v3 0) (ac3 (v3 3) an3)))) (last3 never3) nil3)))
    (last3 (for3 PassesOwn.never rfl (range1 (by rfl) B.m_range (ac3 (v3 2) an3)) (gname3 (i := 3) sc_check_shape.nd rfl (.inl rfl)) (last3 (ifs3 (W3.t (and3 (ct3 op_in3 (ix3 (v3 1) (v3 3) (fun _ _ => rfl)) (tup3 (ac3 s3 (ac3 s3 an3))) (by rfl)) (and1 (ct3 op_in3 (v3 3) (v3 0) (by rfl))))) (last3 never3) nil3))))))))) (sem_check_shape), mgf, F.kp, (F.binds (ps := ["parents", "kinds"]) fun _ _ _ _ _ _ us hl => match us, hl with | [_, _], _ => rfl), .nil⟩
abbrev s_hanging_leaves : Stmt := topS 13
theorem sc_hanging_leaves : FnScope ["forest", "kind", "found", "parent", "leaves", "field"] ["forest", "kind"] (defScope s_hanging_leaves) := ⟨rfl, rfl, rfl, by decide +kernel, rfl, by decide +kernel, by decide +kernel⟩
theorem ok_hanging_leaves {f : Addr} {fd : FuncData} (B : Bt K mg A) (F : Fun K ("hanging_leaves" : Str) ("hanging_leaves" : Str) s_hanging_leaves f fd) (mgf : mg ("hanging_leaves" : Str) = some (.ref f)) (c_Forest_children : Met P w K mg base 1 A.Forest ("children" : Str) (dSp K (sp_Forest_children A)) []) : Cal P w K mg base 2 ("hanging_leaves" : Str) (dSp K (sp_hanging_leaves A)) [] :=
  ⟨f, fd, _, [], fun3 (N := ["forest", "kind", "found", "parent", "leaves", "field"]) (ps := ["forest", "kind"]) F sc_hanging_leaves (fun ws M Q E h => by unfold sp_hanging_leaves at h; repeat' (first | (obtain ⟨rfl, _⟩ := h; rfl) | (obtain ⟨_, h⟩ := h))) (rd_hanging_leaves A) (fun cdv A_ outer s H E hr =>
    (cons3 (set3 (i := 2) sc_hanging_leaves.nd rfl (.inl rfl) (lst3 an3))
    (cons3 (for3 PassesOwn.never rfl (seq3 (o3 op_add3 (lst3 (ac3 n3 an3)) (lr1 rfl (by rfl) B.m_list (by rfl) B.m_range (fld3 (v3 0) B.cl_Forest B.na_Forest_fields)))) (gname3 (i := 3) sc_hanging_leaves.nd rfl (.inl rfl)) (cons3 (setlc3 (i := 5) (j := 4) rfl sc_hanging_leaves.nd rfl rfl (sw_true rfl rfl rfl (by decide +kernel)) (seq3 (met3 c_Forest_children hr (by decide) (v3 0) (ac3 (v3 3) an3))) (blkOk_by (N := ["forest", "kind", "found", "parent", "leaves", "field"]) (sc := defScope s_hanging_leaves) (by decide +kernel)) (fun _ _ _ _ _ => pg_name (i := 5) sc_hanging_leaves.nd rfl (Or.inl rfl)) (fun _ _ _ _ _ => (ts13 (ct3 (op_eq3 hr.units) (ix3 (fld3 (v3 0) B.cl_Forest B.na_Forest_kinds) (v3 5) (fun _ _ => rfl)) (v3 1) (nomark _)))) (fun _ _ _ _ _ => (v3 5)))
    (last3 (ifs3 (ct3 op_gt3 (cb3 len3 (by rfl) B.m_len (by decide +kernel) (ac3 (v3 4) an3)) i3 (nomark _)) (last3 (expr3 (mapp3 (v3 2) (ac3 (tup3 (ac3 (v3 3) (ac3 (cty3 tuple3 (by rfl) B.m_tuple boot_tuple (ac3 (v3 4) an3)) an3))) an3)))) nil3))))
    (last3 (ret3 (v3 2)))))) (sem_hanging_leaves A), mgf, F.kp, (F.binds (ps := ["forest", "kind"]) fun _ _ _ _ _ _ us hl => match us, hl with | [_, _], _ => rfl), .nil⟩
abbrev s_Forest_init : Stmt := inClass (topS 22) 0
theorem sc_Forest_init : FnScope ["self", "parents", "kinds"] ["self", "parents", "kinds"] (defScope s_Forest_init) := ⟨rfl, rfl, rfl, by decide +kernel, rfl, by decide +kernel, by decide +kernel⟩
theorem ok_Forest_init {f : Addr} {fd : FuncData} (B : Bt K mg A) (F : Fun K ("__init__" : Str) ("Forest.__init__" : Str) s_Forest_init f fd) (M : Mk K A.Forest f) (c_check_shape : Cal P w K mg base 2 ("check_shape" : Str) (dSp K sp_check_shape) []) : Mak P w K mg base 3 ("Forest" : Str) A.Forest (dSp K (sp_Forest_init A)) [] :=
  ⟨f, fd, _, [], M, fun3 (N := ["self", "parents", "kinds"]) (ps := ["self", "parents", "kinds"]) F sc_Forest_init (fun ws M Q E h => by unfold sp_Forest_init at h; repeat' (first | (obtain ⟨rfl, _⟩ := h; rfl) | (obtain ⟨_, h⟩ := h))) (rd_Forest_init A) (fun cdv A_ outer s H E hr =>
    (cons3 (expr3 (cal3 c_check_shape hr (by decide) (by rfl) (ac3 (v3 1) (ac3 (v3 2) an3))))
    (cons3 (setf3 (v3 0) (cb3 len3 (by rfl) B.m_len (by decide +kernel) (ac3 (v3 1) an3)) B.cl_Forest B.na_Forest_fields)
    (cons3 (setf3 (v3 0) (cty3 tuple3 (by rfl) B.m_tuple boot_tuple (ac3 (v3 1) an3)) B.cl_Forest B.na_Forest_parents)
    (last3 (setf3 (v3 0) (cty3 tuple3 (by rfl) B.m_tuple boot_tuple (ac3 (v3 2) an3)) B.cl_Forest B.na_Forest_kinds)))))) (sem_Forest_init A), B.g_Forest, (F.binds (ps := ["self", "parents", "kinds"]) fun _ _ _ _ _ _ us hl => match us, hl with | [_, _, _], _ => rfl), .nil⟩
abbrev s_law_merge : Stmt := topS 31
theorem sc_law_merge : FnScope ["_law_parents_here", "_law_kinds_here", "_law_older", "_law_newer", "_law_pair", "_law_f"] ["_law_parents_here", "_law_kinds_here", "_law_older", "_law_newer"] (defScope s_law_merge) := ⟨rfl, rfl, rfl, by decide +kernel, rfl, by decide +kernel, by decide +kernel⟩
theorem ok_law_merge {f : Addr} {fd : FuncData} (B : Bt K mg A) (F : Fun K ("_law_merge" : Str) ("_law_merge" : Str) s_law_merge f fd) (mgf : mg ("_law_merge" : Str) = some (.ref f)) (c_law_side : Cal P w K mg base 2 ("_law_side" : Str) (dSp K sp_law_side) []) : Cal P w K mg base 3 ("_law_merge" : Str) (dSp K sp_law_merge) [] :=
  ⟨f, fd, _, [], fun3 (N := ["_law_parents_here", "_law_kinds_here", "_law_older", "_law_newer", "_law_pair", "_law_f"]) (ps := ["_law_parents_here", "_law_kinds_here", "_law_older", "_law_newer"]) F sc_law_merge (fun ws M Q E h => by unfold sp_law_merge at h; repeat' (first | (obtain ⟨rfl, _⟩ := h; rfl) | (obtain ⟨_, h⟩ := h))) (rd_law_merge) (fun cdv A_ outer s H E hr =>
    (cons3 (set3 (i := 4) sc_law_merge.nd rfl (.inr rfl) (lst3 (ac3 (v3 2) (ac3 (v3 3) an3))))
    (last3 (ret3 (cty3 tuple3 (by rfl) B.m_tuple boot_tuple (ac3 (lc3 (i := 5) rfl sc_law_merge.nd (range1 (by rfl) B.m_range (ac3 (cb3 len3 (by rfl) B.m_len (by decide +kernel) (ac3 (v3 0) an3)) an3)) (blkOk_by (N := ["_law_parents_here", "_law_kinds_here", "_law_older", "_law_newer", "_law_pair", "_law_f"]) (sc := defScope s_law_merge) (by decide +kernel)) (fun _ _ _ _ _ => pg_name (i := 5) sc_law_merge.nd rfl (Or.inl rfl)) (fun _ _ _ _ _ => tsn3) (fun _ _ _ _ _ => (ix3 (ix3 (v3 4) (cal3 c_law_side hr (by decide) (by rfl) (ac3 (v3 0) (ac3 (v3 1) (ac3 (v3 5) (ac3 (v3 2) (ac3 (v3 3) an3)))))) (fun _ _ => rfl)) (v3 5) (fun _ _ => rfl)))) an3)))))) (sem_law_merge), mgf, F.kp, (F.binds (ps := ["_law_parents_here", "_law_kinds_here", "_law_older", "_law_newer"]) fun _ _ _ _ _ _ us hl => match us, hl with | [_, _, _, _], _ => rfl), .nil⟩
abbrev s_law_parents : Stmt := topS 27
theorem sc_law_parents : FnScope ["_law_tape_here", "_law_n", "_law_turns_here", "_law_bend", "_law_parents_here", "_law_k", "_law_pick"] ["_law_tape_here", "_law_n"] (defScope s_law_parents) := ⟨rfl, rfl, rfl, by decide +kernel, rfl, by decide +kernel, by decide +kernel⟩
theorem ok_law_parents {f : Addr} {fd : FuncData} (B : Bt K mg A) (F : Fun K ("_law_parents" : Str) ("_law_parents" : Str) s_law_parents f fd) (mgf : mg ("_law_parents" : Str) = some (.ref f)) (c_law_take : Cal P w K mg base 1 ("_law_take" : Str) (dSp K sp_law_take) []) (c_law_turns : Cal P w K mg base 2 ("_law_turns" : Str) (dSp K sp_law_turns) []) : Cal P w K mg base 3 ("_law_parents" : Str) (dSp K sp_law_parents) [] :=
  ⟨f, fd, _, [], fun3 (N := ["_law_tape_here", "_law_n", "_law_turns_here", "_law_bend", "_law_parents_here", "_law_k", "_law_pick"]) (ps := ["_law_tape_here", "_law_n"]) F sc_law_parents (fun ws M Q E h => by unfold sp_law_parents at h; repeat' (first | (obtain ⟨rfl, _⟩ := h; rfl) | (obtain ⟨_, h⟩ := h))) (rd_law_parents) (fun cdv A_ outer s H E hr =>
    (cons3 (set3 (i := 2) sc_law_parents.nd rfl (.inl rfl) (cal3 c_law_turns hr (by decide) (by rfl) (ac3 (v3 0) (ac3 (v3 1) an3))))
    (cons3 (set3 (i := 3) sc_law_parents.nd rfl (.inl rfl) (cal3 c_law_take hr (by decide) (by rfl) (ac3 (v3 0) (ac3 i3 an3))))
    (cons3 (setlc3 (i := 5) (j := 4) rfl sc_law_parents.nd rfl rfl (sw_true rfl rfl rfl (by decide +kernel)) (range1 (by rfl) B.m_range (ac3 (v3 1) an3)) (blkOk_by (N := ["_law_tape_here", "_law_n", "_law_turns_here", "_law_bend", "_law_parents_here", "_law_k", "_law_pick"]) (sc := defScope s_law_parents) (by decide +kernel)) (fun _ _ _ _ _ => pg_name (i := 5) sc_law_parents.nd rfl (Or.inl rfl)) (fun _ _ _ _ _ => tsn3) (fun _ _ _ _ _ => n3))
    (cons3 (for3 PassesOwn.never rfl (range2 (by rfl) B.m_range (ac3 i3 (ac3 (v3 1) an3))) (gname3 (i := 5) sc_law_parents.nd rfl (.inl rfl)) (cons3 (set3 (i := 6) sc_law_parents.nd rfl (.inl rfl) (cal3 c_law_take hr (by decide) (by rfl) (ac3 (v3 0) (ac3 (o3 op_add3 (v3 5) i3) an3))))
    (cuts3 (ifs3 (ct3 (op_eq3 hr.units) (v3 3) i3 (nomark _)) (last3 (set3 (i := 6) sc_law_parents.nd rfl (.inl rfl) (v3 5))) nil3)
    (cuts3 (ifs3 (ct3 (op_eq3 hr.units) (v3 3) i3 (nomark _)) (last3 (set3 (i := 6) sc_law_parents.nd rfl (.inl rfl) i3)) nil3)
    (last3 (ifs3 (ct3 op_gt3 (v3 6) i3 (nomark _)) (last3 (asg3 (ix3 (v3 2) (o3 op_sub3 (v3 6) i3) (fun _ _ => rfl)) (gix3 (v3 4) (ix3 (v3 2) (v3 5) (fun _ _ => rfl))))) nil3))))))
    (last3 (ret3 (v3 4)))))))) (sem_law_parents), mgf, F.kp, (F.binds (ps := ["_law_tape_here", "_law_n"]) fun _ _ _ _ _ _ us hl => match us, hl with | [_, _], _ => rfl), .nil⟩
abbrev s_law_fold : Stmt := topS 32
theorem sc_law_fold : FnScope ["_law_parents_here", "_law_kinds_here", "_law_records", "_law_end", "_law_record"] ["_law_parents_here", "_law_kinds_here", "_law_records"] (defScope s_law_fold) := ⟨rfl, rfl, rfl, by decide +kernel, rfl, by decide +kernel, by decide +kernel⟩
theorem ok_law_fold {f : Addr} {fd : FuncData} (B : Bt K mg A) (F : Fun K ("_law_fold" : Str) ("_law_fold" : Str) s_law_fold f fd) (mgf : mg ("_law_fold" : Str) = some (.ref f)) (c_law_merge : Cal P w K mg base 3 ("_law_merge" : Str) (dSp K sp_law_merge) []) : Cal P w K mg base 4 ("_law_fold" : Str) (dSp K sp_law_fold) [] :=
  ⟨f, fd, _, [], fun3 (N := ["_law_parents_here", "_law_kinds_here", "_law_records", "_law_end", "_law_record"]) (ps := ["_law_parents_here", "_law_kinds_here", "_law_records"]) F sc_law_fold (fun ws M Q E h => by unfold sp_law_fold at h; repeat' (first | (obtain ⟨rfl, _⟩ := h; rfl) | (obtain ⟨_, h⟩ := h))) (rd_law_fold) (fun cdv A_ outer s H E hr =>
    (cons3 (set3 (i := 3) sc_law_fold.nd rfl (.inl rfl) (ix3 (v3 2) i3 (fun _ _ => rfl)))
    (cons3 (for3 PassesOwn.never rfl (seq3 (slice3 (v3 2) (pa3 i3) no3)) (gname3 (i := 4) sc_law_fold.nd rfl (.inl rfl)) (last3 (set3 (i := 3) sc_law_fold.nd rfl (.inl rfl) (cal3 c_law_merge hr (by decide) (by rfl) (ac3 (v3 0) (ac3 (v3 1) (ac3 (v3 3) (ac3 (v3 4) an3))))))))
    (last3 (ret3 (v3 3)))))) (sem_law_fold), mgf, F.kp, (F.binds (ps := ["_law_parents_here", "_law_kinds_here", "_law_records"]) fun _ _ _ _ _ _ us hl => match us, hl with | [_, _, _], _ => rfl), .nil⟩
abbrev s_law_needs_all : Stmt := topS 37
theorem sc_law_needs_all : FnScope ["_law_parents_here", "_law_kinds_here", "_law_row", "_law_end", "_law_place", "_law_rest"] ["_law_parents_here", "_law_kinds_here", "_law_row"] (defScope s_law_needs_all) := ⟨rfl, rfl, rfl, by decide +kernel, rfl, by decide +kernel, by decide +kernel⟩
theorem ok_law_needs_all {f : Addr} {fd : FuncData} (B : Bt K mg A) (F : Fun K ("_law_needs_all" : Str) ("_law_needs_all" : Str) s_law_needs_all f fd) (mgf : mg ("_law_needs_all" : Str) = some (.ref f)) (c_law_fold : Cal P w K mg base 4 ("_law_fold" : Str) (dSp K sp_law_fold) []) : Cal P w K mg base 5 ("_law_needs_all" : Str) (dSp K sp_law_needs_all) [] :=
  ⟨f, fd, _, [], fun3 (N := ["_law_parents_here", "_law_kinds_here", "_law_row", "_law_end", "_law_place", "_law_rest"]) (ps := ["_law_parents_here", "_law_kinds_here", "_law_row"]) F sc_law_needs_all (fun ws M Q E h => by unfold sp_law_needs_all at h; repeat' (first | (obtain ⟨rfl, _⟩ := h; rfl) | (obtain ⟨_, h⟩ := h))) (rd_law_needs_all) (fun cdv A_ outer s H E hr =>
    (cons3 (set3 (i := 3) sc_law_needs_all.nd rfl (.inl rfl) (cal3 c_law_fold hr (by decide) (by rfl) (ac3 (v3 0) (ac3 (v3 1) (ac3 (v3 2) an3)))))
    (cons3 (for3 PassesOwn.never rfl (range1 (by rfl) B.m_range (ac3 (cb3 len3 (by rfl) B.m_len (by decide +kernel) (ac3 (v3 2) an3)) an3)) (gname3 (i := 4) sc_law_needs_all.nd rfl (.inl rfl)) (cons3 (set3 (i := 5) sc_law_needs_all.nd rfl (.inl rfl) (o3 op_add3 (slice3 (v3 2) no3 (pa3 (v3 4))) (slice3 (v3 2) (pa3 (o3 op_add3 (v3 4) i3)) no3)))
    (last3 (ifs3 (W3.t (and3 (ct3 (op_ne3 hr.units) (v3 5) (lst3 an3) (nomark _)) (and1 (ct3 (op_eq3 hr.units) (cal3 c_law_fold hr (by decide) (by rfl) (ac3 (v3 0) (ac3 (v3 1) (ac3 (v3 5) an3)))) (v3 3) (nomark _))))) (last3 (ret3 b3)) nil3))))
    (last3 (ret3 b3))))) (sem_law_needs_all), mgf, F.kp, (F.binds (ps := ["_law_parents_here", "_law_kinds_here", "_law_row"]) fun _ _ _ _ _ _ us hl => match us, hl with | [_, _, _], _ => rfl), .nil⟩
abbrev s_classes_of_kind : Stmt := topS 14
theorem sc_classes_of_kind : FnScope ["forest", "kind", "classes", "parent", "leaves"] ["forest", "kind"] (defScope s_classes_of_kind) := ⟨rfl, rfl, rfl, by decide +kernel, rfl, by decide +kernel, by decide +kernel⟩
theorem ok_classes_of_kind {f : Addr} {fd : FuncData} (B : Bt K mg A) {c : Addr} (F : FunC K ("classes_of_kind" : Str) ("classes_of_kind" : Str) s_classes_of_kind f fd c) (TB : LamX.TabB base mg c A.tab) (mgf : mg ("classes_of_kind" : Str) = some (.ref f)) (c_Forest_path : Met P w K mg base 2 A.Forest ("path" : Str) (dSp K (sp_Forest_path A)) []) (c_hanging_leaves : Cal P w K mg base 2 ("hanging_leaves" : Str) (dSp K (sp_hanging_leaves A)) []) : Cal P w K mg base 7 ("classes_of_kind" : Str) (dSp K (sp_classes_of_kind A)) [] :=
  ⟨f, fd, _, [], fun3C (N := ["forest", "kind", "classes", "parent", "leaves"]) (ps := ["forest", "kind"]) F sc_classes_of_kind (fun ws M Q E h => by unfold sp_classes_of_kind at h; repeat' (first | (obtain ⟨rfl, _⟩ := h; rfl) | (obtain ⟨_, h⟩ := h))) (rd_classes_of_kind A) (fun A_ outer s H E hr =>
    (cons3 (setlcp3 (i := 3) (j := 4) (l := 2) (by decide) rfl sc_classes_of_kind.nd rfl rfl (sw_true rfl rfl rfl (by decide +kernel)) (seq3 (cal3 c_hanging_leaves hr (by decide) (by rfl) (ac3 (v3 0) (ac3 (v3 1) an3)))) (blkOk_by (N := ["forest", "kind", "classes", "parent", "leaves"]) (sc := defScope s_classes_of_kind) (by decide +kernel)) (fun _ _ _ _ _ => pg_name (i := 3) sc_classes_of_kind.nd rfl (Or.inl rfl)) (fun _ _ _ _ _ => pg_name (i := 4) sc_classes_of_kind.nd rfl (Or.inl rfl)) (fun _ _ _ _ _ => tsn3) (fun _ _ _ _ _ => (v3 4)))
    (last3 (ret3 (sortl3 (k := 2) (Nl := ["leaves", "forest"]) (fr := ["forest"]) (js := [0]) (by rfl) B.m_sorted (v3 2) TB rfl hr (by decide) (NdefX.nscope_by (by decide +kernel)) (NdefX.ndef_free (sc := defScope s_classes_of_kind) (fr := ["forest"]) (by decide +kernel)) (NdefX.ndef_fr (sc := defScope s_classes_of_kind) (fr := ["forest"]) (by decide +kernel)) rfl rfl (fun _ _ _ _ _ => rfl) (fun _ _ _ _ _ _ _ hr => (cb3 len3 (by rfl) B.m_len (by decide +kernel) (ac3 (met3 c_Forest_path hr (by decide) (v3 1) (ac3 (ix3 (v3 0) i3 (fun _ _ => rfl)) an3)) an3)))))))) (sem_classes_of_kind A), mgf, F.kp, (F.fun.binds (ps := ["forest", "kind"]) fun _ _ _ _ _ _ us hl => match us, hl with | [_, _], _ => rfl), .nil⟩
abbrev s_bearer_classes : Stmt := topS 15
theorem sc_bearer_classes : FnScope ["forest", "plain", "last", "leaf"] ["forest"] (defScope s_bearer_classes) := ⟨rfl, rfl, rfl, by decide +kernel, rfl, by decide +kernel, by decide +kernel⟩
theorem ok_bearer_classes {f : Addr} {fd : FuncData} (B : Bt K mg A) (F : Fun K ("bearer_classes" : Str) ("bearer_classes" : Str) s_bearer_classes f fd) (mgf : mg ("bearer_classes" : Str) = some (.ref f)) (c_Forest_leaves : Prp P w K mg base 1 A.Forest ("leaves" : Str) (dSp K (sp_Forest_leaves A))) (c_classes_of_kind : Cal P w K mg base 7 ("classes_of_kind" : Str) (dSp K (sp_classes_of_kind A)) []) : Cal P w K mg base 8 ("bearer_classes" : Str) (dSp K (sp_bearer_classes A)) [] :=
  ⟨f, fd, _, [], fun3 (N := ["forest", "plain", "last", "leaf"]) (ps := ["forest"]) F sc_bearer_classes (fun ws M Q E h => by unfold sp_bearer_classes at h; repeat' (first | (obtain ⟨rfl, _⟩ := h; rfl) | (obtain ⟨_, h⟩ := h))) (rd_bearer_classes A) (fun cdv A_ outer s H E hr =>
    (cons3 (setlc3 (i := 3) (j := 1) rfl sc_bearer_classes.nd rfl rfl (sw_true rfl rfl rfl (by decide +kernel)) (seq3 (prop3 c_Forest_leaves hr (by decide) (v3 0))) (blkOk_by (N := ["forest", "plain", "last", "leaf"]) (sc := defScope s_bearer_classes) (by decide +kernel)) (fun _ _ _ _ _ => pg_name (i := 3) sc_bearer_classes.nd rfl (Or.inl rfl)) (fun _ _ _ _ _ => (ts13 (ct3 op_in3 (ix3 (fld3 (v3 0) B.cl_Forest B.na_Forest_kinds) (v3 3) (fun _ _ => rfl)) (tup3 (ac3 s3 (ac3 s3 an3))) (by rfl)))) (fun _ _ _ _ _ => (tup3 (ac3 (v3 3) an3))))
    (cons3 (set3 (i := 2) sc_bearer_classes.nd rfl (.inl rfl) (cal3 c_classes_of_kind hr (by decide) (by rfl) (ac3 (v3 0) (ac3 s3 an3))))
    (last3 (ret3 (o3 op_add3 (o3 op_add3 (cal3 c_classes_of_kind hr (by decide) (by rfl) (ac3 (v3 0) (ac3 s3 an3))) (v3 1)) (rev3 (v3 2)))))))) (sem_bearer_classes A), mgf, F.kp, (F.binds (ps := ["forest"]) fun _ _ _ _ _ _ us hl => match us, hl with | [_], _ => rfl), .nil⟩
abbrev s_class_count : Stmt := topS 16
theorem sc_class_count : FnScope ["forest"] ["forest"] (defScope s_class_count) := ⟨rfl, rfl, rfl, by decide +kernel, rfl, by decide +kernel, by decide +kernel⟩
theorem ok_class_count {f : Addr} {fd : FuncData} (B : Bt K mg A) (F : Fun K ("class_count" : Str) ("class_count" : Str) s_class_count f fd) (mgf : mg ("class_count" : Str) = some (.ref f)) (c_bearer_classes : Cal P w K mg base 8 ("bearer_classes" : Str) (dSp K (sp_bearer_classes A)) []) : Cal P w K mg base 9 ("class_count" : Str) (dSp K (sp_class_count A)) [] :=
  ⟨f, fd, _, [], fun3 (N := ["forest"]) (ps := ["forest"]) F sc_class_count (fun ws M Q E h => by unfold sp_class_count at h; repeat' (first | (obtain ⟨rfl, _⟩ := h; rfl) | (obtain ⟨_, h⟩ := h))) (rd_class_count A) (fun cdv A_ outer s H E hr =>
    (last3 (ret3 (cb3 len3 (by rfl) B.m_len (by decide +kernel) (ac3 (cal3 c_bearer_classes hr (by decide) (by rfl) (ac3 (v3 0) an3)) an3))))) (sem_class_count A), mgf, F.kp, (F.binds (ps := ["forest"]) fun _ _ _ _ _ _ us hl => match us, hl with | [_], _ => rfl), .nil⟩
abbrev s_needy_row : Stmt := topS 17
theorem sc_needy_row : FnScope ["forest", "row", "leaves", "lifted", "record", "field"] ["forest"] (defScope s_needy_row) := ⟨rfl, rfl, rfl, by decide +kernel, rfl, by decide +kernel, by decide +kernel⟩
theorem ok_needy_row {f : Addr} {fd : FuncData} (B : Bt K mg A) (F : Fun K ("needy_row" : Str) ("needy_row" : Str) s_needy_row f fd) (mgf : mg ("needy_row" : Str) = some (.ref f)) (c_Forest_path : Met P w K mg base 2 A.Forest ("path" : Str) (dSp K (sp_Forest_path A)) []) (c_bearer_classes : Cal P w K mg base 8 ("bearer_classes" : Str) (dSp K (sp_bearer_classes A)) []) (c_raised : Cal P w K mg base 1 ("raised" : Str) (dSp K sp_raised) []) : Cal P w K mg base 9 ("needy_row" : Str) (dSp K (sp_needy_row A)) [] :=
  ⟨f, fd, _, [], fun3 (N := ["forest", "row", "leaves", "lifted", "record", "field"]) (ps := ["forest"]) F sc_needy_row (fun ws M Q E h => by unfold sp_needy_row at h; repeat' (first | (obtain ⟨rfl, _⟩ := h; rfl) | (obtain ⟨_, h⟩ := h))) (rd_needy_row A) (fun cdv A_ outer s H E hr =>
    (cons3 (set3 (i := 1) sc_needy_row.nd rfl (.inl rfl) (lst3 an3))
    (cons3 (for3 PassesOwn.never rfl (seq3 (cal3 c_bearer_classes hr (by decide) (by rfl) (ac3 (v3 0) an3))) (gname3 (i := 2) sc_needy_row.nd rfl (.inl rfl)) (cons3 (set3 (i := 3) sc_needy_row.nd rfl (.inl rfl) (o3 op_add3 (slice3 (met3 c_Forest_path hr (by decide) (v3 0) (ac3 (ix3 (v3 2) i3 (fun _ _ => rfl)) an3)) no3 (pa3 (neg3 i3))) (v3 2)))
    (cons3 (set3 (i := 4) sc_needy_row.nd rfl (.inl rfl) (lst3 an3))
    (cons3 (for3 PassesOwn.never rfl (range1 (by rfl) B.m_range (ac3 (fld3 (v3 0) B.cl_Forest B.na_Forest_fields) an3)) (gname3 (i := 5) sc_needy_row.nd rfl (.inl rfl)) (last3 (expr3 (mapp3 (v3 4) (ac3 (cal3 c_raised hr (by decide) (by rfl) (ac3 (ix3 (fld3 (v3 0) B.cl_Forest B.na_Forest_kinds) (v3 5) (fun _ _ => rfl)) (ac3 i3 (ac3 (cty3 int3 (by rfl) B.m_int boot_int (ac3 (c3 op_in3 (v3 5) (v3 3) (by rfl)) an3)) an3)))) an3)))))
    (last3 (expr3 (mapp3 (v3 1) (ac3 (cty3 tuple3 (by rfl) B.m_tuple boot_tuple (ac3 (v3 4) an3)) an3))))))))
    (last3 (ret3 (v3 1)))))) (sem_needy_row A), mgf, F.kp, (F.binds (ps := ["forest"]) fun _ _ _ _ _ _ us hl => match us, hl with | [_], _ => rfl), .nil⟩
abbrev s_law_is_needy : Stmt := topS 38
theorem sc_law_is_needy : FnScope ["_law_forest", "_law_parents_here", "_law_kinds_here", "_law_count", "_law_row", "_law_record", "_law_value"] ["_law_forest", "_law_parents_here", "_law_kinds_here"] (defScope s_law_is_needy) := ⟨rfl, rfl, rfl, by decide +kernel, rfl, by decide +kernel, by decide +kernel⟩
theorem ok_law_is_needy {f : Addr} {fd : FuncData} (B : Bt K mg A) (F : Fun K ("_law_is_needy" : Str) ("_law_is_needy" : Str) s_law_is_needy f fd) (mgf : mg ("_law_is_needy" : Str) = some (.ref f)) (c_law_class_count : Cal P w K mg base 1 ("_law_class_count" : Str) (dSp K sp_law_class_count) []) (c_law_is_integer : Cal P w K mg base 1 ("_law_is_integer" : Str) (dSp K sp_law_is_integer) []) (c_law_is_record : Cal P w K mg base 2 ("_law_is_record" : Str) (dSp K sp_law_is_record) []) (c_law_needs_all : Cal P w K mg base 5 ("_law_needs_all" : Str) (dSp K sp_law_needs_all) []) (c_class_count : Cal P w K mg base 9 ("class_count" : Str) (dSp K (sp_class_count A)) []) (c_needy_row : Cal P w K mg base 9 ("needy_row" : Str) (dSp K (sp_needy_row A)) []) : Cal P w K mg base 10 ("_law_is_needy" : Str) (dSp K (sp_law_is_needy A)) [] :=
  ⟨f, fd, _, [], fun3 (N := ["_law_forest", "_law_parents_here", "_law_kinds_here", "_law_count", "_law_row", "_law_record", "_law_value"]) (ps := ["_law_forest", "_law_parents_here", "_law_kinds_here"]) F sc_law_is_needy (fun ws M Q E h => by unfold sp_law_is_needy at h; repeat' (first | (obtain ⟨rfl, _⟩ := h; rfl) | (obtain ⟨_, h⟩ := h))) (rd_law_is_needy A) (fun cdv A_ outer s H E hr =>
    (cons3 (set3 (i := 3) sc_law_is_needy.nd rfl (.inl rfl) (cal3 c_class_count hr (by decide) (by rfl) (ac3 (v3 0) an3)))
    (cons3 (ifs3 (W3.t (or3 (not3 (val3 (cal3 c_law_is_integer hr (by decide) (by rfl) (ac3 (v3 3) an3)))) (or1 (ct3 (op_ne3 hr.units) (v3 3) (cal3 c_law_class_count hr (by decide) (by rfl) (ac3 (v3 1) (ac3 (v3 2) an3))) (nomark _))))) (last3 (ret3 b3)) nil3)
    (cons3 (set3 (i := 4) sc_law_is_needy.nd rfl (.inl rfl) (cal3 c_needy_row hr (by decide) (by rfl) (ac3 (v3 0) an3)))
    (cons3 (ifs3 (W3.t (or3 (not3 (val3 (cb3 (isi3 B.kit) (by rfl) B.m_isinstance (by decide +kernel) (ac3 (v3 4) (ac3 (k_of (pe_bltn (v := V.ty "list") (u := Value.type "list") (by rfl) B.m_list (by decide +kernel) rfl) fun _ => .ty _) an3))))) (or1 (ct3 (op_ne3 hr.units) (cb3 len3 (by rfl) B.m_len (by decide +kernel) (ac3 (v3 4) an3)) (v3 3) (nomark _))))) (last3 (ret3 b3)) nil3)
    (cons3 (for3 PassesOwn.never rfl (seq3 (v3 4)) (gname3 (i := 5) sc_law_is_needy.nd rfl (.inl rfl)) (cons3 (ifs3 (not3 (val3 (cal3 c_law_is_record hr (by decide) (by rfl) (ac3 (v3 5) (ac3 (cb3 len3 (by rfl) B.m_len (by decide +kernel) (ac3 (v3 1) an3)) an3))))) (last3 (ret3 b3)) nil3)
    (last3 (ifs3 (ct3 (op_ne3 hr.units) (lc3 (i := 6) rfl sc_law_is_needy.nd (seq3 (v3 5)) (blkOk_by (N := ["_law_forest", "_law_parents_here", "_law_kinds_here", "_law_count", "_law_row", "_law_record", "_law_value"]) (sc := defScope s_law_is_needy) (by decide +kernel)) (fun _ _ _ _ _ => pg_name (i := 6) sc_law_is_needy.nd rfl (Or.inl rfl)) (fun _ _ _ _ _ => (ts13 (not3 (chainT3 op_le3 op_le3 (neg3 i3) (v3 6) i3)))) (fun _ _ _ _ _ => (v3 6))) (lst3 an3) (nomark _)) (last3 (ret3 b3)) nil3))))
    (last3 (ret3 (cal3 c_law_needs_all hr (by decide) (by rfl) (ac3 (v3 1) (ac3 (v3 2) (ac3 (cty3 list3 (by rfl) B.m_list boot_list (ac3 (v3 4) an3)) an3)))))))))))) (sem_law_is_needy A), mgf, F.kp, (F.binds (ps := ["_law_forest", "_law_parents_here", "_law_kinds_here"]) fun _ _ _ _ _ _ us hl => match us, hl with | [_, _, _], _ => rfl), .nil⟩
abbrev s_law : Stmt := topS 39
theorem sc_law : FnScope ["_law_script", "_law_tape_here", "_law_parents_here", "_law_kinds_here", "_law_others", "_law_forest", "_law_second", "_law_row", "_law_first", "_law_field"] ["_law_script"] (defScope s_law) := ⟨rfl, rfl, rfl, by decide +kernel, rfl, by decide +kernel, by decide +kernel⟩
theorem ok_law {f : Addr} {fd : FuncData} (B : Bt K mg A) (F : Fun K ("law" : Str) ("law" : Str) s_law f fd) (c_Forest_init : Mak P w K mg base 3 ("Forest" : Str) A.Forest (dSp K (sp_Forest_init A)) []) (c_law_fields : Cal P w K mg base 2 ("_law_fields" : Str) (dSp K sp_law_fields) []) (c_law_is_needy : Cal P w K mg base 10 ("_law_is_needy" : Str) (dSp K (sp_law_is_needy A)) []) (c_law_kinds : Cal P w K mg base 2 ("_law_kinds" : Str) (dSp K sp_law_kinds) []) (c_law_parents : Cal P w K mg base 3 ("_law_parents" : Str) (dSp K sp_law_parents) []) (c_law_tape : Cal P w K mg base 1 ("_law_tape" : Str) (dSp K sp_law_tape) []) (c_needy_row : Cal P w K mg base 9 ("needy_row" : Str) (dSp K (sp_needy_row A)) []) : FnOkG P w K mg base 11 f fd ["_law_script"] (dSp K (sp_law A)) :=
  fun3G (N := ["_law_script", "_law_tape_here", "_law_parents_here", "_law_kinds_here", "_law_others", "_law_forest", "_law_second", "_law_row", "_law_first", "_law_field"]) (ps := ["_law_script"]) F sc_law (fun ws M Q E h => by unfold sp_law at h; repeat' (first | (obtain ⟨rfl, _⟩ := h; rfl) | (obtain ⟨_, h⟩ := h))) (rd_law A) (fun cdv A_ outer s H E hg hr =>
    (cons3 (set3 (i := 1) sc_law.nd rfl (.inl rfl) (cal3 c_law_tape hr (by decide) (by rfl) (ac3 (v3 0) (ac3 i3 an3))))
    (cons3 (set3 (i := 2) sc_law.nd rfl (.inl rfl) (cal3 c_law_parents hr (by decide) (by rfl) (ac3 (v3 1) (ac3 (cal3 c_law_fields hr (by decide) (by rfl) (ac3 (v3 1) an3)) an3))))
    (cons3 (set3 (i := 3) sc_law.nd rfl (.inl rfl) (cal3 c_law_kinds hr (by decide) (by rfl) (ac3 (cal3 c_law_tape hr (by decide) (by rfl) (ac3 (v3 0) (ac3 i3 an3))) (ac3 (v3 2) (ac3 b3 an3)))))
    (cons3 (set3 (i := 4) sc_law.nd rfl (.inl rfl) (cal3 c_law_kinds hr (by decide) (by rfl) (ac3 (cal3 c_law_tape hr (by decide) (by rfl) (ac3 (v3 0) (ac3 i3 an3))) (ac3 (v3 2) (ac3 b3 an3)))))
    (cons3 (set3 (i := 5) sc_law.nd rfl (.inl rfl) (mak3 c_Forest_init hr (by decide) (by rfl) (ac3 (cty3 list3 (by rfl) B.m_list boot_list (ac3 (v3 2) an3)) (ac3 (cty3 list3 (by rfl) B.m_list boot_list (ac3 (v3 3) an3)) an3))))
    (cons3 (set3 (i := 6) sc_law.nd rfl (.inl rfl) (mak3 c_Forest_init hr (by decide) (by rfl) (ac3 (cty3 list3 (by rfl) B.m_list boot_list (ac3 (v3 2) an3)) (ac3 (cty3 list3 (by rfl) B.m_list boot_list (ac3 (v3 4) an3)) an3))))
    (cons3 (ifs3 (not3 (val3 (cal3 c_law_is_needy hr (by decide) (by rfl) (ac3 (v3 5) (ac3 (v3 2) (ac3 (v3 3) an3)))))) (last3 (ret3 b3)) nil3)
    (cons3 (set3 (i := 7) sc_law.nd rfl (.inl rfl) (cal3 c_needy_row hr (by decide) (by rfl) (ac3 (v3 5) an3)))
    (cons3 (set3 (i := 8) sc_law.nd rfl (.inl rfl) (cb3 (repr3 hr.units hg) (by rfl) B.m_repr (by decide +kernel) (ac3 (v3 7) an3)))
    (cons3 (expr3 (mins3 (v3 7) (ac3 i3 (ac3 (cty3 tuple3 (by rfl) B.m_tuple boot_tuple (ac3 (lc3 (i := 9) rfl sc_law.nd (seq3 (v3 2)) (blkOk_by (N := ["_law_script", "_law_tape_here", "_law_parents_here", "_law_kinds_here", "_law_others", "_law_forest", "_law_second", "_law_row", "_law_first", "_law_field"]) (sc := defScope s_law) (by decide +kernel)) (fun _ _ _ _ _ => pg_name (i := 9) sc_law.nd rfl (Or.inl rfl)) (fun _ _ _ _ _ => tsn3) (fun _ _ _ _ _ => i3)) an3)) an3))))
    (cons3 (expr3 (mapp3 (v3 7) (ac3 (cty3 tuple3 (by rfl) B.m_tuple boot_tuple (ac3 (lc3 (i := 9) rfl sc_law.nd (seq3 (v3 2)) (blkOk_by (N := ["_law_script", "_law_tape_here", "_law_parents_here", "_law_kinds_here", "_law_others", "_law_forest", "_law_second", "_law_row", "_law_first", "_law_field"]) (sc := defScope s_law) (by decide +kernel)) (fun _ _ _ _ _ => pg_name (i := 9) sc_law.nd rfl (Or.inl rfl)) (fun _ _ _ _ _ => tsn3) (fun _ _ _ _ _ => i3)) an3)) an3)))
    (cons3 (ifs3 (not3 (val3 (cal3 c_law_is_needy hr (by decide) (by rfl) (ac3 (v3 6) (ac3 (v3 2) (ac3 (v3 4) an3)))))) (last3 (ret3 b3)) nil3)
    (cons3 (ifs3 (W3.t (or3 (ct3 (op_ne3 hr.units) (fld3 (v3 5) B.cl_Forest B.na_Forest_parents) (cty3 tuple3 (by rfl) B.m_tuple boot_tuple (ac3 (v3 2) an3)) (nomark _)) (or1 (ct3 (op_ne3 hr.units) (fld3 (v3 5) B.cl_Forest B.na_Forest_kinds) (cty3 tuple3 (by rfl) B.m_tuple boot_tuple (ac3 (v3 3) an3)) (nomark _))))) (last3 (ret3 b3)) nil3)
    (last3 (ret3 (andv3 (c3 (op_eq3 hr.units) (cb3 (repr3 hr.units hg) (by rfl) B.m_repr (by decide +kernel) (ac3 (cal3 c_needy_row hr (by decide) (by rfl) (ac3 (v3 5) an3)) an3)) (v3 8) (nomark _)) (one3 (cal3 c_law_is_needy hr (by decide) (by rfl) (ac3 (v3 5) (ac3 (v3 2) (ac3 (v3 3) an3)))))))))))))))))))))) (sem_law A)
end
end Z3
set_option Elab.async false
set_option linter.all false
set_option maxRecDepth 100000
set_option maxHeartbeats 4000000
namespace Z3

open PySem PySem.Spec PyProof.Rows L2
open C8 (InsC Cal Met Mak)
def adOf (K : PySem.W.Frag) : Ad where
  Forest := He.ga K "Forest"
  Log := 0
  Teller := 0
  Copy := 0
  Book := 0
  Verdict := 0
  PlainVerdict := 0
  PlainBook := 0
  Web := 0
  Desk := 0
  Hider := 0
  tab := (He.cT K ("classes_of_kind", none)).2
  own := fun _ _ => none
  ob := fun _ _ => none
  bo := fun _ _ => none
def loL0 : List Str := [("_wall" : Str),
  ("FieldridesError" : Str),
  ("BadRecord" : Str),
  ("BadForest" : Str),
  ("better" : Str),
  ("raised" : Str),
  ("path_of" : Str),
  ("first_unlike_on" : Str),
  ("merged_record" : Str),
  ("check_record" : Str),
  ("hanging_leaves" : Str),
  ("classes_of_kind" : Str),
  ("bearer_classes" : Str),
  ("class_count" : Str),
  ("needy_row" : Str),
  ("MOST_FIELDS" : Str),
  ("never_ends" : Str),
  ("check_shape" : Str),
  ("Forest" : Str),
  ("_law_tape" : Str),
  ("_law_take" : Str),
  ("_law_turns" : Str),
  ("_law_parents" : Str),
  ("_law_kinds" : Str),
  ("_law_path" : Str),
  ("_law_side" : Str),
  ("_law_merge" : Str),
  ("_law_fold" : Str),
  ("_law_is_integer" : Str),
  ("_law_is_record" : Str)]
def loL1 : List Str := [("_law_fields" : Str),
  ("_law_class_count" : Str),
  ("_law_needs_all" : Str),
  ("_law_is_needy" : Str)]
def loL : List Str := loL0 ++ loL1
def faL0 : List He.Fa := [.free "abs",
  .free "bool",
  .free "int",
  .free "isinstance",
  .free "len",
  .free "list",
  .free "range",
  .free "repr",
  .free "sorted",
  .free "tuple",
  .int "MOST_FIELDS" 16,
  .glo "Forest",
  .cls "Forest",
  .noat "Forest" "fields",
  .noat "Forest" "kinds",
  .noat "Forest" "parents",
  .meth "Forest" "children",
  .glo "_law_class_count",
  .glo "_law_is_integer",
  .glo "_law_path",
  .glo "_law_take",
  .glo "_law_tape",
  .glo "never_ends",
  .glo "path_of",
  .glo "raised",
  .meth "Forest" "path",
  .glo "_law_fields",
  .glo "_law_is_record",
  .glo "_law_kinds",
  .glo "_law_side"]
def faL1 : List He.Fa := [.glo "_law_turns",
  .glo "check_shape",
  .glo "hanging_leaves",
  .mkr "Forest",
  .glo "_law_merge",
  .glo "_law_parents",
  .glo "_law_fold",
  .glo "_law_needs_all",
  .glo "classes_of_kind",
  .glo "bearer_classes",
  .glo "class_count",
  .glo "needy_row",
  .glo "_law_is_needy",
  .glo "law"]
def faL : List He.Fa := faL0 ++ faL1
def fnL0 : List He.DefD := [⟨("Forest", some "children"), "children", "Forest.children", defArgs s_Forest_children, defBody s_Forest_children, defScope s_Forest_children, [], []⟩,
  ⟨("_law_class_count", none), "_law_class_count", "_law_class_count", defArgs s_law_class_count, defBody s_law_class_count, defScope s_law_class_count, [], []⟩,
  ⟨("_law_is_integer", none), "_law_is_integer", "_law_is_integer", defArgs s_law_is_integer, defBody s_law_is_integer, defScope s_law_is_integer, [], []⟩,
  ⟨("_law_path", none), "_law_path", "_law_path", defArgs s_law_path, defBody s_law_path, defScope s_law_path, [], []⟩,
  ⟨("_law_take", none), "_law_take", "_law_take", defArgs s_law_take, defBody s_law_take, defScope s_law_take, [], []⟩,
  ⟨("_law_tape", none), "_law_tape", "_law_tape", defArgs s_law_tape, defBody s_law_tape, defScope s_law_tape, [], []⟩,
  ⟨("never_ends", none), "never_ends", "never_ends", defArgs s_never_ends, defBody s_never_ends, defScope s_never_ends, [], []⟩,
  ⟨("path_of", none), "path_of", "path_of", defArgs s_path_of, defBody s_path_of, defScope s_path_of, [], []⟩,
  ⟨("raised", none), "raised", "raised", defArgs s_raised, defBody s_raised, defScope s_raised, [], []⟩,
  ⟨("Forest", some "path"), "path", "Forest.path", defArgs s_Forest_path, defBody s_Forest_path, defScope s_Forest_path, [], []⟩,
  ⟨("_law_fields", none), "_law_fields", "_law_fields", defArgs s_law_fields, defBody s_law_fields, defScope s_law_fields, [], []⟩,
  ⟨("_law_is_record", none), "_law_is_record", "_law_is_record", defArgs s_law_is_record, defBody s_law_is_record, defScope s_law_is_record, [], []⟩,
  ⟨("_law_kinds", none), "_law_kinds", "_law_kinds", defArgs s_law_kinds, defBody s_law_kinds, defScope s_law_kinds, [], []⟩,
  ⟨("_law_side", none), "_law_side", "_law_side", defArgs s_law_side, defBody s_law_side, defScope s_law_side, [], []⟩,
  ⟨("_law_turns", none), "_law_turns", "_law_turns", defArgs s_law_turns, defBody s_law_turns, defScope s_law_turns, [], []⟩,
  ⟨("check_shape", none), "check_shape", "check_shape", defArgs s_check_shape, defBody s_check_shape, defScope s_check_shape, [], []⟩,
  ⟨("hanging_leaves", none), "hanging_leaves", "hanging_leaves", defArgs s_hanging_leaves, defBody s_hanging_leaves, defScope s_hanging_leaves, [], []⟩,
  ⟨("Forest", some "__init__"), "__init__", "Forest.__init__", defArgs s_Forest_init, defBody s_Forest_init, defScope s_Forest_init, [], []⟩,
  ⟨("_law_merge", none), "_law_merge", "_law_merge", defArgs s_law_merge, defBody s_law_merge, defScope s_law_merge, [], []⟩,
  ⟨("_law_parents", none), "_law_parents", "_law_parents", defArgs s_law_parents, defBody s_law_parents, defScope s_law_parents, [], []⟩,
  ⟨("_law_fold", none), "_law_fold", "_law_fold", defArgs s_law_fold, defBody s_law_fold, defScope s_law_fold, [], []⟩,
  ⟨("_law_needs_all", none), "_law_needs_all", "_law_needs_all", defArgs s_law_needs_all, defBody s_law_needs_all, defScope s_law_needs_all, [], []⟩,
  ⟨("classes_of_kind", none), "classes_of_kind", "classes_of_kind", defArgs s_classes_of_kind, defBody s_classes_of_kind, defScope s_classes_of_kind, [], []⟩,
  ⟨("bearer_classes", none), "bearer_classes", "bearer_classes", defArgs s_bearer_classes, defBody s_bearer_classes, defScope s_bearer_classes, [], []⟩,
  ⟨("class_count", none), "class_count", "class_count", defArgs s_class_count, defBody s_class_count, defScope s_class_count, [], []⟩,
  ⟨("needy_row", none), "needy_row", "needy_row", defArgs s_needy_row, defBody s_needy_row, defScope s_needy_row, [], []⟩,
  ⟨("_law_is_needy", none), "_law_is_needy", "_law_is_needy", defArgs s_law_is_needy, defBody s_law_is_needy, defScope s_law_is_needy, [], []⟩,
  ⟨("law", none), "law", "law", defArgs s_law, defBody s_law, defScope s_law, [], []⟩]
def fnL : List He.DefD := fnL0
def prL0 : List PrD := [⟨"Forest", "leaves", "Forest.leaves", s_Forest_leaves⟩]
def prL : List PrD := prL0
abbrev rowR : PySem.W.OpenRow := PySem.W.OpenLaw.row PySem.Challenge.rw_fieldrides_k41_whole_needy_rows
abbrev hkL : PySem.W.Hook := hookP 8 faL fnL [("classes_of_kind", none)] (fun _ => true) prL
def obL (s : PySem.W.SharedT) : AlP := obsP 8 faL fnL [("classes_of_kind", none)] (fun _ => true) prL (HandSHeadRun.getT s)
theorem obL_eq (s : PySem.W.SharedT) : obL s = hkL.obs s.abs := obsP_eq (HandSHeadRun.getT_eq s)
set_option maxHeartbeats 0 in
theorem runL (w : World) : HandSHeadRun.RunEq rowR (PySem.W.view rowR.prog [39]) hkL obL 8000 loL w := by
  intro os
  kernel_rfl
theorem factsL {P : Program} {w : World} {K : PySem.W.Frag} {h : Heap} {mg : Str → Option Value} {f : Addr} (X : K.In h) (G : h.Ns mainGlobals mg) (hf : mg ("law" : Str) = some (.ref f)) (c : SaysP faL fnL [("classes_of_kind", none)] (fun _ => true) prL w h K) :
    ∃ fd : FuncData, (∀ (s : Shared) (u : Value), BindsTo s fd ⟨[u], []⟩ [("_law_script", u)]) ∧ ∀ base : Heap, K.In base → base.Ns mainGlobals mg → (∀ p ∈ ([He.cT K ("classes_of_kind", none)] : List (Addr × Addr)), LamX.TabB base mg p.1 p.2) → FnOkG P w K mg base 11 f fd ["_law_script"] (dSp K (sp_law (adOf K))) := by
  obtain ⟨fd_Forest_children, F_Forest_children⟩ := c.fun_ 0 (st := s_Forest_children) rfl rfl
  obtain ⟨R_Forest_leaves, fd_Forest_leaves, F_Forest_leaves⟩ := c.pr _ (List.mem_of_getElem? (show prL[0]? = some _ from rfl))
  obtain ⟨fd_law_class_count, F_law_class_count⟩ := c.fun_ 1 (st := s_law_class_count) rfl rfl
  obtain ⟨fd_law_is_integer, F_law_is_integer⟩ := c.fun_ 2 (st := s_law_is_integer) rfl rfl
  obtain ⟨fd_law_path, F_law_path⟩ := c.fun_ 3 (st := s_law_path) rfl rfl
  obtain ⟨fd_law_take, F_law_take⟩ := c.fun_ 4 (st := s_law_take) rfl rfl
  obtain ⟨fd_law_tape, F_law_tape⟩ := c.fun_ 5 (st := s_law_tape) rfl rfl
  obtain ⟨fd_never_ends, F_never_ends⟩ := c.fun_ 6 (st := s_never_ends) rfl rfl
  obtain ⟨fd_path_of, F_path_of⟩ := c.fun_ 7 (st := s_path_of) rfl rfl
  obtain ⟨fd_raised, F_raised⟩ := c.fun_ 8 (st := s_raised) rfl rfl
  obtain ⟨fd_Forest_path, F_Forest_path⟩ := c.fun_ 9 (st := s_Forest_path) rfl rfl
  obtain ⟨fd_law_fields, F_law_fields⟩ := c.fun_ 10 (st := s_law_fields) rfl rfl
  obtain ⟨fd_law_is_record, F_law_is_record⟩ := c.fun_ 11 (st := s_law_is_record) rfl rfl
  obtain ⟨fd_law_kinds, F_law_kinds⟩ := c.fun_ 12 (st := s_law_kinds) rfl rfl
  obtain ⟨fd_law_side, F_law_side⟩ := c.fun_ 13 (st := s_law_side) rfl rfl
  obtain ⟨fd_law_turns, F_law_turns⟩ := c.fun_ 14 (st := s_law_turns) rfl rfl
  obtain ⟨fd_check_shape, F_check_shape⟩ := c.fun_ 15 (st := s_check_shape) rfl rfl
  obtain ⟨fd_hanging_leaves, F_hanging_leaves⟩ := c.fun_ 16 (st := s_hanging_leaves) rfl rfl
  obtain ⟨fd_Forest_init, F_Forest_init⟩ := c.fun_ 17 (st := s_Forest_init) rfl rfl
  obtain ⟨fd_law_merge, F_law_merge⟩ := c.fun_ 18 (st := s_law_merge) rfl rfl
  obtain ⟨fd_law_parents, F_law_parents⟩ := c.fun_ 19 (st := s_law_parents) rfl rfl
  obtain ⟨fd_law_fold, F_law_fold⟩ := c.fun_ 20 (st := s_law_fold) rfl rfl
  obtain ⟨fd_law_needs_all, F_law_needs_all⟩ := c.fun_ 21 (st := s_law_needs_all) rfl rfl
  obtain ⟨fd_classes_of_kind, F_classes_of_kind⟩ := c.fun_ 22 (st := s_classes_of_kind) rfl rfl
  obtain ⟨fd_bearer_classes, F_bearer_classes⟩ := c.fun_ 23 (st := s_bearer_classes) rfl rfl
  obtain ⟨fd_class_count, F_class_count⟩ := c.fun_ 24 (st := s_class_count) rfl rfl
  obtain ⟨fd_needy_row, F_needy_row⟩ := c.fun_ 25 (st := s_needy_row) rfl rfl
  obtain ⟨fd_law_is_needy, F_law_is_needy⟩ := c.fun_ 26 (st := s_law_is_needy) rfl rfl
  obtain ⟨fd_law, F_law⟩ := c.fun_ 27 (st := s_law) rfl rfl
  have e := hf.symm.trans (He.glo_ok X G (c.fact 43))
  cases e
  have B : Bt K mg (adOf K) := ⟨He.free_ok X G (c.fact 0),
    He.free_ok X G (c.fact 1),
    He.free_ok X G (c.fact 2),
    He.free_ok X G (c.fact 3),
    He.free_ok X G (c.fact 4),
    He.free_ok X G (c.fact 5),
    He.free_ok X G (c.fact 6),
    He.free_ok X G (c.fact 7),
    He.free_ok X G (c.fact 8),
    He.free_ok X G (c.fact 9),
    He.int_ok X G (c.fact 10),
    He.glo_ok X G (c.fact 11),
    He.cls_ok (c.fact 12),
    He.noat_ok (c.fact 13),
    He.noat_ok (c.fact 14),
    He.noat_ok (c.fact 15),
    ⟨fun _ _ _ h => (by cases h), fun _ _ _ h => (by cases h), fun _ _ _ h => (by cases h)⟩⟩
  have b := F_law.binds (ps := ["_law_script"]) fun _ _ _ _ _ _ us hl => match us, hl with | [_], _ => rfl
  refine ⟨fd_law, fun s u => bindsTo_of F_law (fun _ _ _ _ _ _ us hl => match us, hl with | [_], _ => rfl) s u, fun base _ _ hT => ?_⟩
  have c_Forest_children := ok_Forest_children (P := P) (w := w) (base := base) B F_Forest_children (He.meth_ok (c.fact 16)) 
  have c_Forest_leaves := ok_Forest_leaves (P := P) (w := w) (base := base) B F_Forest_leaves R_Forest_leaves 
  have c_law_class_count := ok_law_class_count (P := P) (w := w) (base := base) B F_law_class_count (He.glo_ok X G (c.fact 17)) 
  have c_law_is_integer := ok_law_is_integer (P := P) (w := w) (base := base) B F_law_is_integer (He.glo_ok X G (c.fact 18)) 
  have c_law_path := ok_law_path (P := P) (w := w) (base := base) B F_law_path (He.glo_ok X G (c.fact 19)) 
  have c_law_take := ok_law_take (P := P) (w := w) (base := base) B F_law_take (He.glo_ok X G (c.fact 20)) 
  have c_law_tape := ok_law_tape (P := P) (w := w) (base := base) B F_law_tape (He.glo_ok X G (c.fact 21)) 
  have c_never_ends := ok_never_ends (P := P) (w := w) (base := base) B F_never_ends (He.glo_ok X G (c.fact 22)) 
  have c_path_of := ok_path_of (P := P) (w := w) (base := base) B F_path_of (He.glo_ok X G (c.fact 23)) 
  have c_raised := ok_raised (P := P) (w := w) (base := base) B F_raised (He.glo_ok X G (c.fact 24)) 
  have c_Forest_path := ok_Forest_path (P := P) (w := w) (base := base) B F_Forest_path (He.meth_ok (c.fact 25)) c_path_of
  have c_law_fields := ok_law_fields (P := P) (w := w) (base := base) B F_law_fields (He.glo_ok X G (c.fact 26)) c_law_take
  have c_law_is_record := ok_law_is_record (P := P) (w := w) (base := base) B F_law_is_record (He.glo_ok X G (c.fact 27)) c_law_is_integer
  have c_law_kinds := ok_law_kinds (P := P) (w := w) (base := base) B F_law_kinds (He.glo_ok X G (c.fact 28)) c_law_take
  have c_law_side := ok_law_side (P := P) (w := w) (base := base) B F_law_side (He.glo_ok X G (c.fact 29)) c_law_path
  have c_law_turns := ok_law_turns (P := P) (w := w) (base := base) B F_law_turns (He.glo_ok X G (c.fact 30)) c_law_take
  have c_check_shape := ok_check_shape (P := P) (w := w) (base := base) B F_check_shape (He.glo_ok X G (c.fact 31)) c_never_ends
  have c_hanging_leaves := ok_hanging_leaves (P := P) (w := w) (base := base) B F_hanging_leaves (He.glo_ok X G (c.fact 32)) c_Forest_children
  have c_Forest_init := ok_Forest_init (P := P) (w := w) (base := base) B F_Forest_init (He.mkr_ok (c.fact 33)) c_check_shape
  have c_law_merge := ok_law_merge (P := P) (w := w) (base := base) B F_law_merge (He.glo_ok X G (c.fact 34)) c_law_side
  have c_law_parents := ok_law_parents (P := P) (w := w) (base := base) B F_law_parents (He.glo_ok X G (c.fact 35)) c_law_take c_law_turns
  have c_law_fold := ok_law_fold (P := P) (w := w) (base := base) B F_law_fold (He.glo_ok X G (c.fact 36)) c_law_merge
  have c_law_needs_all := ok_law_needs_all (P := P) (w := w) (base := base) B F_law_needs_all (He.glo_ok X G (c.fact 37)) c_law_fold
  have c_classes_of_kind := ok_classes_of_kind (P := P) (w := w) (base := base) B (funC_of (p := ("classes_of_kind", none)) F_classes_of_kind) (hT _ (List.mem_singleton.mpr rfl)) (He.glo_ok X G (c.fact 38)) c_Forest_path c_hanging_leaves
  have c_bearer_classes := ok_bearer_classes (P := P) (w := w) (base := base) B F_bearer_classes (He.glo_ok X G (c.fact 39)) c_Forest_leaves c_classes_of_kind
  have c_class_count := ok_class_count (P := P) (w := w) (base := base) B F_class_count (He.glo_ok X G (c.fact 40)) c_bearer_classes
  have c_needy_row := ok_needy_row (P := P) (w := w) (base := base) B F_needy_row (He.glo_ok X G (c.fact 41)) c_Forest_path c_bearer_classes c_raised
  have c_law_is_needy := ok_law_is_needy (P := P) (w := w) (base := base) B F_law_is_needy (He.glo_ok X G (c.fact 42)) c_law_class_count c_law_is_integer c_law_is_record c_law_needs_all c_class_count c_needy_row
  exact ok_law (P := P) (w := w) (base := base) B F_law c_Forest_init c_law_fields c_law_is_needy c_law_kinds c_law_parents c_law_tape c_needy_row
theorem law_start (K : PySem.W.Frag) (xs : List Int) (Q : VK3) (_ : xs.length ≤ 63) (q : ∀ M', Q (.bl true) M') : sp_law (adOf K) [.rls (xs.map .int)] (tabM (adOf K).tab (lamQ "classes_of_kind")) Q X0 := ⟨xs, rfl, tabM_at, q⟩
end Z3
open PySem PySem.W PySem.Calls PyProof.Rows
theorem PySem.Challenge.cw_fieldrides_k41_whole_needy_rows_holds : PySem.Challenge.rw_fieldrides_k41_whole_needy_rows.Holds := by
  w_on; o_law
  refine HandSHeadRun.head_any (r := Z3.rowR) (q := view Z3.rowR.prog [39]) (H := Z3.hkL) (ob := Z3.obL) (M := 8000) (loose := Z3.loL) (d := HandSHeadRun.topDef Z3.rowR.prog 39) (kwd := []) Z3.obL_eq
    (by kernel_rfl) (fun s => by kernel_rfl) Z3.runL (by kernel_rfl) (by kernel_rfl) (by kernel_rfl) (by rfl) (by first | assumption | decide +kernel) (by decide +kernel) ⟨rfl, rfl, rfl, rfl, rfl, by decide +kernel⟩ ?hw ?hc
  case hw => w_witness2
  case hc =>
    refine Z3.walkG (l := PySem.Challenge.rw_fieldrides_k41_whole_needy_rows) (n := 63) (k := 11) (x := "_law_script") rfl (by decide) (by kernel_rfl) ⟨rfl, by decide, by decide⟩ ?F
    intro w mg fa h Y G hm
    obtain ⟨K, kin, c⟩ := Y
    have hf : mg ("law" : PySem.Str) = some (.ref fa) := by
      have e : (HandSHeadRun.topDef Z3.rowR.prog 39).name = ("law" : PySem.Str) := by kernel_rfl
      rw [← e]
      exact hm
    obtain ⟨fd, hb, hF⟩ := Z3.factsL (P := (PySem.Challenge.rw_fieldrides_k41_whole_needy_rows).prog) kin G hf c
    exact ⟨K, fd, [He.cT K ("classes_of_kind", none)], _, kin, fun p hp => (by rw [List.mem_singleton.mp hp]; exact c.x.empty _ (List.mem_singleton.mpr rfl)), fun p hp => (by rw [List.mem_singleton.mp hp]; exact c.x.out _ (List.mem_singleton.mpr rfl)), fun p hp => (by rw [List.mem_singleton.mp hp]; exact PySem.W.codeHd_of_K kin (c.x.hd _ (List.mem_singleton.mpr rfl))), hb, Z3.lawSp1 fun xs Q hl q => Z3.law_start K xs Q hl q, hF⟩
