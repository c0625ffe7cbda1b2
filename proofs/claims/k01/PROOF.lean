import PyProof.Rows.All
import Wide.All
import OpenK.AllK
import Wide.FinOn
import HandS.Base
import HandS.Call
import HandS.List
import HandS.Comp
import HandS.Dict
import HandS.Iter
import HandS.Text
import HandS.Exc
import HandS.TryOnly
import HandS.ExcOwn
import HandS.ExcInit
import HandS.Words
import HandS.WordsList
import HandS.WordsExc
import HandS.Flow
import HandS.Deep
import HandS.IsInst
import HandS.Defaults
import HandS.TupAny
import HandS.Zip
import HandS.OwnEq
import HandS.Strs
import HandS.NoneIn
import HandS.Wide
import HandS.TryMany
import KE.GoesMore
import KE.GoesEnum
import HandS.Rev
import PyProof.AutoIntOpsIf
import KE.LcSums
import PyProof.StrOps2
import HandS.Codes
import HandS.SlotsOwn
import KE.KOpsOwn
import HandS.Ends
import HandS.More
import HandS.Head0
import HandS.Head1
import HandS.Head2
import HandS.HeadEnd
import HandS.HeadHook1
import HandS.HeadHook2
import HandS.MakeKwOnly
import PySem.Challenge.RW_labelsdown_k01_listings_made
set_option Elab.async false
set_option linter.all false
set_option maxRecDepth 100000
set_option maxHeartbeats 4000000
namespace DD
open PySem PySem.Spec L2

/-! ### deep values: tuples, finished lists, finished dicts and finished instances are values -/
inductive D where
  | non | bl (b : Bool) | int (i : Int) | str (x : Str) | ref (a : Addr) | ty (n : String)
  | tup (xs : List D) | lst (xs : List D) | dct (kvs : List (Key × D)) | obj (C : Addr) (fs : List (Str × D))

/-- who may change the object at an address: a slot of the running def, nobody but by its own address (obj), a field, a caller (other); none: nobody -/
inductive Own where
  | slot (i : Nat) | obj | fld (a : Addr) (f : Str) | other
  deriving DecidableEq
abbrev Gh := Addr → Option Own

structure Frame (H : Hp) (M : Gh) (H' : Hp) (M' : Gh) : Prop where
  keep : ∀ b o, H b = some o → (M b = none ∨ M b = some .other) → H' b = some o ∧ M' b = M b
  live : ∀ b, H b ≠ none → H' b ≠ none
instance {H H' : Hp} {M M' : Gh} : CoeFun (Frame H M H' M') (fun _ => ∀ b o, H b = some o → (M b = none ∨ M b = some .other) → H' b = some o ∧ M' b = M b) := ⟨Frame.keep⟩
theorem Frame.refl (H : Hp) (M : Gh) : Frame H M H M := ⟨fun _ _ h _ => ⟨h, rfl⟩, fun _ h => h⟩
/-- what nobody changes stays -/
def Stay (H : Hp) (M : Gh) (H' : Hp) (M' : Gh) : Prop := ∀ b o, H b = some o → M b = none → H' b = some o ∧ M' b = none
theorem Frame.stay {H H' : Hp} {M M' : Gh} (f : Frame H M H' M') : Stay H M H' M' := fun b o h m => let ⟨h1, m1⟩ := f b o h (.inl m); ⟨h1, m1.trans m⟩
theorem Frame.trans {H H1 H2 : Hp} {M M1 M2 : Gh} (a : Frame H M H1 M1) (b : Frame H1 M1 H2 M2) : Frame H M H2 M2 := ⟨fun x o h m => by
  obtain ⟨h1, m1⟩ := a x o h m
  obtain ⟨h2, m2⟩ := b x o h1 (by rw [m1]; exact m)
  exact ⟨h2, m2.trans m1⟩, fun x h => b.live x (a.live x h)⟩
theorem Frame.fresh {H H' : Hp} {M M' : Gh} (f : Frame H M H' M') {p : Addr} (n : H' p = none) : H p = none := by
  cases e : H p with
  | none => rfl
  | some o => exact absurd n (f.live p (by rw [e]; simp))
section
variable (K : PySem.W.Frag) (H : Hp) (M : Gh)
mutual
inductive Im : V → D → Prop
  | non : Im .non .non
  | bl {b : Bool} : Im (.bl b) (.bl b)
  | int {i : Int} : Im (.int i) (.int i)
  | str {x : Str} : PyData.strOk x = true → Im (.str x) (.str x)
  | ref {a : Addr} : Im (.ref a) (.ref a)
  | ty {n : String} : Im (.ty n) (.ty n)
  | tup {a : Addr} {xs : List V} {ds : List D} : M a = none → Rd H a (.tup xs) → ImL xs ds → Im (.ref a) (.tup ds)
  | tupK {a : Addr} {xs : List V} {ds : List D} : (∀ H', SqT K H' a xs) → ImL xs ds → Im (.ref a) (.tup ds)
  | lst {a : Addr} {xs : List V} {ds : List D} : M a = none → Rd H a (.lst xs) → ImL xs ds → Im (.ref a) (.lst ds)
  | lstK {a : Addr} {xs : List V} {ds : List D} : (∀ H', SqL K H' a xs) → ImL xs ds → Im (.ref a) (.lst ds)
  | dct {a : Addr} {ps : List (Key × V)} {ds : List (Key × D)} : M a = none → H a = some (.dK ps) → ImK ps ds → Im (.ref a) (.dct ds)
  | obj {a C dx : Addr} {ps : List (Str × V)} {fs : List (Str × D)} : M a = none → H a = some (.ins C dx ps) → ImF ps fs → Im (.ref a) (.obj C fs)
inductive ImL : List V → List D → Prop
  | nil : ImL [] []
  | cons {v : V} {d : D} {vs : List V} {ds : List D} : Im v d → ImL vs ds → ImL (v :: vs) (d :: ds)
inductive ImK : List (Key × V) → List (Key × D) → Prop
  | nil : ImK [] []
  | cons {k : Key} {v : V} {d : D} {vs : List (Key × V)} {ds : List (Key × D)} : Im v d → ImK vs ds → ImK ((k, v) :: vs) ((k, d) :: ds)
inductive ImF : List (Str × V) → List (Str × D) → Prop
  | nil : ImF [] []
  | cons {k : Str} {v : V} {d : D} {vs : List (Str × V)} {ds : List (Str × D)} : Im v d → ImF vs ds → ImF ((k, v) :: vs) ((k, d) :: ds)
end
end
section
variable {K : PySem.W.Frag} {H H' : Hp} {M M' : Gh}
theorem Stay.rd (f : Stay H M H' M') {a : Addr} {u : HO} (m : M a = none) (h : Rd H a u) : M' a = none ∧ Rd H' a u := by
  rcases h with h | ⟨o, h⟩
  · obtain ⟨h1, m1⟩ := f a _ h m
    exact ⟨m1, .inl h1⟩
  · obtain ⟨h1, m1⟩ := f a _ h m
    exact ⟨m1, .inr ⟨o, h1⟩⟩
mutual
theorem Im.mono (f : Stay H M H' M') : ∀ {v : V} {d : D}, Im K H M v d → Im K H' M' v d
  | _, _, .non => .non
  | _, _, .bl => .bl
  | _, _, .int => .int
  | _, _, .str h => .str h
  | _, _, .ref => .ref
  | _, _, .ty => .ty
  | _, _, .tup m h r => let ⟨m', h'⟩ := f.rd m h; .tup m' h' (ImL.mono f r)
  | _, _, .tupK h r => .tupK h (ImL.mono f r)
  | _, _, .lst m h r => let ⟨m', h'⟩ := f.rd m h; .lst m' h' (ImL.mono f r)
  | _, _, .lstK h r => .lstK h (ImL.mono f r)
  | _, _, .dct m h r => let ⟨h', m'⟩ := f _ _ h m; .dct m' h' (ImK.mono f r)
  | _, _, .obj m h r => let ⟨h', m'⟩ := f _ _ h m; .obj m' h' (ImF.mono f r)
theorem ImL.mono (f : Stay H M H' M') : ∀ {vs : List V} {ds : List D}, ImL K H M vs ds → ImL K H' M' vs ds
  | _, _, .nil => .nil
  | _, _, .cons r t => .cons (Im.mono f r) (ImL.mono f t)
theorem ImK.mono (f : Stay H M H' M') : ∀ {vs : List (Key × V)} {ds : List (Key × D)}, ImK K H M vs ds → ImK K H' M' vs ds
  | _, _, .nil => .nil
  | _, _, .cons r t => .cons (Im.mono f r) (ImK.mono f t)
theorem ImF.mono (f : Stay H M H' M') : ∀ {vs : List (Str × V)} {ds : List (Str × D)}, ImF K H M vs ds → ImF K H' M' vs ds
  | _, _, .nil => .nil
  | _, _, .cons r t => .cons (Im.mono f r) (ImF.mono f t)
end
theorem ImL.length : ∀ {vs : List V} {ds : List D}, ImL K H M vs ds → vs.length = ds.length
  | _, _, .nil => rfl
  | _, _, .cons _ t => congrArg (· + 1) (ImL.length t)
theorem ImL.get : ∀ {vs : List V} {ds : List D} {i : Nat} {d : D}, ImL K H M vs ds → ds[i]? = some d → ∃ v, vs[i]? = some v ∧ Im K H M v d
  | _, _, _, _, .nil, e => by simp at e
  | _, _, 0, _, .cons r _, e => by simp at e; subst e; exact ⟨_, rfl, r⟩
  | _, _, i + 1, _, .cons _ t, e => by
    obtain ⟨v, h1, h2⟩ := ImL.get (i := i) t (by simpa using e)
    exact ⟨v, by simpa using h1, h2⟩
theorem ImL.append : ∀ {vs ws : List V} {ds es : List D}, ImL K H M vs ds → ImL K H M ws es → ImL K H M (vs ++ ws) (ds ++ es)
  | _, _, _, _, .nil, s => s
  | _, _, _, _, .cons r t, s => .cons r (ImL.append t s)
theorem ImL.take : ∀ {vs : List V} {ds : List D} (n : Nat), ImL K H M vs ds → ImL K H M (vs.take n) (ds.take n)
  | _, _, 0, _ => by simp; exact .nil
  | _, _, _ + 1, .nil => .nil
  | _, _, n + 1, .cons r t => .cons r (ImL.take n t)
theorem ImL.drop : ∀ {vs : List V} {ds : List D} (n : Nat), ImL K H M vs ds → ImL K H M (vs.drop n) (ds.drop n)
  | _, _, 0, r => r
  | _, _, _ + 1, .nil => .nil
  | _, _, n + 1, .cons _ t => ImL.drop n t
theorem ImL.set {v : V} {d : D} (r : Im K H M v d) : ∀ {vs : List V} {ds : List D} (i : Nat), ImL K H M vs ds → ImL K H M (vs.set i v) (ds.set i d)
  | _, _, _, .nil => .nil
  | _, _, 0, .cons _ t => .cons r t
  | _, _, i + 1, .cons q t => .cons q (ImL.set r i t)
theorem ImF.lookup : ∀ {ps : List (Str × V)} {fs : List (Str × D)} {f : Str} {d : D}, ImF K H M ps fs → fs.lookup f = some d → ∃ v, ps.lookup f = some v ∧ Im K H M v d
  | _, _, _, _, .nil, e => by simp at e
  | (k, v) :: ps, (_, d') :: fs, f, d, .cons r t, e => by
    rw [List.lookup_cons] at e ⊢
    cases q : (f == k) with
    | true =>
      rw [q] at e
      cases e
      exact ⟨v, rfl, r⟩
    | false =>
      rw [q] at e
      exact ImF.lookup t e
theorem ImF.none : ∀ {ps : List (Str × V)} {fs : List (Str × D)} {f : Str}, ImF K H M ps fs → fs.lookup f = none → ps.lookup f = none
  | _, _, _, .nil, e => rfl
  | (k, v) :: ps, (_, d') :: fs, f, .cons r t, e => by
    rw [List.lookup_cons] at e ⊢
    cases q : (f == k) with
    | true =>
      rw [q] at e
      cases e
    | false =>
      rw [q] at e
      exact ImF.none t e
theorem ImF.length : ∀ {vs : List (Str × V)} {ds : List (Str × D)}, ImF K H M vs ds → vs.length = ds.length
  | _, _, .nil => rfl
  | _, _, .cons _ t => congrArg (· + 1) (ImF.length t)
end
end DD

set_option Elab.async false
set_option linter.all false
set_option maxRecDepth 100000
set_option maxHeartbeats 4000000
/-! a set made of a tuple or list of keys of any kind: what it holds, how many -/
namespace DDs
open PySem PySem.Spec PyProof.Rows
section
variable {κ : Type} [DecidableEq κ]
/-- one more key among those met -/
def met1 (acc : List κ) (k : κ) : List κ := if k ∈ acc then acc else acc ++ [k]
def metAll (ks : List κ) : List κ := ks.foldl met1 []
def hasK (acc : List κ) (k : κ) : Bool := decide (k ∈ acc)
theorem hasK_met1 (acc : List κ) (k j : κ) : (hasK acc j || decide (j = k)) = hasK (met1 acc k) j := by
  unfold hasK met1
  by_cases h : k ∈ acc
  · rw [if_pos h]
    by_cases e : j = k
    · subst e; simp [h]
    · simp [e]
  · rw [if_neg h]
    by_cases e : j = k
    · subst e; simp
    · simp [e]
theorem len_met1 (acc : List κ) (k : κ) : (if hasK acc k = true then acc.length else acc.length + 1) = (met1 acc k).length := by
  unfold hasK met1
  by_cases h : k ∈ acc
  · simp [h]
  · simp [h]
theorem met_take {ks : List κ} {i : Nat} {k : κ} (h : ks[i]? = some k) : metAll (ks.take (i + 1)) = met1 (metAll (ks.take i)) k := by
  obtain ⟨hi, rfl⟩ := List.getElem?_eq_some_iff.mp h
  unfold metAll
  rw [List.take_add_one, List.getElem?_eq_getElem hi, List.foldl_append]
  rfl
theorem met_le (ks : List κ) (acc : List κ) : (ks.foldl met1 acc).length ≤ acc.length + ks.length := by
  induction ks generalizing acc with
  | nil => simp
  | cons k r ih =>
    have h1 := ih (met1 acc k)
    have h2 : (met1 acc k).length ≤ acc.length + 1 := by
      rw [← len_met1]; split <;> omega
    simp only [List.foldl_cons, List.length_cons]
    omega
end
section
variable {κ : Type} [DecidableEq κ] [BEq κ] [LawfulBEq κ] {prog : Program} {w : World} (kd : KeyKind prog w κ)
variable {A : Around} {R : Result → Shared → Prop} {I : Addr} {fp wr : List Addr} {Gn : Array GenState → Array GenState → Prop} {n : Nat} {P : Nat → Value → Prop} {St : Nat → Shared → Prop}
theorem upd_loop (W : WalksS prog w A.in1 I fp wr Gn n P St) (Z : Addr) (hZ : Z ∉ fp) (ks : List κ) (hn : ks.length = n) (hb : n + 1 < scanBound)
    (hk : ∀ i v k, P i v → ks[i]? = some k → kd.is k v = true ∧ v.scannable = true) (left : Nat) :
    ∀ (i : Nat) (s : Shared), n = i + left → St i s → s.heap.SetOf kd Z (hasK (metAll (ks.take i))) (metAll (ks.take i)).length →
      (∀ s', Moved (Z :: wr) Gn s s' → s'.heap.SetOf kd Z (hasK (metAll ks)) (metAll ks).length → R (.ok (.ret .none)) s') →
      codeAny (model prog w) A (.builtin "set.update.loop" ⟨[.ref Z, .ref I], []⟩) R s := by
  have hZw : Z ∉ wr := fun h => hZ (W.sub _ h)
  have carry : ∀ {s s' : Shared} {S : κ → Bool} {m : Nat}, Moved wr Gn s s' → s.heap.SetOf kd Z S m → s'.heap.SetOf kd Z S m := fun hm ⟨o, es, ep, t, ho, r⟩ => ⟨o, es, ep, t, hm.heap Z _ hZw ho, r⟩
  have up : ∀ b ∈ wr, b ∈ Z :: wr := fun b h => List.mem_cons_of_mem _ h
  induction left with
  | zero =>
    intro i s e st hS fin
    have ei : i = n := by omega
    subst ei
    refine codeAny_builtin F.entry_set_update_loop ?_
    rw [Around.under_plainId F.plain_set_update_loop _]
    show wpAny _ A.in1 (pyNext (.ref I) >>= _) _ _ s
    refine wpAny_bind (W.done s _ _ st fun s' hm => wpAny_pure (fin s' (hm.mono up) ?_))
    have z := carry hm hS
    rw [List.take_of_length_le (by omega)] at z
    exact z
  | succ left ih =>
    intro i s e st hS fin
    have hlt : i < n := by omega
    obtain ⟨k, ek⟩ : ∃ k, ks[i]? = some k := ⟨ks[i]'(by omega), List.getElem?_eq_getElem (by omega)⟩
    refine codeAny_builtin F.entry_set_update_loop ?_
    rw [Around.under_plainId F.plain_set_update_loop _]
    show wpAny _ A.in1 (pyNext (.ref I) >>= _) _ _ s
    refine wpAny_bind (W.item i s _ _ hlt st fun v s' hP st' hm => ?_)
    obtain ⟨kis, ksc⟩ := hk i v k hP ek
    show wpAny _ A.in1 (holding [v] (setAdd Z v) >>= _) _ _ s'
    refine wpAny_bind (wpAny_holding ?_)
    unfold setAdd
    refine wpAny_holding (wpAny_bind (kd.pyHash kis ?_))
    have room : (metAll (ks.take i)).length + 1 < scanBound := by
      have h1 := met_le (ks.take i) ([] : List κ)
      have h2 : (ks.take i).length ≤ n := by rw [List.length_take]; omega
      show (List.foldl met1 [] (ks.take i)).length + 1 < scanBound
      simp only [List.length_nil] at h1
      omega
    have hS1 := carry hm hS
    refine wpAny_setAddHashed_of (knd := kd) (s := { s' with toks := s'.toks + 1 }) kis ksc hS1 room fun h2 sb hS2 => ?_
    have hS3 : h2.SetOf kd Z (hasK (metAll (ks.take (i + 1)))) (metAll (ks.take (i + 1))).length := by
      rw [met_take ek]
      exact SetOf_congr hS2 (fun j => hasK_met1 _ _ _) (len_met1 _ _)
    refine wpAny_pure ⟨plainId_quiet F.plain_set_update_loop _, ih (i + 1) _ (by omega) (W.frame _ s' _ _ st' (Nat.le_succ _) fun b hb o z => ?_) hS3 fun s2 hm2 z2 => fin s2 ?_ z2⟩
    · rw [sb.2 b (fun h : b = Z => hZ (h ▸ hb))]; exact z
    · refine Moved.trans W.gtrans ((hm.mono up).then_heap (Nat.le_succ _) fun b o hb z => ?_) hm2
      rw [sb.2 b (fun h : b = Z => hb (by rw [h]; exact List.mem_cons_self))]; exact z
end
section
variable {κ : Type} [DecidableEq κ] [BEq κ] [LawfulBEq κ] {prog : Program} {w : World} (kd : KeyKind prog w κ) {A : Around} {E : Value → Shared → Prop} {s : Shared}
set_option maxHeartbeats 3200000 in
/-- set(t), t a tuple of keys -/
theorem set_of_tup {l : Addr} {vals : Array Value} {ks : List κ} {Q : Value → Shared → Prop} (hh : A.handled = none) (hl : s.heap.IsTuple l vals) (hn : ks.length = vals.size) (hb : vals.size + 1 < scanBound)
    (hk : ∀ (i : Nat) v k, vals[i]? = some v → ks[i]? = some k → kd.is k v = true ∧ v.scannable = true)
    (h : ∀ (h' : Heap) (tk : Nat), h'.SetOf kd s.heap.objs.size (hasK (metAll ks)) (metAll ks).length → (∀ b o, b < s.heap.objs.size → s.heap.get? b = some o → h'.get? b = some o) → Q (.ref s.heap.objs.size) { s with heap := h', toks := tk }) :
    wpAny (model prog w) A (call (.type "set") [.ref l]) Q E s := by
  obtain ⟨c, tl, hmro⟩ := PySem.F.called_set.mro
  have m1 := PySem.F.called_set.made
  have m2 := PySem.F.called_set.sub
  refine wpAny_call (codeAny_of_tree ?_)
  show wpAny _ _ (callAny (.type "set") _) _ _ _
  refine wpAny_pure ⟨Code.quiet_builtin _ (by decide +kernel), codeAny_builtin PySem.F.entry_type_call ?_⟩
  rw [Around.under_plain (weight_type_call_type "set" [.ref l] []) rfl]
  have m3 := PySem.F.called_set.notType
  have m4 := PySem.F.called_set.canCreate
  have m5 := PySem.F.typeCall_set_1 (.ref l)
  repeat (any_goals (first | assumption | wp_step))
  refine codeAny_mono (code_set_new_1 (.ref l) (E := E) (Q₁ := fun ob t => ∃ fl : Bool, ob = .ref s.heap.objs.size ∧ t = { s with heap := s.heap.push { cls := .type "set", dict := none, data := .set #[] 0 (.fresh 0 0 fl) } }) fun fl => ⟨fl, rfl, rfl⟩) fun r t hr => ?_
  cases r with
  | error e => exact hr
  | ok fl =>
    cases fl with
    | ret ob =>
      obtain ⟨fl, rfl, rfl⟩ := hr
      have gS : (s.heap.push { cls := .type "set", dict := none, data := .set #[] 0 (.fresh 0 0 fl) }).get? s.heap.objs.size = some { cls := .type "set", dict := none, data := .set #[] 0 (.fresh 0 0 fl) } := Heap.get?_push_size _ rfl
      have tS : Shared.TypeIs { s with heap := s.heap.push { cls := .type "set", dict := none, data := .set #[] 0 (.fresh 0 0 fl) } } (.ref s.heap.objs.size) "set" := ⟨_, gS, rfl⟩
      have i1 := PySem.F.called_set.init.lookup
      have i2 := PySem.F.called_set.init.bind (.ref s.heap.objs.size)
      repeat (any_goals (first | assumption | wp_step))
      refine codeAny_mono (codeAny_call_builtin (R := wants (fun r t2 => r = .none ∧ ∃ h' tk, t2 = { s with heap := h', toks := tk } ∧ h'.SetOf kd s.heap.objs.size (hasK (metAll ks)) (metAll ks).length ∧
          (∀ b o, b < s.heap.objs.size → s.heap.get? b = some o → h'.get? b = some o)) E) PySem.F.called_set.init.plain PySem.F.entry_set_init (check_set_init_1 tS ?_)) fun r2 t2 hr2 => ?_
      · obtain ⟨⟨oc, od, ot, os⟩, ho, hc, nl, hd⟩ := hl
        simp only at hc hd
        subst hc; subst hd
        have ho' : (s.heap.push { cls := .type "set", dict := none, data := .set #[] 0 (.fresh 0 0 fl) }).get? l = some { cls := .type "tuple", dict := od, data := .seq vals nl, slots := os } := Heap.get?_push_of_some _ ho
        have n1 := PySem.F.sub_tuple_set
        have n2 := PySem.F.sub_tuple_frozenset
        have n3 : (Value.type "tuple" == Value.type "dict") = false := by decide
        have it1 : (s.heap.push { cls := .type "set", dict := none, data := .set #[] 0 (.fresh 0 0 fl) }).IsTuple l vals := ⟨_, ho', rfl, nl, rfl⟩
        unfold Builtin.«set.__init__» noKeywords Builtin.Frozenset.updateFrom
        generalize hpi : pyIter = PI0
        wp_walk
        subst hpi
        refine wpAny_pyIter_tuple it1 (wpAny_bind (wpAny_runValue ?_))
        have l1 : l < s.heap.objs.size := Heap.lt_size ho
        have h3 : A.in1.in1.in1.handled = none := by simp [hh]
        have l2 : l ≠ (s.heap.push { cls := .type "set", dict := none, data := .set #[] 0 (.fresh 0 0 fl) }).objs.size := by
          rw [Heap.size_push]; exact Nat.ne_of_lt (Nat.lt_succ_of_lt l1)
        have l3 : s.heap.objs.size ∉ [(s.heap.push { cls := .type "set", dict := none, data := .set #[] 0 (.fresh 0 0 fl) }).objs.size, l] := by
          rw [Heap.size_push]
          simp only [List.mem_cons, List.not_mem_nil, or_false, not_or]
          exact ⟨Nat.ne_of_lt (Nat.lt_succ_self _), Nat.ne_of_gt l1⟩
        refine upd_loop kd ((Walks.tuple h3 _ l l2 vals).toS) s.heap.objs.size l3 ks hn hb (fun i v k hv ek => hk i v k hv ek) vals.size 0 _ (by omega)
          ⟨⟨_, Heap.get?_push_size _ rfl, rfl, rfl⟩, (it1.push _)⟩ ?hS0 ?hR
        case hS0 =>
          have g2 : ((s.heap.push { cls := .type "set", dict := none, data := .set #[] 0 (.fresh 0 0 fl) }).push { cls := .type "tuple_iterator", data := .fields #[.ref l, .int 0 0] }).get? s.heap.objs.size
              = some { cls := .type "set", dict := none, data := .set #[] 0 (.fresh 0 0 fl) } := Heap.get?_push_of_some _ gS
          exact SetOf_congr ((setObjOf_fresh (knd := kd) fl).setOf g2 (by unfold scanBound; omega)) (fun _ => rfl) rfl
        case hR =>
          intro t3 hm z
          obtain ⟨h', g', d', tk', os'⟩ := t3
          obtain rfl : g' = s.gens := hm.gens
          obtain rfl : d' = s.drawn := hm.drawn
          obtain rfl : os' = s.os := hm.os
          refine wpAny_pure (wpAny_pure ⟨rfl, h', tk', rfl, z, fun b o hb e => ?_⟩)
          have b1 : b ≠ s.heap.objs.size := Nat.ne_of_lt hb
          have b2 : b ≠ (s.heap.push { cls := .type "set", dict := none, data := .set #[] 0 (.fresh 0 0 fl) }).objs.size := by
            rw [Heap.size_push]; exact Nat.ne_of_lt (Nat.lt_succ_of_lt hb)
          exact hm.heap b o (by simp only [List.mem_cons, List.not_mem_nil, or_false, not_or]; exact ⟨b1, b2⟩) (Heap.get?_push_of_some _ (Heap.get?_push_of_some _ e))
      · cases r2 with
        | error e => exact hr2
        | ok f2 =>
          cases f2 with
          | ret r =>
            obtain ⟨rfl, h', tk, rfl, z, zk⟩ := hr2
            repeat (any_goals (first | assumption | wp_step))
            exact h _ _ z zk
          | _ => exact hr2.elim
    | _ => exact hr.elim
end
end DDs

set_option Elab.async false
set_option linter.all false
set_option maxRecDepth 100000
set_option maxHeartbeats 4000000
namespace DD
open PySem PySem.Spec L2

/-- what a slot or a field holds: a value, a list of its own, a dict of its own -/
inductive SV where
  | v (d : D) | own (xs : List D) | ownd (kvs : List (Key × D))
abbrev DSt := List (Option SV)
/-- what a field holds: lists and dicts of its own with their address -/
inductive FV where
  | v (d : D) | own (l : Addr) (xs : List D) | ownd (l : Addr) (kvs : List (Key × D))
def FV.sv : FV → SV
  | .v d => .v d
  | .own _ xs => .own xs
  | .ownd _ kvs => .ownd kvs
def FV.at : FV → V → Prop
  | .v _, _ => True
  | .own l _, x => x = .ref l
  | .ownd l _, x => x = .ref l
/-- an object that is changed in place: an instance, a list, a law's jar of draws -/
inductive DO where
  | ins (C : Addr) (fs : List (Str × FV)) | mls (xs : List D) | jar (n : Nat)
abbrev DG := Addr → Option DO
def gset (G : DG) (a : Addr) (o : Option DO) : DG := fun b => if b = a then o else G b
theorem gset_same {G : DG} {a : Addr} {o : Option DO} : gset G a o a = o := if_pos rfl
theorem gset_ne {G : DG} {a b : Addr} {o : Option DO} (h : b ≠ a) : gset G a o b = G b := if_neg h
/-- an exception: its class, its fields -/
structure DX where
  C : Addr
  fs : Option (List (Str × D))

def JarOk (i j k : Int) : Prop := 0 ≤ i ∧ 0 ≤ j ∧ j < 10 ^ 36 + 67 + 1299709 * 64 ∧ 0 ≤ k

section
variable (K : PySem.W.Frag) (H : Hp) (M : Gh)
def SlotR (ow : Own) : V → SV → Prop
  | x, .v d => Im K H M x d
  | x, .own ds => ∃ l xs, x = .ref l ∧ M l = some ow ∧ H l = some (.lst xs) ∧ ImL K H M xs ds
  | x, .ownd kvs => ∃ l ps, x = .ref l ∧ M l = some ow ∧ H l = some (.dK ps) ∧ ImK K H M ps kvs
def FldR (a : Addr) : List (Str × V) → List (Str × FV) → Prop
  | [], [] => True
  | (f, x) :: r, (g, s) :: t => f = g ∧ SlotR K H M (.fld a f) x s.sv ∧ s.at x ∧ FldR a r t
  | _, _ => False
def ObjR (a : Addr) : DO → Prop
  | .ins C fs => ∃ dx ps, H a = some (.ins C dx ps) ∧ FldR K H M a ps fs
  | .mls ds => ∃ xs, H a = some (.lst xs) ∧ ImL K H M xs ds
  | .jar n => ∃ i j k, H a = some (.lst [.int i, .int j, .int k]) ∧ JarOk i j k ∧ k ≤ (n : Int)
structure RG (G : DG) : Prop where
  obj : ∀ a o, G a = some o → M a = some .obj ∧ ObjR K H M a o
  dom : ∀ a, M a ≠ none → H a ≠ none
structure RS (σ : St) (δ : DSt) (G : DG) : Prop where
  g : RG K H M G
  len : σ.length = δ.length
  slot : ∀ i s, δ[i]? = some (some s) → ∃ x, σ[i]? = some (some x) ∧ SlotR K H M (.slot i) x s
def RX (cls : Value) (d : Option Addr) : DX → Prop
  | ⟨C, none⟩ => cls = .ref C ∧ d = none
  | ⟨C, some fs⟩ => cls = .ref C ∧ ∃ dd ps, d = some dd ∧ M dd = none ∧ H dd = some (.xd ps) ∧ ImF K H M ps fs
end

/-- nothing that a slot or an object owns is touched -/
def Keep (H : Hp) (M : Gh) (H' : Hp) (M' : Gh) : Prop := ∀ b o, H b = some o → H' b = some o ∧ M' b = M b
theorem Keep.stay {H H' : Hp} {M M' : Gh} (k : Keep H M H' M') : Stay H M H' M' := fun b o h m => let ⟨h1, m1⟩ := k b o h; ⟨h1, m1.trans m⟩
theorem Keep.frame {H H' : Hp} {M M' : Gh} (k : Keep H M H' M') : Frame H M H' M' := ⟨fun b o h _ => k b o h, fun b h => by
  cases e : H b with
  | none => exact absurd e h
  | some o => rw [(k b o e).1]; simp⟩
section
variable {K : PySem.W.Frag} {H H' : Hp} {M M' : Gh} {σ : St} {δ : DSt} {G : DG}
theorem SlotR.keep (k : Keep H M H' M') {ow : Own} {x : V} : ∀ {s : SV}, SlotR K H M ow x s → SlotR K H' M' ow x s
  | .v d, h => Im.mono k.stay h
  | .own ds, ⟨l, xs, e, m, h, r⟩ => let ⟨h', m'⟩ := k l _ h; ⟨l, xs, e, m'.trans m, h', ImL.mono k.stay r⟩
  | .ownd ds, ⟨l, xs, e, m, h, r⟩ => let ⟨h', m'⟩ := k l _ h; ⟨l, xs, e, m'.trans m, h', ImK.mono k.stay r⟩
theorem FldR.keep (k : Keep H M H' M') {a : Addr} : ∀ {ps : List (Str × V)} {fs : List (Str × FV)}, FldR K H M a ps fs → FldR K H' M' a ps fs
  | [], [], _ => trivial
  | (f, x) :: r, (g, s) :: t, ⟨e, h, w, q⟩ => ⟨e, SlotR.keep k h, w, FldR.keep k q⟩
theorem ObjR.keep (k : Keep H M H' M') {a : Addr} : ∀ {o : DO}, ObjR K H M a o → ObjR K H' M' a o
  | .ins C fs, ⟨dx, ps, h, r⟩ => ⟨dx, ps, (k _ _ h).1, FldR.keep k r⟩
  | .mls ds, ⟨xs, h, r⟩ => ⟨xs, (k _ _ h).1, ImL.mono k.stay r⟩
  | .jar _, ⟨i, j, n, h, r⟩ => ⟨i, j, n, (k _ _ h).1, r⟩
theorem ObjR.there {a : Addr} : ∀ {o : DO}, ObjR K H M a o → ∃ u, H a = some u
  | .ins C fs, ⟨dx, ps, h, r⟩ => ⟨_, h⟩
  | .mls ds, ⟨xs, h, r⟩ => ⟨_, h⟩
  | .jar _, ⟨i, j, n, h, r⟩ => ⟨_, h⟩
theorem RG.keep (k : Keep H M H' M') (d : ∀ a, H a = none → M' a ≠ none → H' a ≠ none) (r : RG K H M G) : RG K H' M' G :=
  ⟨fun a o h => let ⟨m, q⟩ := r.obj a o h; let ⟨u, hu⟩ := q.there; ⟨(k a u hu).2.trans m, q.keep k⟩, fun a h => by
    cases e : H a with
    | none => exact d a e h
    | some u => rw [(k a u e).1]; simp⟩
theorem RS.keep (k : Keep H M H' M') (d : ∀ a, H a = none → M' a ≠ none → H' a ≠ none) (r : RS K H M σ δ G) : RS K H' M' σ δ G :=
  ⟨r.g.keep k d, r.len, fun i s h => let ⟨x, h1, h2⟩ := r.slot i s h; ⟨x, h1, h2.keep k⟩⟩
theorem RG.mnone (r : RG K H M G) {a : Addr} (h : H a = none) : M a = none := by
  cases e : M a with
  | none => rfl
  | some o => exact absurd h (r.dom a (by rw [e]; simp))
/-- a new object that nobody changes -/
theorem Keep.new {p : Addr} {o : HO} (n : H p = none) : Keep H M (upd H p o) M := fun b u h => ⟨by rw [upd_ne (ne_of_none h n)]; exact h, rfl⟩
theorem RS.new {p : Addr} {o : HO} (r : RS K H M σ δ G) (n : H p = none) : RS K (upd H p o) M σ δ G :=
  r.keep (Keep.new n) fun a _ m => by
    by_cases e : a = p
    · subst e; rw [upd_same]; simp
    · rw [upd_ne e]; exact r.g.dom a m
theorem Same.keep (s : Same H H') : Keep H M H' M := fun b o h => ⟨s b o h, rfl⟩
theorem RS.same (r : RS K H M σ δ G) (s : Same H H') : RS K H' M σ δ G :=
  r.keep (Same.keep s) fun a n m => absurd n (r.g.dom a m)
end

/-! ### readings -/
abbrev DTE := DSt → DG → (D → DG → Prop) → (DX → DG → Prop) → Prop
abbrev DTT := DSt → DG → (Bool → DG → Prop) → (DX → DG → Prop) → Prop
abbrev DTA := DSt → DG → (List D → DG → Prop) → (DX → DG → Prop) → Prop
structure DEnds where
  nx : DSt → DG → Prop
  rt : D → DG → Prop
  bk : DSt → DG → Prop := fun _ _ => False
  ct : DSt → DG → Prop := fun _ _ => False
  ex : DX → DSt → DG → Prop
abbrev DTS := DEnds → DSt → DG → Prop
abbrev DTG := D → DSt → DG → (DSt → DG → Prop) → Prop

/-- a borrowed list or dict: it is so as long as the objects are the same -/
def Tm (K : PySem.W.Frag) (H : Hp) (M : Gh) : V → D → Prop := fun v d => Im K H M v d ∨ (∃ a xs ds, v = .ref a ∧ d = .lst ds ∧ H a = some (.lst xs) ∧ ImL K H M xs ds) ∨ (∃ a ps kvs, v = .ref a ∧ d = .dct kvs ∧ H a = some (.dK ps) ∧ ImK K H M ps kvs)
def Bo (K : PySem.W.Frag) (H : Hp) (M : Gh) (σ : St) (δ : DSt) (G : DG) (v : V) (d : D) : Prop := ∀ H' M', Frame H M H' M' → RS K H' M' σ δ G → Tm K H' M' v d

section
variable (K : PySem.W.Frag) (W : WX)
/-- what is wished of exceptions -/
def ExOk (H : Hp) (M : Gh) (σ : St) (δ : DSt) (QE : DX → DG → Prop) : Prop := ∀ x G' H' M' cls dd, Frame H M H' M' → RS K H' M' σ δ G' → RX K H' M' cls dd x → QE x G' → W cls dd σ H'
def rdE (d : DTE) : TE := fun σ H R => ∃ M δ G Q QE, RS K H M σ δ G ∧ d δ G Q QE ∧ ExOk K W H M σ δ QE ∧ ∀ v dv G' H' M', Frame H M H' M' → RS K H' M' σ δ G' → Im K H' M' v dv → Q dv G' → R v H'
def rdB (d : DTE) : TE := fun σ H R => ∃ M δ G Q QE, RS K H M σ δ G ∧ d δ G Q QE ∧ ExOk K W H M σ δ QE ∧ ∀ v dv G' H' M', Frame H M H' M' → RS K H' M' σ δ G' → Bo K H' M' σ δ G' v dv → Q dv G' → R v H'
/-- a new list -/
def rdF (d : DTA) : TE := fun σ H R => ∃ M δ G Q QE, RS K H M σ δ G ∧ d δ G Q QE ∧ ExOk K W H M σ δ QE ∧ ∀ a xs ds G' H' M', Frame H M H' M' → RS K H' M' σ δ G' → H a = none → M' a = some .other → H' a = some (.lst xs) → ImL K H' M' xs ds → Q ds G' → R (.ref a) H'
def rdT (d : DTT) : TT := fun σ H R => ∃ M δ G Q QE, RS K H M σ δ G ∧ d δ G Q QE ∧ ExOk K W H M σ δ QE ∧ ∀ b G' H' M', Frame H M H' M' → RS K H' M' σ δ G' → Q b G' → R b H'
def rdA (d : DTA) : TA := fun σ H R => ∃ M δ G Q QE, RS K H M σ δ G ∧ d δ G Q QE ∧ ExOk K W H M σ δ QE ∧ ∀ vs ds G' H' M', Frame H M H' M' → RS K H' M' σ δ G' → ImL K H' M' vs ds → Q ds G' → R vs H'
def rdG (d : DTG) : TG := fun v σ H R => ∃ M δ G dv Q, RS K H M σ δ G ∧ Im K H M v dv ∧ d dv δ G Q ∧ ∀ σ' δ' G' H' M', Frame H M H' M' → RS K H' M' σ' δ' G' → Q δ' G' → R σ' H'
/-- no slot's own -/
def NoSlot (M : Gh) : Prop := ∀ a i, M a ≠ some (.slot i)
structure EndsOk (H : Hp) (M : Gh) (DD : DEnds) (E : Ends) : Prop where
  nx : ∀ σ' δ' G' H' M', Frame H M H' M' → RS K H' M' σ' δ' G' → DD.nx δ' G' → E.nx σ' H'
  rt : ∀ v dv G' H' M', Frame H M H' M' → NoSlot M' → RG K H' M' G' → Im K H' M' v dv → DD.rt dv G' → E.rt v H'
  bk : ∀ σ' δ' G' H' M', Frame H M H' M' → RS K H' M' σ' δ' G' → DD.bk δ' G' → E.bk σ' H'
  ct : ∀ σ' δ' G' H' M', Frame H M H' M' → RS K H' M' σ' δ' G' → DD.ct δ' G' → E.ct σ' H'
  ex : ∀ x σ' δ' G' H' M' cls dd, Frame H M H' M' → RS K H' M' σ' δ' G' → RX K H' M' cls dd x → DD.ex x δ' G' → W cls dd σ' H'
def rdS (d : DTS) : TS := fun E σ H => ∃ M δ G DD, RS K H M σ δ G ∧ d DD δ G ∧ EndsOk K W H M DD E
end
theorem EndsOk.mono {K : PySem.W.Frag} {W : WX} {H H1 : Hp} {M M1 : Gh} {DD : DEnds} {E : Ends} (e : EndsOk K W H M DD E) (f : Frame H M H1 M1) : EndsOk K W H1 M1 DD E :=
  ⟨fun a b c d m g => e.nx a b c d m (f.trans g), fun a b c d m g => e.rt a b c d m (f.trans g), fun a b c d m g => e.bk a b c d m (f.trans g), fun a b c d m g => e.ct a b c d m (f.trans g), fun x a b c d m cl dd g => e.ex x a b c d m cl dd (f.trans g)⟩
theorem ExOk.mono {K : PySem.W.Frag} {W : WX} {H H1 : Hp} {M M1 : Gh} {σ : St} {δ : DSt} {QE : DX → DG → Prop} (e : ExOk K W H M σ δ QE) (f : Frame H M H1 M1) : ExOk K W H1 M1 σ δ QE :=
  fun x G' H' M' cls dd g => e x G' H' M' cls dd (f.trans g)

/-! ### judgements -/
abbrev DE (X : Cx) (W : WX) (e : Expr) (d : DTE) : Prop := PE X e (rdE X.K W d)
abbrev DB (X : Cx) (W : WX) (e : Expr) (d : DTE) : Prop := PE X e (rdB X.K W d)
abbrev DF (X : Cx) (W : WX) (e : Expr) (d : DTA) : Prop := PE X e (rdF X.K W d)
abbrev DT (X : Cx) (W : WX) (e : Expr) (d : DTT) : Prop := PT X e (rdT X.K W d)
abbrev DA (X : Cx) (W : WX) (es : List Expr) (d : DTA) : Prop := PA X es (rdA X.K W d)
abbrev DS (X : Cx) (W : WX) (s : Stmt) (d : DTS) : Prop := PS X s (rdS X.K W d)
abbrev DSs (X : Cx) (W : WX) (s : List Stmt) (d : DTS) : Prop := PSs X s (rdS X.K W d)
abbrev DGt (X : Cx) (tg : Expr) (d : DTG) : Prop := PG X tg (rdG X.K d)
theorem _root_.L2.PE.imp {X : Cx} {e : Expr} {t t' : TE} (h : PE X e t) (i : ∀ σ H R, t' σ H R → t σ H R) : PE X e t' := ⟨fun pins s σ H Q I q => h.run pins s σ H Q I (i _ _ _ q)⟩
theorem _root_.L2.PT.imp {X : Cx} {e : Expr} {t t' : TT} (h : PT X e t) (i : ∀ σ H R, t' σ H R → t σ H R) : PT X e t' := ⟨fun pins s σ H Q I q => h.run pins s σ H Q I (i _ _ _ q)⟩
theorem _root_.L2.PA.imp {X : Cx} {e : List Expr} {t t' : TA} (h : PA X e t) (i : ∀ σ H R, t' σ H R → t σ H R) : PA X e t' := ⟨fun p pins s σ H Q I q => h.run p pins s σ H Q I (i _ _ _ q)⟩
theorem _root_.L2.PS.imp {X : Cx} {e : Stmt} {t t' : TS} (h : PS X e t) (i : ∀ E σ H, t' E σ H → t E σ H) : PS X e t' := ⟨fun pins s σ H Q I q => h.run pins s σ H Q I (i _ _ _ q)⟩
theorem _root_.L2.PSs.imp {X : Cx} {e : List Stmt} {t t' : TS} (h : PSs X e t) (i : ∀ E σ H, t' E σ H → t E σ H) : PSs X e t' := ⟨fun pins s σ H Q I q => h.run pins s σ H Q I (i _ _ _ q)⟩
theorem _root_.L2.PG.imp {X : Cx} {e : Expr} {t t' : TG} (h : PG X e t) (i : ∀ v σ H R, t' v σ H R → t v σ H R) : PG X e t' := ⟨fun pins s σ H v u Q I r q => h.run pins s σ H v u Q I r (i _ _ _ _ q)⟩

/-! ### a def's promise -/
abbrev Fn := List D → DG → (D → DG → Prop) → (DX → DG → Prop) → Prop
def spD (K : PySem.W.Frag) (f : Fn) : Sp := fun vs H Q E => ∃ M ds G QD QE, NoSlot M ∧ RG K H M G ∧ ImL K H M vs ds ∧ f ds G QD QE ∧
  (∀ v dv G' H' M', Frame H M H' M' → NoSlot M' → RG K H' M' G' → Im K H' M' v dv → QD dv G' → Q v H') ∧
  ∀ x G' H' M' cls dd, Frame H M H' M' → NoSlot M' → RG K H' M' G' → RX K H' M' cls dd x → QE x G' → E cls dd H'
end DD

set_option Elab.async false
set_option linter.all false
set_option maxRecDepth 100000
set_option maxHeartbeats 4000000
namespace DD
open PySem PySem.Spec L2

/-! ### values without an address -/
def scV : D → Option V
  | .non => some .non
  | .bl b => some (.bl b)
  | .int i => some (.int i)
  | .str x => some (.str x)
  | .ref a => some (.ref a)
  | .ty n => some (.ty n)
  | _ => none
section
variable {K : PySem.W.Frag} {H H' : Hp} {M M' : Gh} {σ : St} {δ : DSt} {G : DG} {W : WX}
theorem Tm.of {v : V} {d : D} (h : Im K H M v d) : Tm K H M v d := .inl h
theorem Im.bo {v : V} {d : D} (h : Im K H M v d) : Bo K H M σ δ G v d := fun _ _ f _ => .inl (h.mono f.stay)
theorem Bo.now {v : V} {d : D} (h : Bo K H M σ δ G v d) (r : RS K H M σ δ G) : Tm K H M v d := h H M (Frame.refl H M) r
theorem Bo.mono {v : V} {d : D} (h : Bo K H M σ δ G v d) (f : Frame H M H' M') : Bo K H' M' σ δ G v d := fun H2 M2 f2 r => h H2 M2 (f.trans f2) r
theorem Tm.sc {v w : V} {d : D} (h : Tm K H M v d) (e : scV d = some w) : v = w := by
  rcases h with h | ⟨a, xs, ds, _, rfl, _⟩ | ⟨a, xs, ds, _, rfl, _⟩
  · cases h <;> first | (cases e; rfl) | cases e
  · cases e
  · cases e
theorem Tm.str {v : V} {x : Str} (h : Tm K H M v (.str x)) : PyData.strOk x = true := by
  rcases h with h | ⟨a, xs, ds, _, e, _⟩ | ⟨a, xs, ds, _, e, _⟩
  · cases h; assumption
  · cases e
  · cases e
theorem SqT.upd {a : Addr} {xs : List V} {p : Addr} {o : HO} (h : SqT K H a xs) (n : H p = none) : SqT K (upd H p o) a xs := by
  rcases h with (h | ⟨u, h⟩) | h
  · exact .inl (.inl (by rw [upd_ne (ne_of_none h n)]; exact h))
  · exact .inl (.inr ⟨u, by rw [upd_ne (ne_of_none h n)]; exact h⟩)
  · exact .inr h
theorem Tm.tup {v : V} {ds : List D} (h : Tm K H M v (.tup ds)) : ∃ a xs, v = .ref a ∧ SqT K H a xs ∧ ImL K H M xs ds := by
  rcases h with h | ⟨a, xs, ds, _, e, _⟩ | ⟨a, xs, ds, _, e, _⟩
  · cases h with
    | tup m h r => exact ⟨_, _, rfl, .inl h, r⟩
    | tupK h r => exact ⟨_, _, rfl, h H, r⟩
  · cases e
  · cases e
theorem Tm.lst {v : V} {ds : List D} (h : Tm K H M v (.lst ds)) : ∃ a xs, v = .ref a ∧ SqL K H a xs ∧ ImL K H M xs ds := by
  rcases h with h | ⟨a, xs, ds, h1, e, h2, h3⟩ | ⟨a, xs, ds, _, e, _⟩
  · cases h with
    | lst m h r => exact ⟨_, _, rfl, .inl h, r⟩
    | lstK h r => exact ⟨_, _, rfl, h H, r⟩
  · cases e; exact ⟨_, _, h1, .inl (.inl h2), h3⟩
  · cases e
theorem Tm.dct {v : V} {ds : List (Key × D)} (h : Tm K H M v (.dct ds)) : ∃ a ps, v = .ref a ∧ H a = some (.dK ps) ∧ ImK K H M ps ds := by
  rcases h with h | ⟨a, xs, ds, h1, e, h2, h3⟩ | ⟨a, xs, ds, h1, e, h2, h3⟩
  · cases h with
    | dct m h r => exact ⟨_, _, rfl, h, r⟩
  · cases e
  · cases e; exact ⟨_, _, h1, h2, h3⟩
end
/-- a new tuple, list: a value -/
theorem Im.newTup {K : PySem.W.Frag} {H : Hp} {M : Gh} {p : Addr} {xs : List V} {ds : List D} (dom : ∀ a, M a ≠ none → H a ≠ none) (n : H p = none) (r : ImL K H M xs ds) : Im K (upd H p (.tup xs)) M (.ref p) (.tup ds) := by
  have mp : M p = none := by
    cases e : M p with
    | none => rfl
    | some o => exact absurd n (dom p (by rw [e]; simp))
  exact .tup mp (.inl upd_same) (ImL.mono (Keep.new n).stay r)
theorem Im.newLst {K : PySem.W.Frag} {H : Hp} {M : Gh} {p : Addr} {xs : List V} {ds : List D} (dom : ∀ a, M a ≠ none → H a ≠ none) (n : H p = none) (r : ImL K H M xs ds) : Im K (upd H p (.lst xs)) M (.ref p) (.lst ds) := by
  have mp : M p = none := by
    cases e : M p with
    | none => rfl
    | some o => exact absurd n (dom p (by rw [e]; simp))
  exact .lst mp (.inl upd_same) (ImL.mono (Keep.new n).stay r)
theorem Same.new {H : Hp} {p : Addr} {o : HO} (n : H p = none) : Same H (upd H p o) := fun b u h => by rw [upd_ne (ne_of_none h n)]; exact h

/-! ### an address gets an owner, or loses it -/
def mset (M : Gh) (a : Addr) (o : Option Own) : Gh := fun b => if b = a then o else M b
theorem mset_same {M : Gh} {a : Addr} {o : Option Own} : mset M a o a = o := if_pos rfl
theorem mset_ne {M : Gh} {a b : Addr} {o : Option Own} (h : b ≠ a) : mset M a o b = M b := if_neg h
section
variable {K : PySem.W.Frag} {H H0 : Hp} {M M0 : Gh} {σ : St} {δ : DSt} {G : DG} {a : Addr} {o : Option Own}
theorem Stay.give {ow : Own} (m : M a = some ow) : Stay H M H (mset M a o) := fun b u h n => ⟨h, by rw [mset_ne (fun e => by rw [e, m] at n; cases n)]; exact n⟩
theorem Frame.give (f : Frame H0 M0 H M) (n : H0 a = none) : Frame H0 M0 H (mset M a o) := ⟨fun b u h m => by
  obtain ⟨h1, m1⟩ := f b u h m
  exact ⟨h1, by rw [mset_ne (ne_of_none h n)]; exact m1⟩, f.live⟩
theorem SlotR.give {ow ow' : Own} (m : M a = some ow) (ne : ow' ≠ ow) {x : V} : ∀ {s : SV}, SlotR K H M ow' x s → SlotR K H (mset M a o) ow' x s
  | .v d, h => Im.mono (Stay.give m) h
  | .own ds, ⟨l, xs, e, m', h, r⟩ => ⟨l, xs, e, by rw [mset_ne (fun z => by rw [z, m] at m'; cases m'; exact ne rfl)]; exact m', h, ImL.mono (Stay.give m) r⟩
  | .ownd ds, ⟨l, xs, e, m', h, r⟩ => ⟨l, xs, e, by rw [mset_ne (fun z => by rw [z, m] at m'; cases m'; exact ne rfl)]; exact m', h, ImK.mono (Stay.give m) r⟩
theorem FldR.give {ow : Own} (m : M a = some ow) {b : Addr} (ne : ∀ f, Own.fld b f ≠ ow) : ∀ {ps : List (Str × V)} {fs : List (Str × FV)}, FldR K H M b ps fs → FldR K H (mset M a o) b ps fs
  | [], [], _ => trivial
  | (f, x) :: r, (g, s) :: t, ⟨e, h, w, q⟩ => ⟨e, SlotR.give m (ne f) h, w, FldR.give m ne q⟩
theorem ObjR.give {ow : Own} (m : M a = some ow) {b : Addr} (ne : ∀ f, Own.fld b f ≠ ow) : ∀ {u : DO}, ObjR K H M b u → ObjR K H (mset M a o) b u
  | .ins C fs, ⟨dx, ps, h, r⟩ => ⟨dx, ps, h, FldR.give m ne r⟩
  | .mls ds, ⟨xs, h, r⟩ => ⟨xs, h, ImL.mono (Stay.give m) r⟩
  | .jar _, ⟨i, j, n, h, r⟩ => ⟨i, j, n, h, r⟩
theorem RG.give {ow : Own} (r : RG K H M G) (m : M a = some ow) (no : ow ≠ .obj) (nf : ∀ b f, Own.fld b f ≠ ow) : RG K H (mset M a o) G :=
  ⟨fun b u h => by
    obtain ⟨mb, q⟩ := r.obj b u h
    exact ⟨by rw [mset_ne (fun z => by rw [z, m] at mb; cases mb; exact no rfl)]; exact mb, q.give m (nf b)⟩, fun b h => by
    by_cases e : b = a
    · exact r.dom b (by rw [e, m]; simp)
    · rw [mset_ne e] at h; exact r.dom b h⟩
theorem RS.give (r : RS K H M σ δ G) (m : M a = some .other) : RS K H (mset M a o) σ δ G :=
  ⟨r.g.give m (fun z => by cases z) (fun _ _ z => by cases z), r.len, fun i s h => let ⟨x, hx, q⟩ := r.slot i s h; ⟨x, hx, q.give m (fun z => by cases z)⟩⟩
/-- a new list that nobody knows yet -/
theorem RS.newOther {p : Addr} {u : HO} (r : RS K H M σ δ G) (n : H p = none) : Keep H M (upd H p u) (mset M p (some .other)) ∧ RS K (upd H p u) (mset M p (some .other)) σ δ G := by
  have k : Keep H M (upd H p u) (mset M p (some .other)) := fun b w h => by
    have e : b ≠ p := ne_of_none h n
    exact ⟨by rw [upd_ne e]; exact h, mset_ne e⟩
  exact ⟨k, r.keep k fun b hb hm => by
    by_cases e : b = p
    · rw [e, upd_same]; simp
    · rw [mset_ne e] at hm
      exact absurd hb (r.g.dom b hm)⟩
end

/-! ### operations on values -/
abbrev Dom (M : Gh) (H : Hp) : Prop := ∀ a, M a ≠ none → H a ≠ none
def OpD (K : PySem.W.Frag) (g : D → D → Option D) : R2 := fun x y H Q => ∃ M dx dy z, Dom M H ∧ Tm K H M x dx ∧ Tm K H M y dy ∧ g dx dy = some z ∧ ∀ v H', Same H H' → Im K H' M v z → Q v H'
def UnD (K : PySem.W.Frag) (g : D → Option D) : V → Hp → VK → Prop := fun x H Q => ∃ M dx z, Dom M H ∧ Tm K H M x dx ∧ g dx = some z ∧ ∀ v H', Same H H' → Im K H' M v z → Q v H'
inductive TmL (K : PySem.W.Frag) (H : Hp) (M : Gh) : List V → List D → Prop
  | nil : TmL K H M [] []
  | cons {v : V} {d : D} {vs : List V} {ds : List D} : Tm K H M v d → TmL K H M vs ds → TmL K H M (v :: vs) (d :: ds)
def CallD (K : PySem.W.Frag) (g : List D → Option D) : List V → Hp → VK → Prop := fun xs H Q => ∃ M ds z, Dom M H ∧ TmL K H M xs ds ∧ g ds = some z ∧ ∀ v H', Same H H' → Im K H' M v z → Q v H'
def MethD (K : PySem.W.Frag) (g : D → List D → Option D) : V → List V → Hp → VK → Prop := fun x xs H Q => ∃ M dx ds z, Dom M H ∧ Tm K H M x dx ∧ TmL K H M xs ds ∧ g dx ds = some z ∧ ∀ v H', Same H H' → Im K H' M v z → Q v H'

/-! ### expressions -/
def dVar (i : Nat) : DTE := fun δ G Q _ => ∃ d, δ[i]? = some (some (.v d)) ∧ Q d G
/-- the slot's own list or dict, borrowed -/
def dBor (i : Nat) : DTE := fun δ G Q _ => (∃ d, δ[i]? = some (some (.v d)) ∧ Q d G) ∨ (∃ ds, δ[i]? = some (some (.own ds)) ∧ Q (.lst ds) G) ∨ (∃ ds, δ[i]? = some (some (.ownd ds)) ∧ Q (.dct ds) G)
def dC (d : D) : DTE := fun _ G Q _ => Q d G
def dBin (g : D → D → Option D) (a b : DTE) : DTE := fun δ G Q E => a δ G (fun x G1 => b δ G1 (fun y G2 => G2 = G1 ∧ ∃ z, g x y = some z ∧ Q z G2) E) E
def dUn (g : D → Option D) (a : DTE) : DTE := fun δ G Q E => a δ G (fun x G1 => ∃ z, g x = some z ∧ Q z G1) E
/-- a value as a test: it is a bool -/
def dTst (a : DTE) : DTT := fun δ G Q E => a δ G (fun x G1 => ∃ b, x = .bl b ∧ Q b G1) E
def dNil : DTA := fun _ G Q _ => Q [] G
def dCons (a : DTE) (r : DTA) : DTA := fun δ G Q E => a δ G (fun x G1 => r δ G1 (fun xs G2 => Q (x :: xs) G2) E) E
/-- borrowed arguments -/
def dConsB (a : DTE) (r : DTA) : DTA := fun δ G Q E => a δ G (fun x G1 => r δ G1 (fun xs G2 => G2 = G1 ∧ Q (x :: xs) G2) E) E
def dCallB (g : List D → Option D) (a : DTA) : DTE := fun δ G Q E => a δ G (fun xs G1 => ∃ z, g xs = some z ∧ Q z G1) E
def dMethB (g : D → List D → Option D) (o : DTE) (a : DTA) : DTE := fun δ G Q E => o δ G (fun x G1 => a δ G1 (fun xs G2 => G2 = G1 ∧ ∃ z, g x xs = some z ∧ Q z G2) E) E
def dTup (a : DTA) : DTE := fun δ G Q E => a δ G (fun xs G1 => xs.length ≤ 1000000 ∧ Q (.tup xs) G1) E
def dLst (a : DTA) : DTA := fun δ G Q E => a δ G (fun xs G1 => xs.length ≤ 1000000 ∧ Q xs G1) E
def dFrz (a : DTA) : DTE := fun δ G Q E => a δ G (fun xs G1 => Q (.lst xs) G1) E
def dAndT (a b : DTT) : DTT := fun δ G Q E => a δ G (fun c G1 => if c = true then b δ G1 Q E else Q false G1) E
def dOrT (a b : DTT) : DTT := fun δ G Q E => a δ G (fun c G1 => if c = true then Q true G1 else b δ G1 Q E) E
def dNotT (a : DTT) : DTT := fun δ G Q E => a δ G (fun c G1 => Q (!c) G1) E
def dAndV (a b : DTE) : DTE := fun δ G Q E => a δ G (fun x G1 => ∃ c, x = .bl c ∧ if c = true then b δ G1 Q E else Q (.bl false) G1) E
def dOrV (a b : DTE) : DTE := fun δ G Q E => a δ G (fun x G1 => ∃ c, x = .bl c ∧ if c = true then Q (.bl true) G1 else b δ G1 Q E) E
def dNotV (a : DTE) : DTE := fun δ G Q E => a δ G (fun x G1 => ∃ c, x = .bl c ∧ Q (.bl (!c)) G1) E
def dIfE (t : DTT) (a b : DTE) : DTE := fun δ G Q E => t δ G (fun c G1 => if c = true then a δ G1 Q E else b δ G1 Q E) E

def rdAb (K : PySem.W.Frag) (W : WX) (d : DTA) : TA := fun σ H R => ∃ M δ G Q QE, RS K H M σ δ G ∧ d δ G Q QE ∧ ExOk K W H M σ δ QE ∧ ∀ vs ds G' H' M', Frame H M H' M' → RS K H' M' σ δ G' → (∀ H2 M2, Frame H' M' H2 M2 → RS K H2 M2 σ δ G' → TmL K H2 M2 vs ds) → Q ds G' → R vs H'
abbrev DAb (X : Cx) (W : WX) (es : List Expr) (d : DTA) : Prop := PA X es (rdAb X.K W d)

section
variable {X : Cx} {W : WX} {a b c : Expr} {da db dc : DTE} {pos : Pos} {es : List Expr} {ta : DTA} {ca cb : DTT}
theorem DE_b (h : DE X W a da) : DB X W a da := h.imp fun σ H R ⟨M, δ, G, Q, QE, rs, d, ex, k⟩ => ⟨M, δ, G, Q, QE, rs, d, ex, fun v dv G' H' M' f rs' im q => k v dv G' H' M' f rs' im.bo q⟩
theorem de_of {t : TE} (h : PE X a t) (i : ∀ σ H R, rdE X.K W da σ H R → t σ H R) : DE X W a da := h.imp i
theorem de_var {i : Nat} (h : PE X a (tVar i)) : DE X W a (dVar i) := h.imp fun σ H R ⟨M, δ, G, Q, QE, rs, ⟨d, hd, q⟩, ex, k⟩ => by
  obtain ⟨x, hx, im⟩ := rs.slot i _ hd
  exact ⟨x, hx, k x d G H M (Frame.refl H M) rs im q⟩
theorem db_var {i : Nat} (h : PE X a (tVar i)) : DB X W a (dBor i) := h.imp fun σ H R ⟨M, δ, G, Q, QE, rs, hh, ex, k⟩ => by
  rcases hh with ⟨d, hd, q⟩ | ⟨ds, hd, q⟩ | ⟨ds, hd, q⟩
  · obtain ⟨x, hx, im⟩ := rs.slot i _ hd
    exact ⟨x, hx, k x d G H M (Frame.refl H M) rs (Im.bo im) q⟩
  · obtain ⟨x, hx, l, xs, rfl, m, hl, r⟩ := rs.slot i _ hd
    refine ⟨_, hx, k _ _ G H M (Frame.refl H M) rs (fun H' M' f r' => ?_) q⟩
    obtain ⟨x', hx', l', xs', rfl, m', hl', r2⟩ := r'.slot i _ hd
    rw [hx] at hx'
    cases hx'
    exact .inr (.inl ⟨_, _, _, rfl, rfl, hl', r2⟩)
  · obtain ⟨x, hx, l, xs, rfl, m, hl, r⟩ := rs.slot i _ hd
    refine ⟨_, hx, k _ _ G H M (Frame.refl H M) rs (fun H' M' f r' => ?_) q⟩
    obtain ⟨x', hx', l', xs', rfl, m', hl', r2⟩ := r'.slot i _ hd
    rw [hx] at hx'
    cases hx'
    exact .inr (.inr ⟨_, _, _, rfl, rfl, hl', r2⟩)
theorem de_c {v : V} {d : D} (h : PE X a (tC v)) (i : ∀ H M, Im X.K H M v d) : DE X W a (dC d) := h.imp fun σ H R ⟨M, δ, G, Q, QE, rs, q, ex, k⟩ => k v d G H M (Frame.refl H M) rs (i H M) q
theorem de_bin {op : Operator} {g : D → D → Option D} (ho : OpR X (binaryOp op) (OpD X.K g)) (ha : DB X W a da) (hb : DB X W b db) : DE X W (.BinOp a op b pos) (dBin g da db) := (pe_op ho ha hb).imp fun σ H R ⟨M, δ, G, Q, QE, rs, d, ex, k⟩ => by
  refine ⟨M, δ, G, _, QE, rs, d, ex, fun v dv G' H' M' f rs' bo q => ?_⟩
  refine ⟨M', δ, G', _, QE, rs', q, ex.mono f, fun y dy G2 H2 M2 f2 rs2 bo2 q2 => ?_⟩
  obtain ⟨eG, z, hz, qz⟩ := q2
  subst eG
  exact ⟨M2, dv, dy, z, rs2.g.dom, bo H2 M2 f2 rs2, bo2.now rs2, hz, fun w H3 sm im => k w z _ H3 M2 ((f.trans f2).trans (Same.keep sm).frame) (rs2.same sm) im qz⟩
theorem de_cmp {op : CmpOp} {g : D → D → Option D} (ho : OpR X (compareOp op) (OpD X.K g)) (ha : DB X W a da) (hb : DB X W b db) (hm : behindInMarks op b = false) : DE X W (.Compare a [op] [b] pos) (dBin g da db) := (pe_cmpR ho ha hb hm).imp fun σ H R ⟨M, δ, G, Q, QE, rs, d, ex, k⟩ => by
  refine ⟨M, δ, G, _, QE, rs, d, ex, fun v dv G' H' M' f rs' bo q => ?_⟩
  refine ⟨M', δ, G', _, QE, rs', q, ex.mono f, fun y dy G2 H2 M2 f2 rs2 bo2 q2 => ?_⟩
  obtain ⟨eG, z, hz, qz⟩ := q2
  subst eG
  exact ⟨M2, dv, dy, z, rs2.g.dom, bo H2 M2 f2 rs2, bo2.now rs2, hz, fun w H3 sm im => k w z _ H3 M2 ((f.trans f2).trans (Same.keep sm).frame) (rs2.same sm) im qz⟩
theorem dt_cmp {op : CmpOp} {g : D → D → Option D} (ho : OpR X (compareOp op) (OpD X.K g)) (ha : DB X W a da) (hb : DB X W b db) (hm : behindInMarks op b = false) : DT X W (.Compare a [op] [b] pos) (dTst (dBin g da db)) := (pt_cmpR ho ha hb hm).imp fun σ H R ⟨M, δ, G, Q, QE, rs, d, ex, k⟩ => by
  refine ⟨M, δ, G, _, QE, rs, d, ex, fun v dv G' H' M' f rs' bo q => ?_⟩
  refine ⟨M', δ, G', _, QE, rs', q, ex.mono f, fun y dy G2 H2 M2 f2 rs2 bo2 q2 => ?_⟩
  obtain ⟨eG, z, hz, b, eb, qz⟩ := q2
  subst eG
  subst eb
  refine ⟨M2, dv, dy, .bl b, rs2.g.dom, bo H2 M2 f2 rs2, bo2.now rs2, hz, fun w H3 sm im => ?_⟩
  cases im
  exact ⟨b, rfl, k b _ H3 M2 ((f.trans f2).trans (Same.keep sm).frame) (rs2.same sm) qz⟩
theorem de_un {op : UnaryOp} {g : D → Option D} (ho : UnR X (unaryOp op) (UnD X.K g)) (ha : DB X W a da) : DE X W (.UnaryOp op a pos) (dUn g da) := (pe_un ho ha).imp fun σ H R ⟨M, δ, G, Q, QE, rs, d, ex, k⟩ => by
  refine ⟨M, δ, G, _, QE, rs, d, ex, fun v dv G' H' M' f rs' bo q => ?_⟩
  obtain ⟨z, hz, qz⟩ := q
  exact ⟨M', dv, z, rs'.g.dom, bo.now rs', hz, fun w H3 sm im => k w z _ H3 M' (f.trans (Same.keep sm).frame) (rs'.same sm) im qz⟩
theorem de_ix {g : D → D → Option D} (ho : IxR X (OpD X.K g)) (ha : DB X W a da) (hb : DB X W b db) (hs : PlainIx b) : DE X W (.Subscript a b pos) (dBin g da db) := (pe_ix ho ha hb hs).imp fun σ H R ⟨M, δ, G, Q, QE, rs, d, ex, k⟩ => by
  refine ⟨M, δ, G, _, QE, rs, d, ex, fun v dv G' H' M' f rs' bo q => ?_⟩
  refine ⟨M', δ, G', _, QE, rs', q, ex.mono f, fun y dy G2 H2 M2 f2 rs2 bo2 q2 => ?_⟩
  obtain ⟨eG, z, hz, qz⟩ := q2
  subst eG
  exact ⟨M2, dv, dy, z, rs2.g.dom, bo H2 M2 f2 rs2, bo2.now rs2, hz, fun w H3 sm im => k w z _ H3 M2 ((f.trans f2).trans (Same.keep sm).frame) (rs2.same sm) im qz⟩
/-! tests -/
theorem dt_val (ha : DE X W a da) (he : ∀ whole, isTrue a X.env whole = (do let v ← whole; standAt a.pos; holding [v] (truthy v)) := by intro _; rfl) : DT X W a (dTst da) := (pt_val ha he).imp fun σ H R ⟨M, δ, G, Q, QE, rs, d, ex, k⟩ => by
  refine ⟨M, δ, G, _, QE, rs, d, ex, fun v dv G' H' M' f rs' im q => ?_⟩
  obtain ⟨b, rfl, q⟩ := q
  cases im
  exact ⟨b, rfl, k b G' H' M' f rs' q⟩
theorem dt_not (ha : DT X W a ca) : DT X W (.UnaryOp .Not a pos) (dNotT ca) := (pt_not ha).imp fun σ H R ⟨M, δ, G, Q, QE, rs, d, ex, k⟩ =>
  ⟨M, δ, G, _, QE, rs, d, ex, fun b G' H' M' f rs' q => k (!b) G' H' M' f rs' q⟩
abbrev DW (X : Cx) (W : WX) (e : Expr) (d : DTT) : Prop := PW X e (rdT X.K W d)
theorem _root_.L2.PW.imp {X : Cx} {e : Expr} {t t' : TT} (h : PW X e t) (i : ∀ σ H R, t' σ H R → t σ H R) : PW X e t' := ⟨fun wh pins s σ H Q I q => h.run wh pins s σ H Q I (i _ _ _ q)⟩
theorem dw_and1 (ha : DT X W a ca) : DW X W (.BoolOp .And [a] pos) ca := pw_and1 ha
theorem dw_or1 (ha : DT X W a ca) : DW X W (.BoolOp .Or [a] pos) ca := pw_or1 ha
theorem dw_and (ha : DT X W a ca) (hb : DW X W (.BoolOp .And (b :: es) pos) cb) : DW X W (.BoolOp .And (a :: b :: es) pos) (dAndT ca cb) := L2.PW.imp (pw_and ha hb) fun σ H R ⟨M, δ, G, Q, QE, rs, d, ex, k⟩ => by
  refine ⟨M, δ, G, _, QE, rs, d, ex, fun b G' H' M' f rs' q => ?_⟩
  cases b with
  | true =>
    simp only [if_true] at q ⊢
    exact ⟨M', δ, G', Q, QE, rs', q, ex.mono f, fun b G2 H2 M2 f2 rs2 q2 => k b G2 H2 M2 (f.trans f2) rs2 q2⟩
  | false =>
    simp only [Bool.false_eq_true, if_false] at q ⊢
    exact k false G' H' M' f rs' q
theorem dw_or (ha : DT X W a ca) (hb : DW X W (.BoolOp .Or (b :: es) pos) cb) : DW X W (.BoolOp .Or (a :: b :: es) pos) (dOrT ca cb) := L2.PW.imp (pw_or ha hb) fun σ H R ⟨M, δ, G, Q, QE, rs, d, ex, k⟩ => by
  refine ⟨M, δ, G, _, QE, rs, d, ex, fun b G' H' M' f rs' q => ?_⟩
  cases b with
  | true =>
    simp only [if_true] at q ⊢
    exact k true G' H' M' f rs' q
  | false =>
    simp only [Bool.false_eq_true, if_false] at q ⊢
    exact ⟨M', δ, G', Q, QE, rs', q, ex.mono f, fun b G2 H2 M2 f2 rs2 q2 => k b G2 H2 M2 (f.trans f2) rs2 q2⟩
theorem dt_w (h : DW X W a ca) : DT X W a ca := PW.pt h
/-! bools as values -/
theorem de_one {op} (h : DE X W a da) : DE X W (.BoolOp op [a] pos) da := pe_one h
theorem de_and (ha : DE X W a da) (hb : DE X W (.BoolOp .And (b :: es) pos) db) : DE X W (.BoolOp .And (a :: b :: es) pos) (dAndV da db) := (pe_and ha hb).imp fun σ H R ⟨M, δ, G, Q, QE, rs, d, ex, k⟩ => by
  refine ⟨M, δ, G, _, QE, rs, d, ex, fun v dv G' H' M' f rs' im q => ?_⟩
  obtain ⟨b, rfl, q⟩ := q
  cases im
  refine ⟨b, rfl, ?_⟩
  cases b with
  | true =>
    simp only [if_true] at q ⊢
    exact ⟨M', δ, G', Q, QE, rs', q, ex.mono f, fun v dv G2 H2 M2 f2 rs2 im q2 => k v dv G2 H2 M2 (f.trans f2) rs2 im q2⟩
  | false =>
    simp only [Bool.false_eq_true, if_false] at q ⊢
    exact k _ _ G' H' M' f rs' .bl q
theorem de_or (ha : DE X W a da) (hb : DE X W (.BoolOp .Or (b :: es) pos) db) : DE X W (.BoolOp .Or (a :: b :: es) pos) (dOrV da db) := (pe_or ha hb).imp fun σ H R ⟨M, δ, G, Q, QE, rs, d, ex, k⟩ => by
  refine ⟨M, δ, G, _, QE, rs, d, ex, fun v dv G' H' M' f rs' im q => ?_⟩
  obtain ⟨b, rfl, q⟩ := q
  cases im
  refine ⟨b, rfl, ?_⟩
  cases b with
  | true =>
    simp only [if_true] at q ⊢
    exact k _ _ G' H' M' f rs' .bl q
  | false =>
    simp only [Bool.false_eq_true, if_false] at q ⊢
    exact ⟨M', δ, G', Q, QE, rs', q, ex.mono f, fun v dv G2 H2 M2 f2 rs2 im q2 => k v dv G2 H2 M2 (f.trans f2) rs2 im q2⟩
theorem de_not (ha : DE X W a da) : DE X W (.UnaryOp .Not a pos) (dNotV da) := (pe_not ha).imp fun σ H R ⟨M, δ, G, Q, QE, rs, d, ex, k⟩ => by
  refine ⟨M, δ, G, _, QE, rs, d, ex, fun v dv G' H' M' f rs' im q => ?_⟩
  obtain ⟨b, rfl, q⟩ := q
  cases im
  exact ⟨b, rfl, k _ _ G' H' M' f rs' .bl q⟩
theorem de_ifE (hc : DT X W c ca) (ha : DE X W a da) (hb : DE X W b db) : DE X W (.IfExp c a b pos) (dIfE ca da db) := (pe_ifExp hc ha hb).imp fun σ H R ⟨M, δ, G, Q, QE, rs, d, ex, k⟩ => by
  refine ⟨M, δ, G, _, QE, rs, d, ex, fun b G' H' M' f rs' q => ?_⟩
  cases b with
  | true =>
    simp only [if_true] at q ⊢
    exact ⟨M', δ, G', Q, QE, rs', q, ex.mono f, fun v dv G2 H2 M2 f2 rs2 im q2 => k v dv G2 H2 M2 (f.trans f2) rs2 im q2⟩
  | false =>
    simp only [Bool.false_eq_true, if_false] at q ⊢
    exact ⟨M', δ, G', Q, QE, rs', q, ex.mono f, fun v dv G2 H2 M2 f2 rs2 im q2 => k v dv G2 H2 M2 (f.trans f2) rs2 im q2⟩
/-! arguments -/
theorem da_nil : DA X W [] dNil := pa_nil.imp fun σ H R ⟨M, δ, G, Q, QE, rs, d, ex, k⟩ => k [] [] G H M (Frame.refl H M) rs .nil d
theorem da_cons (ha : DE X W a da) (hr : DA X W es ta) (hs : starEach (a :: es) X.env = (false, eval a X.env) :: starEach es X.env := by rfl) : DA X W (a :: es) (dCons da ta) := (pa_cons ha hr hs).imp fun σ H R ⟨M, δ, G, Q, QE, rs, d, ex, k⟩ => by
  refine ⟨M, δ, G, _, QE, rs, d, ex, fun v dv G' H' M' f rs' im q => ?_⟩
  exact ⟨M', δ, G', _, QE, rs', q, ex.mono f, fun vs ds G2 H2 M2 f2 rs2 iml q2 => k (v :: vs) (dv :: ds) G2 H2 M2 (f.trans f2) rs2 (.cons (im.mono f2.stay) iml) q2⟩
theorem dab_nil : DAb X W [] dNil := pa_nil.imp fun σ H R ⟨M, δ, G, Q, QE, rs, d, ex, k⟩ => k [] [] G H M (Frame.refl H M) rs (fun _ _ _ _ => .nil) d
theorem dab_cons (ha : DB X W a da) (hr : DAb X W es ta) (hs : starEach (a :: es) X.env = (false, eval a X.env) :: starEach es X.env := by rfl) : DAb X W (a :: es) (dConsB da ta) := (pa_cons ha hr hs).imp fun σ H R ⟨M, δ, G, Q, QE, rs, d, ex, k⟩ => by
  refine ⟨M, δ, G, _, QE, rs, d, ex, fun v dv G' H' M' f rs' bo q => ?_⟩
  refine ⟨M', δ, G', _, QE, rs', q, ex.mono f, fun vs ds G2 H2 M2 f2 rs2 bol q2 => ?_⟩
  obtain ⟨eG, q2⟩ := q2
  subst eG
  exact k (v :: vs) (dv :: ds) _ H2 M2 (f.trans f2) rs2 (fun H3 M3 f3 r3 => .cons (bo H3 M3 (f2.trans f3) r3) (bol H3 M3 f3 r3)) q2
theorem sz_million {n : Nat} (h : n ≤ 1000000) : n ≤ sizeLine := by rw [sizeLine_eq]; omega
theorem de_tup {x1} (h : DA X W es ta) : DE X W (.Tuple es x1 pos) (dTup ta) := (pe_tup h).imp fun σ H R ⟨M, δ, G, Q, QE, rs, d, ex, k⟩ => by
  refine ⟨M, δ, G, _, QE, rs, d, ex, fun vs ds G' H' M' f rs' iml q => ?_⟩
  obtain ⟨z, q⟩ := q
  refine ⟨by rw [iml.length]; exact sz_million z, fun p n => k _ _ G' _ M' (f.trans (Keep.new n).frame) (rs'.new n) (Im.newTup rs'.g.dom n iml) q⟩
theorem df_lst (h : DA X W es ta) : DF X W (.List es pos) (dLst ta) := (pe_lst h).imp fun σ H R ⟨M, δ, G, Q, QE, rs, d, ex, k⟩ => by
  refine ⟨M, δ, G, _, QE, rs, d, ex, fun vs ds G' H' M' f rs' iml q => ?_⟩
  obtain ⟨z, q⟩ := q
  refine ⟨by rw [iml.length]; exact sz_million z, fun p n => ?_⟩
  obtain ⟨kp, r2⟩ := rs'.newOther (u := .lst vs) n
  exact k p vs ds G' _ _ (f.trans kp.frame) r2 (f.fresh n) mset_same upd_same (ImL.mono kp.stay iml) q
theorem DF_e (h : DF X W a ta) : DE X W a (dFrz ta) := h.imp fun σ H R ⟨M, δ, G, Q, QE, rs, d, ex, k⟩ =>
  ⟨M, δ, G, _, QE, rs, d, ex, fun p xs ds G' H' M' f rs' n m hp iml q => k _ _ G' _ _ (f.give n) (rs'.give m) (.lst mset_same (.inl hp) (ImL.mono (Stay.give m) iml)) q⟩
/-! built-ins by name -/
variable {x : Str} {p : Pos} {id T : String} {g : List D → Option D}
theorem de_callB {e : Expr} (hc : CallR X (.builtin id) (CallD X.K g)) (hg : Gl X x) (hm : X.mg x = none) (hv : bootBuiltins x = some (.builtin id)) (ha : DAb X W (e :: es) ta) (hn : x ≠ "__name__" := by decide) (hdb : (x == ("__debug__" : Str)) = false := by decide)
    (he : starEach (e :: es) X.env = (false, eval e X.env) :: starEach es X.env := by rfl) (hpl : (backTo pos (starEach es X.env)).any (·.1) = false := by rfl) : DE X W (.Call (.Name x p) (e :: es) [] pos) (dCallB g ta) := (pe_callB hc hg hm hv ha hn hdb he hpl).imp fun σ H R ⟨M, δ, G, Q, QE, rs, d, ex, k⟩ => by
  refine ⟨M, δ, G, _, QE, rs, d, ex, fun vs ds G' H' M' f rs' bol q => ?_⟩
  obtain ⟨z, hz, q⟩ := q
  exact ⟨M', ds, z, rs'.g.dom, bol H' M' (Frame.refl _ _) rs', hz, fun w H3 sm im => k w z _ H3 M' (f.trans (Same.keep sm).frame) (rs'.same sm) im q⟩
theorem de_callTy {e : Expr} (hc : CallR X (.type T) (CallD X.K g)) (hg : Gl X x) (hm : X.mg x = none) (hv : bootBuiltins x = some (.type T)) (ha : DAb X W (e :: es) ta) (hn : x ≠ "__name__" := by decide) (hdb : (x == ("__debug__" : Str)) = false := by decide)
    (he : starEach (e :: es) X.env = (false, eval e X.env) :: starEach es X.env := by rfl) (hpl : (backTo pos (starEach es X.env)).any (·.1) = false := by rfl) : DE X W (.Call (.Name x p) (e :: es) [] pos) (dCallB g ta) := (pe_callTy hc hg hm hv ha hn hdb he hpl).imp fun σ H R ⟨M, δ, G, Q, QE, rs, d, ex, k⟩ => by
  refine ⟨M, δ, G, _, QE, rs, d, ex, fun vs ds G' H' M' f rs' bol q => ?_⟩
  obtain ⟨z, hz, q⟩ := q
  exact ⟨M', ds, z, rs'.g.dom, bol H' M' (Frame.refl _ _) rs', hz, fun w H3 sm im => k w z _ H3 M' (f.trans (Same.keep sm).frame) (rs'.same sm) im q⟩
end
end DD

set_option Elab.async false
set_option linter.all false
set_option maxRecDepth 100000
set_option maxHeartbeats 4000000
namespace DD
open PySem PySem.Spec L2

/-! ### a callee's view of who owns what -/
def hideS (M : Gh) : Gh := fun b => match M b with
  | some (.slot _) => some .other
  | x => x
theorem hideS_noslot (M : Gh) : NoSlot (hideS M) := fun a i e => by
  unfold hideS at e
  split at e
  · cases e
  · rename_i h; exact h i e
theorem hideS_of {M : Gh} {b : Addr} (h : ∀ i, M b ≠ some (.slot i)) : hideS M b = M b := by
  unfold hideS
  split
  · rename_i i e; exact absurd e (h i)
  · rfl
theorem hideS_slot {M : Gh} {b : Addr} {i : Nat} (h : M b = some (.slot i)) : hideS M b = some .other := by
  unfold hideS; rw [h]
theorem hideS_none {M : Gh} {b : Addr} (h : M b = none) : hideS M b = none := by unfold hideS; rw [h]
theorem hideS_other {M : Gh} {b : Addr} (h : M b = some .other) : hideS M b = some .other := by unfold hideS; rw [h]
theorem hideS_obj {M : Gh} {b : Addr} (h : M b = some .obj) : hideS M b = some .obj := by unfold hideS; rw [h]
theorem hideS_fld {M : Gh} {b a : Addr} {f : Str} (h : M b = some (.fld a f)) : hideS M b = some (.fld a f) := by unfold hideS; rw [h]
theorem Frame.hide {H : Hp} {M : Gh} : Frame H M H (hideS M) := ⟨fun b o h m => ⟨h, by
  rcases m with m | m
  · rw [hideS_none m, m]
  · rw [hideS_other m, m]⟩, fun _ h => h⟩
section
variable {K : PySem.W.Frag} {H H' : Hp} {M M' : Gh} {σ : St} {δ : DSt} {G G' : DG}
theorem SlotR.hide {a : Addr} {f : Str} {x : V} : ∀ {s : SV}, SlotR K H M (.fld a f) x s → SlotR K H (hideS M) (.fld a f) x s
  | .v d, h => Im.mono Frame.hide.stay h
  | .own ds, ⟨l, xs, e, m, h, r⟩ => ⟨l, xs, e, hideS_fld m, h, ImL.mono Frame.hide.stay r⟩
  | .ownd ds, ⟨l, xs, e, m, h, r⟩ => ⟨l, xs, e, hideS_fld m, h, ImK.mono Frame.hide.stay r⟩
theorem FldR.hide {a : Addr} : ∀ {ps : List (Str × V)} {fs : List (Str × FV)}, FldR K H M a ps fs → FldR K H (hideS M) a ps fs
  | [], [], _ => trivial
  | (f, x) :: r, (g, s) :: t, ⟨e, h, w, q⟩ => ⟨e, SlotR.hide h, w, FldR.hide q⟩
theorem ObjR.hide {a : Addr} : ∀ {o : DO}, ObjR K H M a o → ObjR K H (hideS M) a o
  | .ins C fs, ⟨dx, ps, h, r⟩ => ⟨dx, ps, h, FldR.hide r⟩
  | .mls ds, ⟨xs, h, r⟩ => ⟨xs, h, ImL.mono Frame.hide.stay r⟩
  | .jar _, ⟨i, j, n, h, r⟩ => ⟨i, j, n, h, r⟩
theorem RG.hide (r : RG K H M G) : RG K H (hideS M) G := ⟨fun a o h => let ⟨m, q⟩ := r.obj a o h; ⟨hideS_obj m, q.hide⟩, fun a h => r.dom a fun e => h (hideS_none e)⟩
/-- behind a call: the slots' own again -/
def back (M M' : Gh) : Gh := fun b => match M b with
  | some (.slot i) => some (.slot i)
  | _ => M' b
theorem back_slot {b : Addr} {i : Nat} (h : M b = some (.slot i)) : back M M' b = some (.slot i) := by unfold back; rw [h]
theorem back_of {b : Addr} (h : ∀ i, M b ≠ some (.slot i)) : back M M' b = M' b := by
  unfold back
  split
  · rename_i i e; exact absurd e (h i)
  · rfl
theorem slot_or (M : Gh) (b : Addr) : (∃ i, M b = some (.slot i)) ∨ ∀ i, M b ≠ some (.slot i) := by
  by_cases h : ∃ i, M b = some (.slot i)
  · exact .inl h
  · exact .inr fun i e => h ⟨i, e⟩
structure Backs (K : PySem.W.Frag) (H : Hp) (M : Gh) (H' : Hp) (M' : Gh) (G' : DG) : Prop where
  dom : Dom M H
  f : Frame H (hideS M) H' M'
  g : RG K H' M' G'
theorem Backs.other (b : Backs K H M H' M' G') {a : Addr} {i : Nat} (h : M a = some (.slot i)) : M' a = some .other ∧ ∃ o, H a = some o ∧ H' a = some o := by
  cases e : H a with
  | none => exact absurd e (b.dom a (by rw [h]; simp))
  | some o =>
    obtain ⟨h1, m1⟩ := b.f a o e (.inr (hideS_slot h))
    exact ⟨m1.trans (hideS_slot h), o, rfl, h1⟩
theorem Backs.stay (b : Backs K H M H' M' G') : Stay H' M' H' (back M M') := fun a o h m => ⟨h, by
  rcases slot_or M a with ⟨i, e⟩ | e
  · have z := (b.other e).1
    rw [m] at z; cases z
  · rw [back_of e]; exact m⟩
theorem Backs.frame (b : Backs K H M H' M' G') : Frame H M H' (back M M') := ⟨fun a o h m => by
  have ns : ∀ i, M a ≠ some (.slot i) := fun i e => by
    rcases m with m | m <;> (rw [e] at m; cases m)
  have hm : hideS M a = M a := hideS_of ns
  obtain ⟨h1, m1⟩ := b.f a o h (by rw [hm]; exact m)
  exact ⟨h1, by rw [back_of ns]; exact m1.trans hm⟩, b.f.live⟩
theorem SlotR.back (b : Backs K H M H' M' G') {a : Addr} {f : Str} {x : V} : ∀ {s : SV}, SlotR K H' M' (.fld a f) x s → SlotR K H' (back M M') (.fld a f) x s
  | .v d, h => Im.mono b.stay h
  | .own ds, ⟨l, xs, e, m, h, r⟩ => ⟨l, xs, e, by
      rw [back_of fun i e => by rw [(b.other e).1] at m; cases m]; exact m, h, ImL.mono b.stay r⟩
  | .ownd ds, ⟨l, xs, e, m, h, r⟩ => ⟨l, xs, e, by
      rw [back_of fun i e => by rw [(b.other e).1] at m; cases m]; exact m, h, ImK.mono b.stay r⟩
theorem FldR.back (b : Backs K H M H' M' G') {a : Addr} : ∀ {ps : List (Str × V)} {fs : List (Str × FV)}, FldR K H' M' a ps fs → FldR K H' (back M M') a ps fs
  | [], [], _ => trivial
  | (f, x) :: r, (g, s) :: t, ⟨e, h, w, q⟩ => ⟨e, SlotR.back b h, w, FldR.back b q⟩
theorem ObjR.back (b : Backs K H M H' M' G') {a : Addr} : ∀ {o : DO}, ObjR K H' M' a o → ObjR K H' (back M M') a o
  | .ins C fs, ⟨dx, ps, h, r⟩ => ⟨dx, ps, h, FldR.back b r⟩
  | .mls ds, ⟨xs, h, r⟩ => ⟨xs, h, ImL.mono b.stay r⟩
  | .jar _, ⟨i, j, n, h, r⟩ => ⟨i, j, n, h, r⟩
theorem Backs.rg (b : Backs K H M H' M' G') : RG K H' (back M M') G' :=
  ⟨fun a o h => let ⟨m, q⟩ := b.g.obj a o h; ⟨by rw [back_of fun i e => by rw [(b.other e).1] at m; cases m]; exact m, q.back b⟩, fun a h => by
    rcases slot_or M a with ⟨i, e⟩ | e
    · obtain ⟨_, o, _, z⟩ := b.other e
      rw [z]; simp
    · rw [back_of e] at h
      exact b.g.dom a h⟩
theorem Backs.rs (b : Backs K H M H' M' G') (r : RS K H M σ δ G) : RS K H' (back M M') σ δ G' :=
  ⟨b.rg, r.len, fun i s h => by
    obtain ⟨x, hx, q⟩ := r.slot i s h
    refine ⟨x, hx, ?_⟩
    cases s with
    | v d => exact Im.mono b.frame.stay q
    | own ds =>
      obtain ⟨l, xs, e, m, hl, r⟩ := q
      obtain ⟨_, o, h1, h2⟩ := b.other m
      rw [hl] at h1; cases h1
      exact ⟨l, xs, e, back_slot m, h2, ImL.mono b.frame.stay r⟩
    | ownd ds =>
      obtain ⟨l, xs, e, m, hl, r⟩ := q
      obtain ⟨_, o, h1, h2⟩ := b.other m
      rw [hl] at h1; cases h1
      exact ⟨l, xs, e, back_slot m, h2, ImK.mono b.frame.stay r⟩⟩
theorem RX.stay (s : Stay H M H' M') {cls : Value} {d : Option Addr} : ∀ {x : DX}, RX K H M cls d x → RX K H' M' cls d x
  | ⟨C, none⟩, h => h
  | ⟨C, some fs⟩, ⟨e, dd, ps, e2, m, h, r⟩ => let ⟨h', m'⟩ := s _ _ h m; ⟨e, dd, ps, e2, m', h', ImF.mono s r⟩
end

/-! ### calls -/
def dCall (f : Fn) (a : DTA) : DTE := fun δ G Q E => a δ G (fun ds G1 => f ds G1 Q E) E
/-- from a body to a callee's promise -/
theorem spD_of {K : PySem.W.Frag} {W : WX} {f : Fn} {H : Hp} {M : Gh} {σ : St} {δ : DSt} {G : DG} {Q : D → DG → Prop} {QE : DX → DG → Prop} {vs : List V} {ds : List D} {R : VK} (rs : RS K H M σ δ G) (iml : ImL K H M vs ds) (q : f ds G Q QE) (ex : ExOk K W H M σ δ QE)
    (k : ∀ v dv G' H' M', Frame H M H' M' → RS K H' M' σ δ G' → Im K H' M' v dv → Q dv G' → R v H') : spD K f vs H R (WE W σ) := by
  refine ⟨hideS M, ds, G, Q, QE, hideS_noslot M, rs.g.hide, ImL.mono Frame.hide.stay iml, q, fun v dv G' H' M' fr ns rg im qd => ?_, fun x G' H' M' cls dd fr ns rg rx qe => ?_⟩
  · have b : Backs K H M H' M' G' := ⟨rs.g.dom, fr, rg⟩
    exact k v dv G' H' _ b.frame (b.rs rs) (im.mono b.stay) qd
  · have b : Backs K H M H' M' G' := ⟨rs.g.dom, fr, rg⟩
    exact ex x G' H' _ cls dd b.frame (b.rs rs) (rx.stay b.stay) qe
section
variable {X : Cx} {W : WX} {k : Nat} {fa C : Addr} {fd : FuncData} {ps : List Str} {f : Fn} {x m : Str} {p pos apos : Pos} {e o : Expr} {es : List Expr} {ta : DTA} {da : DTE}
theorem de_call (F : FnOk X.prog X.w X.K X.mg X.base (L2.CX X.prog X.w) k fa fd ps (spD X.K f)) (hr : Room k X.A) (hg : Gl X x) (hm : X.mg x = some (.ref fa)) (hk : PySem.W.keepIn X.K (.ref fa) = true) (hb : Binds X.K fd ps []) (tk : Takes X W)
    (ha : DA X W (e :: es) ta) (hdb : (x == ("__debug__" : Str)) = false := by decide) (he : starEach (e :: es) X.env = (false, eval e X.env) :: starEach es X.env := by rfl) (hpl : (backTo pos (starEach es X.env)).any (·.1) = false := by rfl) :
    DE X W (.Call (.Name x p) (e :: es) [] pos) (dCall f ta) := (pe_callS F hr hg hm hk hb (fun σ => passAt tk σ) ha hdb he hpl).imp fun σ H R ⟨M, δ, G, Q, QE, rs, d, ex, k⟩ =>
  ⟨M, δ, G, _, QE, rs, d, ex, fun vs ds G1 H1 M1 f1 rs1 iml q => spD_of rs1 iml q (ex.mono f1) fun v dv G' H' M' f2 rs2 im qd => k v dv G' H' M' (f1.trans f2) rs2 im qd⟩

/-- an instance of the class at C, where the attribute m is none of its own -/
def IsIns (C : Addr) (m : Str) (G : DG) : D → Prop
  | .obj C' fs => C' = C ∧ fs.lookup m = none
  | .ref a => ∃ fs, G a = some (.ins C fs) ∧ fs.lookup m = none
  | _ => False
def dMeth (C : Addr) (m : Str) (f : Fn) (o : DTE) (a : DTA) : DTE := fun δ G Q E => o δ G (fun x G1 => IsIns C m G1 x ∧ a δ G1 (fun ds G2 => f (x :: ds) G2 Q E) E) E
theorem FldR.none {K : PySem.W.Frag} {H : Hp} {M : Gh} {a : Addr} {m : Str} : ∀ {ps : List (Str × V)} {fs : List (Str × FV)}, FldR K H M a ps fs → fs.lookup m = none → ps.lookup m = none
  | [], [], _, _ => rfl
  | (f, x) :: r, (g, s) :: t, ⟨e, h, w, q⟩, hl => by
    subst e
    rw [List.lookup_cons] at hl ⊢
    cases z : (m == f) with
    | true => rw [z] at hl; cases hl
    | false => rw [z] at hl; exact FldR.none q hl
theorem isIns_of {K : PySem.W.Frag} {H : Hp} {M : Gh} {G : DG} {v : V} {d : D} (g : RG K H M G) (im : Im K H M v d) (h : IsIns C m G d) : ∃ a dx fs, v = .ref a ∧ H a = some (.ins C dx fs) ∧ fs.lookup m = none := by
  cases im with
  | obj mm ha r =>
    obtain ⟨rfl, hl⟩ := h
    exact ⟨_, _, _, rfl, ha, r.none hl⟩
  | ref =>
    obtain ⟨fs, hG, hl⟩ := h
    obtain ⟨_, dx, ps, ha, r⟩ := g.obj _ _ hG
    exact ⟨_, dx, ps, rfl, ha, r.none hl⟩
  | _ => exact h.elim
theorem de_meth {pl : Sem Bool} (he : DE X W o da) (c : Cls X.K C) (hm : Meth X.K C m fa) (F : FnOk X.prog X.w X.K X.mg X.base (L2.CX X.prog X.w) k fa fd ps (spD X.K f)) (hr : Room k X.A) (hb : Binds X.K fd ps []) (tk : Takes X W) (ha : DA X W (e :: es) ta)
    (hst : starEach (e :: es) X.env = (false, eval e X.env) :: starEach es X.env := by rfl) (hpl : (backTo pos (starEach es X.env)).any (·.1) = false := by rfl)
    (ht : eval (.Call (.Attribute o m apos) (e :: es) [] pos) X.env = (do
      let ov ← eval o X.env
      standAt apos.atName
      let (f, first) ← holding [ov] (getMethod ov m pl)
      callWith pos f first (backTo pos (starEach (e :: es) X.env)) (backToKw pos (keywordEach [] X.env))) := by rfl) :
    DE X W (.Call (.Attribute o m apos) (e :: es) [] pos) (dMeth C m f da ta) := by
  refine ⟨fun pins s σ H R I h => ?_⟩
  obtain ⟨M, δ, G, Q, QE, rs, d, ex, k⟩ := h
  refine PySem.W.methodCall_KW (pl := pl) (thn (he.run pins s σ H (fun v H1 => ∃ dv G1 M1, Frame H M H1 M1 ∧ RS X.K H1 M1 σ δ G1 ∧ Im X.K H1 M1 v dv ∧ IsIns C m G1 dv ∧ ta δ G1 (fun ds G2 => f (dv :: ds) G2 Q QE) QE) I ⟨M, δ, G, _, QE, rs, d, ex, fun v dv G1 H1 M1 f1 rs1 im q => ⟨dv, G1, M1, f1, rs1, im, q.1, q.2⟩⟩) fun u s1 ⟨x, H1, I1, rx, dv, G1, M1, f1, rs1, im, ii, q⟩ => ?_) ht
  obtain ⟨a, dx, fs, ex1, ea, l⟩ := isIns_of rs1.g im ii
  subst ex1
  obtain rfl : u = Value.ref a := rx
  refine getmeth_ok I1 ea c hm l ?_
  refine PySem.W.callWith_K (first := [.ref a]) (h₀ := X.base) I.ok.mod.kin hm.kp (thn (ha.run pos pins s1 σ H1 (fun vs H2 => ∃ ds G2 M2, Frame H1 M1 H2 M2 ∧ RS X.K H2 M2 σ δ G2 ∧ ImL X.K H2 M2 vs ds ∧ f (dv :: ds) G2 Q QE) I1 ⟨M1, δ, G1, _, QE, rs1, q, ex.mono f1, fun vs ds G2 H2 M2 f2 rs2 iml q2 => ⟨ds, G2, M2, f2, rs2, iml, q2⟩⟩) fun us s2 ⟨vs, H2, I2, r, ds, G2, M2, f2, rs2, iml, q2⟩ => ⟨I2.kIn, ?_⟩) hst hpl
  exact run_fnS (E := WE W) (us := .ref a :: us) (vs := .ref a :: vs) F hr hb (passAt tk σ) I2 (.cons rfl r) (spD_of rs2 (.cons (im.mono f2.stay) iml) q2 (ex.mono (f1.trans f2)) fun v dv G' H' M' f3 rs3 im3 qd => k v dv G' H' M' ((f1.trans f2).trans f3) rs3 im3 qd)
theorem de_meth0 {pl : Sem Bool} (he : DE X W o da) (c : Cls X.K C) (hm : Meth X.K C m fa) (F : FnOk X.prog X.w X.K X.mg X.base (L2.CX X.prog X.w) k fa fd ps (spD X.K f)) (hr : Room k X.A) (hb : Binds X.K fd ps []) (tk : Takes X W)
    (ht : eval (.Call (.Attribute o m apos) [] [] pos) X.env = (do
      let ov ← eval o X.env
      standAt apos.atName
      let (f, first) ← holding [ov] (getMethod ov m pl)
      callWith pos f first (backTo pos (starEach [] X.env)) (backToKw pos (keywordEach [] X.env))) := by rfl) :
    DE X W (.Call (.Attribute o m apos) [] [] pos) (dMeth C m f da dNil) := by
  refine ⟨fun pins s σ H R I h => ?_⟩
  obtain ⟨M, δ, G, Q, QE, rs, d, ex, k⟩ := h
  refine PySem.W.methodCall_KW (pl := pl) (thn (he.run pins s σ H (fun v H1 => ∃ dv G1 M1, Frame H M H1 M1 ∧ RS X.K H1 M1 σ δ G1 ∧ Im X.K H1 M1 v dv ∧ IsIns C m G1 dv ∧ f [dv] G1 Q QE) I ⟨M, δ, G, _, QE, rs, d, ex, fun v dv G1 H1 M1 f1 rs1 im q => ⟨dv, G1, M1, f1, rs1, im, q.1, q.2⟩⟩) fun u s1 ⟨x, H1, I1, rx, dv, G1, M1, f1, rs1, im, ii, q⟩ => ?_) ht
  obtain ⟨a, dx, fs, ex1, ea, l⟩ := isIns_of rs1.g im ii
  subst ex1
  obtain rfl : u = Value.ref a := rx
  refine getmeth_ok I1 ea c hm l ?_
  exact PySem.W.callWith_K0 (first := [.ref a]) I1.kIn hm.kp (run_fnS (E := WE W) (us := [.ref a]) (vs := [.ref a]) F hr hb (passAt tk σ) I1 (.cons rfl .nil) (spD_of rs1 (.cons im .nil) q (ex.mono f1) fun v dv G' H' M' f3 rs3 im3 qd => k v dv G' H' M' (f1.trans f3) rs3 im3 qd))
end

/-! ### a def by its body -/
def dstart (N : List Str) (ds : List D) : DSt := ds.map (fun d => some (.v d)) ++ List.replicate (N.length - ds.length) none
theorem ImL.slot {K : PySem.W.Frag} {H : Hp} {M : Gh} {vs : List V} {ds : List D} (r : ImL K H M vs ds) (n : Nat) (i : Nat) (s : SV) (h : (ds.map (fun d => some (SV.v d)) ++ List.replicate n (none : Option SV))[i]? = some (some s)) :
    ∃ x, (vs.map some ++ List.replicate n (none : Option V))[i]? = some (some x) ∧ SlotR K H M (.slot i) x s := by
  have hl := r.length
  by_cases hi : i < ds.length
  · rw [List.getElem?_append_left (by simpa using hi), List.getElem?_map] at h
    rw [List.getElem?_append_left (by simpa using (show i < vs.length by omega)), List.getElem?_map]
    cases e : ds[i]? with
    | none => rw [e] at h; cases h
    | some d =>
      rw [e] at h
      cases h
      obtain ⟨v, hv, im⟩ := r.get e
      exact ⟨v, by rw [hv]; rfl, im⟩
  · rw [List.getElem?_append_right (by simpa using (show ds.length ≤ i by omega)), List.getElem?_replicate] at h
    split at h <;> cases h
theorem rs_start {K : PySem.W.Frag} {H : Hp} {M : Gh} {G : DG} {N : List Str} {vs : List V} {ds : List D} (g : RG K H M G) (r : ImL K H M vs ds) : RS K H M (L2.start N vs) (dstart N ds) G := by
  refine ⟨g, ?_, fun i s h => ?_⟩
  · unfold L2.start dstart
    rw [List.length_append, List.length_append, List.length_map, List.length_map, List.length_replicate, List.length_replicate, r.length]
  · unfold L2.start
    rw [r.length]
    exact r.slot _ i s h
abbrev fnEnds (Q : D → DG → Prop) (QE : DX → DG → Prop) : DEnds := { nx := fun _ G => Q .non G, rt := Q, ex := fun x _ G => QE x G }
section
variable {P : Program} {w : World} {K : PySem.W.Frag} {mg : Str → Option Value} {base : Heap}
theorem body_ok {f : Fn} {db : DTS} {N : List Str} (h : ∀ ds G Q QE, f ds G Q QE → db (fnEnds Q QE) (dstart N ds) G) (vs : List V) (H : Hp) (Q : VK) (E : XK) (sp : spD K f vs H Q E) :
    rdS K (fun cls d _ H' => E cls d H') db { nx := fun _ H' => Q .non H', rt := Q } (L2.start N vs) H := by
  obtain ⟨M, ds, G, QD, QE, ns, g, r, q, k, ke⟩ := sp
  refine ⟨M, dstart N ds, G, fnEnds QD QE, rs_start g r, h ds G QD QE q, ⟨fun σ' δ' G' H' M' f rs q => ?_, fun v dv G' H' M' f ns' rg im q => k v dv G' H' M' f ns' rg im q, fun _ _ _ _ _ _ _ q => q.elim, fun _ _ _ _ _ _ _ q => q.elim, fun x σ' δ' G' H' M' cls dd f rs rx q => ?_⟩⟩
  · have f2 : Frame H M H' (hideS M') := f.trans Frame.hide
    exact k .non .non G' H' (hideS M') f2 (hideS_noslot _) rs.g.hide .non q
  · have f2 : Frame H M H' (hideS M') := f.trans Frame.hide
    exact ke x G' H' (hideS M') cls dd f2 (hideS_noslot _) rs.g.hide (rx.stay Frame.hide.stay) q
/-- THE RULE for a def -/
theorem dfn {x qual : Str} {st : Stmt} {dvs : List V} {fa : Addr} {fd : FuncData} {N ps : List Str} {k : Nat} {f : Fn} {db : DTS} (F : FunD K x qual (defArgs st) (defBody st) (defScope st) dvs [] fa fd) (S : FnScope N ps (defScope st))
    (len : ∀ ds G Q E, f ds G Q E → ds.length = ps.length)
    (hb : ∀ (cdv : Value) (A : Around) (outer : List Env) (s : Shared) (H : Hp) (E : XK), Room k (A.deeper (PyProof.Rows.envOfC qual (defScope st) s.heap.objs.size fa cdv)) →
      DSs (cxOf (L2.CX P w) P w K mg base N qual (defScope st) fa cdv A outer s H E) (fun cls d _ H' => E cls d H') (defBody st) db)
    (h : ∀ ds G Q QE, f ds G Q QE → db (fnEnds Q QE) (dstart N ds) G) : FnOk P w K mg base (L2.CX P w) (k + 1) fa fd ps (spD K f) := by
  refine F.ok S (fun vs H Q E sp => ?_) (fun cdv A outer s H vs Q E hr sp => ⟨_, hb cdv A outer s H E hr, body_ok h vs H Q E sp⟩)
  obtain ⟨M, ds, G, QD, QE, ns, g, r, q, _⟩ := sp
  rw [r.length]
  exact len _ _ _ _ q
theorem FnOk.weak {fa : Addr} {fd : FuncData} {ps : List Str} {k : Nat} {f f' : Fn} (F : FnOk P w K mg base (L2.CX P w) k fa fd ps (spD K f)) (h : ∀ ds G Q E, f' ds G Q E → f ds G Q E) : FnOk P w K mg base (L2.CX P w) k fa fd ps (spD K f') :=
  F.imp fun vs H Q E ⟨M, ds, G, QD, QE, ns, g, r, q, k⟩ => ⟨M, ds, G, QD, QE, ns, g, r, h _ _ _ _ q, k⟩
end
end DD

set_option Elab.async false
set_option linter.all false
set_option maxRecDepth 100000
set_option maxHeartbeats 4000000
namespace DD
open PySem PySem.Spec L2

/-! ### one address changes, its owner keeps it -/
section
variable {K : PySem.W.Frag} {H : Hp} {M : Gh} {σ : St} {δ : DSt} {G : DG} {l : Addr} {ow ow' : Own} {o : HO}
theorem Stay.at (m : M l = some ow) : Stay H M (upd H l o) M := fun b u h n => ⟨by
  rw [upd_ne (fun e => by rw [e, m] at n; cases n)]; exact h, n⟩
theorem Frame.at (m : M l = some ow) (no : ow ≠ .other) : Frame H M (upd H l o) M := ⟨fun b u h n => ⟨by
  rw [upd_ne (fun e => by
    rw [e, m] at n
    rcases n with n | n
    · cases n
    · cases n; exact no rfl)]; exact h, rfl⟩, fun b h => by
    by_cases e : b = l
    · rw [e, upd_same]; simp
    · rw [upd_ne e]; exact h⟩
theorem SlotR.at (m : M l = some ow) (ne : ow' ≠ ow) {x : V} : ∀ {s : SV}, SlotR K H M ow' x s → SlotR K (upd H l o) M ow' x s
  | .v d, h => Im.mono (Stay.at m) h
  | .own ds, ⟨l', xs, e, m', h, r⟩ => ⟨l', xs, e, m', by
      rw [upd_ne (fun z => by rw [z, m] at m'; cases m'; exact ne rfl)]; exact h, ImL.mono (Stay.at m) r⟩
  | .ownd ds, ⟨l', xs, e, m', h, r⟩ => ⟨l', xs, e, m', by
      rw [upd_ne (fun z => by rw [z, m] at m'; cases m'; exact ne rfl)]; exact h, ImK.mono (Stay.at m) r⟩
theorem FldR.at {a : Addr} (m : M l = some ow) (ne : ∀ f, Own.fld a f ≠ ow) : ∀ {ps : List (Str × V)} {fs : List (Str × FV)}, FldR K H M a ps fs → FldR K (upd H l o) M a ps fs
  | [], [], _ => trivial
  | (f, x) :: r, (g, s) :: t, ⟨e, h, w, q⟩ => ⟨e, SlotR.at m (ne f) h, w, FldR.at m ne q⟩
theorem ObjR.at {a : Addr} (m : M l = some ow) (na : a ≠ l) (ne : ∀ f, Own.fld a f ≠ ow) : ∀ {u : DO}, ObjR K H M a u → ObjR K (upd H l o) M a u
  | .ins C fs, ⟨dx, ps, h, r⟩ => ⟨dx, ps, by rw [upd_ne na]; exact h, FldR.at m ne r⟩
  | .mls ds, ⟨xs, h, r⟩ => ⟨xs, by rw [upd_ne na]; exact h, ImL.mono (Stay.at m) r⟩
  | .jar _, ⟨i, j, n, h, r⟩ => ⟨i, j, n, by rw [upd_ne na]; exact h, r⟩
theorem dom_at {m : Gh} (d : Dom m H) : Dom m (upd H l o) := fun a h => by
  by_cases e : a = l
  · rw [e, upd_same]; simp
  · rw [upd_ne e]; exact d a h
/-- a slot's own list is changed -/
theorem RS.setOwn {i : Nat} {xs' : List V} {ds' : List D} (r : RS K H M σ δ G) (m : M l = some (.slot i)) (hσ : σ[i]? = some (some (.ref l))) (iml : ImL K H M xs' ds') : RS K (upd H l (.lst xs')) M σ (δ.set i (some (.own ds'))) G := by
  refine ⟨⟨fun a u h => ?_, dom_at r.g.dom⟩, by rw [List.length_set]; exact r.len, fun j s h => ?_⟩
  · obtain ⟨ma, q⟩ := r.g.obj a u h
    exact ⟨ma, q.at m (fun e => by rw [e, m] at ma; cases ma) fun f e => by cases e⟩
  · by_cases hj : j = i
    · subst hj
      have hlt : j < δ.length := by
        rw [← r.len]; exact (List.getElem?_eq_some_iff.mp hσ).1
      rw [List.getElem?_set_self hlt] at h
      cases h
      exact ⟨_, hσ, l, xs', rfl, m, upd_same, ImL.mono (Stay.at m) iml⟩
    · rw [List.getElem?_set_ne (Ne.symm hj)] at h
      obtain ⟨x, hx, q⟩ := r.slot j s h
      exact ⟨x, hx, q.at m fun e => by cases e; exact hj rfl⟩
theorem RS.setV {i : Nat} {v : V} {d : D} (r : RS K H M σ δ G) (im : Im K H M v d) : RS K H M (σ.set i (some v)) (δ.set i (some (.v d))) G := by
  refine ⟨r.g, by rw [List.length_set, List.length_set]; exact r.len, fun j s h => ?_⟩
  by_cases hj : j = i
  · subst hj
    by_cases hlt : j < δ.length
    · rw [List.getElem?_set_self hlt] at h
      cases h
      exact ⟨v, List.getElem?_set_self (by rw [r.len]; exact hlt), im⟩
    · rw [List.getElem?_eq_none (by simpa using hlt)] at h; cases h
  · rw [List.getElem?_set_ne (Ne.symm hj)] at h
    rw [List.getElem?_set_ne (Ne.symm hj)]
    exact r.slot j s h
theorem RS.setN {i : Nat} (r : RS K H M σ δ G) : RS K H M (σ.set i none) (δ.set i none) G := by
  refine ⟨r.g, by rw [List.length_set, List.length_set]; exact r.len, fun j s h => ?_⟩
  by_cases hj : j = i
  · subst hj
    by_cases hlt : j < δ.length
    · rw [List.getElem?_set_self hlt] at h; cases h
    · rw [List.getElem?_eq_none (by simpa using hlt)] at h; cases h
  · rw [List.getElem?_set_ne (Ne.symm hj)] at h
    rw [List.getElem?_set_ne (Ne.symm hj)]
    exact r.slot j s h
/-- a list that nobody knows yet becomes slot i's own -/
theorem RS.takeOwn {i : Nat} {p : Addr} {xs : List V} {ds : List D} (r : RS K H M σ δ G) (m : M p = some .other) (h : H p = some (.lst xs)) (iml : ImL K H M xs ds) :
    RS K H (mset M p (some (.slot i))) (σ.set i (some (.ref p))) (δ.set i (some (.own ds))) G := by
  have r2 := r.give (o := some (.slot i)) m
  refine ⟨r2.g, by rw [List.length_set, List.length_set]; exact r.len, fun j s hj => ?_⟩
  by_cases e : j = i
  · subst e
    by_cases hlt : j < δ.length
    · rw [List.getElem?_set_self hlt] at hj
      cases hj
      exact ⟨_, List.getElem?_set_self (by rw [r.len]; exact hlt), p, xs, rfl, mset_same, h, ImL.mono (Stay.give m) iml⟩
    · rw [List.getElem?_eq_none (by simpa using hlt)] at hj; cases hj
  · rw [List.getElem?_set_ne (Ne.symm e)] at hj
    rw [List.getElem?_set_ne (Ne.symm e)]
    exact r2.slot j s hj
/-- slot i's own list is finished: a value from now on -/
theorem RS.freeze {i : Nat} {ds : List D} (r : RS K H M σ δ G) (h : δ[i]? = some (some (.own ds))) : ∃ M', Frame H M H M' ∧ Stay H M H M' ∧ RS K H M' σ (δ.set i (some (.v (.lst ds)))) G := by
  obtain ⟨x, hx, l, xs, rfl, m, hl, iml⟩ := r.slot i _ h
  have st : Stay H M H (mset M l none) := fun b o hb mb => ⟨hb, by
    by_cases e : b = l
    · rw [e, mset_same]
    · rw [mset_ne e]; exact mb⟩
  have keep : ∀ {b : Addr} {ow : Own}, M b = some ow → ow ≠ .slot i → mset M l none b = some ow := fun {b ow} mb ne => by
    rw [mset_ne (fun e => by rw [e, m] at mb; cases mb; exact ne rfl)]; exact mb
  have sl : ∀ {ow : Own} {x : V} {s : SV}, ow ≠ .slot i → SlotR K H M ow x s → SlotR K H (mset M l none) ow x s := fun {ow x s} ne q => by
    cases s with
    | v d => exact Im.mono st q
    | own ds => obtain ⟨l', xs, e, m', h, r⟩ := q; exact ⟨l', xs, e, keep m' ne, h, ImL.mono st r⟩
    | ownd ds => obtain ⟨l', xs, e, m', h, r⟩ := q; exact ⟨l', xs, e, keep m' ne, h, ImK.mono st r⟩
  have fl : ∀ {a : Addr} {ps : List (Str × V)} {fs : List (Str × FV)}, FldR K H M a ps fs → FldR K H (mset M l none) a ps fs := fun {a ps} => by
    induction ps with
    | nil => intro fs q; cases fs with
      | nil => trivial
      | cons _ _ => exact q
    | cons p ps ih => intro fs q; cases fs with
      | nil => exact q
      | cons g fs => obtain ⟨e, h, w, q⟩ := q; exact ⟨e, sl (fun z => by cases z) h, w, ih q⟩
  refine ⟨mset M l none, ⟨fun b o hb mb => ⟨hb, ?_⟩, fun _ z => z⟩, st, ⟨⟨fun a u ha => ?_, fun a ha => ?_⟩, by rw [List.length_set]; exact r.len, fun j s hj => ?_⟩⟩
  · by_cases e : b = l
    · rw [e, m] at mb
      rcases mb with mb | mb <;> cases mb
    · rw [mset_ne e]
  · obtain ⟨ma, q⟩ := r.g.obj a u ha
    refine ⟨keep ma (fun z => by cases z), ?_⟩
    cases u with
    | ins C fs => obtain ⟨dx, ps, h1, h2⟩ := q; exact ⟨dx, ps, h1, fl h2⟩
    | mls ds => obtain ⟨xs, h1, h2⟩ := q; exact ⟨xs, h1, ImL.mono st h2⟩
    | jar _ => exact q
  · refine r.g.dom a fun e => ha ?_
    by_cases z : a = l
    · rw [z, mset_same]
    · rw [mset_ne z]; exact e
  · by_cases e : j = i
    · subst e
      have hlt : j < δ.length := (List.getElem?_eq_some_iff.mp h).1
      rw [List.getElem?_set_self hlt] at hj
      cases hj
      exact ⟨_, hx, .lst mset_same (.inl hl) (ImL.mono st iml)⟩
    · rw [List.getElem?_set_ne (Ne.symm e)] at hj
      obtain ⟨y, hy, q⟩ := r.slot j s hj
      exact ⟨y, hy, sl (fun z => by cases z; exact e rfl) q⟩
end

/-! ### statements -/
def exOf (D : DEnds) (δ : DSt) : DX → DG → Prop := fun x G => D.ex x δ G
def sNext : DTS := fun D δ G => D.nx δ G
def sSeq (t u : DTS) : DTS := fun D δ G => t { D with nx := u D } δ G
def sSet (i : Nat) (d : DTE) : DTS := fun D δ G => d δ G (fun x G1 => D.nx (δ.set i (some (.v x))) G1) (exOf D δ)
def sSetF (i : Nat) (d : DTA) : DTS := fun D δ G => d δ G (fun xs G1 => D.nx (δ.set i (some (.own xs))) G1) (exOf D δ)
def sExpr (d : DTE) : DTS := fun D δ G => d δ G (fun _ G1 => D.nx δ G1) (exOf D δ)
def sRet (d : DTE) : DTS := fun D δ G => d δ G (fun x G1 => D.rt x G1) (exOf D δ)
def sRetN : DTS := fun D _ G => D.rt .non G
def sIf (c : DTT) (t u : DTS) : DTS := fun D δ G => c δ G (fun b G1 => if b = true then t D δ G1 else u D δ G1) (exOf D δ)
def sBreak : DTS := fun D δ G => D.bk δ G
def sCont : DTS := fun D δ G => D.ct δ G
def sNever : DTS := fun _ _ _ => False
/-- slot i is finished ahead of the statement -/
def sFrz (i : Nat) (t : DTS) : DTS := fun D δ G => ∃ ds, δ[i]? = some (some (.own ds)) ∧ t D (δ.set i (some (.v (.lst ds)))) G
def sApp (i : Nat) (d : DTE) : DTS := fun D δ G => ∃ ds, δ[i]? = some (some (.own ds)) ∧ d δ G (fun x G1 => ds.length < 1000000 ∧ D.nx (δ.set i (some (.own (ds ++ [x])))) G1) (exOf D δ)
def forL (g : DTG) (tb : DTS) (N : DEnds) : List D → DSt → DG → Prop
  | [], δ, G => N.nx δ G
  | x :: r, δ, G => g x δ G (fun δ' G' => tb { N with nx := forL g tb N r, ct := forL g tb N r, bk := N.nx } δ' G')
def sFor (it : DTA) (g : DTG) (tb : DTS) : DTS := fun D δ G => it δ G (fun xs G1 => forL g tb D xs δ G1) (exOf D δ)
def gN (i : Nat) : DTG := fun x δ G Q => Q (δ.set i (some (.v x))) G
def gT (n : Nat) (g : List D → DSt → DG → (DSt → DG → Prop) → Prop) : DTG := fun x δ G Q => ∃ xs, x = .tup xs ∧ xs.length = n ∧ g xs δ G Q
def gsNil : List D → DSt → DG → (DSt → DG → Prop) → Prop := fun xs δ G Q => xs = [] ∧ Q δ G
def gsCons (g : DTG) (r : List D → DSt → DG → (DSt → DG → Prop) → Prop) : List D → DSt → DG → (DSt → DG → Prop) → Prop := fun xs δ G Q => ∃ y ys, xs = y :: ys ∧ g y δ G (fun δ' G' => r ys δ' G' Q)

section
variable {K : PySem.W.Frag} {W : WX} {H : Hp} {M : Gh} {σ : St} {δ : DSt} {DD : DEnds} {E : Ends}
theorem EndsOk.exOf (e : EndsOk K W H M DD E) : ExOk K W H M σ δ (exOf DD δ) := fun x G' H' M' cls dd f rs rx q => e.ex x σ δ G' H' M' cls dd f rs rx q
end
section
variable {X : Cx} {W : WX} {st : Stmt} {rest sts sts' : List Stmt} {t u : DTS} {e c : Expr} {d : DTE} {da : DTA} {tc : DTT} {pos pos' : Pos} {i : Nat} {x : Str}
theorem dss_nil : DSs X W [] sNext := pss_nil.imp fun E σ H ⟨M, δ, G, DD, rs, d, ok⟩ => ok.nx σ δ G H M (Frame.refl H M) rs d
theorem dss_cons (h1 : DS X W st t) (h2 : DSs X W rest u) : DSs X W (st :: rest) (sSeq t u) := (pss_cons h1 h2).imp fun E σ H ⟨M, δ, G, DD, rs, d, ok⟩ =>
  ⟨M, δ, G, _, rs, d, ⟨fun σ' δ' G' H' M' f rs' q => ⟨M', δ', G', DD, rs', q, ok.mono f⟩, ok.rt, ok.bk, ok.ct, ok.ex⟩⟩
theorem dss_one (h1 : DS X W st t) : DSs X W [st] t := pss_one h1
theorem ds_pass : DS X W (.Pass pos) sNext := ps_pass.imp fun E σ H ⟨M, δ, G, DD, rs, d, ok⟩ => ok.nx σ δ G H M (Frame.refl H M) rs d
theorem ds_break : DS X W (.Break pos) sBreak := ps_break.imp fun E σ H ⟨M, δ, G, DD, rs, d, ok⟩ => ok.bk σ δ G H M (Frame.refl H M) rs d
theorem ds_cont : DS X W (.Continue pos) sCont := ps_continue.imp fun E σ H ⟨M, δ, G, DD, rs, d, ok⟩ => ok.ct σ δ G H M (Frame.refl H M) rs d
theorem ds_never : DS X W st sNever := ps_never.imp fun E σ H ⟨M, δ, G, DD, rs, d, ok⟩ => d
theorem dss_never : DSs X W sts sNever := pss_never.imp fun E σ H ⟨M, δ, G, DD, rs, d, ok⟩ => d
theorem ds_set (hN : X.N.Nodup) (hi : X.N[i]? = some x) (hx : Loc X.env.scope x) (he : DE X W e d) (hs : swapsWith e (some (.Name x pos')) pos.line X.env = pure false := by rfl) (hf : X.fn x = true ∨ X.env.scope.names.lookup x = some .local := by first | exact .inl rfl | exact .inr rfl | assumption) :
    DS X W (.Assign [.Name x pos'] e pos) (sSet i d) := (ps_set (pos := pos) (pos' := pos') hN hi hx he hs hf).imp fun E σ H ⟨M, δ, G, DD, rs, d, ok⟩ =>
  ⟨M, δ, G, _, _, rs, d, ok.exOf, fun v dv G' H' M' f rs' im q => ok.nx _ _ G' H' M' f (rs'.setV im) q⟩
theorem ds_setF (hN : X.N.Nodup) (hi : X.N[i]? = some x) (hx : Loc X.env.scope x) (he : DF X W e da) (hs : swapsWith e (some (.Name x pos')) pos.line X.env = pure false := by rfl) (hf : X.fn x = true ∨ X.env.scope.names.lookup x = some .local := by first | exact .inl rfl | exact .inr rfl | assumption) :
    DS X W (.Assign [.Name x pos'] e pos) (sSetF i da) := (ps_set (pos := pos) (pos' := pos') hN hi hx he hs hf).imp fun E σ H ⟨M, δ, G, DD, rs, d, ok⟩ =>
  ⟨M, δ, G, _, _, rs, d, ok.exOf, fun p xs ds G' H' M' f rs' n m hp iml q => ok.nx _ _ G' _ _ (f.give n) (rs'.takeOwn (i := i) m hp iml) q⟩
theorem ds_expr (he : DE X W e d) (hs : swapsWith e none pos.line X.env = pure false := by rfl) : DS X W (.Expr e pos) (sExpr d) := (ps_expr he hs).imp fun E σ H ⟨M, δ, G, DD, rs, d, ok⟩ =>
  ⟨M, δ, G, _, _, rs, d, ok.exOf, fun v dv G' H' M' f rs' im q => ok.nx _ _ G' H' M' f rs' q⟩
theorem EndsOk.ret {K : PySem.W.Frag} {H : Hp} {M : Gh} {DD : DEnds} {E : Ends} (ok : EndsOk K W H M DD E) {v : V} {dv : D} {G' : DG} {H' : Hp} {M' : Gh} {σ : St} {δ : DSt} (f : Frame H M H' M') (rs : RS K H' M' σ δ G') (im : Im K H' M' v dv) (q : DD.rt dv G') : E.rt v H' := by
  exact ok.rt v dv G' H' (hideS M') (f.trans Frame.hide) (hideS_noslot _) rs.g.hide (im.mono Frame.hide.stay) q
theorem ds_ret (he : DE X W e d) : DS X W (.Return (some e) pos) (sRet d) := (ps_ret he).imp fun E σ H ⟨M, δ, G, DD, rs, d, ok⟩ =>
  ⟨M, δ, G, _, _, rs, d, ok.exOf, fun v dv G' H' M' f rs' im q => ok.ret f rs' im q⟩
theorem ds_retN : DS X W (.Return none pos) sRetN := ps_retN.imp fun E σ H ⟨M, δ, G, DD, rs, d, ok⟩ => ok.ret (Frame.refl H M) rs .non d
theorem ds_if (hc : DT X W c tc) (ha : DSs X W sts t) (hb : DSs X W sts' u) : DS X W (.If c sts sts' pos) (sIf tc t u) := (ps_if hc ha hb).imp fun E σ H ⟨M, δ, G, DD, rs, d, ok⟩ => by
  refine ⟨M, δ, G, _, _, rs, d, ok.exOf, fun b G' H' M' f rs' q => ?_⟩
  cases b with
  | true =>
    simp only [if_true] at q ⊢
    exact ⟨M', δ, G', DD, rs', q, ok.mono f⟩
  | false =>
    simp only [Bool.false_eq_true, if_false] at q ⊢
    exact ⟨M', δ, G', DD, rs', q, ok.mono f⟩
theorem ds_frz (i : Nat) (h : DS X W st t) : DS X W st (sFrz i t) := h.imp fun E σ H ⟨M, δ, G, DD, rs, ⟨ds, hd, q⟩, ok⟩ => by
  obtain ⟨M', f, _, r2⟩ := rs.freeze hd
  exact ⟨M', _, G, DD, r2, q, ok.mono f⟩
theorem dss_frz (i : Nat) (h : DSs X W sts t) : DSs X W sts (sFrz i t) := h.imp fun E σ H ⟨M, δ, G, DD, rs, ⟨ds, hd, q⟩, ok⟩ => by
  obtain ⟨M', f, _, r2⟩ := rs.freeze hd
  exact ⟨M', _, G, DD, r2, q, ok.mono f⟩
/-- xs.append(e), xs slot i's own -/
theorem ds_app {a : Expr} {apos : Pos} (h0 : PE X a (tVar i)) (he : DE X W e d) (hp : PE X (.Call (.Attribute a "append" apos) [e] [] pos) (tBM X.K "list" rAppend (tVar i) (tCons (rdE X.K W d) tNil))) (hs : swapsWith (.Call (.Attribute a "append" apos) [e] [] pos) none pos'.line X.env = pure false := by rfl) :
    DS X W (.Expr (.Call (.Attribute a "append" apos) [e] [] pos) pos') (sApp i d) := (ps_expr hp hs).imp fun E σ H ⟨M, δ, G, DD, rs, ⟨ds, hd, q⟩, ok⟩ => by
  obtain ⟨x, hx, l, xs, rfl, m, hl, iml⟩ := rs.slot i _ hd
  refine ⟨_, hx, .inl ⟨rfl, _, SqL.of hl⟩, M, δ, G, _, _, rs, q, ok.exOf, fun y dy G1 H1 M1 f1 rs1 im q1 => ?_⟩
  obtain ⟨x2, hx2, l2, xs2, rfl, m2, hl2, iml2⟩ := rs1.slot i _ hd
  rw [hx] at hx2
  cases hx2
  refine ⟨l, xs2, y, rfl, rfl, hl2, by rw [iml2.length, sizeLine_eq]; have := q1.1; omega, ?_⟩
  exact ok.nx _ _ G1 _ M1 (f1.trans (Frame.at m2 (by intro z; cases z))) (rs1.setOwn m2 hx (iml2.append (.cons im .nil))) q1.2
end

/-! ### what a loop walks -/
def Iterates (K : PySem.W.Frag) (J : It) (xs : List D) (H : Hp) (M : Gh) : Prop := ∀ H2 M2, Frame H M H2 M2 → Dom M2 H2 → ∀ i, (i < xs.length → J.go i H2 ∧ ∀ x H3, J.yld i H2 x H3 → ∃ d, xs[i]? = some d ∧ Same H2 H3 ∧ Im K H3 M2 x d) ∧ (xs.length ≤ i → J.stop i H2)
theorem Iterates.mono {K : PySem.W.Frag} {J : It} {xs : List D} {H H' : Hp} {M M' : Gh} (h : Iterates K J xs H M) (f : Frame H M H' M') : Iterates K J xs H' M' := fun H2 M2 f2 d i => h H2 M2 (f.trans f2) d i
def rdI (K : PySem.W.Frag) (W : WX) (d : DTA) : TI := fun σ H R => ∃ M δ G Q QE, RS K H M σ δ G ∧ d δ G Q QE ∧ ExOk K W H M σ δ QE ∧ ∀ J xs G' H' M', Frame H M H' M' → RS K H' M' σ δ G' → Iterates K J xs H' M' → Q xs G' → R J H'
abbrev DI (X : Cx) (W : WX) (tg e : Expr) (d : DTA) : Prop := PI X tg e (rdI X.K W d)
theorem ds_for {X : Cx} {W : WX} {tg iter : Expr} {body : List Stmt} {it : DTA} {g : DTG} {tb : DTS} {pos : Pos} (hp : PassesOwn (model X.prog X.w) X.A X.env X.xe) (hc : X.calm = true) (hi : DI X W tg iter it) (hg : DGt X tg g) (hb : DSs X W body tb)
    (hs : ∀ x, foldedSetIterable iter X.env x = pure x := by intro _; rfl) : DS X W (.For tg iter body [] pos) (sFor it g tb) := (ps_for hp hc hi hg hb hs).imp fun E σ H ⟨M, δ, G, DD, rs, d, ok⟩ => by
  refine ⟨M, δ, G, _, _, rs, d, ok.exOf, fun J xs G1 H1 M1 f1 rs1 itr q => ?_⟩
  refine ⟨fun i m σ' H' => ∃ δ' G' M', Frame H1 M1 H' M' ∧ RS X.K H' M' σ' δ' G' ∧ forL g tb DD (xs.drop i) δ' G' ∧ m = xs.length - i ∧ i ≤ xs.length, ⟨xs.length, δ, G1, M1, Frame.refl _ _, rs1, by simpa using q, by simp, Nat.zero_le _⟩, ?_⟩
  rintro i m σ' H' ⟨δ', G', M', f, rs', q, rfl, hi⟩
  obtain ⟨hgo, hstop⟩ := itr H' M' f rs'.g.dom i
  by_cases hlt : i < xs.length
  · obtain ⟨go, yld⟩ := hgo hlt
    refine .inr ⟨go, fun σ2 H2 => ∃ δ2 G2 M2, Frame H1 M1 H2 M2 ∧ RS X.K H2 M2 σ2 δ2 G2 ∧ forL g tb DD (xs.drop (i + 1)) δ2 G2, fun σ2 H2 ⟨δ2, G2, M2, f2, rs2, q2⟩ => ⟨xs.length - (i + 1), by omega, δ2, G2, M2, f2, rs2, q2, rfl, hlt⟩, fun x H3 y => ?_⟩
    obtain ⟨dx, hdx, sm, im⟩ := yld x H3 y
    have e : xs.drop i = dx :: xs.drop (i + 1) := by
      rw [List.drop_eq_getElem_cons hlt]
      have : xs[i] = dx := by
        rw [List.getElem?_eq_getElem hlt] at hdx
        exact Option.some.inj hdx
      rw [this]
    rw [e] at q
    have f3 : Frame H1 M1 H3 M' := f.trans (Same.keep sm).frame
    refine ⟨M', δ', G', dx, _, rs'.same sm, im, q, fun σ2 δ2 G2 H2 M2 f2 rs2 q2 => ?_⟩
    refine ⟨M2, δ2, G2, _, rs2, q2, ⟨fun σ4 δ4 G4 H4 M4 f4 rs4 q4 => ⟨δ4, G4, M4, (f3.trans f2).trans f4, rs4, q4⟩, fun v dv G4 H4 M4 f4 ns rg im q4 => ok.rt v dv G4 H4 M4 (f1.trans ((f3.trans f2).trans f4)) ns rg im q4,
      fun σ4 δ4 G4 H4 M4 f4 rs4 q4 => ok.nx σ4 δ4 G4 H4 M4 (f1.trans ((f3.trans f2).trans f4)) rs4 q4, fun σ4 δ4 G4 H4 M4 f4 rs4 q4 => ⟨δ4, G4, M4, (f3.trans f2).trans f4, rs4, q4⟩,
      fun x4 σ4 δ4 G4 H4 M4 cls dd f4 rs4 rx q4 => ok.ex x4 σ4 δ4 G4 H4 M4 cls dd (f1.trans ((f3.trans f2).trans f4)) rs4 rx q4⟩⟩
  · have e : xs.drop i = [] := List.drop_eq_nil_of_le (by omega)
    rw [e] at q
    exact .inl ⟨hstop (by omega), ok.nx σ' δ' G' H' M' (f1.trans f) rs' q⟩
/-! targets -/
theorem dg_name {X : Cx} {i : Nat} {x : Str} {pos : Pos} (hN : X.N.Nodup) (hi : X.N[i]? = some x) (hx : Loc X.env.scope x) (hf : X.fn x = true ∨ X.env.scope.names.lookup x = some .local := by first | exact .inl rfl | exact .inr rfl | assumption) : DGt X (.Name x pos) (gN i) :=
  (pg_name (pos := pos) hN hi hx hf).imp fun v σ H R ⟨M, δ, G, dv, Q, rs, im, q, k⟩ => k _ _ G H M (Frame.refl H M) (rs.setV im) q
abbrev DTGs := List D → DSt → DG → (DSt → DG → Prop) → Prop
def rdGs (K : PySem.W.Frag) (d : DTGs) : TGs := fun vs σ H R => ∃ M δ G ds Q, RS K H M σ δ G ∧ ImL K H M vs ds ∧ d ds δ G Q ∧ ∀ σ' δ' G' H' M', Frame H M H' M' → RS K H' M' σ' δ' G' → Q δ' G' → R σ' H'
abbrev DGts (X : Cx) (es : List Expr) (d : DTGs) : Prop := PGs X es (rdGs X.K d)
theorem _root_.L2.PGs.imp {X : Cx} {e : List Expr} {t t' : TGs} (h : PGs X e t) (i : ∀ v σ H R, t' v σ H R → t v σ H R) : PGs X e t' := ⟨fun pins s σ H v u Q I r q => h.run pins s σ H v u Q I r (i _ _ _ _ q)⟩
theorem dgs_nil {X : Cx} : DGts X [] gsNil := pgs_nil.imp fun vs σ H R ⟨M, δ, G, ds, Q, rs, im, ⟨e, q⟩, k⟩ => by
  subst e
  cases im
  exact ⟨rfl, k σ δ G H M (Frame.refl H M) rs q⟩
theorem dgs_cons {X : Cx} {e : Expr} {es : List Expr} {t : DTG} {u : DTGs} (h1 : DGt X e t) (h2 : DGts X es u)
    (hs : (assignEach (e :: es) X.env).map (·.2) = assign e X.env :: (assignEach es X.env).map (·.2) := by rfl) : DGts X (e :: es) (gsCons t u) := (pgs_cons h1 h2 hs).imp fun vs σ H R ⟨M, δ, G, ds, Q, rs, im, ⟨y, ys, e, q⟩, k⟩ => by
  subst e
  cases im with
  | cons im iml =>
    refine ⟨_, _, rfl, M, δ, G, y, _, rs, im, q, fun σ' δ' G' H' M' f rs' q' => ?_⟩
    exact ⟨M', δ', G', ys, Q, rs', ImL.mono f.stay iml, q', fun σ2 δ2 G2 H2 M2 f2 rs2 q2 => k σ2 δ2 G2 H2 M2 (f.trans f2) rs2 q2⟩
theorem dg_tup {X : Cx} {es : List Expr} {k0 : Nat} {t : DTGs} {n : Nat} {pos : Pos} (hc : X.calm = true) (h : DGts X es t)
    (hn : (assignEach es X.env).length = n := by rfl) (hst : (assignEach es X.env).findIdx? (·.1) = none := by rfl) : DGt X (.Tuple es k0 pos) (gT n t) := (pg_tup (pos := pos) (k := k0) hc h hn hst).imp fun v σ H R ⟨M, δ, G, dv, Q, rs, im, ⟨xs, e, hl, q⟩, k⟩ => by
  subst e
  obtain ⟨a, vs, rfl, hs, iml⟩ := (Tm.of im).tup
  exact ⟨a, vs, rfl, hs, by rw [iml.length]; exact hl, M, δ, G, xs, Q, rs, iml, q, k⟩
def sAsg (d : DTE) (g : DTG) : DTS := fun D δ G => d δ G (fun x G1 => g x δ G1 D.nx) (exOf D δ)
theorem ds_asg {X : Cx} {W : WX} {tg e : Expr} {d : DTE} {g : DTG} {pos : Pos} (he : DE X W e d) (hg : DGt X tg g) (hs : swapsWithSole [tg] e pos.line X.env = pure false := by rfl) (hw : swappedStores [tg] e X.env = pure none := by rfl)
    (h1 : (assignEach [tg] X.env).map (·.2) = [assign tg X.env] := by rfl) : DS X W (.Assign [tg] e pos) (sAsg d g) := (ps_asg (pos := pos) he hg hs hw h1).imp fun E σ H ⟨M, δ, G, DD, rs, d, ok⟩ =>
  ⟨M, δ, G, _, _, rs, d, ok.exOf, fun v dv G' H' M' f rs' im q => ⟨M', δ, G', dv, _, rs', im, q, fun σ2 δ2 G2 H2 M2 f2 rs2 q2 => ok.nx σ2 δ2 G2 H2 M2 (f.trans f2) rs2 q2⟩⟩
end DD

set_option Elab.async false
set_option linter.all false
set_option maxRecDepth 100000
set_option maxHeartbeats 4000000
/-! enumerate over a tuple -/
namespace PySem
open AutoSeq1 (wpAny_loadPart')
theorem dd_enum_newT (l : Addr) (its : Array Value) :
    Meets (Builtin.«enumerate.__new__» ⟨[.type "enumerate", .ref l], []⟩) (fun _ R s => s.heap.IsTuple l its ∧
      R (.ok (.ret (.ref (s.heap.push { cls := .type "tuple_iterator", data := .fields #[.ref l, .int 0 0] }).objs.size)))
        { s with heap := (s.heap.push { cls := .type "tuple_iterator", data := .fields #[.ref l, .int 0 0] }).push { cls := .type "enumerate", data := .fields #[.none, .bool false, .ref s.heap.objs.size, rawInt 0, .none, .none] } }) :=
  .of_wp fun prog w A R s hh => by
    obtain ⟨hp, g, d, tk, os⟩ := s; obtain ⟨ht, h⟩ := hh
    have hs := sub_enumerate
    have q1 : ∀ {A' : Around} {E : Value → Shared → Prop} {Q : Value → Shared → Prop}, Q (.ref hp.objs.size) ⟨hp.push { cls := .type "tuple_iterator", data := .fields #[.ref l, .int 0 0] }, g, d, tk, os⟩ → wpAny (model prog w) A' (pyIter (.ref l)) Q E ⟨hp, g, d, tk, os⟩ :=
      fun q => wpAny_pyIter_tuple ht q
    wp_walk using q1
    refine wpAny_stack_any fun st => wpAny_pure ?_
    split
    · rename_i c _ _ _ _ _
      cases (c == Value.type "enumerate") <;> (wp_walk using q1; exact ⟨_, rfl, h⟩)
    · wp_walk using q1; exact ⟨_, rfl, h⟩
section
variable {prog : Program} {w : World} {A : Around} {E : Value → Shared → Prop} {s : Shared}
theorem dd_call_enumT {l : Addr} {its : Array Value} {Q : Value → Shared → Prop} (ht : s.heap.IsTuple l its)
    (h : ∀ h', IsEnum h' (s.heap.objs.size + 1) s.heap.objs.size 0 .none → h'.IsTupleIter s.heap.objs.size l 0 → h'.objs.size = s.heap.objs.size + 2 →
      (∀ b o, s.heap.get? b = some o → h'.get? b = some o) → Q (.ref (s.heap.objs.size + 1)) { s with heap := h' }) :
    wpAny (model prog w) A (call (.type "enumerate") [.ref l]) Q E s := by
  refine callType_new F.called_enumerate (by decide) (F.typeCall_enumerate_1 _) (F.newCall_enumerate_1 _) (fun obj => F.args_object_init_2 obj _) F.entry_enumerate_new (dd_enum_newT l its) ⟨ht, ?_⟩
  have hz : (s.heap.push { cls := .type "tuple_iterator", data := .fields #[.ref l, .int 0 0] }).objs.size = s.heap.objs.size + 1 := Heap.size_push ..
  show _ ∧ _
  rw [hz]
  have he : IsEnum ((s.heap.push { cls := .type "tuple_iterator", data := .fields #[.ref l, .int 0 0] }).push
      { cls := .type "enumerate", data := .fields #[.none, .bool false, .ref s.heap.objs.size, rawInt 0, .none, .none] }) (s.heap.objs.size + 1) s.heap.objs.size 0 .none := by
    have := Heap.get?_push_size (s.heap.push { cls := .type "tuple_iterator", data := .fields #[.ref l, .int 0 0] })
      (o := { cls := .type "enumerate", data := .fields #[.none, .bool false, .ref s.heap.objs.size, rawInt 0, .none, .none] }) rfl
    rw [hz] at this; exact this
  exact ⟨⟨_, he, rfl⟩, h _ he ⟨_, Heap.get?_push_of_some _ (Heap.get?_push_size _ rfl), rfl, rfl⟩ (by rw [Heap.size_push, hz]) fun b o x => Heap.get?_push_of_some _ (Heap.get?_push_of_some _ x)⟩
end
end PySem
namespace L2
open PySem PySem.Spec PyProof.Rows
/-- the tuple at a, its items numbered, each in a new pair -/
def IteT (K : PySem.W.Frag) (a : Addr) : It :=
  ⟨fun i H => ∃ (xs : List V) (x : V), SqT K H a xs ∧ xs[i]? = some x, fun i H v H' => ∃ T x, v = .ref T ∧ H T = none ∧ H' = upd H T (.tup [.int (i : Nat), x]) ∧ ∀ xs, SqT K H a xs → xs[i]? = some x, fun i H => ∃ xs : List V, SqT K H a xs ∧ xs.length ≤ i⟩
theorem dd_turn_enumT {P : Program} {w : World} {K : PySem.W.Frag} {elts : List Expr} {kk : Nat} {tpos : Pos} (a e it : Addr) (hai : a ≠ it) (hae : a ≠ e) (its : Array Value) :
    Turn P w K (.Tuple elts kk tpos) (IteT K a) [e, it] e (fun i h => (∃ old, IsEnum h e it ((i : Nat) : Int) old) ∧ h.IsTupleIter it a i ∧ e ≠ it) where
  mem := by simp
  obj := fun i h st b hb => by
    obtain ⟨⟨old, he⟩, ⟨o, ho, hc, hd⟩, _⟩ := st
    rcases (show b = e ∨ b = it by simpa using hb) with z | z
    · rw [z]; exact ⟨_, he, fun v q => nomatch q⟩
    · rw [z]; exact ⟨o, ho, fun v q => by rw [hd] at q; cases q⟩
  keep := fun i h h' ⟨⟨old, he⟩, hi, hne⟩ k => ⟨⟨old, k e (by simp) _ he⟩, hi.at fun o q => k it (by simp) o q, hne⟩
  item := by
    intro X hP hw hK hc i pins s σ H E I hf st hg
    subst hP hw hK
    obtain ⟨⟨old, he⟩, hit, hne⟩ := st
    obtain ⟨xs, x, hq, hx⟩ := hg
    obtain ⟨its, rv, p, hz⟩ := I.tuple hq
    obtain ⟨u, hu, ru⟩ := rv.get hx
    have hel : e < s.heap.objs.size := Heap.lt_size he
    have hil : it < s.heap.objs.size := by obtain ⟨_, q, _⟩ := hit; exact Heap.lt_size q
    have hlt : i < its.toArray.size := by
      have := (List.getElem?_eq_some_iff.mp hu).1
      simpa using this
    refine wpAny_pyNext_enum_itemD (Draws.tuple (prog := X.prog) (w := X.w) (A := X.A.in1) (I.ok.hd hc) it a hai its.toArray) he ⟨hit, p⟩ hlt hne (by simp; exact ⟨hne, fun z => hae z.symm⟩) fun y h' tk hy ho hst hT hsz hk => ?_
    have ey : y = u := by
      have e1 : its.toArray[i]? = some y := hy
      have e2 : its.toArray[i]? = some u := by simpa using hu
      rw [e1] at e2; exact Option.some.inj e2
    subst ey
    refine ⟨_, rfl, wpAny_letOwnedTupleGo_enum (s := { s with heap := h', toks := tk + 1 }) ho fun h'' he' sb => ?_⟩
    have hT2 : h''.get? s.heap.objs.size = some { cls := .type "tuple", data := .seq #[.int i tk, y] } := (sb.2 _ (Nat.ne_of_gt hel)).trans hT
    have new : ObjOk X.prog X.w (upd H s.heap.objs.size (.tup [.int (i : Nat), x])) h'' s.heap.objs.size (.tup [.int (i : Nat), x]) :=
      ⟨by show 2 ≤ sizeLine; decide, [.int i tk, y], .cons ⟨_, rfl⟩ (.cons ru .nil), ⟨_, hT2, rfl, _, rfl⟩⟩
    have I1 : Inv X pins σ (upd H s.heap.objs.size (.tup [.int (i : Nat), x])) { s with heap := h'', toks := tk + 1 } :=
      I.turnedNew (ch := [e, it]) (fun b ob hb q => (sb.2 b (fun z => hb (by simp [z]))).trans (hk b ob (fun z => hb (by simp [z])) (fun z => hb (by simp [z])) q)) hf (Nat.le_refl _) new
    refine ⟨.ref s.heap.objs.size, _, I1, rfl, ⟨_, x, rfl, I.hok.fresh (Nat.le_refl _), rfl, fun ys hy => by rw [I.tuple_inj hy hq]; exact hx⟩, ⟨⟨y, ?_⟩, hst.1.at fun o q => (sb.2 it (Ne.symm hne)).trans q, hne⟩, fun b hb => ?_⟩
    · have e1 : ((i + 1 : Nat) : Int) = (i : Int) + 1 := by omega
      rw [e1]; exact he'
    · have hb' : b < s.heap.objs.size := by
        rcases (show b = e ∨ b = it by simpa using hb) with z | z
        · rw [z]; exact hel
        · rw [z]; exact hil
      rw [upd_ne (Nat.ne_of_lt hb')]
      exact (hf b hb).1
  done := by
    intro X hP hw hK hc i pins s σ H E I hf st hg
    subst hP hw hK
    obtain ⟨⟨old, he⟩, hit, hne⟩ := st
    obtain ⟨xs, hq, hx⟩ := hg
    obtain ⟨its, rv, p, hz⟩ := I.tuple hq
    obtain ⟨f0, f1, f2, f3, f4, f5⟩ := hf it (by simp)
    have hl := rv.length
    have hend : its.toArray[i]? = none := by simp; omega
    refine wpAny_bind (m := (callSpecial? (.ref e) (Str.ofString "__next__")).attempt) ?_
    have hT : s.TypeIs (.ref e) "enumerate" := ⟨_, he, rfl⟩
    refine wpAny_attempt (wpAny_callSpecial?_slot (name := Str.ofString "__next__") hT F.slot_enumerate_next
      (wpAny_call_entry F.slot_enumerate_next hT F.entry_enumerate_next ?_ (F.args_enumerate_next_1 _)))
    show wpAny _ _ (field (.ref e) 2 >>= _) _ _ _
    refine wpAny_bind (wpAny_field he rfl (x := .ref it) rfl ?_)
    refine wpAny_bind (wpAny_nextOf_tuple_end (show (X.A.in1).handled = none from I.ok.hd hc) hit p hend fun h' x he' hx' => ?_)
    obtain ⟨o, ho, hc'⟩ := hx'
    refine wpAny_bind (wpAny_isInstance (T := "StopIteration") (b := true) ⟨o, ho, hc'⟩ isSubtype_stop ?_)
    exact wpAny_pure ⟨rfl, I.turned (t' := s.toks) (fun b o hb q => he' b o hb q) f0 f1 f3 f4 f5⟩
  self := fun A i s Q E st h => let ⟨⟨_, he⟩, _⟩ := st; wpAny_pyIter_enum he h
end L2

set_option Elab.async false
set_option linter.all false
set_option maxRecDepth 100000
set_option maxHeartbeats 4000000
namespace DD
open PySem PySem.Spec L2

/-! ### what is walked -/
def iterD : D → Option (List D)
  | .lst ds => some ds
  | .tup ds => some ds
  | .str x => some (x.cps.toList.map fun c => .str ⟨#[c]⟩)
  | _ => none
def iSeq (a : DTE) : DTA := fun δ G Q E => a δ G (fun x G1 => ∃ xs, iterD x = some xs ∧ Q xs G1) E
def iRg1 (a : DTA) : DTA := fun δ G Q E => a δ G (fun vs G1 => ∃ j : Int, vs = [.int j] ∧ j < 2 ^ 62 ∧ -(2 ^ 62) ≤ j ∧ Q ((List.range j.toNat).map fun k : Nat => D.int (k : Int)) G1) E
def iRg2 (a : DTA) : DTA := fun δ G Q E => a δ G (fun vs G1 => ∃ i j : Int, vs = [.int i, .int j] ∧ (-(2 ^ 62) ≤ i ∧ i < 2 ^ 62 ∧ -(2 ^ 62) ≤ j ∧ j < 2 ^ 62) ∧ Q ((List.range (j - i).toNat).map fun k : Nat => D.int (i + (k : Int))) G1) E
/-- numbered from n on -/
def numD : Nat → List D → List D
  | _, [] => []
  | n, x :: r => .tup [.int (n : Int), x] :: numD (n + 1) r
def iEn (a : DTE) : DTA := fun δ G Q E => a δ G (fun x G1 => ∃ xs, (x = .lst xs ∨ x = .tup xs) ∧ Q (numD 0 xs) G1) E
def zipD : List D → List D → List D
  | x :: r, y :: s => .tup [x, y] :: zipD r s
  | _, _ => []
def iZp (a : DTA) : DTA := fun δ G Q E => a δ G (fun vs G1 => ∃ xs ys, (vs = [.lst xs, .lst ys] ∨ vs = [.tup xs, .tup ys]) ∧ Q (zipD xs ys) G1) E
def iRv (a : DTE) : DTA := fun δ G Q E => a δ G (fun x G1 => ∃ xs, (x = .lst xs ∨ x = .tup xs) ∧ Q xs.reverse G1) E
theorem numD_length : ∀ (n : Nat) (xs : List D), (numD n xs).length = xs.length
  | _, [] => rfl
  | n, x :: r => congrArg (· + 1) (numD_length (n + 1) r)
theorem numD_get : ∀ (n : Nat) (xs : List D) (i : Nat), (numD n xs)[i]? = (xs[i]?).map fun x => D.tup [.int ((n + i : Nat) : Int), x]
  | _, [], i => by simp [numD]
  | n, x :: r, 0 => by simp [numD]
  | n, x :: r, i + 1 => by
    have h := numD_get (n + 1) r i
    simp only [numD, List.getElem?_cons_succ]
    rw [h]
    have e : n + 1 + i = n + (i + 1) := by omega
    rw [e]
theorem zipD_length : ∀ (xs ys : List D), (zipD xs ys).length = min xs.length ys.length
  | [], _ => by simp [zipD]
  | _ :: _, [] => by simp [zipD]
  | x :: r, y :: s => by simp [zipD, zipD_length r s]
theorem zipD_get : ∀ (xs ys : List D) (i : Nat) (x y : D), xs[i]? = some x → ys[i]? = some y → (zipD xs ys)[i]? = some (.tup [x, y])
  | [], _, i, x, y, h, _ => by simp at h
  | _ :: _, [], i, x, y, _, h => by simp at h
  | a :: r, b :: s, 0, x, y, h1, h2 => by simp at h1 h2; subst h1 h2; rfl
  | a :: r, b :: s, i + 1, x, y, h1, h2 => by simp [zipD]; exact zipD_get r s i x y (by simpa using h1) (by simpa using h2)
section
variable {K : PySem.W.Frag} {H : Hp} {M : Gh}
theorem SqL.rd {a : Addr} {xs : List V} (h : Rd H a (.lst xs)) : SqL K H a xs := .inl h
theorem Im.lstS {a : Addr} {ds : List D} (im : Im K H M (.ref a) (.lst ds)) : ∃ xs, SqL K H a xs ∧ ImL K H M xs ds := by
  cases im with
  | lst m h r => exact ⟨_, .inl h, r⟩
  | lstK h r => exact ⟨_, h H, r⟩
theorem Im.tupS {a : Addr} {ds : List D} (im : Im K H M (.ref a) (.tup ds)) : ∃ xs, SqT K H a xs ∧ ImL K H M xs ds := by
  cases im with
  | tup m h r => exact ⟨_, .inl h, r⟩
  | tupK h r => exact ⟨_, h H, r⟩
theorem at_some {xs : List V} {ds : List D} {i : Nat} (r : ImL K H M xs ds) (h : i < ds.length) : ∃ x d, xs[i]? = some x ∧ ds[i]? = some d ∧ Im K H M x d := by
  have e : ds[i]? = some ds[i] := List.getElem?_eq_getElem h
  obtain ⟨x, hx, im⟩ := r.get e
  exact ⟨x, _, hx, e, im⟩
theorem it_lst {a : Addr} {ds : List D} (im : Im K H M (.ref a) (.lst ds)) : Iterates K (Itl K a) ds H M := fun H2 M2 f dom i => by
  obtain ⟨xs, hs, r⟩ := (im.mono f.stay).lstS
  refine ⟨fun hi => ?_, fun hi => ⟨xs, hs, by rw [r.length]; exact hi⟩⟩
  obtain ⟨x, d, hx, hd, imx⟩ := at_some r hi
  refine ⟨⟨xs, x, hs, hx⟩, fun y H3 ⟨e, hy⟩ => ?_⟩
  subst e
  have e2 := hy xs hs
  rw [hx] at e2
  cases e2
  exact ⟨d, hd, Same.refl _, imx⟩
theorem it_tup {a : Addr} {ds : List D} (im : Im K H M (.ref a) (.tup ds)) : Iterates K (Itt K a) ds H M := fun H2 M2 f dom i => by
  obtain ⟨xs, hs, r⟩ := (im.mono f.stay).tupS
  refine ⟨fun hi => ?_, fun hi => ⟨xs, hs, by rw [r.length]; exact hi⟩⟩
  obtain ⟨x, d, hx, hd, imx⟩ := at_some r hi
  refine ⟨⟨xs, x, hs, hx⟩, fun y H3 ⟨e, hy⟩ => ?_⟩
  subst e
  have e2 := hy xs hs
  rw [hx] at e2
  cases e2
  exact ⟨d, hd, Same.refl _, imx⟩
theorem strOk_one {x : Str} {c : Nat} {i : Nat} (h : PyData.strOk x = true) (e : x.cps[i]? = some c) : PyData.strOk ⟨#[c]⟩ = true := by
  have h1 : x.cps.all (· < 0x110000) = true := h
  rw [Array.all_eq_true] at h1
  obtain ⟨hi, rfl⟩ := Array.getElem?_eq_some_iff.mp e
  have := h1 i hi
  show (#[x.cps[i]] : Array Nat).all (· < 0x110000) = true
  simpa using this
theorem it_str {x : Str} (ok : PyData.strOk x = true) : Iterates K (Its x) (x.cps.toList.map fun c => .str ⟨#[c]⟩) H M := fun H2 M2 f dom i => by
  refine ⟨fun hi => ⟨(by simpa using hi : i < x.cps.size), fun y H3 ⟨e, c, hc, ey⟩ => ?_⟩, fun hi => (by simpa using hi : x.cps.size ≤ i)⟩
  subst e ey
  refine ⟨.str ⟨#[c]⟩, ?_, Same.refl _, .str (strOk_one ok hc)⟩
  rw [List.getElem?_map, Array.getElem?_toList, hc]
  rfl
theorem it_rng {lo : Int} {n : Nat} : Iterates K (Itr lo n) ((List.range n).map fun k : Nat => .int (lo + (k : Int))) H M := fun H2 M2 f dom i => by
  refine ⟨fun hi => ⟨(by simpa using hi : i < n), fun y H3 ⟨e, ey⟩ => ?_⟩, fun hi => (by simpa using hi : n ≤ i)⟩
  subst e ey
  have hi' : i < n := by simpa using hi
  exact ⟨.int (lo + (i : Int)), by simp [hi'], Same.refl _, .int⟩
theorem it_rng0 {n : Nat} : Iterates K (Itr 0 n) ((List.range n).map fun k : Nat => .int (k : Int)) H M := by
  have h := it_rng (K := K) (H := H) (M := M) (lo := 0) (n := n)
  have e : ((List.range n).map fun k : Nat => D.int (0 + (k : Int))) = (List.range n).map fun k : Nat => D.int (k : Int) := by simp
  rw [e] at h
  exact h
theorem Keep.same {H' : Hp} (s : Same H H') : Keep H M H' M := fun b o h => ⟨s b o h, rfl⟩
theorem it_enL {a : Addr} {ds : List D} (im : Im K H M (.ref a) (.lst ds)) : Iterates K (Ite K a) (numD 0 ds) H M := fun H2 M2 f dom i => by
  obtain ⟨xs, hs, r⟩ := (im.mono f.stay).lstS
  rw [numD_length]
  refine ⟨fun hi => ?_, fun hi => ⟨xs, hs, by rw [r.length]; exact hi⟩⟩
  obtain ⟨x, d, hx, hd, imx⟩ := at_some r hi
  refine ⟨⟨xs, x, hs, hx⟩, fun y H3 ⟨T, x', ey, hT, e, hy⟩ => ?_⟩
  subst e ey
  have e2 := hy xs hs
  rw [hx] at e2
  cases e2
  refine ⟨.tup [.int (i : Nat), d], ?_, Same.new hT, Im.newTup dom hT (.cons .int (.cons imx .nil))⟩
  rw [numD_get, hd]; simp
theorem it_enT {a : Addr} {ds : List D} (im : Im K H M (.ref a) (.tup ds)) : Iterates K (IteT K a) (numD 0 ds) H M := fun H2 M2 f dom i => by
  obtain ⟨xs, hs, r⟩ := (im.mono f.stay).tupS
  rw [numD_length]
  refine ⟨fun hi => ?_, fun hi => ⟨xs, hs, by rw [r.length]; exact hi⟩⟩
  obtain ⟨x, d, hx, hd, imx⟩ := at_some r hi
  refine ⟨⟨xs, x, hs, hx⟩, fun y H3 ⟨T, x', ey, hT, e, hy⟩ => ?_⟩
  subst e ey
  have e2 := hy xs hs
  rw [hx] at e2
  cases e2
  refine ⟨.tup [.int (i : Nat), d], ?_, Same.new hT, Im.newTup dom hT (.cons .int (.cons imx .nil))⟩
  rw [numD_get, hd]; simp
theorem it_zpL {a b : Addr} {ds es : List D} (im : Im K H M (.ref a) (.lst ds)) (im2 : Im K H M (.ref b) (.lst es)) : Iterates K (Itz K a b) (zipD ds es) H M := fun H2 M2 f dom i => by
  obtain ⟨xs, hs, r⟩ := (im.mono f.stay).lstS
  obtain ⟨ys, hs2, r2⟩ := (im2.mono f.stay).lstS
  rw [zipD_length]
  refine ⟨fun hi => ?_, fun hi => ⟨xs, ys, hs, hs2, by rw [r.length, r2.length]; omega⟩⟩
  obtain ⟨x, d, hx, hd, imx⟩ := at_some r (show i < ds.length by omega)
  obtain ⟨y, e, hy, he, imy⟩ := at_some r2 (show i < es.length by omega)
  refine ⟨⟨xs, ys, x, y, hs, hs2, hx, hy⟩, fun v H3 ⟨T, x', y', ev, hT, eH, h1, h2⟩ => ?_⟩
  subst eH ev
  have e1 := h1 xs hs
  rw [hx] at e1
  cases e1
  have e2 := h2 ys hs2
  rw [hy] at e2
  cases e2
  exact ⟨.tup [d, e], zipD_get ds es i d e hd he, Same.new hT, Im.newTup dom hT (.cons imx (.cons imy .nil))⟩
theorem it_zpT {a b : Addr} {ds es : List D} (im : Im K H M (.ref a) (.tup ds)) (im2 : Im K H M (.ref b) (.tup es)) : Iterates K (RZ.ItzT K a b) (zipD ds es) H M := fun H2 M2 f dom i => by
  obtain ⟨xs, hs, r⟩ := (im.mono f.stay).tupS
  obtain ⟨ys, hs2, r2⟩ := (im2.mono f.stay).tupS
  rw [zipD_length]
  refine ⟨fun hi => ?_, fun hi => ⟨xs, ys, hs, hs2, by rw [r.length, r2.length]; omega⟩⟩
  obtain ⟨x, d, hx, hd, imx⟩ := at_some r (show i < ds.length by omega)
  obtain ⟨y, e, hy, he, imy⟩ := at_some r2 (show i < es.length by omega)
  refine ⟨⟨xs, ys, x, y, hs, hs2, hx, hy⟩, fun v H3 ⟨T, x', y', ev, hT, eH, h1, h2⟩ => ?_⟩
  subst eH ev
  have e1 := h1 xs hs
  rw [hx] at e1
  cases e1
  have e2 := h2 ys hs2
  rw [hy] at e2
  cases e2
  exact ⟨.tup [d, e], zipD_get ds es i d e hd he, Same.new hT, Im.newTup dom hT (.cons imx (.cons imy .nil))⟩
end
section
variable {X : Cx} {W : WX} {tg e a b : Expr} {d : DTE} {da : DTA} {p pos tpos : Pos} {elts : List Expr} {kk : Nat}
theorem di_seq (he : DE X W e d) : DI X W tg e (iSeq d) := by
  refine ⟨fun pins s σ H R I h => ?_⟩
  obtain ⟨M, δ, G, Q, QE, rs, d, ex, k⟩ := h
  refine thn (he.run pins s σ H (fun v H1 => ∃ dv G1 M1, Frame H M H1 M1 ∧ RS X.K H1 M1 σ δ G1 ∧ Im X.K H1 M1 v dv ∧ ∃ xs, iterD dv = some xs ∧ Q xs G1) I ⟨M, δ, G, _, QE, rs, d, ex, fun v dv G1 H1 M1 f1 rs1 im q => ⟨dv, G1, M1, f1, rs1, im, q⟩⟩) fun v s1 ⟨x, H1, I1, r1, dv, G1, M1, f1, rs1, im, xs, hx, q⟩ => ?_
  have fin : ∀ {b : Addr}, s1.heap.objs.size ≤ b → FpOk X pins H1 b := fun {b} hb => I1.fpOk hb (I1.hok.fresh hb)
  cases dv with
  | lst ds =>
    cases hx
    have hh : ∃ (a0 : Addr) (vs0 : List V), x = .ref a0 ∧ SqL X.K H1 a0 vs0 := by
      obtain ⟨a0, vs0, ex, hs, _⟩ := (Tm.of im).lst
      exact ⟨a0, vs0, ex, hs⟩
    obtain ⟨a0, vs0, ex, hs⟩ := hh
    subst ex
    cases r1
    obtain ⟨its, rv, pl, hz⟩ := I1.list hs
    refine wpAny_pyIter_list pl.isList ⟨s1.heap.objs.size, [s1.heap.objs.size], _, _, H1, rfl, I1.kept (t' := s1.toks) fun b o e => Heap.get?_push_of_some _ e, turn_list a0 _, ⟨_, Heap.get?_push_size _ rfl, rfl, rfl⟩, fun b hb => ?_, k (Itl X.K a0) _ G1 H1 M1 f1 rs1 (it_lst im) q⟩
    rw [show b = s1.heap.objs.size by simpa using hb]
    exact fin (Nat.le_refl _)
  | tup ds =>
    cases hx
    have hh : ∃ (a0 : Addr) (vs0 : List V), x = .ref a0 ∧ SqT X.K H1 a0 vs0 := by
      obtain ⟨a0, vs0, ex, hs, _⟩ := (Tm.of im).tup
      exact ⟨a0, vs0, ex, hs⟩
    obtain ⟨a0, vs0, ex, hs⟩ := hh
    subst ex
    cases r1
    obtain ⟨its, rv, pl, hz⟩ := I1.tuple hs
    refine wpAny_pyIter_tuple (show s1.heap.IsTuple a0 its.toArray from pl) ⟨s1.heap.objs.size, [s1.heap.objs.size], _, _, H1, rfl, I1.kept (t' := s1.toks) fun b o e => Heap.get?_push_of_some _ e, turn_tuple a0 _, ⟨_, Heap.get?_push_size _ rfl, rfl, rfl⟩, fun b hb => ?_, k (Itt X.K a0) _ G1 H1 M1 f1 rs1 (it_tup im) q⟩
    rw [show b = s1.heap.objs.size by simpa using hb]
    exact fin (Nat.le_refl _)
  | str z =>
    cases hx
    have ok := (Tm.of im).str
    cases im
    obtain ⟨t, rfl⟩ := r1
    have q2 := k (Its z) _ G1 H1 M1 f1 rs1 (it_str ok) q
    cases ha : z.cps.all (· < 128)
    · exact wpAny_pyIter_wide ha (pi_one (tk := s1.toks) I1 _ (turn_str _ z t "str_iterator" (.inr rfl)) ⟨_, Heap.get?_push_size _ rfl, rfl, rfl⟩ q2)
    · exact wpAny_pyIter_ascii ha (pi_one (tk := s1.toks) I1 _ (turn_str _ z t "str_ascii_iterator" (.inl rfl)) ⟨_, Heap.get?_push_size _ rfl, rfl, rfl⟩ q2)
  | _ => cases hx
theorem _root_.L2.PI.imp {X : Cx} {tg e : Expr} {t t' : TI} (h : PI X tg e t) (i : ∀ σ H R, t' σ H R → t σ H R) : PI X tg e t' := ⟨fun pins s σ H Q I q => h.run pins s σ H Q I (i _ _ _ q)⟩
theorem di_rng1 (hg : Gl X "range") (hm : X.mg "range" = none) (ha : DA X W [a] da) (hs : starEach [a] X.env = [(false, eval a X.env)] := by rfl) : DI X W tg (.Call (.Name "range" p) [a] [] pos) (iRg1 da) := (pi_range1 (p := p) (pos := pos) hg hm ha hs).imp fun σ H R ⟨M, δ, G, Q, QE, rs, d, ex, k⟩ => by
  refine ⟨M, δ, G, _, QE, rs, d, ex, fun vs ds G1 H1 M1 f1 rs1 iml ⟨j, e, h1, h2, q⟩ => ?_⟩
  subst e
  cases iml with
  | cons im iml =>
    cases iml
    cases im
    exact ⟨j, rfl, h2, h1, k _ _ G1 H1 M1 f1 rs1 it_rng0 q⟩
theorem di_rng2 (hg : Gl X "range") (hm : X.mg "range" = none) (ha : DA X W [a, b] da) (hs : starEach [a, b] X.env = [(false, eval a X.env), (false, eval b X.env)] := by rfl) (hs2 : starEach [b] X.env = [(false, eval b X.env)] := by rfl) : DI X W tg (.Call (.Name "range" p) [a, b] [] pos) (iRg2 da) := (pi_range2 (p := p) (pos := pos) hg hm ha hs hs2).imp fun σ H R ⟨M, δ, G, Q, QE, rs, d, ex, k⟩ => by
  refine ⟨M, δ, G, _, QE, rs, d, ex, fun vs ds G1 H1 M1 f1 rs1 iml ⟨i, j, e, h1, q⟩ => ?_⟩
  subst e
  cases iml with
  | cons im iml =>
    cases iml with
    | cons im2 iml =>
      cases iml
      cases im
      cases im2
      exact ⟨i, j, rfl, h1, k _ _ G1 H1 M1 f1 rs1 it_rng q⟩
theorem di_enum (hg : Gl X "enumerate") (hm : X.mg "enumerate" = none) (he : DE X W a d) (hs : starEach [a] X.env = (false, eval a X.env) :: starEach [] X.env := by rfl) : DI X W (.Tuple elts kk tpos) (.Call (.Name "enumerate" p) [a] [] pos) (iEn d) := by
  refine ⟨fun pins s σ H R I h => ?_⟩
  obtain ⟨M, δ, G, Q, QE, rs, d, ex, k⟩ := h
  refine PyProof.Rows.Call_ (ld_blt I hg hm PyProof.Rows.boot_enumerate (PyProof.Rows.callWith_type1 (thn ((pa_cons he pa_nil hs).run pos pins s σ H (fun vs H1 => ∃ v dv G1 M1, vs = [v] ∧ Frame H M H1 M1 ∧ RS X.K H1 M1 σ δ G1 ∧ Im X.K H1 M1 v dv ∧ ∃ xs, (dv = .lst xs ∨ dv = .tup xs) ∧ Q (numD 0 xs) G1) I ⟨M, δ, G, _, QE, rs, d, ex, fun v dv G1 H1 M1 f1 rs1 im q => ⟨v, dv, G1, M1, rfl, f1, rs1, im, q⟩⟩) fun us s1 ⟨vs, H1, I1, r1, v, dv, G1, M1, ev, f1, rs1, im, xs, hx, q⟩ => ?_) (by rw [hs]) rfl))
  subst ev
  cases r1 with
  | cons r rr =>
    cases rr
    have fp2 : ∀ b, b ∈ [s1.heap.objs.size + 1, s1.heap.objs.size] → FpOk X pins H1 b := fun b hb => by
      have hle : s1.heap.objs.size ≤ b := by
        rcases (show b = s1.heap.objs.size + 1 ∨ b = s1.heap.objs.size by simpa using hb) with z | z
        · rw [z]; exact Nat.le_add_right _ _
        · rw [z]; exact Nat.le_refl _
      exact I1.fpOk hle (I1.hok.fresh hle)
    rcases hx with rfl | rfl
    · obtain ⟨a0, vs0, ex0, hs0, _⟩ := (Tm.of im).lst
      subst ex0
      cases r
      obtain ⟨its, rv, pl, hz⟩ := I1.list hs0
      refine call_enumerate_list pl.isList fun h' he hit hsz hk => wpAny_pyIter_enum he ?_
      have I2 : Inv X pins σ H1 { s1 with heap := h' } := I1.kept (t' := s1.toks) hk
      exact ⟨s1.heap.objs.size + 1, [s1.heap.objs.size + 1, s1.heap.objs.size], _, _, H1, rfl, I2, turn_enum a0 (s1.heap.objs.size + 1) s1.heap.objs.size, ⟨⟨.none, he⟩, hit, Nat.succ_ne_self _⟩, fp2, k _ _ G1 H1 M1 f1 rs1 (it_enL im) q⟩
    · obtain ⟨a0, vs0, ex0, hs0, _⟩ := (Tm.of im).tup
      subst ex0
      cases r
      obtain ⟨its, rv, pl, hz⟩ := I1.tuple hs0
      have hlt : a0 < s1.heap.objs.size := by
        obtain ⟨o, ho, _⟩ := id pl
        exact Heap.lt_size ho
      refine dd_call_enumT (show s1.heap.IsTuple a0 its.toArray from pl) fun h' he hit hsz hk => wpAny_pyIter_enum he ?_
      have I2 : Inv X pins σ H1 { s1 with heap := h' } := I1.kept (t' := s1.toks) hk
      exact ⟨s1.heap.objs.size + 1, [s1.heap.objs.size + 1, s1.heap.objs.size], _, _, H1, rfl, I2, dd_turn_enumT a0 (s1.heap.objs.size + 1) s1.heap.objs.size (Nat.ne_of_lt hlt) (Nat.ne_of_lt (Nat.lt_succ_of_lt hlt)) #[], ⟨⟨.none, he⟩, hit, Nat.succ_ne_self _⟩, fp2, k _ _ G1 H1 M1 f1 rs1 (it_enT im) q⟩
theorem di_zip (hg : Gl X "zip") (hm : X.mg "zip" = none) (ha : DA X W [a, b] da) (hs : starEach [a, b] X.env = (false, eval a X.env) :: starEach [b] X.env := by rfl) (hpl : (backTo pos (starEach [b] X.env)).any (·.1) = false := by rfl) : DI X W (.Tuple elts kk tpos) (.Call (.Name "zip" p) [a, b] [] pos) (iZp da) := (RZ.pi_zipA (p := p) hg hm ha hs hpl).imp fun σ H R ⟨M, δ, G, Q, QE, rs, d, ex, k⟩ => by
  refine ⟨M, δ, G, _, QE, rs, d, ex, fun vs ds G1 H1 M1 f1 rs1 iml ⟨xs, ys, e, q⟩ => ?_⟩
  rcases e with rfl | rfl
  · cases iml with
    | cons im iml =>
      cases iml with
      | cons im2 iml =>
        cases iml
        obtain ⟨a0, us, rfl, h1, _⟩ := (Tm.of im).lst
        obtain ⟨b0, ws, rfl, h2, _⟩ := (Tm.of im2).lst
        exact ⟨a0, b0, us, ws, rfl, .inl ⟨h1, h2, k _ _ G1 H1 M1 f1 rs1 (it_zpL im im2) q⟩⟩
  · cases iml with
    | cons im iml =>
      cases iml with
      | cons im2 iml =>
        cases iml
        obtain ⟨a0, us, rfl, h1, _⟩ := (Tm.of im).tup
        obtain ⟨b0, ws, rfl, h2, _⟩ := (Tm.of im2).tup
        exact ⟨a0, b0, us, ws, rfl, .inr ⟨h1, h2, k _ _ G1 H1 M1 f1 rs1 (it_zpT im im2) q⟩⟩
end

/-! ### comprehensions -/
def dwipe (δ : DSt) : List Nat → DSt
  | [] => δ
  | v :: vs => (dwipe δ vs).set v none
theorem RS.wipe {K : PySem.W.Frag} {H : Hp} {M : Gh} {σ : St} {δ : DSt} {G : DG} (r : RS K H M σ δ G) : ∀ vs : List Nat, RS K H M (wipe σ vs) (dwipe δ vs) G
  | [] => r
  | v :: vs => (RS.wipe r vs).setN
/-- what the elements make of the items -/
def lcL (g : DTG) (tt : DTT) (te : DTE) (δ : DSt) (Q : List D → DG → Prop) : List D → List D → DG → Prop
  | [], acc, G => Q acc G
  | x :: r, acc, G => g x δ G (fun δ' G' => tt δ' G' (fun b G2 => if b = true then te δ' G2 (fun y G3 => acc.length < 1000000 ∧ lcL g tt te δ Q r (acc ++ [y]) G3) (fun _ _ => False) else lcL g tt te δ Q r acc G2) (fun _ _ => False))
def dLc (it : DTA) (g : DTG) (tt : DTT) (te : DTE) (vs : List Nat) : DTA := fun δ G Q E => it δ G (fun xs G1 => lcL g tt te (dwipe δ vs) Q xs [] G1) E
def ttYes : DTT := fun _ G Q _ => Q true G
def W0 : WX := fun _ _ _ _ => False
abbrev DTs (X : Cx) (ifs : List Expr) (d : DTT) : Prop := PTs X ifs (rdT X.K W0 d)
theorem _root_.L2.PTs.imp {X : Cx} {e : List Expr} {t t' : TT} (h : PTs X e t) (i : ∀ σ H R, t' σ H R → t σ H R) : PTs X e t' := ⟨fun pins s σ H Q I q => h.run pins s σ H Q I (i _ _ _ q)⟩
theorem dts_nil {X : Cx} : DTs X [] ttYes := pts_nil.imp fun σ H R ⟨M, δ, G, Q, QE, rs, d, ex, k⟩ => k true G H M (Frame.refl H M) rs d
theorem dts_one {X : Cx} {c : Expr} {d : DTT} (h : DT X W0 c d) : DTs X [c] d := pts_one h
end DD

set_option Elab.async false
set_option linter.all false
set_option maxRecDepth 100000
set_option maxHeartbeats 4000000
namespace DD
open PySem PySem.Spec L2

/-! ### comprehensions: their targets -/
def rdGc (K : PySem.W.Frag) (vs : List Nat) (d : DTG) : TG := fun v σ H R => ∃ M δ G dv Q, RS K H M σ δ G ∧ Im K H M v dv ∧ d dv δ G Q ∧ ∀ σ' δ' G' H' M', Frame H M H' M' → RS K H' M' σ' δ' G' → wipe σ' vs = wipe σ vs → dwipe δ' vs = dwipe δ vs → Q δ' G' → R σ' H'
abbrev DGc (X : Cx) (vs : List Nat) (tg : Expr) (d : DTG) : Prop := PG X tg (rdGc X.K vs d)
theorem wipe_get {σ : St} {j : Nat} : ∀ vs : List Nat, (wipe σ vs)[j]? = if j ∈ vs ∧ j < σ.length then some none else σ[j]?
  | [] => by simp [wipe]
  | v :: vs => by
    show ((wipe σ vs).set v none)[j]? = _
    by_cases hj : v = j
    · subst hj
      by_cases hl : v < σ.length
      · rw [List.getElem?_set_self (by rw [wipe_length]; exact hl), if_pos ⟨by simp, hl⟩]
      · rw [if_neg (fun z => hl z.2), List.getElem?_eq_none (by rw [List.length_set, wipe_length]; omega), List.getElem?_eq_none (by omega)]
    · rw [List.getElem?_set_ne hj, wipe_get vs]
      by_cases hm : j ∈ vs
      · by_cases hl : j < σ.length
        · rw [if_pos ⟨hm, hl⟩, if_pos ⟨by simp [hm], hl⟩]
        · rw [if_neg (fun z => hl z.2), if_neg (fun z => hl z.2)]
      · rw [if_neg (fun z => hm z.1), if_neg (fun z => by
          rcases List.mem_cons.mp z.1 with e | e
          · exact hj e.symm
          · exact hm e)]
theorem dwipe_length (δ : DSt) : ∀ vs : List Nat, (dwipe δ vs).length = δ.length
  | [] => rfl
  | v :: vs => by unfold dwipe; rw [List.length_set, dwipe_length δ vs]
theorem dwipe_get {δ : DSt} {j : Nat} : ∀ vs : List Nat, (dwipe δ vs)[j]? = if j ∈ vs ∧ j < δ.length then some none else δ[j]?
  | [] => by simp [dwipe]
  | v :: vs => by
    show ((dwipe δ vs).set v none)[j]? = _
    by_cases hj : v = j
    · subst hj
      by_cases hl : v < δ.length
      · rw [List.getElem?_set_self (by rw [dwipe_length]; exact hl), if_pos ⟨by simp, hl⟩]
      · rw [if_neg (fun z => hl z.2), List.getElem?_eq_none (by rw [List.length_set, dwipe_length]; omega), List.getElem?_eq_none (by omega)]
    · rw [List.getElem?_set_ne hj, dwipe_get vs]
      by_cases hm : j ∈ vs
      · by_cases hl : j < δ.length
        · rw [if_pos ⟨hm, hl⟩, if_pos ⟨by simp [hm], hl⟩]
        · rw [if_neg (fun z => hl z.2), if_neg (fun z => hl z.2)]
      · rw [if_neg (fun z => hm z.1), if_neg (fun z => by
          rcases List.mem_cons.mp z.1 with e | e
          · exact hj e.symm
          · exact hm e)]
theorem wipe_set {σ : St} {i : Nat} {x : Option V} {vs : List Nat} (h : i ∈ vs) : wipe (σ.set i x) vs = wipe σ vs := by
  apply List.ext_getElem?
  intro j
  rw [wipe_get, wipe_get, List.length_set]
  by_cases hj : j ∈ vs ∧ j < σ.length
  · rw [if_pos hj, if_pos hj]
  · rw [if_neg hj, if_neg hj]
    by_cases e : i = j
    · subst e
      have hl : ¬ i < σ.length := fun z => hj ⟨h, z⟩
      rw [List.getElem?_eq_none (by rw [List.length_set]; omega), List.getElem?_eq_none (by omega)]
    · rw [List.getElem?_set_ne e]
theorem dwipe_set {δ : DSt} {i : Nat} {x : Option SV} {vs : List Nat} (h : i ∈ vs) : dwipe (δ.set i x) vs = dwipe δ vs := by
  apply List.ext_getElem?
  intro j
  rw [dwipe_get, dwipe_get, List.length_set]
  by_cases hj : j ∈ vs ∧ j < δ.length
  · rw [if_pos hj, if_pos hj]
  · rw [if_neg hj, if_neg hj]
    by_cases e : i = j
    · subst e
      have hl : ¬ i < δ.length := fun z => hj ⟨h, z⟩
      rw [List.getElem?_eq_none (by rw [List.length_set]; omega), List.getElem?_eq_none (by omega)]
    · rw [List.getElem?_set_ne e]
theorem dgc_name {X : Cx} {vs : List Nat} {i : Nat} {x : Str} {pos : Pos} (hv : i ∈ vs) (hN : X.N.Nodup) (hi : X.N[i]? = some x) (hx : Loc X.env.scope x) (hf : X.fn x = true ∨ X.env.scope.names.lookup x = some .local := by first | exact .inl rfl | exact .inr rfl | assumption) : DGc X vs (.Name x pos) (gN i) :=
  (pg_name (pos := pos) hN hi hx hf).imp fun v σ H R ⟨M, δ, G, dv, Q, rs, im, q, k⟩ => k _ _ G H M (Frame.refl H M) (rs.setV im) (wipe_set hv) (dwipe_set hv) q
def rdGcs (K : PySem.W.Frag) (vs : List Nat) (d : DTGs) : TGs := fun us σ H R => ∃ M δ G ds Q, RS K H M σ δ G ∧ ImL K H M us ds ∧ d ds δ G Q ∧ ∀ σ' δ' G' H' M', Frame H M H' M' → RS K H' M' σ' δ' G' → wipe σ' vs = wipe σ vs → dwipe δ' vs = dwipe δ vs → Q δ' G' → R σ' H'
abbrev DGcs (X : Cx) (vs : List Nat) (es : List Expr) (d : DTGs) : Prop := PGs X es (rdGcs X.K vs d)
theorem dgcs_nil {X : Cx} {vs : List Nat} : DGcs X vs [] gsNil := pgs_nil.imp fun us σ H R ⟨M, δ, G, ds, Q, rs, im, ⟨e, q⟩, k⟩ => by
  subst e
  cases im
  exact ⟨rfl, k σ δ G H M (Frame.refl H M) rs rfl rfl q⟩
theorem dgcs_cons {X : Cx} {vs : List Nat} {e : Expr} {es : List Expr} {t : DTG} {u : DTGs} (h1 : DGc X vs e t) (h2 : DGcs X vs es u)
    (hs : (assignEach (e :: es) X.env).map (·.2) = assign e X.env :: (assignEach es X.env).map (·.2) := by rfl) : DGcs X vs (e :: es) (gsCons t u) := (pgs_cons h1 h2 hs).imp fun us σ H R ⟨M, δ, G, ds, Q, rs, im, ⟨y, ys, e, q⟩, k⟩ => by
  subst e
  cases im with
  | cons im iml =>
    refine ⟨_, _, rfl, M, δ, G, y, _, rs, im, q, fun σ' δ' G' H' M' f rs' w1 w2 q' => ?_⟩
    exact ⟨M', δ', G', ys, Q, rs', ImL.mono f.stay iml, q', fun σ2 δ2 G2 H2 M2 f2 rs2 w3 w4 q2 => k σ2 δ2 G2 H2 M2 (f.trans f2) rs2 (w3.trans w1) (w4.trans w2) q2⟩
theorem dgc_tup {X : Cx} {vs : List Nat} {es : List Expr} {k0 : Nat} {t : DTGs} {n : Nat} {pos : Pos} (hc : X.calm = true) (h : DGcs X vs es t)
    (hn : (assignEach es X.env).length = n := by rfl) (hst : (assignEach es X.env).findIdx? (·.1) = none := by rfl) : DGc X vs (.Tuple es k0 pos) (gT n t) := (pg_tup (pos := pos) (k := k0) hc h hn hst).imp fun v σ H R ⟨M, δ, G, dv, Q, rs, im, ⟨xs, e, hl, q⟩, k⟩ => by
  subst e
  obtain ⟨a, us, rfl, hs, iml⟩ := (Tm.of im).tup
  exact ⟨a, us, rfl, hs, by rw [iml.length]; exact hl, M, δ, G, xs, Q, rs, iml, q, k⟩
/-- from within the block to the def around -/
theorem RS.unwipe {K : PySem.W.Frag} {H : Hp} {M : Gh} {σ σ2 : St} {δ δ2 : DSt} {G : DG} {vs : List Nat} (r : RS K H M σ2 δ2 G) (l : σ.length = δ.length) (w : L2.wipe σ2 vs = L2.wipe σ vs) (dw : dwipe δ2 vs = dwipe δ vs) (own : dwipe δ vs = δ) : RS K H M σ δ G := by
  refine ⟨r.g, l, fun i s h => ?_⟩
  have hi : ¬ (i ∈ vs ∧ i < δ.length) := fun z => by
    have e := dwipe_get (δ := δ) (j := i) vs
    rw [own, if_pos z, h] at e
    cases e
  have hlt : i < δ.length := (List.getElem?_eq_some_iff.mp h).1
  have hv : i ∉ vs := fun z => hi ⟨z, hlt⟩
  have e2 : δ2[i]? = some (some s) := by
    have e := dwipe_get (δ := δ2) (j := i) vs
    rw [dw, own, if_neg (fun z => hv z.1)] at e
    rw [← e]; exact h
  obtain ⟨x, hx, q⟩ := r.slot i s e2
  refine ⟨x, ?_, q⟩
  have e3 := wipe_get (σ := σ) (j := i) vs
  have e4 := wipe_get (σ := σ2) (j := i) vs
  rw [if_neg (fun z => hv z.1)] at e3 e4
  rw [← e3, ← w, e4]; exact hx
theorem ImL.snoc {K : PySem.W.Frag} {H : Hp} {M : Gh} {vs : List V} {ds : List D} {v : V} {d : D} (r : ImL K H M vs ds) (im : Im K H M v d) : ImL K H M (vs ++ [v]) (ds ++ [d]) := r.append (.cons im .nil)
/-- a list of nobody's is changed -/
theorem RS.atOther {K : PySem.W.Frag} {H : Hp} {M : Gh} {σ : St} {δ : DSt} {G : DG} {l : Addr} {o : HO} (r : RS K H M σ δ G) (m : M l = some .other) : RS K (upd H l o) M σ δ G :=
  ⟨⟨fun a u h => by
    obtain ⟨ma, q⟩ := r.g.obj a u h
    exact ⟨ma, q.at m (fun e => by rw [e, m] at ma; cases ma) fun f e => by cases e⟩, dom_at r.g.dom⟩, r.len, fun i s h => let ⟨x, hx, q⟩ := r.slot i s h; ⟨x, hx, q.at m fun e => by cases e⟩⟩
theorem lc_run {X : Cx} {W : WX} {own : List (Str × Nat)} {it : DTA} {g : DTG} {tt : DTT} {te : DTE} {σ : St} {H : Hp} {R : VK} (h : rdF X.K W (fun δ G Q E => dwipe δ (own.map (·.2)) = δ ∧ dLc it g tt te (own.map (·.2)) δ G Q E) σ H R) :
    tLc (rdI X.K W it) (rdGc X.K (own.map (·.2)) g) (rdT X.K W0 tt) (rdE X.K W0 te) (own.map (·.2)) σ H R := by
  obtain ⟨M, δ, G, Q, QE, rs, ⟨dw, d⟩, ex, k⟩ := h
  refine ⟨M, δ, G, _, QE, rs, d, ex, fun J xs G1 H1 M1 f1 rs1 itr q => ?_⟩
  intro A hA
  have hA0 : H A = none := f1.fresh hA
  obtain ⟨kA, rsA⟩ := rs1.newOther (u := .lst []) hA
  refine ⟨fun i m H' => ∃ M' G' acc ds, Frame H1 M1 H' M' ∧ RS X.K H' M' σ δ G' ∧ M' A = some .other ∧ H' A = some (.lst acc) ∧ ImL X.K H' M' acc ds ∧ lcL g tt te (dwipe δ (own.map (·.2))) Q (xs.drop i) ds G' ∧ m = xs.length - i ∧ i ≤ xs.length,
    ⟨xs.length, mset M1 A (some .other), G1, [], [], kA.frame, rsA, mset_same, upd_same, .nil, by simpa using q, by simp, Nat.zero_le _⟩, ?_⟩
  rintro i m H' ⟨M', G', acc, ds, f, rs', mA, hAc, iml, q, rfl, hi'⟩
  obtain ⟨hgo, hstop⟩ := itr H' M' f rs'.g.dom i
  by_cases hlt : i < xs.length
  · obtain ⟨go, yld⟩ := hgo hlt
    refine .inr ⟨go, fun H2 => ∃ M2 G2 acc2 ds2, Frame H1 M1 H2 M2 ∧ RS X.K H2 M2 σ δ G2 ∧ M2 A = some .other ∧ H2 A = some (.lst acc2) ∧ ImL X.K H2 M2 acc2 ds2 ∧ lcL g tt te (dwipe δ (own.map (·.2))) Q (xs.drop (i + 1)) ds2 G2,
      fun H2 ⟨M2, G2, acc2, ds2, f2, rs2, m2, h2, iml2, q2⟩ => ⟨xs.length - (i + 1), by omega, M2, G2, acc2, ds2, f2, rs2, m2, h2, iml2, q2, rfl, hlt⟩, fun x H3 y => ?_⟩
    obtain ⟨dx, hdx, sm, im⟩ := yld x H3 y
    have e : xs.drop i = dx :: xs.drop (i + 1) := by
      rw [List.drop_eq_getElem_cons hlt]
      have : xs[i] = dx := by
        rw [List.getElem?_eq_getElem hlt] at hdx
        exact Option.some.inj hdx
      rw [this]
    rw [e, lcL] at q
    have k3 : Keep H' M' H3 M' := Keep.same sm
    have f3 : Frame H1 M1 H3 M' := f.trans k3.frame
    have rs3 := rs'.same sm
    refine ⟨M', dwipe δ (own.map (·.2)), G', dx, _, rs3.wipe _, im, q, fun σ2 δ2 G2 H2 M2 f2 rs2 w2 dw2 q2 => ?_⟩
    have wd : dwipe (dwipe δ (own.map (·.2))) (own.map (·.2)) = dwipe δ (own.map (·.2)) := by rw [dw, dw]
    have ww : wipe (wipe σ (own.map (·.2))) (own.map (·.2)) = wipe σ (own.map (·.2)) := by
      apply List.ext_getElem?
      intro j
      rw [wipe_get, wipe_length]
      by_cases hj : j ∈ (own.map (·.2)) ∧ j < σ.length
      · rw [if_pos hj, wipe_get, if_pos hj]
      · rw [if_neg hj]
    refine ⟨w2.trans ww, M2, δ2, G2, _, _, rs2, q2, fun x4 G4 H4 M4 cls dd f4 rs4 rx q4 => q4.elim, fun b G4 H4 M4 f4 rs4 q4 => ?_⟩
    have back : ∀ {H5 : Hp} {M5 : Gh} {G5 : DG}, RS X.K H5 M5 σ2 δ2 G5 → RS X.K H5 M5 σ δ G5 := fun r => r.unwipe rs.len (w2.trans ww) (dw2.trans wd) dw
    have fA : Frame H' M' H4 M4 := (k3.frame.trans f2).trans f4
    obtain ⟨hA4, mA4⟩ := fA A _ hAc (.inr mA)
    cases b with
    | true =>
      simp only [if_true] at q4 ⊢
      refine ⟨M4, δ2, G4, _, _, rs4, q4, fun x5 G5 H5 M5 cls dd f5 rs5 rx q5 => q5.elim, fun v dv G5 H5 M5 f5 rs5 im5 q5 => ?_⟩
      have fA5 := fA.trans f5
      obtain ⟨hA5, mA5⟩ := fA5 A _ hAc (.inr mA)
      have mA5' : M5 A = some .other := mA5.trans mA
      refine ⟨acc, hA5, by rw [iml.length, sizeLine_eq]; have := q5.1; omega, M5, G5, acc ++ [v], ds ++ [dv], ?_, (back rs5).atOther mA5', mA5', upd_same, ImL.mono (Stay.at mA5') ((ImL.mono fA5.stay iml).snoc im5), q5.2⟩
      have ff := f.trans fA5
      exact ⟨fun b o hb mb => by
        obtain ⟨z1, z2⟩ := ff b o hb mb
        exact ⟨by rw [upd_ne (ne_of_none hb hA)]; exact z1, z2⟩, fun b hb => by
        by_cases eb : b = A
        · rw [eb, upd_same]; simp
        · rw [upd_ne eb]; exact ff.live b hb⟩
    | false =>
      simp only [Bool.false_eq_true, if_false] at q4 ⊢
      exact ⟨M4, G4, acc, ds, f.trans fA, back rs4, mA4.trans mA, hA4, ImL.mono fA.stay iml, q4⟩
  · have e : xs.drop i = [] := List.drop_eq_nil_of_le (by omega)
    rw [e, lcL] at q
    exact .inl ⟨hstop (by omega), k A acc ds G' H' M' (f1.trans f) rs' hA0 mA hAc iml q⟩
theorem df_lc {X : Cx} {W : WX} {elt tg iter : Expr} {ifs : List Expr} {scope : Scope} {own : List (Str × Nat)} {pos : Pos} {it : DTA} {g : DTG} {tt : DTT} {te : DTE} (hc : X.calm = true) (hN : X.N.Nodup) (hi : DI X W tg iter it) (ok : BlkOk X.N X.env.scope scope own)
    (hg : ∀ (s : Shared) (H : Hp) (C : Addr) (cl : List (Str × Addr)) (fp : List Addr), DGc (X.blk s H scope (PySem.compEnvC scope cl C X.env) fp) (own.map (·.2)) tg g) (ht : ∀ (s : Shared) (H : Hp) (C : Addr) (cl : List (Str × Addr)) (fp : List Addr), DTs (X.blk s H scope (PySem.compEnvC scope cl C X.env) fp) ifs tt)
    (he : ∀ (s : Shared) (H : Hp) (C : Addr) (cl : List (Str × Addr)) (fp : List Addr), DE (X.blk s H scope (PySem.compEnvC scope cl C X.env) fp) W0 elt te) (hs : ∀ x, foldedSetIterable iter X.env x = pure x := by intro _; rfl) :
    DF X W (.ListComp elt [⟨tg, iter, ifs, 0⟩] scope pos) (fun δ G Q E => dwipe δ (own.map (·.2)) = δ ∧ dLc it g tt te (own.map (·.2)) δ G Q E) :=
  (pe_lc (pos := pos) (g := rdGc X.K (own.map (·.2)) g) (tt := rdT X.K W0 tt) (te := rdE X.K W0 te) hc hN hi ok hg ht he hs).imp fun σ H R h => lc_run h
/-- name = [..], the name a local -/
theorem ds_setLc {X : Cx} {W : WX} {i : Nat} {y : Str} {py spos : Pos} {elt tg iter : Expr} {ifs : List Expr} {scope : Scope} {own : List (Str × Nat)} {pos : Pos} {it : DTA} {g : DTG} {tt : DTT} {te : DTE} (hc : X.calm = true) (hN : X.N.Nodup) (hy : X.N[i]? = some y) (hyl : X.env.scope.names.lookup y = some .local)
    (hsw : swapsWith (.ListComp elt [⟨tg, iter, ifs, 0⟩] scope pos) (some (.Name y py)) spos.line X.env = pure true) (hi : DI X W tg iter it) (ok : BlkOk X.N X.env.scope scope own)
    (hg : ∀ (s : Shared) (H : Hp) (C : Addr) (cl : List (Str × Addr)) (fp : List Addr), DGc (X.blk s H scope (PySem.compEnvC scope cl C X.env) fp) (own.map (·.2)) tg g) (ht : ∀ (s : Shared) (H : Hp) (C : Addr) (cl : List (Str × Addr)) (fp : List Addr), DTs (X.blk s H scope (PySem.compEnvC scope cl C X.env) fp) ifs tt)
    (he : ∀ (s : Shared) (H : Hp) (C : Addr) (cl : List (Str × Addr)) (fp : List Addr), DE (X.blk s H scope (PySem.compEnvC scope cl C X.env) fp) W0 elt te) (hs : ∀ x, foldedSetIterable iter X.env x = pure x := by intro _; rfl) :
    DS X W (.Assign [.Name y py] (.ListComp elt [⟨tg, iter, ifs, 0⟩] scope pos) spos) (sSetF i (fun δ G Q E => dwipe δ (own.map (·.2)) = δ ∧ dLc it g tt te (own.map (·.2)) δ G Q E)) :=
  (ps_setLc (own := own) (pos := pos) (g := rdGc X.K (own.map (fun p : Str × Nat => p.2)) g) (tt := rdT X.K W0 tt) (te := rdE X.K W0 te) hc hN hy hyl hsw hi ok hg ht he hs).imp fun E σ H ⟨M, δ, G, DD, rs, d, ok⟩ =>
    lc_run (W := W) (X := X) (own := own) (R := fun x H1 => gName i x σ H1 E.nx) ⟨M, δ, G, _, _, rs, d, ok.exOf, fun p xs ds G' H' M' f rs' n m hp iml q => ok.nx _ _ G' _ _ (f.give n) (rs'.takeOwn (i := i) m hp iml) q⟩
/-- .. as a finished list -/
theorem ds_setLcV {X : Cx} {W : WX} {i : Nat} {y : Str} {py spos : Pos} {elt tg iter : Expr} {ifs : List Expr} {scope : Scope} {own : List (Str × Nat)} {pos : Pos} {it : DTA} {g : DTG} {tt : DTT} {te : DTE} (hc : X.calm = true) (hN : X.N.Nodup) (hy : X.N[i]? = some y) (hyl : X.env.scope.names.lookup y = some .local)
    (hsw : swapsWith (.ListComp elt [⟨tg, iter, ifs, 0⟩] scope pos) (some (.Name y py)) spos.line X.env = pure true) (hi : DI X W tg iter it) (ok : BlkOk X.N X.env.scope scope own)
    (hg : ∀ (s : Shared) (H : Hp) (C : Addr) (cl : List (Str × Addr)) (fp : List Addr), DGc (X.blk s H scope (PySem.compEnvC scope cl C X.env) fp) (own.map (·.2)) tg g) (ht : ∀ (s : Shared) (H : Hp) (C : Addr) (cl : List (Str × Addr)) (fp : List Addr), DTs (X.blk s H scope (PySem.compEnvC scope cl C X.env) fp) ifs tt)
    (he : ∀ (s : Shared) (H : Hp) (C : Addr) (cl : List (Str × Addr)) (fp : List Addr), DE (X.blk s H scope (PySem.compEnvC scope cl C X.env) fp) W0 elt te) (hs : ∀ x, foldedSetIterable iter X.env x = pure x := by intro _; rfl) :
    DS X W (.Assign [.Name y py] (.ListComp elt [⟨tg, iter, ifs, 0⟩] scope pos) spos) (sSet i (dFrz (fun δ G Q E => dwipe δ (own.map (·.2)) = δ ∧ dLc it g tt te (own.map (·.2)) δ G Q E))) :=
  (ps_setLc (own := own) (pos := pos) (g := rdGc X.K (own.map (fun p : Str × Nat => p.2)) g) (tt := rdT X.K W0 tt) (te := rdE X.K W0 te) hc hN hy hyl hsw hi ok hg ht he hs).imp fun E σ H ⟨M, δ, G, DD, rs, d, ok⟩ =>
    lc_run (W := W) (X := X) (own := own) (R := fun x H1 => gName i x σ H1 E.nx) ⟨M, δ, G, _, _, rs, d, ok.exOf, fun p xs ds G' H' M' f rs' n m hp iml q => ok.nx _ _ G' _ _ (f.give n) ((rs'.give m).setV (.lst mset_same (.inl hp) (ImL.mono (Stay.give m) iml))) q⟩
end DD

set_option Elab.async false
set_option linter.all false
set_option maxRecDepth 100000
set_option maxHeartbeats 4000000
namespace DD
open PySem PySem.Spec L2

/-! ### attributes -/
def FV.d : FV → D
  | .v d => d
  | .own _ xs => .lst xs
  | .ownd _ kvs => .dct kvs
/-- the attribute f of x, an instance of the class at C, is d -/
def FldB (C : Addr) (f : Str) (G : DG) : D → D → Prop
  | .obj C' fs, d => C' = C ∧ fs.lookup f = some d
  | .ref a, d => ∃ fs s, G a = some (.ins C fs) ∧ fs.lookup f = some s ∧ s.d = d
  | _, _ => False
def FldV (C : Addr) (f : Str) (G : DG) : D → D → Prop
  | .obj C' fs, d => C' = C ∧ fs.lookup f = some d
  | .ref a, d => ∃ fs, G a = some (.ins C fs) ∧ fs.lookup f = some (.v d)
  | _, _ => False
def dFld (C : Addr) (f : Str) (o : DTE) : DTE := fun δ G Q E => o δ G (fun x G1 => ∃ d, FldV C f G1 x d ∧ Q d G1) E
def dFldB (C : Addr) (f : Str) (o : DTE) : DTE := fun δ G Q E => o δ G (fun x G1 => ∃ d, FldB C f G1 x d ∧ Q d G1) E
section
variable {K : PySem.W.Frag} {H : Hp} {M : Gh} {σ : St} {δ : DSt} {G : DG}
theorem FldR.get {a : Addr} {f : Str} {s : FV} : ∀ {ps : List (Str × V)} {fs : List (Str × FV)}, FldR K H M a ps fs → fs.lookup f = some s → ∃ x, ps.lookup f = some x ∧ SlotR K H M (.fld a f) x s.sv ∧ s.at x
  | [], [], _, h => by cases h
  | (g, x) :: r, (g', s') :: t, ⟨e, h, w, q⟩, hl => by
    subst e
    rw [List.lookup_cons] at hl ⊢
    cases z : (f == g) with
    | true =>
      rw [z] at hl
      cases hl
      have e : f = g := beq_iff_eq.mp z
      subst e
      exact ⟨x, rfl, h, w⟩
    | false => rw [z] at hl; exact FldR.get q hl
def putV (f : Str) (s : FV) : List (Str × FV) → List (Str × FV)
  | [] => [(f, s)]
  | (g, x) :: r => if g = f then (g, s) :: r else (g, x) :: putV f s r
theorem FldR.put {a : Addr} {f : Str} {x : V} {s : FV} (h : SlotR K H M (.fld a f) x s.sv) (w : s.at x) : ∀ {ps : List (Str × V)} {fs : List (Str × FV)}, FldR K H M a ps fs → FldR K H M a (putF f x ps) (putV f s fs)
  | [], [], _ => ⟨rfl, h, w, trivial⟩
  | (g, y) :: r, (g', s') :: t, ⟨e, h', w', q⟩ => by
    subst e
    unfold putF putV
    by_cases z : g = f
    · subst z
      rw [if_pos rfl, if_pos rfl]
      exact ⟨rfl, h, w, q⟩
    · rw [if_neg z, if_neg z]
      exact ⟨rfl, h', w', FldR.put h w q⟩
theorem FldR.length {a : Addr} : ∀ {ps : List (Str × V)} {fs : List (Str × FV)}, FldR K H M a ps fs → ps.length = fs.length
  | [], [], _ => rfl
  | (g, x) :: r, (g', s') :: t, ⟨e, h, w, q⟩ => congrArg (· + 1) (FldR.length q)
/-- an object is changed at its own address -/
theorem RS.setObj {a : Addr} {o : HO} {u : DO} (r : RS K H M σ δ G) (m : M a = some .obj) (h : ObjR K (upd H a o) M a u) : RS K (upd H a o) M σ δ (gset G a (some u)) := by
  refine ⟨⟨fun b v hb => ?_, dom_at r.g.dom⟩, r.len, fun i s hs => let ⟨x, hx, q⟩ := r.slot i s hs; ⟨x, hx, q.at m fun e => by cases e⟩⟩
  by_cases e : b = a
  · subst e
    rw [gset_same] at hb
    cases hb
    exact ⟨m, h⟩
  · rw [gset_ne e] at hb
    obtain ⟨mb, q⟩ := r.g.obj b v hb
    exact ⟨mb, q.at m e fun f z => by cases z⟩
theorem Frame.obj {a : Addr} {o : HO} (m : M a = some .obj) : Frame H M (upd H a o) M := Frame.at m (by intro z; cases z)
/-- a list of nobody's becomes a field's own -/
theorem RS.takeFld {a p C : Addr} {f : Str} {xs : List V} {ds : List D} {fs : List (Str × FV)} (r : RS K H M σ δ G) (m : M p = some .other) (h : H p = some (.lst xs)) (iml : ImL K H M xs ds) (ga : G a = some (.ins C fs)) :
    ∃ dx ps, H a = some (.ins C dx ps) ∧ RS K (upd H a (.ins C dx (putF f (.ref p) ps))) (mset M p (some (.fld a f))) σ δ (gset G a (some (.ins C (putV f (.own p ds) fs)))) := by
  obtain ⟨ma, dx, ps, ha, fr⟩ := r.g.obj a _ ga
  have nap : p ≠ a := fun e => by rw [e, ma] at m; cases m
  have r2 := r.give (o := some (.fld a f)) m
  have m2 : mset M p (some (.fld a f)) a = some .obj := by rw [mset_ne nap.symm]; exact ma
  refine ⟨dx, ps, ha, r2.setObj m2 ⟨dx, _, upd_same, ?_⟩⟩
  obtain ⟨_, dx2, ps2, ha2, fr2⟩ := r2.g.obj a _ ga
  rw [ha] at ha2
  cases ha2
  refine FldR.put (s := .own p ds) ⟨p, xs, rfl, mset_same, by rw [upd_ne nap]; exact h, ImL.mono (Stay.at m2) (ImL.mono (Stay.give m) iml)⟩ rfl (fr2.at m2 fun f z => by cases z)
theorem RS.setFld {a C : Addr} {f : Str} {v : V} {d : D} {fs : List (Str × FV)} (r : RS K H M σ δ G) (im : Im K H M v d) (ga : G a = some (.ins C fs)) :
    ∃ dx ps, H a = some (.ins C dx ps) ∧ M a = some .obj ∧ RS K (upd H a (.ins C dx (putF f v ps))) M σ δ (gset G a (some (.ins C (putV f (.v d) fs)))) := by
  obtain ⟨ma, dx, ps, ha, fr⟩ := r.g.obj a _ ga
  exact ⟨dx, ps, ha, ma, r.setObj ma ⟨dx, _, upd_same, FldR.put (s := .v d) (Im.mono (Stay.at ma) im) trivial (fr.at ma fun f z => by cases z)⟩⟩
/-- a field's own list is changed -/
theorem FldR.write {a l : Addr} {f : Str} {xs' : List V} {ds ds' : List D} (m : M l = some (.fld a f)) (iml : ImL K H M xs' ds') : ∀ {ps : List (Str × V)} {fs : List (Str × FV)}, (fs.map (·.1)).Nodup → FldR K H M a ps fs → fs.lookup f = some (.own l ds) →
    FldR K (upd H l (.lst xs')) M a ps (putV f (.own l ds') fs)
  | [], [], _, _, h => by cases h
  | (g, x) :: r, (g', s') :: t, nd, ⟨e, h, w, q⟩, hl => by
    subst e
    rw [List.lookup_cons] at hl
    unfold putV
    have ndt := List.nodup_cons.mp nd
    cases z : (f == g) with
    | true =>
      have e : f = g := beq_iff_eq.mp z
      subst e
      rw [z] at hl
      cases hl
      rw [if_pos rfl]
      have ex : x = .ref l := w
      refine ⟨rfl, ⟨l, xs', ex, m, upd_same, ImL.mono (Stay.at m) iml⟩, ex, ?_⟩
      have rest : ∀ {ps : List (Str × V)} {fs : List (Str × FV)}, f ∉ fs.map (·.1) → FldR K H M a ps fs → FldR K (upd H l (.lst xs')) M a ps fs := fun {ps} => by
        induction ps with
        | nil => intro fs _ q; cases fs with
          | nil => trivial
          | cons _ _ => exact q
        | cons p ps ih => intro fs nf q; cases fs with
          | nil => exact q
          | cons g fs =>
            obtain ⟨e, h, w, q⟩ := q
            refine ⟨e, h.at m (fun z => ?_), w, ih (fun z => nf (List.mem_cons_of_mem _ z)) q⟩
            injection z with _ z2
            exact nf (by rw [← z2, e]; exact List.mem_cons_self)
      exact rest ndt.1 q
    | false =>
      have ne : ¬ g = f := fun e => by rw [e] at z; simp at z
      rw [z] at hl
      rw [if_neg ne]
      refine ⟨rfl, h.at m (fun z => ?_), w, FldR.write m iml ndt.2 q hl⟩
      injection z with _ z2
      exact ne z2
end
section
variable {X : Cx} {W : WX} {e o value : Expr} {d dv : DTE} {da : DTA} {f : Str} {C : Addr} {pos pos' apos : Pos}
theorem FldV.ok {K : PySem.W.Frag} {H : Hp} {M : Gh} {G : DG} {x : V} {dx d : D} (g : RG K H M G) (im : Im K H M x dx) (h : FldV C f G dx d) : ∃ a du ps v, x = .ref a ∧ H a = some (.ins C du ps) ∧ ps.lookup f = some v ∧ Im K H M v d := by
  cases im with
  | obj m ha r =>
    obtain ⟨rfl, hl⟩ := h
    obtain ⟨v, hv, im⟩ := r.lookup hl
    exact ⟨_, _, _, v, rfl, ha, hv, im⟩
  | ref =>
    obtain ⟨fs, hG, hl⟩ := h
    obtain ⟨_, du, ps, ha, r⟩ := g.obj _ _ hG
    obtain ⟨v, hv, im, _⟩ := r.get hl
    exact ⟨_, du, ps, v, rfl, ha, hv, im⟩
  | _ => exact h.elim
theorem de_fld (he : DE X W e d) (c : Cls X.K C) (n : NoAttr X.K C f) (hb : attributeBase e f X.env (eval e X.env) = eval e X.env := by rfl) : DE X W (.Attribute e f pos) (dFld C f d) := (pe_fld (pos := pos) he hb).imp fun σ H R ⟨M, δ, G, Q, QE, rs, d, ex, k⟩ => by
  refine ⟨M, δ, G, _, QE, rs, d, ex, fun v dv G1 H1 M1 f1 rs1 im ⟨dd, hf, q⟩ => ?_⟩
  obtain ⟨a, du, ps, w, rfl, ha, hl, imw⟩ := hf.ok rs1.g im
  exact ⟨a, C, du, ps, w, rfl, ha, c, n, hl, k w dd G1 H1 M1 f1 rs1 imw q⟩
theorem db_fld (he : DE X W e d) (c : Cls X.K C) (n : NoAttr X.K C f) (hb : attributeBase e f X.env (eval e X.env) = eval e X.env := by rfl) : DB X W (.Attribute e f pos) (dFldB C f d) := (pe_fld (pos := pos) he hb).imp fun σ H R ⟨M, δ, G, Q, QE, rs, d, ex, k⟩ => by
  refine ⟨M, δ, G, _, QE, rs, d, ex, fun v dv G1 H1 M1 f1 rs1 im ⟨dd, hf, q⟩ => ?_⟩
  cases im with
  | obj m ha r =>
    obtain ⟨rfl, hl⟩ := hf
    obtain ⟨w, hv, imw⟩ := r.lookup hl
    exact ⟨_, _, _, _, w, rfl, ha, c, n, hv, k w dd G1 H1 M1 f1 rs1 imw.bo q⟩
  | @ref a =>
    obtain ⟨fs, s, hG, hl, hd⟩ := hf
    subst hd
    obtain ⟨_, du, ps, ha, r⟩ := rs1.g.obj _ _ hG
    obtain ⟨w, hv, sr, sa⟩ := r.get hl
    refine ⟨_, C, du, ps, w, rfl, ha, c, n, hv, k w s.d G1 H1 M1 f1 rs1 (fun H2 M2 f2 rs2 => ?_) q⟩
    cases s with
    | v d => exact .inl (Im.mono f2.stay sr)
    | own l ds =>
      have ew : w = .ref l := sa
      obtain ⟨_, du2, ps2, ha2, r2⟩ := rs2.g.obj _ _ hG
      obtain ⟨w2, hv2, ⟨l2, xs, e2, m2, h2, iml⟩, sa2⟩ := r2.get hl
      have ew2 : w2 = .ref l := sa2
      rw [ew2] at e2
      cases e2
      exact .inr (.inl ⟨l, xs, ds, ew, rfl, h2, iml⟩)
    | ownd l ds =>
      have ew : w = .ref l := sa
      obtain ⟨_, du2, ps2, ha2, r2⟩ := rs2.g.obj _ _ hG
      obtain ⟨w2, hv2, ⟨l2, xs, e2, m2, h2, iml⟩, sa2⟩ := r2.get hl
      have ew2 : w2 = .ref l := sa2
      rw [ew2] at e2
      cases e2
      exact .inr (.inr ⟨l, xs, ds, ew, rfl, h2, iml⟩)
  | _ => exact hf.elim
/-- o.f = e -/
def sFldS (C : Addr) (f : Str) (v o : DTE) : DTS := fun N δ G => v δ G (fun y G1 => o δ G1 (fun x G2 => ∃ a fs, x = .ref a ∧ G2 a = some (.ins C fs) ∧ fs.length < 900 ∧ N.nx δ (gset G2 a (some (.ins C (putV f (.v y) fs))))) (exOf N δ)) (exOf N δ)
/-- o.f = a new list, its own from now on (o a name) -/
def sFldF (C : Addr) (f : Str) (v : DTA) (i : Nat) : DTS := fun N δ G => v δ G (fun ys G1 => ∃ a fs, δ[i]? = some (some (.v (.ref a))) ∧ G1 a = some (.ins C fs) ∧ fs.length < 900 ∧ ∀ l, N.nx δ (gset G1 a (some (.ins C (putV f (.own l ys) fs))))) (exOf N δ)
theorem ds_fld (ho : DE X W o d) (hv : DE X W value dv) (c : Cls X.K C) (n : NoAttr X.K C f) (hs : swapsWith value (some (.Attribute o f pos')) pos.line X.env = pure false := by rfl) : DS X W (.Assign [.Attribute o f pos'] value pos) (sFldS C f dv d) := (ps_fld (pos := pos) (pos' := pos') ho hv hs).imp fun E σ H ⟨M, δ, G, DD, rs, d, ok⟩ => by
  refine ⟨M, δ, G, _, _, rs, d, ok.exOf, fun v dv G1 H1 M1 f1 rs1 im q => ?_⟩
  refine ⟨M1, δ, G1, _, _, rs1, q, (ok.mono f1).exOf, fun w dw G2 H2 M2 f2 rs2 im2 ⟨a, fs, ea, ga, hl, q2⟩ => ?_⟩
  subst ea
  cases im2
  obtain ⟨dx, ps, ha, ma, r3⟩ := rs2.setFld (f := f) (im.mono f2.stay) ga
  obtain ⟨_, dx2, ps2, ha2, fr⟩ := rs2.g.obj a _ ga
  rw [ha] at ha2; cases ha2
  exact ⟨a, C, dx, ps, rfl, ha, c, n, by rw [fr.length]; omega, ok.nx _ _ _ _ M2 ((f1.trans f2).trans (Frame.obj ma)) r3 q2⟩
theorem ds_fldF {i : Nat} (ho : PE X o (tVar i)) (hv : DF X W value da) (c : Cls X.K C) (n : NoAttr X.K C f) (hs : swapsWith value (some (.Attribute o f pos')) pos.line X.env = pure false := by rfl) : DS X W (.Assign [.Attribute o f pos'] value pos) (sFldF C f da i) := (ps_fld (pos := pos) (pos' := pos') ho hv hs).imp fun E σ H ⟨M, δ, G, DD, rs, d, ok⟩ => by
  refine ⟨M, δ, G, _, _, rs, d, ok.exOf, fun p xs ds G1 H1 M1 f1 rs1 n0 mp hp iml ⟨a, fs, ea, ga, hl, q2⟩ => ?_⟩
  obtain ⟨x, hx, im⟩ := rs1.slot i _ ea
  cases im
  obtain ⟨dx, ps, ha, r3⟩ := rs1.takeFld (f := f) mp hp iml ga
  obtain ⟨ma, dx2, ps2, ha2, fr⟩ := rs1.g.obj a _ ga
  rw [ha] at ha2; cases ha2
  refine ⟨_, hx, a, C, dx, ps, rfl, ha, c, n, by rw [fr.length]; omega, ok.nx _ _ _ _ _ ?_ r3 (q2 p)⟩
  have nap : a ≠ p := fun e => by rw [← e, ma] at mp; cases mp
  exact (f1.give n0).trans (Frame.obj (by rw [mset_ne nap]; exact ma))
end
end DD

set_option Elab.async false
set_option linter.all false
set_option maxRecDepth 100000
set_option maxHeartbeats 4000000
namespace DD
open PySem PySem.Spec L2

/-! ### an object is finished, or let go -/
/-- nobody changes a or what its fields own any more -/
def thaw (M : Gh) (a : Addr) : Gh := fun b => if b = a then none else match M b with
  | some (.fld c f) => if c = a then none else some (.fld c f)
  | x => x
section
variable {K : PySem.W.Frag} {H H0 H1 : Hp} {M M0 M1 : Gh} {σ : St} {δ : DSt} {G : DG} {a C : Addr} {fs : List (Str × FV)}
theorem thaw_none {b : Addr} (h : M b = none) : thaw M a b = none := by
  unfold thaw
  by_cases e : b = a
  · rw [if_pos e]
  · rw [if_neg e, h]
theorem thaw_self : thaw M a a = none := if_pos rfl
theorem thaw_fld {b : Addr} {f : Str} (h : M b = some (.fld a f)) : thaw M a b = none := by
  unfold thaw
  by_cases e : b = a
  · rw [if_pos e]
  · rw [if_neg e, h]; exact if_pos rfl
theorem thaw_keep {b : Addr} {ow : Own} (h : M b = some ow) (nb : b ≠ a) (nf : ∀ f, ow ≠ .fld a f) : thaw M a b = some ow := by
  unfold thaw
  rw [if_neg nb, h]
  cases ow with
  | fld c f => exact if_neg fun e => nf f (by rw [e])
  | _ => rfl
theorem Stay.thaw : Stay H M H (DD.thaw M a) := fun b o h n => ⟨h, thaw_none n⟩
theorem Frame.thaw (m : M a = some .obj) : Frame H M H (DD.thaw M a) := ⟨fun b o h n => ⟨h, by
  rcases n with n | n
  · rw [thaw_none n, n]
  · rw [thaw_keep n (fun e => by rw [e, m] at n; cases n) (fun f z => by cases z), n]⟩, fun _ h => h⟩
theorem SlotR.thaw {b : Addr} (m : M a = some .obj) {ow : Own} (nf : ∀ f, ow ≠ .fld a f) (no : ow ≠ .obj) {x : V} : ∀ {s : SV}, SlotR K H M ow x s → SlotR K H (DD.thaw M a) ow x s
  | .v d, h => Im.mono Stay.thaw h
  | .own ds, ⟨l, xs, e, m', h, r⟩ => ⟨l, xs, e, thaw_keep m' (fun z => by rw [z, m] at m'; cases m'; exact no rfl) nf, h, ImL.mono Stay.thaw r⟩
  | .ownd ds, ⟨l, xs, e, m', h, r⟩ => ⟨l, xs, e, thaw_keep m' (fun z => by rw [z, m] at m'; cases m'; exact no rfl) nf, h, ImK.mono Stay.thaw r⟩
theorem FldR.thaw {b : Addr} (m : M a = some .obj) (ne : b ≠ a) : ∀ {ps : List (Str × V)} {fs : List (Str × FV)}, FldR K H M b ps fs → FldR K H (DD.thaw M a) b ps fs
  | [], [], _ => trivial
  | (f, x) :: r, (g, s) :: t, ⟨e, h, w, q⟩ => ⟨e, SlotR.thaw (b := b) m (fun f' z => by cases z; exact ne rfl) (fun z => by cases z) h, w, FldR.thaw m ne q⟩
theorem FldR.dF (m : M a = some .obj) : ∀ {ps : List (Str × V)} {fs : List (Str × FV)}, FldR K H M a ps fs → ImF K H (DD.thaw M a) ps (fs.map fun p => (p.1, p.2.d))
  | [], [], _ => .nil
  | (f, x) :: r, (g, s) :: t, ⟨e, h, w, q⟩ => by
    subst e
    refine .cons ?_ (FldR.dF m q)
    cases s with
    | v d => exact Im.mono Stay.thaw h
    | own l ds =>
      obtain ⟨l', xs, rfl, m', hl, r⟩ := h
      exact .lst (thaw_fld m') (.inl hl) (ImL.mono Stay.thaw r)
    | ownd l ds =>
      obtain ⟨l', xs, rfl, m', hl, r⟩ := h
      exact .dct (thaw_fld m') hl (ImK.mono Stay.thaw r)
theorem gset_drop {b : Addr} {u : DO} (h : gset G a none b = some u) : b ≠ a ∧ G b = some u := by
  by_cases e : b = a
  · rw [e, gset_same] at h; cases h
  · rw [gset_ne e] at h; exact ⟨e, h⟩
theorem RS.thaw (r : RS K H M σ δ G) (ga : G a = some (.ins C fs)) : RS K H (DD.thaw M a) σ δ (gset G a none) ∧ Im K H (DD.thaw M a) (.ref a) (.obj C (fs.map fun p => (p.1, p.2.d))) := by
  obtain ⟨m, dx, ps, ha, fr⟩ := r.g.obj a _ ga
  refine ⟨⟨⟨fun b u hb => ?_, fun b hb => r.g.dom b fun e => hb (thaw_none e)⟩, r.len, fun i s hs => let ⟨x, hx, q⟩ := r.slot i s hs; ⟨x, hx, q.thaw (b := a) m (fun f z => by cases z) fun z => by cases z⟩⟩, .obj thaw_self ha (fr.dF m)⟩
  obtain ⟨nb, hb⟩ := gset_drop hb
  obtain ⟨mb, q⟩ := r.g.obj b u hb
  refine ⟨thaw_keep mb nb (fun f z => by cases z), ?_⟩
  cases u with
  | ins C fs => obtain ⟨dx, ps, h1, h2⟩ := q; exact ⟨dx, ps, h1, h2.thaw m nb⟩
  | mls ds => obtain ⟨xs, h1, h2⟩ := q; exact ⟨xs, h1, ImL.mono Stay.thaw h2⟩
  | jar _ => exact q
theorem RS.drop (r : RS K H M σ δ G) : RS K H M σ δ (gset G a none) := ⟨⟨fun b u hb => r.g.obj b u (gset_drop hb).2, r.g.dom⟩, r.len, r.slot⟩
/-- a new instance -/
theorem RS.newIns {x dx : Addr} (r : RS K H M σ δ G) (nx : H x = none) (ndx : H dx = none) (ne : dx ≠ x) :
    Keep H M (upd (upd H dx (.own x)) x (.ins C dx [])) (mset M x (some .obj)) ∧ RS K (upd (upd H dx (.own x)) x (.ins C dx [])) (mset M x (some .obj)) σ δ (gset G x (some (.ins C []))) ∧ G x = none := by
  have k : Keep H M (upd (upd H dx (.own x)) x (.ins C dx [])) (mset M x (some .obj)) := fun b w h => by
    have e1 : b ≠ x := ne_of_none h nx
    have e2 : b ≠ dx := ne_of_none h ndx
    exact ⟨by rw [upd_ne e1, upd_ne e2]; exact h, mset_ne e1⟩
  have gx : G x = none := by
    cases e : G x with
    | none => rfl
    | some u =>
      obtain ⟨_, q⟩ := r.g.obj x u e
      obtain ⟨w, hw⟩ := q.there
      rw [nx] at hw; cases hw
  have r2 := r.keep k fun b hb hm => by
    by_cases e : b = x
    · rw [e, upd_same]; simp
    · rw [mset_ne e] at hm
      exact absurd hb (r.g.dom b hm)
  refine ⟨k, ⟨⟨fun b u hb => ?_, r2.g.dom⟩, r2.len, r2.slot⟩, gx⟩
  by_cases e : b = x
  · subst e
    rw [gset_same] at hb
    cases hb
    exact ⟨mset_same, dx, [], upd_same, trivial⟩
  · rw [gset_ne e] at hb
    exact r2.g.obj b u hb
end

/-! ### C(..) -/
section
variable {X : Cx} {CX : CXT} {k : Nat} {fa C : Addr} {fd : FuncData} {ps : List Str} {sp : Sp} {dvs : List V} {ds : List Value} {E : XK}
theorem dd_run_make {pins : List (Addr × Obj)} {σ : St} {H : Hp} {s : Shared} {Q : VK} {us : List Value} {vs : List V} (M : Mk X.K C fa) (F : FnOk X.prog X.w X.K X.mg X.base CX k fa fd ps sp) (hr : Room (k + 1) X.A) (hb : Binds X.K fd ps ds) (hd : Vals dvs ds)
    (hx : PassesAt CX X σ E) (I : Inv X pins σ H s) (r : Vals vs us)
    (h : ∀ x dx, H x = none → H dx = none → dx ≠ x → sp (.ref x :: (vs ++ dvs)) (upd (upd H dx (.own x)) x (.ins C dx [])) (fun v H2 => v = .non ∧ Q (.ref x) H2) E) :
    wpAny (model X.prog X.w) X.A (call (.ref C) us) (EP X pins σ Q) X.xe s := by
  have hq := h (s.heap.objs.size + 1) s.heap.objs.size (I.hok.fresh (Nat.le_succ _)) (I.hok.fresh (Nat.le_refl _)) (Nat.ne_of_lt (Nat.lt_succ_self _))
  have I2 := Inv.made (C := C) I
  have r2 : Vals (V.ref (s.heap.objs.size + 1) :: (vs ++ dvs)) (Value.ref (s.heap.objs.size + 1) :: (us ++ ds)) := .cons rfl (r.append hd)
  have hl : (Value.ref (s.heap.objs.size + 1) :: us ++ ds).length = ps.length := (r2.length.symm.trans (F.len _ _ _ _ hq))
  refine wpAny_call (make_map (f := fa) I.kIn M.makes M.init (beq_iff_eq.mp M.fn) (codeAny_mono (F.run _ X.stack _ _ ⟨Value.ref (s.heap.objs.size + 1) :: us, []⟩ (Value.ref (s.heap.objs.size + 1) :: (us ++ ds)) _ _ E (hr.make C us [])
    (I2.env0.make C us []) (hb _ (Value.ref (s.heap.objs.size + 1) :: us) I2.kIn hl) r2 hq) fun r s' hq' => ?_))
  cases r with
  | error e => exact hx pins _ _ e s' I2 hq'
  | ok fl =>
    cases fl with
    | ret u =>
      obtain ⟨v, H', I3, rv, ev, q3⟩ := I2.after hq'
      subst ev
      exact ⟨rv, ⟨V.ref (s.heap.objs.size + 1), H', I3, rfl, q3⟩⟩
    | next => exact False.elim hq'
    | brk => exact False.elim hq'
    | cont => exact False.elim hq'
end
/-- an instance that is changed later -/
def dMake (C : Addr) (f : Fn) (dds : List D) (a : DTA) : DTE := fun δ G Q E => a δ G (fun ds G1 => ∀ x, G1 x = none → f (.ref x :: (ds ++ dds)) (gset G1 x (some (.ins C []))) (fun v G2 => v = .non ∧ Q (.ref x) G2) (fun ex G2 => E ex (gset G2 x none))) E
/-- an instance that is finished -/
def dMakeZ (C : Addr) (f : Fn) (dds : List D) (a : DTA) : DTE := fun δ G Q E => a δ G (fun ds G1 => ∀ x, G1 x = none → f (.ref x :: (ds ++ dds)) (gset G1 x (some (.ins C []))) (fun v G2 => v = .non ∧ ∃ fs, G2 x = some (.ins C fs) ∧ Q (.obj C (fs.map fun p => (p.1, p.2.d))) (gset G2 x none)) (fun ex G2 => E ex (gset G2 x none))) E
section
variable {X : Cx} {W : WX} {k : Nat} {fa C : Addr} {fd : FuncData} {ps : List Str} {f : Fn} {x : Str} {p pos : Pos} {e : Expr} {es : List Expr} {ta : DTA} {dvs : List V} {dds : List D} {ds0 : List Value}
theorem de_make (MK : Mk X.K C fa) (F : FnOk X.prog X.w X.K X.mg X.base (L2.CX X.prog X.w) k fa fd ps (spD X.K f)) (hr : Room (k + 1) X.A) (hg : Gl X x) (hm : X.mg x = some (.ref C)) (hb : Binds X.K fd ps ds0) (hd : Vals dvs ds0) (hi : ∀ H M, ImL X.K H M dvs dds) (tk : Takes X W)
    (ha : DA X W (e :: es) ta) (hdb : (x == ("__debug__" : Str)) = false := by decide) (he : starEach (e :: es) X.env = (false, eval e X.env) :: starEach es X.env := by rfl) (hpl : (backTo pos (starEach es X.env)).any (·.1) = false := by rfl) :
    DE X W (.Call (.Name x p) (e :: es) [] pos) (dMake C f dds ta) := by
  refine ⟨fun pins s σ H R I h => ?_⟩
  obtain ⟨M, δ, G, Q, QE, rs, d, ex, k⟩ := h
  refine wpAny_Call_Name_kw (ld_glob I hg hm ?_ hdb)
  refine PySem.W.callWith_K (h₀ := X.base) I.ok.mod.kin MK.kp (thn (ha.run pos pins s σ H (fun vs H1 => ∃ ds G1 M1, Frame H M H1 M1 ∧ RS X.K H1 M1 σ δ G1 ∧ ImL X.K H1 M1 vs ds ∧ ∀ x, G1 x = none → f (.ref x :: (ds ++ dds)) (gset G1 x (some (.ins C []))) (fun v G2 => v = .non ∧ Q (.ref x) G2) (fun ex G2 => QE ex (gset G2 x none))) I ⟨M, δ, G, _, QE, rs, d, ex, fun vs ds G1 H1 M1 f1 rs1 iml q => ⟨ds, G1, M1, f1, rs1, iml, q⟩⟩) fun us s1 ⟨vs, H1, I1, r, ds, G1, M1, f1, rs1, iml, q⟩ => ⟨I1.kIn, ?_⟩) he hpl
  refine dd_run_make MK F hr hb hd (passAt tk σ) I1 r fun z dz nz ndz ne => ?_
  obtain ⟨kp, rs2, gz⟩ := rs1.newIns (C := C) nz ndz ne
  refine spD_of rs2 (.cons .ref ((ImL.mono kp.stay iml).append (hi _ _))) (q z gz) (fun ex' G' H' M' cls dd f3 rs3 rx qe => ex _ _ _ _ cls dd ((f1.trans kp.frame).trans f3) rs3.drop rx qe) fun v dv G' H' M' f3 rs3 im qd => ?_
  obtain ⟨ev, qd⟩ := qd
  subst ev
  cases im
  exact ⟨rfl, k _ _ G' H' M' ((f1.trans kp.frame).trans f3) rs3 .ref qd⟩
theorem de_makeZ (MK : Mk X.K C fa) (F : FnOk X.prog X.w X.K X.mg X.base (L2.CX X.prog X.w) k fa fd ps (spD X.K f)) (hr : Room (k + 1) X.A) (hg : Gl X x) (hm : X.mg x = some (.ref C)) (hb : Binds X.K fd ps ds0) (hd : Vals dvs ds0) (hi : ∀ H M, ImL X.K H M dvs dds) (tk : Takes X W)
    (ha : DA X W (e :: es) ta) (hdb : (x == ("__debug__" : Str)) = false := by decide) (he : starEach (e :: es) X.env = (false, eval e X.env) :: starEach es X.env := by rfl) (hpl : (backTo pos (starEach es X.env)).any (·.1) = false := by rfl) :
    DE X W (.Call (.Name x p) (e :: es) [] pos) (dMakeZ C f dds ta) := by
  refine ⟨fun pins s σ H R I h => ?_⟩
  obtain ⟨M, δ, G, Q, QE, rs, d, ex, k⟩ := h
  refine wpAny_Call_Name_kw (ld_glob I hg hm ?_ hdb)
  refine PySem.W.callWith_K (h₀ := X.base) I.ok.mod.kin MK.kp (thn (ha.run pos pins s σ H (fun vs H1 => ∃ ds G1 M1, Frame H M H1 M1 ∧ RS X.K H1 M1 σ δ G1 ∧ ImL X.K H1 M1 vs ds ∧ ∀ x, G1 x = none → f (.ref x :: (ds ++ dds)) (gset G1 x (some (.ins C []))) (fun v G2 => v = .non ∧ ∃ fs, G2 x = some (.ins C fs) ∧ Q (.obj C (fs.map fun p => (p.1, p.2.d))) (gset G2 x none)) (fun ex G2 => QE ex (gset G2 x none))) I ⟨M, δ, G, _, QE, rs, d, ex, fun vs ds G1 H1 M1 f1 rs1 iml q => ⟨ds, G1, M1, f1, rs1, iml, q⟩⟩) fun us s1 ⟨vs, H1, I1, r, ds, G1, M1, f1, rs1, iml, q⟩ => ⟨I1.kIn, ?_⟩) he hpl
  refine dd_run_make MK F hr hb hd (passAt tk σ) I1 r fun z dz nz ndz ne => ?_
  obtain ⟨kp, rs2, gz⟩ := rs1.newIns (C := C) nz ndz ne
  refine spD_of rs2 (.cons .ref ((ImL.mono kp.stay iml).append (hi _ _))) (q z gz) (fun ex' G' H' M' cls dd f3 rs3 rx qe => ex _ _ _ _ cls dd ((f1.trans kp.frame).trans f3) rs3.drop rx qe) fun v dv G' H' M' f3 rs3 im qd => ?_
  obtain ⟨ev, fs, gf, qd⟩ := qd
  subst ev
  cases im
  obtain ⟨r4, im4⟩ := rs3.thaw gf
  obtain ⟨mz, _⟩ := rs3.g.obj z _ gf
  exact ⟨rfl, k _ _ _ H' _ (((f1.trans kp.frame).trans f3).trans (Frame.thaw mz)) r4 im4 qd⟩
end

/-! ### raise -/
def sRaise (C : Addr) : DTS := fun N δ G => N.ex ⟨C, none⟩ δ G
def sRaiseF (C : Addr) (f : Str) (d : DTE) : DTS := fun N δ G => d δ G (fun y G1 => N.ex ⟨C, some [(f, y)]⟩ δ G1) (exOf N δ)
theorem ds_raise {X : Cx} {W : WX} {C : Addr} {e : Expr} {pos : Pos} (hc : X.calm = true) (tk : Takes X W) (h : PMk X e (fun _ H Q => Q (.ref C) none H)) : DS X W (.Raise (some e) none pos) (sRaise C) := (ps_raise (pos := pos) hc tk h).imp fun E σ H ⟨M, δ, G, DD, rs, d, ok⟩ =>
  ok.ex ⟨C, none⟩ σ δ G H M (.ref C) none (Frame.refl H M) rs ⟨rfl, rfl⟩ d
/-- the __init__ of an error with one field -/
def spLow (C : Addr) (f : Str) : Sp := fun vs H Q _ => ∃ a y, vs = [.ref a, y] ∧ H a = some (exo a C none) ∧ ∀ dx, H dx = none → dx ≠ a → Q .non (upd (upd H dx (exd dx [(f, y)])) a (exo a C (some dx)))
theorem ds_raiseF {X : Cx} {W : WX} {C : Addr} {f : Str} {e : Expr} {d : DTE} {pos : Pos} (hc : X.calm = true) (tk : Takes X W) {a : Expr} (h : PMk X e (tMkO C (spLow C f) [] (tCons (rdE X.K W d) tNil))) : DS X W (.Raise (some e) none pos) (sRaiseF C f d) := (ps_raise (pos := pos) hc tk h).imp fun E σ H ⟨M, δ, G, DD, rs, d, ok⟩ => by
  refine ⟨M, δ, G, _, _, rs, d, ok.exOf, fun y dy G1 H1 M1 f1 rs1 im q => ?_⟩
  refine ⟨by show 1 ≤ 1000; decide, fun b nb => ⟨b, y, rfl, upd_same, fun dx ndx ne => ⟨rfl, dx, [(f, y)], upd_same, ?_, ?_, ?_⟩⟩⟩
  · rw [upd_ne ne, upd_same]
  · rw [upd_ne ne] at ndx; exact ndx
  · rw [upd_ne ne] at ndx
    have eH : upd (del (upd (upd (upd H1 b (exo b C none)) dx (exd dx [(f, y)])) b (exo b C (some dx))) b) dx (.xd [(f, y)]) = upd H1 dx (.xd [(f, y)]) := by
      funext c
      by_cases hc : c = dx
      · rw [hc, upd_same, upd_same]
      · rw [upd_ne hc, upd_ne hc]
        by_cases hb : c = b
        · rw [hb, del_same]; exact nb.symm
        · rw [del_ne hb, upd_ne hb, upd_ne hc, upd_ne hb]
    rw [eH]
    have kp : Keep H1 M1 (upd H1 dx (.xd [(f, y)])) M1 := Keep.new ndx
    exact ok.ex ⟨C, some [(f, dy)]⟩ σ δ G1 _ M1 (.ref C) (some dx) (f1.trans kp.frame) (rs1.new ndx) ⟨rfl, dx, _, rfl, rs1.g.mnone ndx, upd_same, .cons (im.mono kp.stay) .nil⟩ q
/-! ### lists of objects -/
/-- o.f.append(e): o's attribute f is a list of its own -/
def sFldApp (C : Addr) (f : Str) (o d : DTE) : DTS := fun N δ G => o δ G (fun x G1 => ∃ a fs l ds, x = .ref a ∧ G1 a = some (.ins C fs) ∧ fs.lookup f = some (.own l ds) ∧ d δ G1 (fun y G2 => ∃ fs2 ds2, G2 a = some (.ins C fs2) ∧ fs2.lookup f = some (.own l ds2) ∧ (fs2.map (·.1)).Nodup ∧ ds2.length < 1000000 ∧ N.nx δ (gset G2 a (some (.ins C (putV f (.own l (ds2 ++ [y])) fs2))))) (exOf N δ)) (exOf N δ)
/-- x.append(e), x a list that is reached by its address -/
def sMlsApp (o d : DTE) : DTS := fun N δ G => o δ G (fun x G1 => ∃ a ds, x = .ref a ∧ G1 a = some (.mls ds) ∧ d δ G1 (fun y G2 => ∃ ds2, G2 a = some (.mls ds2) ∧ ds2.length < 1000000 ∧ N.nx δ (gset G2 a (some (.mls (ds2 ++ [y]))))) (exOf N δ)) (exOf N δ)
theorem RS.writeFld {K : PySem.W.Frag} {H : Hp} {M : Gh} {σ : St} {δ : DSt} {G : DG} {a l C : Addr} {f : Str} {fs : List (Str × FV)} {ds ds' : List D} {xs' : List V} (r : RS K H M σ δ G) (ga : G a = some (.ins C fs)) (hl : fs.lookup f = some (.own l ds)) (nd : (fs.map (·.1)).Nodup) (iml : ImL K H M xs' ds') :
    M l = some (.fld a f) ∧ RS K (upd H l (.lst xs')) M σ δ (gset G a (some (.ins C (putV f (.own l ds') fs)))) := by
  obtain ⟨ma, dx, ps, ha, fr⟩ := r.g.obj a _ ga
  obtain ⟨x, hx, ⟨l2, xs, e, m, h, _⟩, sa⟩ := fr.get hl
  have e2 : x = .ref l := sa
  rw [e2] at e; cases e
  have nal : a ≠ l := fun e => by rw [← e, ma] at m; cases m
  refine ⟨m, ⟨⟨fun b u hb => ?_, dom_at r.g.dom⟩, r.len, fun i s hs => let ⟨x, hx, q⟩ := r.slot i s hs; ⟨x, hx, q.at m fun e => by cases e⟩⟩⟩
  by_cases e : b = a
  · subst e
    rw [gset_same] at hb
    cases hb
    exact ⟨ma, dx, ps, by rw [upd_ne nal]; exact ha, fr.write m iml nd hl⟩
  · rw [gset_ne e] at hb
    obtain ⟨mb, q⟩ := r.g.obj b u hb
    exact ⟨mb, q.at m (fun z => by rw [z, m] at mb; cases mb) fun g z => by cases z; exact e rfl⟩
section
variable {X : Cx} {W : WX} {C : Addr} {f : Str} {o e : Expr} {d dv : DTE} {pos pos' apos fpos : Pos}
theorem ds_fldApp (ho : DE X W o d) (he : DE X W e dv) (c : Cls X.K C) (n : NoAttr X.K C f) (hp : PE X (.Call (.Attribute (.Attribute o f fpos) "append" apos) [e] [] pos) (tBM X.K "list" rAppend (tFld X.K (rdE X.K W d) f) (tCons (rdE X.K W dv) tNil)))
    (hs : swapsWith (.Call (.Attribute (.Attribute o f fpos) "append" apos) [e] [] pos) none pos'.line X.env = pure false := by rfl) : DS X W (.Expr (.Call (.Attribute (.Attribute o f fpos) "append" apos) [e] [] pos) pos') (sFldApp C f d dv) := (ps_expr hp hs).imp fun E σ H ⟨M, δ, G, DD, rs, d, ok⟩ => by
  refine ⟨M, δ, G, _, _, rs, d, ok.exOf, fun x dx G1 H1 M1 f1 rs1 im ⟨a, fs, l, ds, ea, ga, hl, q⟩ => ?_⟩
  subst ea
  cases im
  obtain ⟨_, du, ps, ha, fr⟩ := rs1.g.obj a _ ga
  obtain ⟨w, hw, ⟨l', xs, e1, ml, hxs, _⟩, sa⟩ := fr.get hl
  have e2 : w = .ref l := sa
  rw [e2] at e1 hw
  cases e1
  refine ⟨a, C, du, ps, .ref l, rfl, ha, c, n, hw, .inl ⟨rfl, _, SqL.of hxs⟩, M1, δ, G1, _, _, rs1, q, (ok.mono f1).exOf, fun y dy G2 H2 M2 f2 rs2 imy ⟨fs2, ds2, ga2, hl2, nd, hz, q2⟩ => ?_⟩
  obtain ⟨_, du2, ps2, ha2, fr2⟩ := rs2.g.obj a _ ga2
  obtain ⟨w2, hw2, ⟨l2, xs2, e3, ml2, hxs2, iml2⟩, sa2⟩ := fr2.get hl2
  have e4 : w2 = .ref l := sa2
  rw [e4] at e3
  cases e3
  obtain ⟨m3, r3⟩ := rs2.writeFld ga2 hl2 nd (iml2.snoc imy)
  exact ⟨l, xs2, y, rfl, rfl, hxs2, by rw [iml2.length, sizeLine_eq]; omega, ok.nx _ _ _ _ M2 ((f1.trans f2).trans (Frame.at m3 (by intro z; cases z))) r3 q2⟩
theorem ds_mlsApp (ho : DE X W o d) (he : DE X W e dv) (hp : PE X (.Call (.Attribute o "append" apos) [e] [] pos) (tBM X.K "list" rAppend (rdE X.K W d) (tCons (rdE X.K W dv) tNil)))
    (hs : swapsWith (.Call (.Attribute o "append" apos) [e] [] pos) none pos'.line X.env = pure false := by rfl) : DS X W (.Expr (.Call (.Attribute o "append" apos) [e] [] pos) pos') (sMlsApp d dv) := (ps_expr hp hs).imp fun E σ H ⟨M, δ, G, DD, rs, d, ok⟩ => by
  refine ⟨M, δ, G, _, _, rs, d, ok.exOf, fun x dx G1 H1 M1 f1 rs1 im ⟨a, ds, ea, ga, q⟩ => ?_⟩
  subst ea
  cases im
  obtain ⟨_, xs, ha, _⟩ := rs1.g.obj a _ ga
  refine ⟨.inl ⟨rfl, _, SqL.of ha⟩, M1, δ, G1, _, _, rs1, q, (ok.mono f1).exOf, fun y dy G2 H2 M2 f2 rs2 imy ⟨ds2, ga2, hz, q2⟩ => ?_⟩
  obtain ⟨m2, xs2, ha2, iml2⟩ := rs2.g.obj a _ ga2
  exact ⟨a, xs2, y, rfl, rfl, ha2, by rw [iml2.length, sizeLine_eq]; omega, ok.nx _ _ _ _ M2 ((f1.trans f2).trans (Frame.obj m2)) (rs2.setObj (u := .mls (ds2 ++ [dy])) m2 ⟨_, upd_same, ImL.mono (Stay.at m2) (iml2.snoc imy)⟩) q2⟩
end
/-- a slot's own list becomes an object that is reached by its address -/
def sRef (i : Nat) (t : DTS) : DTS := fun N δ G => ∃ ds, δ[i]? = some (some (.own ds)) ∧ ∀ a, G a = none → t N (δ.set i (some (.v (.ref a)))) (gset G a (some (.mls ds)))
end DD

set_option Elab.async false
set_option linter.all false
set_option maxRecDepth 100000
set_option maxHeartbeats 4000000
namespace DD
open PySem PySem.Spec L2

/-! ### plain data -/
def pl : Nat → D → Bool
  | _, .non => true
  | _, .bl _ => true
  | _, .int _ => true
  | _, .str _ => true
  | n + 1, .tup xs => xs.all (pl n)
  | n + 1, .lst xs => xs.all (pl n)
  | _, _ => false
def beqL (f : D → D → Bool) : List D → List D → Bool
  | [], [] => true
  | x :: r, y :: s => f x y && beqL f r s
  | _, _ => false
/-- Python's == of plain data -/
def beq : Nat → D → D → Bool
  | _, .non, .non => true
  | _, .bl a, .bl b => a == b
  | _, .bl a, .int j => (if a then 1 else 0) == j
  | _, .int i, .bl b => i == (if b then 1 else 0)
  | _, .int i, .int j => i == j
  | _, .str x, .str y => x == y
  | n + 1, .tup xs, .tup ys => beqL (beq n) xs ys
  | n + 1, .lst xs, .lst ys => beqL (beq n) xs ys
  | _, _, _ => false
def eqD (x y : D) : Option D := if pl 50 x = true ∧ pl 50 y = true then some (.bl (beq 50 x y)) else none
def neD (x y : D) : Option D := if pl 50 x = true ∧ pl 50 y = true then some (.bl (!beq 50 x y)) else none
def pyD : Nat → D → PyData
  | _, .non => .none
  | _, .bl b => .bool b
  | _, .int i => .int i
  | _, .str x => .str x
  | n + 1, .tup xs => .tuple (xs.map (pyD n))
  | n + 1, .lst xs => .list (xs.map (pyD n))
  | _, _ => .none
section
variable {K : PySem.W.Frag} {H H' : Hp} {M M' : Gh}
theorem dpAll_of {n : Nat} (ih : ∀ (v : V) (d : D), Im K H M v d → pl n d = true → Dp K H v (pyD n d) ∧ (pyD n d).canLay0 = true ∧ (pyD n d).depth ≤ n) : ∀ {vs : List V} {ds : List D}, ImL K H M vs ds → ds.all (pl n) = true →
    DpAll K H vs (ds.map (pyD n)) ∧ PyData.canLayAll0 (ds.map (pyD n)) = true ∧ PyData.depthAll (ds.map (pyD n)) ≤ n
  | _, _, .nil, _ => ⟨.nil, by simp [PyData.canLayAll0], by simp [PyData.depthAll]⟩
  | _, _, .cons (v := v) (d := d) im t, h => by
    rw [List.all_cons, Bool.and_eq_true] at h
    obtain ⟨a1, a2, a3⟩ := ih v d im h.1
    obtain ⟨b1, b2, b3⟩ := dpAll_of ih t h.2
    refine ⟨.cons a1 b1, ?_, ?_⟩
    · simp only [List.map_cons, PyData.canLayAll0, a2, b2, Bool.and_self]
    · simp only [List.map_cons, PyData.depthAll]
      omega
theorem im_rd {a : Addr} {xs : List V} (h : SqL K H a xs) : SqL K H a xs := h
theorem dp_of : ∀ (n : Nat) (v : V) (d : D), Im K H M v d → pl n d = true → Dp K H v (pyD n d) ∧ (pyD n d).canLay0 = true ∧ (pyD n d).depth ≤ n
  | n, _, .non, h, _ => by cases h; cases n <;> exact ⟨.non, by simp [pyD, PyData.canLay0], by simp [pyD, PyData.depth]⟩
  | n, _, .bl b, h, _ => by cases h; cases n <;> exact ⟨.bl b, by simp [pyD, PyData.canLay0], by simp [pyD, PyData.depth]⟩
  | n, _, .int i, h, _ => by cases h; cases n <;> exact ⟨.int i, by simp [pyD, PyData.canLay0], by simp [pyD, PyData.depth]⟩
  | n, _, .str x, h, _ => by
    have ok := (Tm.of h).str
    cases h
    cases n <;> exact ⟨.str x, by simp [pyD, PyData.canLay0, ok], by simp [pyD, PyData.depth]⟩
  | 0, _, .tup xs, _, h => by simp [pl] at h
  | 0, _, .lst xs, _, h => by simp [pl] at h
  | n + 1, v, .tup ds, h, hp => by
    obtain ⟨a, xs, rfl, hs, r⟩ := (Tm.of h).tup
    have hp' : ds.all (pl n) = true := by simpa [pl] using hp
    obtain ⟨b1, b2, b3⟩ := dpAll_of (dp_of n) r hp'
    exact ⟨.tup hs b1, by simp only [pyD, PyData.canLay0]; exact b2, by simp only [pyD, PyData.depth]; omega⟩
  | n + 1, v, .lst ds, h, hp => by
    obtain ⟨a, xs, rfl, hs, r⟩ := (Tm.of h).lst
    have hp' : ds.all (pl n) = true := by simpa [pl] using hp
    obtain ⟨b1, b2, b3⟩ := dpAll_of (dp_of n) r hp'
    exact ⟨.lst (im_rd hs) b1, by simp only [pyD, PyData.canLay0]; exact b2, by simp only [pyD, PyData.depth]; omega⟩
  | n, _, .ref _, _, h => by cases n <;> simp [pl] at h
  | n, _, .ty _, _, h => by cases n <;> simp [pl] at h
  | n, _, .dct _, _, h => by cases n <;> simp [pl] at h
  | n, _, .obj _ _, _, h => by cases n <;> simp [pl] at h
theorem dp_tm {n : Nat} {v : V} {d : D} (h : Tm K H M v d) (hp : pl n d = true) : Dp K H v (pyD n d) ∧ (pyD n d).canLay0 = true ∧ (pyD n d).depth ≤ n := by
  rcases h with h | ⟨a, xs, ds, rfl, rfl, ha, r⟩ | ⟨a, xs, ds, rfl, rfl, ha, r⟩
  · exact dp_of n v d h hp
  · cases n with
    | zero => simp [pl] at hp
    | succ n =>
      have hp' : ds.all (pl n) = true := by simpa [pl] using hp
      obtain ⟨b1, b2, b3⟩ := dpAll_of (dp_of n) r hp'
      exact ⟨.lst (SqL.of ha) b1, by simp only [pyD, PyData.canLay0]; exact b2, by simp only [pyD, PyData.depth]; omega⟩
  · cases n <;> simp [pl] at hp
theorem shaped_of {n : Nat} {d : D} (hn : n ≤ 64) (h : (pyD n d).canLay0 = true ∧ (pyD n d).depth ≤ n) : SeqAt.shaped (pyD n d) = true := by
  show ((pyD n d).canLay0 && decide ((pyD n d).depth ≤ 64)) = true
  rw [Bool.and_eq_true]
  exact ⟨h.1, decide_eq_true (by omega)⟩
theorem beqL_eqv {f : D → D → Bool} {g : D → PyData} : ∀ xs ys : List D, (∀ x ∈ xs, ∀ y ∈ ys, PyData.eqv (g x) (g y) = f x y) → PyData.eqvAll (xs.map g) (ys.map g) = beqL f xs ys
  | [], [], _ => by simp [PyData.eqvAll, beqL]
  | [], _ :: _, _ => by simp [PyData.eqvAll, beqL]
  | _ :: _, [], _ => by simp [PyData.eqvAll, beqL]
  | x :: r, y :: s, h => by
    simp only [List.map_cons, PyData.eqvAll, beqL]
    rw [h x (by simp) y (by simp), beqL_eqv r s fun a ha b hb => h a (by simp [ha]) b (by simp [hb])]
theorem eqv_beq : ∀ (n : Nat) (x y : D), pl n x = true → pl n y = true → PyData.eqv (pyD n x) (pyD n y) = beq n x y
  | 0, x, y, hx, hy => by cases x <;> cases y <;> first | (simp [pl] at hx; done) | (simp [pl] at hy; done) | simp [pyD, PyData.eqv, beq]
  | n + 1, x, y, hx, hy => by
    cases x <;> cases y
    case tup.tup xs ys =>
      simp only [pyD, PyData.eqv, beq]
      refine beqL_eqv _ _ fun a ha b hb => eqv_beq n a b ?_ ?_
      · have h : List.all xs (pl n) = true := by simpa only [pl] using hx
        exact List.all_eq_true.mp h a ha
      · have h : List.all ys (pl n) = true := by simpa only [pl] using hy
        exact List.all_eq_true.mp h b hb
    case lst.lst xs ys =>
      simp only [pyD, PyData.eqv, beq]
      refine beqL_eqv _ _ fun a ha b hb => eqv_beq n a b ?_ ?_
      · have h : List.all xs (pl n) = true := by simpa only [pl] using hx
        exact List.all_eq_true.mp h a ha
      · have h : List.all ys (pl n) = true := by simpa only [pl] using hy
        exact List.all_eq_true.mp h b hb
    all_goals first
      | (simp [pl] at hx; done)
      | (simp [pl] at hy; done)
      | simp [pyD, PyData.eqv, beq]
end
section
variable {X : Cx}
theorem op_eq (hu : X.A.units + 64 < cLine) : OpR X (compareOp .Eq) (OpD X.K eqD) := by
  intro pins s σ H x y v u Q I rx ry ⟨M, dx, dy, z, dom, tx, ty, hz, q⟩
  unfold eqD at hz
  split at hz
  · rename_i hp
    cases hz
    obtain ⟨a1, a2⟩ := dp_tm tx hp.1
    obtain ⟨b1, b2⟩ := dp_tm ty hp.2
    refine op_eqD hu pins s σ H x y v u Q I rx ry ⟨_, _, a1, b1, shaped_of (by decide) a2, shaped_of (by decide) b2, ?_⟩
    rw [eqv_beq 50 dx dy hp.1 hp.2]
    exact q _ H (Same.refl H) .bl
  · cases hz
theorem op_ne (hu : X.A.units + 64 < cLine) : OpR X (compareOp .NotEq) (OpD X.K neD) := by
  intro pins s σ H x y v u Q I rx ry ⟨M, dx, dy, z, dom, tx, ty, hz, q⟩
  unfold neD at hz
  split at hz
  · rename_i hp
    cases hz
    obtain ⟨a1, a2⟩ := dp_tm tx hp.1
    obtain ⟨b1, b2⟩ := dp_tm ty hp.2
    refine op_neD hu pins s σ H x y v u Q I rx ry ⟨_, _, a1, b1, shaped_of (by decide) a2, shaped_of (by decide) b2, ?_⟩
    rw [eqv_beq 50 dx dy hp.1 hp.2]
    exact q _ H (Same.refl H) .bl
  · cases hz

/-! ### numbers -/
def subD : D → D → Option D
  | .int i, .int j => some (.int (i - j))
  | _, _ => none
def mulI : D → D → Option D
  | .int i, .int j => if i.natAbs.log2 + j.natAbs.log2 < 1000000 then some (.int (i * j)) else none
  | _, _ => none
def fdivD : D → D → Option D
  | .int i, .int j => if 0 < j ∧ j.natAbs.log2 < 9000 then some (.int (i / j)) else none
  | _, _ => none
def modD : D → D → Option D
  | .int i, .int j => if 0 < j then some (.int (i % j)) else none
  | _, _ => none
def powD : D → D → Option D
  | .int i, .int j => if 1 ≤ j ∧ j ≤ 1000 ∧ i.natAbs.log2 < 10000 ∧ 2 ≤ i then some (.int (i ^ j.toNat)) else none
  | _, _ => none
def ltD : D → D → Option D
  | .int i, .int j => some (.bl (decide (i < j)))
  | _, _ => none
def leD : D → D → Option D
  | .int i, .int j => some (.bl (decide (i ≤ j)))
  | _, _ => none
def gtD : D → D → Option D
  | .int i, .int j => some (.bl (decide (j < i)))
  | _, _ => none
def geD : D → D → Option D
  | .int i, .int j => some (.bl (decide (j ≤ i)))
  | _, _ => none
/-- the second operand is None -/
def nonB : D → Bool
  | .non => true
  | _ => false
def isND (x : D) : D → Option D
  | .non => some (.bl (nonB x))
  | _ => none
def notND (x : D) : D → Option D
  | .non => some (.bl (!nonB x))
  | _ => none
def negD : D → Option D
  | .int i => some (.int (-i))
  | _ => none
theorem opd_int {f : Value → Value → Sem Value} {g : D → D → Option D} {r : R2} (ho : OpR X f r) (h : ∀ (x y z : D), g x y = some z → ∃ i j, x = .int i ∧ y = .int j ∧ ((∃ k, z = .int k ∧ ∀ (H : Hp) (Q : VK), Q (.int k) H → r (.int i) (.int j) H Q) ∨ (∃ k, z = .bl k ∧ ∀ (H : Hp) (Q : VK), Q (.bl k) H → r (.int i) (.int j) H Q))) : OpR X f (OpD X.K g) := by
  intro pins s σ H x y v u Q I rx ry ⟨M, dx, dy, z, dom, tx, ty, hz, q⟩
  obtain ⟨i, j, rfl, rfl, k⟩ := h dx dy z hz
  have e1 := tx.sc (w := .int i) rfl
  have e2 := ty.sc (w := .int j) rfl
  subst e1 e2
  rcases k with ⟨k, rfl, k⟩ | ⟨k, rfl, k⟩
  · exact ho pins s σ H _ _ v u Q I rx ry (k H Q (q _ H (Same.refl H) .int))
  · exact ho pins s σ H _ _ v u Q I rx ry (k H Q (q _ H (Same.refl H) .bl))
theorem op_sub : OpR X (binaryOp .Sub) (OpD X.K subD) := opd_int L2.op_sub fun x y z h => by
  cases x <;> cases y <;> simp only [subD, Option.some.injEq, reduceCtorEq] at h
  exact ⟨_, _, rfl, rfl, .inl ⟨_, h.symm, fun H Q q => ⟨_, _, rfl, rfl, q⟩⟩⟩
theorem op_mulI : OpR X (binaryOp .Mult) (OpD X.K mulI) := opd_int op_mulW fun x y z h => by
  cases x <;> cases y <;> simp only [mulI, reduceCtorEq] at h
  split at h
  · rename_i hc
    cases h
    exact ⟨_, _, rfl, rfl, .inl ⟨_, rfl, fun H Q q => ⟨_, _, rfl, rfl, hc, q⟩⟩⟩
  · cases h
theorem op_fdiv : OpR X (binaryOp .FloorDiv) (OpD X.K fdivD) := opd_int op_fdivW fun x y z h => by
  cases x <;> cases y <;> simp only [fdivD, reduceCtorEq] at h
  split at h
  · rename_i hc
    cases h
    exact ⟨_, _, rfl, rfl, .inl ⟨_, rfl, fun H Q q => ⟨_, _, rfl, rfl, hc, q⟩⟩⟩
  · cases h
theorem op_mod : OpR X (binaryOp .Mod) (OpD X.K modD) := opd_int L2.op_mod fun x y z h => by
  cases x <;> cases y <;> simp only [modD, reduceCtorEq] at h
  split at h
  · rename_i hc
    cases h
    exact ⟨_, _, rfl, rfl, .inl ⟨_, rfl, fun H Q q => ⟨_, _, rfl, rfl, hc, q⟩⟩⟩
  · cases h
theorem op_powG : OpR X (binaryOp .Pow) (rI (fun i j => 1 ≤ j ∧ j ≤ 1000 ∧ i.natAbs.log2 < 10000 ∧ 2 ≤ i) fun i j => .int (i ^ j.toNat)) := opI fun i j t u s Q E hc q => by
  obtain ⟨h1, h2, h3, h4⟩ := hc
  refine PySem.AutoIntOps.pow_4 (by omega) (by simp; omega) (by simp; omega) (by simp; omega) ?_ q
  have b : Builtin.Int.intBits i ≤ i.natAbs.log2 + 1 := by
    unfold Builtin.Int.intBits
    split <;> omega
  have e : bitsLine = 134217728 := by decide
  unfold Builtin.Int.intTooBig
  intro z
  have z2 := of_decide_eq_true z
  rw [e] at z2
  have h5 : ((Builtin.Int.intBits i : Nat) : Int) * j ≤ 10001 * 1000 := by
    have l1 : ((Builtin.Int.intBits i : Nat) : Int) ≤ 10001 := by omega
    have l0 : (0 : Int) ≤ ((Builtin.Int.intBits i : Nat) : Int) := Int.natCast_nonneg _
    exact Int.mul_le_mul l1 h2 (by omega) (by omega)
  omega
theorem op_pow : OpR X (binaryOp .Pow) (OpD X.K powD) := opd_int op_powG fun x y z h => by
  cases x <;> cases y <;> simp only [powD, reduceCtorEq] at h
  split at h
  · rename_i hc
    cases h
    exact ⟨_, _, rfl, rfl, .inl ⟨_, rfl, fun H Q q => ⟨_, _, rfl, rfl, hc, q⟩⟩⟩
  · cases h
theorem op_lt : OpR X (compareOp .Lt) (OpD X.K ltD) := opd_int L2.op_lt fun x y z h => by
  cases x <;> cases y <;> simp only [ltD, Option.some.injEq, reduceCtorEq] at h
  exact ⟨_, _, rfl, rfl, .inr ⟨_, h.symm, fun H Q q => ⟨_, _, rfl, rfl, q⟩⟩⟩
theorem op_le : OpR X (compareOp .LtE) (OpD X.K leD) := opd_int L2.op_le fun x y z h => by
  cases x <;> cases y <;> simp only [leD, Option.some.injEq, reduceCtorEq] at h
  exact ⟨_, _, rfl, rfl, .inr ⟨_, h.symm, fun H Q q => ⟨_, _, rfl, rfl, q⟩⟩⟩
theorem op_gt : OpR X (compareOp .Gt) (OpD X.K gtD) := opd_int L2.op_gt fun x y z h => by
  cases x <;> cases y <;> simp only [gtD, Option.some.injEq, reduceCtorEq] at h
  exact ⟨_, _, rfl, rfl, .inr ⟨_, h.symm, fun H Q q => ⟨_, _, rfl, rfl, q⟩⟩⟩
theorem op_ge : OpR X (compareOp .GtE) (OpD X.K geD) := opd_int L2.op_ge fun x y z h => by
  cases x <;> cases y <;> simp only [geD, Option.some.injEq, reduceCtorEq] at h
  exact ⟨_, _, rfl, rfl, .inr ⟨_, h.symm, fun H Q q => ⟨_, _, rfl, rfl, q⟩⟩⟩
theorem Tm.ref' {K : PySem.W.Frag} {H : Hp} {M : Gh} {v : V} {d : D} (h : Tm K H M v d) (hd : scV d = none) : ∃ a, v = .ref a := by
  rcases h with h | ⟨a, xs, ds, h, _⟩ | ⟨a, xs, ds, h, _⟩
  · cases h <;> first | exact ⟨_, rfl⟩ | cases hd
  · exact ⟨a, h⟩
  · exact ⟨a, h⟩
theorem op_is : OpR X (compareOp .Is) (OpD X.K isND) := by
  intro pins s σ H x y v u Q I rx ry ⟨M, dx, dy, z, dom, tx, ty, hz, q⟩
  cases dy <;> simp only [isND, Option.some.injEq, reduceCtorEq] at hz
  have e2 := ty.sc (w := .non) rfl
  subst e2
  subst hz
  refine op_isN pins s σ H x _ v u Q I rx ry ⟨rfl, ?_⟩
  have e : nonB dx = decide (x = V.non) := by
    cases hd : scV dx with
    | some w =>
      have e3 := tx.sc hd
      subst e3
      cases dx <;> first | (cases hd; rfl) | cases hd
    | none =>
      obtain ⟨a, rfl⟩ := tx.ref' hd
      cases dx <;> first | rfl | cases hd
  rw [← e]
  exact q _ H (Same.refl H) .bl
theorem op_isnot : OpR X (compareOp .IsNot) (OpD X.K notND) := by
  intro pins s σ H x y v u Q I rx ry ⟨M, dx, dy, z, dom, tx, ty, hz, q⟩
  cases dy <;> simp only [notND, Option.some.injEq, reduceCtorEq] at hz
  have e2 := ty.sc (w := .non) rfl
  subst e2
  subst hz
  refine op_notN pins s σ H x _ v u Q I rx ry ⟨rfl, ?_⟩
  have e : (!nonB dx) = !decide (x = V.non) := by
    cases hd : scV dx with
    | some w =>
      have e3 := tx.sc hd
      subst e3
      cases dx <;> first | (cases hd; rfl) | cases hd
    | none =>
      obtain ⟨a, rfl⟩ := tx.ref' hd
      cases dx <;> first | rfl | cases hd
  rw [← e]
  exact q _ H (Same.refl H) .bl
theorem un_neg' : UnR X (unaryOp .USub) (UnD X.K negD) := by
  intro pins s σ H x v Q I rx ⟨M, dx, z, dom, tx, hz, q⟩
  cases dx <;> simp only [negD, Option.some.injEq, reduceCtorEq] at hz
  have e := tx.sc (w := .int _) rfl
  subst e
  subst hz
  exact un_neg pins s σ H _ v Q I rx ⟨_, rfl, q _ H (Same.refl H) .int⟩
end
end DD

set_option Elab.async false
set_option linter.all false
set_option maxRecDepth 100000
set_option maxHeartbeats 4000000
namespace DD
open PySem PySem.Spec L2

section
variable {K : PySem.W.Frag} {H H' : Hp} {M M' : Gh}
theorem TmL.one {xs : List V} {d : D} (h : TmL K H M xs [d]) : ∃ v, xs = [v] ∧ Tm K H M v d := by
  cases h with
  | cons r t => cases t; exact ⟨_, rfl, r⟩
theorem TmL.two {xs : List V} {d e : D} (h : TmL K H M xs [d, e]) : ∃ v w, xs = [v, w] ∧ Tm K H M v d ∧ Tm K H M w e := by
  cases h with
  | cons r t => cases t with
    | cons r2 t => cases t; exact ⟨_, _, rfl, r, r2⟩
theorem rd_lst {a : Addr} {xs : List V} (h : SqL K H a xs) : SqL K H a xs := h
end

/-! ### + -/
def addD : D → D → Option D
  | .int i, .int j => some (.int (i + j))
  | .str x, .str y => if x.length + y.length ≤ 16777216 then some (.str (x ++ y)) else none
  | .tup xs, .tup ys => if xs.length + ys.length ≤ 1000000 then some (.tup (xs ++ ys)) else none
  | _, _ => none
theorem strOk_app {x y : Str} (h : PyData.strOk x = true) (k : PyData.strOk y = true) : PyData.strOk (x ++ y) = true := by
  have h1 : x.cps.all (· < 0x110000) = true := h
  have h2 : y.cps.all (· < 0x110000) = true := k
  show (x.cps ++ y.cps).all (· < 0x110000) = true
  rw [Array.all_append, h1, h2]; rfl
section
variable {X : Cx}
theorem op_add : OpR X (binaryOp .Add) (OpD X.K addD) := by
  intro pins s σ H x y v u Q I rx ry ⟨M, dx, dy, z, dom, tx, ty, hz, q⟩
  cases dx <;> cases dy <;> simp only [addD, reduceCtorEq] at hz
  · have e1 := tx.sc (w := .int _) rfl
    have e2 := ty.sc (w := .int _) rfl
    subst e1 e2
    cases hz
    exact L2.op_add pins s σ H _ _ v u Q I rx ry ⟨_, _, rfl, rfl, q _ H (Same.refl H) .int⟩
  · have o1 := tx.str
    have o2 := ty.str
    have e1 := tx.sc (w := .str _) rfl
    have e2 := ty.sc (w := .str _) rfl
    subst e1 e2
    split at hz
    · rename_i hc
      cases hz
      exact op_add_str pins s σ H _ _ v u Q I rx ry ⟨_, _, rfl, rfl, by rw [sizeLine_eq]; exact hc, q _ H (Same.refl H) (.str (strOk_app o1 o2))⟩
    · cases hz
  · obtain ⟨a, xs, rfl, ha, r1⟩ := tx.tup
    obtain ⟨b, ys, rfl, hb, r2⟩ := ty.tup
    split at hz
    · rename_i hc
      cases hz
      refine op_catA pins s σ H _ _ v u Q I rx ry ⟨a, b, xs, ys, rfl, rfl, ha, hb, by rw [r1.length, r2.length]; exact sz_million hc, fun e => ?_, fun _ e => ?_, fun _ _ p n => ?_⟩
      · subst e
        cases r1
        refine q _ H (Same.refl H) ?_
        rcases ty with ty | ⟨_, _, _, _, e, _⟩ | ⟨_, _, _, _, e, _⟩
        · exact ty
        · cases e
        · cases e
      · subst e
        cases r2
        rw [List.append_nil] at q
        refine q _ H (Same.refl H) ?_
        rcases tx with tx | ⟨_, _, _, _, e, _⟩ | ⟨_, _, _, _, e, _⟩
        · exact tx
        · cases e
        · cases e
      · exact q _ _ (Same.new n) (Im.newTup dom n (r1.append r2))
    · cases hz

/-! ### * of a text, of a list -/
def repD : D → D → Option D
  | .int i, .int j => mulI (.int i) (.int j)
  | .str x, .int n => if 2 ≤ n ∧ n ≤ 1000 ∧ 1 ≤ x.length ∧ x.length ≤ 1000 then some (.str ⟨(List.replicate n.toNat x.cps).foldl (· ++ ·) #[]⟩) else if n = 1 then some (.str x) else none
  | _, _ => none
theorem strOk_rep {x : Str} (h : PyData.strOk x = true) (n : Nat) : PyData.strOk ⟨(List.replicate n x.cps).foldl (· ++ ·) #[]⟩ = true := by
  have h1 : x.cps.all (· < 0x110000) = true := h
  have key : ∀ (n : Nat) (acc : Array Nat), acc.all (· < 0x110000) = true → ((List.replicate n x.cps).foldl (· ++ ·) acc).all (· < 0x110000) = true := by
    intro n
    induction n with
    | zero => intro acc ha; exact ha
    | succ n ih => intro acc ha; exact ih _ (by rw [Array.all_append, ha, h1]; rfl)
  exact key n #[] (by simp)

/-! ### len -/
def lenD : List D → Option D
  | [.str x] => if x.length ≤ 16777216 then some (.int x.length) else none
  | [.lst xs] => some (.int xs.length)
  | [.tup xs] => some (.int xs.length)
  | _ => none
theorem call_lenD : CallR X (.builtin "len") (CallD X.K lenD) := by
  intro pins s σ H xs us Q I r ⟨M, ds, z, dom, t, hz, q⟩
  unfold lenD at hz
  split at hz
  · obtain ⟨v, rfl, t1⟩ := t.one
    have e1 := t1.sc (w := .str _) rfl
    subst e1
    split at hz
    · rename_i hc
      cases hz
      exact call_len_str pins s σ H _ us Q I r ⟨_, rfl, by rw [sizeLine_eq]; exact hc, q _ H (Same.refl H) .int⟩
    · cases hz
  · obtain ⟨v, rfl, t1⟩ := t.one
    obtain ⟨a, xs, rfl, ha, r1⟩ := t1.lst
    cases hz
    refine call_len_seq pins s σ H _ us Q I r ⟨a, xs, rfl, .inl (rd_lst ha), ?_⟩
    rw [r1.length]
    exact q _ H (Same.refl H) .int
  · obtain ⟨v, rfl, t1⟩ := t.one
    obtain ⟨a, xs, rfl, ha, r1⟩ := t1.tup
    cases hz
    refine call_len_seq pins s σ H _ us Q I r ⟨a, xs, rfl, .inr ha, ?_⟩
    rw [r1.length]
    exact q _ H (Same.refl H) .int
  · cases hz

/-! ### subscripts -/
def ixD : D → D → Option D
  | .lst xs, .int i => atI xs i
  | .tup xs, .int i => atI xs i
  | .str z, .int i => if z.length ≤ 16777216 then (atI z.cps.toList i).map fun c => .str ⟨#[c]⟩ else none
  | _, _ => none
theorem at_im {K : PySem.W.Frag} {H : Hp} {M : Gh} {xs : List V} {ds : List D} {i : Int} {d : D} (r : ImL K H M xs ds) (h : atI ds i = some d) : ∃ v, atI xs i = some v ∧ Im K H M v d := by
  unfold atI at h ⊢
  rw [r.length]
  cases e : ixN ds.length i with
  | none => rw [e] at h; cases h
  | some j =>
    rw [e] at h
    exact r.get h
theorem ix_any : IxR X (OpD X.K ixD) := by
  intro value slice pins s σ H x y v u Q I rx ry ⟨M, dx, dy, z, dom, tx, ty, hz, q⟩ hs
  cases dx <;> cases dy <;> simp only [ixD, reduceCtorEq] at hz
  · have o1 := tx.str
    have e1 := tx.sc (w := .str _) rfl
    have e2 := ty.sc (w := .int _) rfl
    subst e1 e2
    split at hz
    · rename_i hc
      cases e : atI (Array.toList (Str.cps _)) _ with
      | none => rw [e] at hz; cases hz
      | some c =>
        rw [e] at hz
        cases hz
        refine ix_str value slice pins s σ H _ _ v u Q I rx ry ⟨_, _, c, rfl, rfl, by rw [sizeLine_eq]; exact hc, e, q _ H (Same.refl H) (.str ?_)⟩ hs
        unfold atI at e
        cases e2 : ixN (Array.toList (Str.cps _)).length _ with
        | none => rw [e2] at e; cases e
        | some j =>
          rw [e2] at e
          have e3 : (Array.toList (Str.cps _))[j]? = some c := e
          rw [Array.getElem?_toList] at e3
          exact strOk_one o1 e3
    · cases hz
  · obtain ⟨a, xs, rfl, ha, r1⟩ := tx.tup
    have e2 := ty.sc (w := .int _) rfl
    subst e2
    obtain ⟨w, hw, im⟩ := at_im r1 hz
    exact ix_tup value slice pins s σ H _ _ v u Q I rx ry ⟨a, xs, _, w, rfl, rfl, ha, hw, q _ H (Same.refl H) im⟩ hs
  · obtain ⟨a, xs, rfl, ha, r1⟩ := tx.lst
    have e2 := ty.sc (w := .int _) rfl
    subst e2
    obtain ⟨w, hw, im⟩ := at_im r1 hz
    exact ix_list value slice pins s σ H _ _ v u Q I rx ry ⟨a, xs, _, w, rfl, rfl, rd_lst ha, hw, q _ H (Same.refl H) im⟩ hs

/-! ### in, not in -/
def inS (x : Str) (z : Str) : Option Bool := match x.cps.toList with
  | [c] => some (decide (c ∈ z.cps.toList))
  | _ => none
def flatD : D → Bool
  | .non => true
  | .bl _ => true
  | .int _ => true
  | .str _ => true
  | _ => false
def inD : D → D → Option D
  | .str x, .str z => (inS x z).map .bl
  | x, .lst ys => if pl 49 x = true ∧ pl 50 (.lst ys) = true then some (.bl (ys.any fun y => beq 49 y x)) else none
  | x, .tup ys => if flatD x = true ∧ ys.all flatD = true then some (.bl (ys.any fun y => beq 49 y x)) else none
  | _, _ => none
def notInD (x y : D) : Option D := match inD x y with
  | some (.bl b) => some (.bl (!b))
  | _ => none
theorem any_eqv {ys : List D} {x : D} (h : ys.all (pl 49) = true) (hx : pl 49 x = true) : ((ys.map (pyD 49)).any fun z => PyData.eqv z (pyD 49 x)) = ys.any fun y => beq 49 y x := by
  induction ys with
  | nil => rfl
  | cons y r ih =>
    rw [List.all_cons, Bool.and_eq_true] at h
    rw [List.map_cons, List.any_cons, List.any_cons, ih h.2, eqv_beq 49 y x h.1 hx]
theorem one_str {x : Str} {c : Nat} (h : x.cps.toList = [c]) : x = ⟨#[c]⟩ := by
  obtain ⟨a⟩ := x
  congr 1
  exact Array.toList_inj.mp h
theorem flat_v {K : PySem.W.Frag} {H : Hp} {M : Gh} {v : V} {d : D} (im : Im K H M v d) (h : flatD d = true) : flatV v = true := by
  cases im <;> first | rfl | cases h
theorem flat_eq {K : PySem.W.Frag} {H : Hp} {M : Gh} {v w : V} {d e : D} (i1 : Im K H M v d) (i2 : Im K H M w e) (h1 : flatD d = true) (h2 : flatD e = true) : eqV v w = beq 49 d e := by
  cases i1 <;> first | (cases h1; done) | skip
  all_goals cases i2 <;> first | (cases h2; done) | skip
  all_goals first | rfl | (simp [eqV, beq]; done) | skip

theorem inV_of {K : PySem.W.Frag} {H : Hp} {M : Gh} {v : V} {d : D} (i1 : Im K H M v d) (h1 : flatD d = true) : ∀ {xs : List V} {ds : List D}, ImL K H M xs ds → ds.all flatD = true → xs.all flatV = true ∧ inV v xs = ds.any fun y => beq 49 y d
  | _, _, .nil, _ => ⟨rfl, rfl⟩
  | _, _, .cons im r, h => by
    rw [List.all_cons, Bool.and_eq_true] at h
    obtain ⟨a, b⟩ := inV_of i1 h1 r h.2
    refine ⟨by rw [List.all_cons, flat_v im h.1, a]; rfl, ?_⟩
    unfold inV at b ⊢
    rw [List.any_cons, List.any_cons, b, flat_eq im i1 h.1 h1]
theorem Tm.im {K : PySem.W.Frag} {H : Hp} {M : Gh} {v : V} {d : D} (t : Tm K H M v d) (h : flatD d = true) : Im K H M v d := by
  rcases t with t | ⟨_, _, _, _, e, _⟩ | ⟨_, _, _, _, e, _⟩
  · exact t
  · subst e; cases h
  · subst e; cases h
/-- in, and its contrary, by what it answers -/
theorem in_ops (hu : X.A.units + 65 < cLine) {pins : List (Addr × Obj)} {s : Shared} {σ : St} {H : Hp} {x y : V} {v u : Value} {b : Bool} {M : Gh} {dx dy : D} (I : Inv X pins σ H s) (rx : RelV x v) (ry : RelV y u) (tx : Tm X.K H M x dx) (ty : Tm X.K H M y dy) (hz : inD dx dy = some (.bl b)) :
    (∀ Q : VK, Q (.bl b) H → wpAny (model X.prog X.w) X.A (compareOp .In v u) (EP X pins σ Q) X.xe s) ∧ (∀ Q : VK, Q (.bl (!b)) H → wpAny (model X.prog X.w) X.A (compareOp .NotIn v u) (EP X pins σ Q) X.xe s) := by
  have lst : ∀ {x : V} {dx : D} {ys : List D} {v : Value}, RelV x v → Tm X.K H M x dx → Tm X.K H M y (.lst ys) → (if pl 49 dx = true ∧ pl 50 (.lst ys) = true then some (D.bl (ys.any fun y => beq 49 y dx)) else none) = some (.bl b) →
      (∀ Q : VK, Q (.bl b) H → wpAny (model X.prog X.w) X.A (compareOp .In v u) (EP X pins σ Q) X.xe s) ∧ (∀ Q : VK, Q (.bl (!b)) H → wpAny (model X.prog X.w) X.A (compareOp .NotIn v u) (EP X pins σ Q) X.xe s) := by
    intro x dx ys v rx tx ty hz
    split at hz
    · rename_i hp
      cases hz
      obtain ⟨a1, a2⟩ := dp_tm tx hp.1
      obtain ⟨b1, b2⟩ := dp_tm ty hp.2
      have hall : ys.all (pl 49) = true := by simpa only [pl] using hp.2
      have e := any_eqv hall hp.1
      have s1 := shaped_of (by decide) a2
      have s2 := shaped_of (by decide) b2
      refine ⟨fun Q q => op_inD hu pins s σ H x y v u Q I rx ry ⟨_, _, a1, b1, s1, s2, ?_⟩, fun Q q => op_notInD hu pins s σ H x y v u Q I rx ry ⟨_, _, a1, b1, s1, s2, ?_⟩⟩
      · rw [e]; exact q
      · rw [e]; exact q
    · cases hz
  have tup : ∀ {x : V} {dx : D} {ys : List D} {v : Value}, RelV x v → Tm X.K H M x dx → Tm X.K H M y (.tup ys) → (if flatD dx = true ∧ ys.all flatD = true then some (D.bl (ys.any fun y => beq 49 y dx)) else none) = some (.bl b) →
      (∀ Q : VK, Q (.bl b) H → wpAny (model X.prog X.w) X.A (compareOp .In v u) (EP X pins σ Q) X.xe s) ∧ (∀ Q : VK, Q (.bl (!b)) H → wpAny (model X.prog X.w) X.A (compareOp .NotIn v u) (EP X pins σ Q) X.xe s) := by
    intro x dx ys v rx tx ty hz
    split at hz
    · rename_i hp
      cases hz
      obtain ⟨a, xs, rfl, ha, r1⟩ := ty.tup
      have im := tx.im hp.1
      obtain ⟨e1, e2⟩ := inV_of im hp.1 r1 hp.2
      refine ⟨fun Q q => op_in_seq pins s σ H x _ v u Q I rx ry ⟨a, xs, rfl, .inr ha, flat_v im hp.1, e1, ?_⟩, fun Q q => op_notIn_seq pins s σ H x _ v u Q I rx ry ⟨a, xs, rfl, .inr ha, flat_v im hp.1, e1, ?_⟩⟩
      · rw [e2]; exact q
      · rw [e2]; exact q
    · cases hz
  cases dy with
  | lst ys => cases dx <;> exact lst rx tx ty hz
  | tup ys => cases dx <;> exact tup rx tx ty hz
  | str z =>
    cases dx <;> simp only [inD, reduceCtorEq] at hz
    rename_i x0
    have e1 := tx.sc (w := .str _) rfl
    have e2 := ty.sc (w := .str _) rfl
    subst e1 e2
    cases e : inS x0 z with
    | none => rw [e] at hz; cases hz
    | some bb =>
      rw [e] at hz
      cases hz
      unfold inS at e
      split at e
      · rename_i c hc
        have ex := one_str hc
        subst ex
        cases e
        refine ⟨fun Q q => op_in_sign pins s σ H _ _ v u Q I rx ry ⟨_, _, rfl, rfl, q⟩, fun Q q => op_notIn_str pins s σ H _ _ v u Q I rx ry ⟨_, _, rfl, rfl, ?_⟩⟩
        have e3 := (PySem.StrLaws.found_one z c).symm
        rw [e3] at q
        exact q
      · cases e
  | _ => cases dx <;> simp only [inD, reduceCtorEq] at hz
theorem in_bl {x y z : D} (h : inD x y = some z) : ∃ b, z = .bl b := by
  cases y with
  | lst ys => cases x <;> (simp only [inD] at h; split at h <;> cases h; exact ⟨_, rfl⟩)
  | tup ys => cases x <;> (simp only [inD] at h; split at h <;> cases h; exact ⟨_, rfl⟩)
  | str z =>
    cases x <;> simp only [inD, reduceCtorEq] at h
    rename_i x0
    cases e : inS x0 z with
    | none => rw [e] at h; cases h
    | some bb => rw [e] at h; cases h; exact ⟨_, rfl⟩
  | _ => cases x <;> simp only [inD, reduceCtorEq] at h
theorem op_in (hu : X.A.units + 65 < cLine) : OpR X (compareOp .In) (OpD X.K inD) := by
  intro pins s σ H x y v u Q I rx ry ⟨M, dx, dy, z, dom, tx, ty, hz, q⟩
  obtain ⟨b, rfl⟩ := in_bl hz
  exact (in_ops hu I rx ry tx ty hz).1 Q (q _ H (Same.refl H) .bl)
theorem op_notin (hu : X.A.units + 65 < cLine) : OpR X (compareOp .NotIn) (OpD X.K notInD) := by
  intro pins s σ H x y v u Q I rx ry ⟨M, dx, dy, z, dom, tx, ty, hz, q⟩
  unfold notInD at hz
  split at hz
  · rename_i b hb
    cases hz
    exact (in_ops hu I rx ry tx ty hb).2 Q (q _ H (Same.refl H) .bl)
  · cases hz

/-! ### slices -/
def cutD {α : Type} (xs : List α) (lo hi : Option Int) : List α := (xs.drop (HT.sIx xs.length 0 lo)).take (HT.sIx xs.length xs.length hi - HT.sIx xs.length 0 lo)
def slD : D → Option Int → Option Int → Option D
  | .lst xs, lo, hi => some (.lst (cutD xs lo hi))
  | .tup xs, lo, hi => some (.tup (cutD xs lo hi))
  | .str z, lo, hi => if z.length ≤ 16777216 then some (.str (cutS z lo hi)) else none
  | _, _, _ => none
def SlD (K : PySem.W.Frag) (g : D → Option Int → Option Int → Option D) : V → Option Int → Option Int → Hp → VK → Prop := fun x lo hi H Q => ∃ M dx z, Dom M H ∧ Tm K H M x dx ∧ g dx lo hi = some z ∧ ∀ v H', Same H H' → Im K H' M v z → Q v H'
theorem cut_im {K : PySem.W.Frag} {H : Hp} {M : Gh} {xs : List V} {ds : List D} (lo hi : Option Int) (r : ImL K H M xs ds) : ImL K H M (cutV xs lo hi) (cutD ds lo hi) := by
  unfold cutV cutD
  rw [r.length]
  exact (r.drop _).take _
theorem cut_all {K : PySem.W.Frag} {H : Hp} {M : Gh} {xs : List V} {ds : List D} (lo hi : Option Int) (r : ImL K H M xs ds) (h : HT.sIx xs.length 0 lo = 0 ∧ HT.sIx xs.length xs.length hi = xs.length) : cutD ds lo hi = ds := by
  unfold cutD
  rw [← r.length, h.1, h.2, List.drop_zero, Nat.sub_zero, List.take_of_length_le (by rw [r.length]; exact Nat.le_refl _)]
theorem strOk_cut {z : Str} (h : PyData.strOk z = true) (lo hi : Option Int) : PyData.strOk (cutS z lo hi) = true := by
  have h1 : z.cps.all (· < 0x110000) = true := h
  rw [Array.all_eq_true'] at h1
  show (((z.cps.toList.drop _).take _).toArray).all (· < 0x110000) = true
  rw [Array.all_eq_true']
  intro c hc
  have h2 : c ∈ (z.cps.toList.drop (HT.sIx z.length 0 lo)).take (HT.sIx z.length z.length hi - HT.sIx z.length 0 lo) := by simpa using hc
  have h3 := List.mem_of_mem_drop (List.mem_of_mem_take h2)
  exact h1 c (by simpa using h3)
theorem sl_any : SlR X (SlD X.K slD) := by
  intro pins s σ H x v vl vu lo hi sl Q I rx hs pl pu ⟨M, dx, z, dom, tx, hz, q⟩
  cases dx <;> simp only [slD, reduceCtorEq] at hz
  · have o1 := tx.str
    have e1 := tx.sc (w := .str _) rfl
    subst e1
    split at hz
    · rename_i hc
      cases hz
      exact sl_str pins s σ H _ v vl vu lo hi sl Q I rx hs pl pu ⟨_, rfl, by rw [sizeLine_eq]; exact hc, q _ H (Same.refl H) (.str (strOk_cut o1 lo hi))⟩
    · cases hz
  · obtain ⟨a, xs, rfl, ha, r1⟩ := tx.tup
    cases hz
    refine sl_tupA pins s σ H _ v vl vu lo hi sl Q I rx hs pl pu ⟨a, xs, rfl, ha, fun h => ?_, fun _ p n => q _ _ (Same.new n) (Im.newTup dom n (cut_im lo hi r1))⟩
    rw [cut_all lo hi r1 h] at q
    refine q _ H (Same.refl H) ?_
    rcases tx with tx | ⟨_, _, _, _, e, _⟩ | ⟨_, _, _, _, e, _⟩
    · exact tx
    · cases e
    · cases e
  · obtain ⟨a, xs, rfl, ha, r1⟩ := tx.lst
    cases hz
    exact sl_list pins s σ H _ v vl vu lo hi sl Q I rx hs pl pu ⟨a, xs, rfl, rd_lst ha, fun p n => q _ _ (Same.new n) (Im.newLst dom n (cut_im lo hi r1))⟩

/-! ### list(x), tuple(x), int(x), abs, max, min -/
def listD : List D → Option D
  | [.lst xs] => some (.lst xs)
  | [.tup xs] => some (.lst xs)
  | _ => none
def tupleD : List D → Option D
  | [.lst xs] => some (.tup xs)
  | [.tup xs] => some (.tup xs)
  | _ => none
theorem call_tupleD : CallR X (.type "tuple") (CallD X.K tupleD) := by
  intro pins s σ H xs us Q I r ⟨M, ds, z, dom, t, hz, q⟩
  unfold tupleD at hz
  split at hz
  · obtain ⟨v, rfl, t1⟩ := t.one
    obtain ⟨a, xs, rfl, ha, r1⟩ := t1.lst
    cases hz
    exact call_tuple_of pins s σ H _ us Q I r ⟨a, xs, rfl, .inl ⟨rd_lst ha, fun l n => q _ _ (Same.new n) (Im.newTup dom n r1)⟩⟩
  · obtain ⟨v, rfl, t1⟩ := t.one
    obtain ⟨a, xs, rfl, ha, r1⟩ := t1.tup
    cases hz
    refine call_tuple_of pins s σ H _ us Q I r ⟨a, xs, rfl, .inr ⟨ha, q _ H (Same.refl H) ?_⟩⟩
    rcases t1 with t1 | ⟨_, _, _, _, e, _⟩ | ⟨_, _, _, _, e, _⟩
    · exact t1
    · cases e
    · cases e
  · cases hz
theorem call_listD : CallR X (.type "list") (CallD X.K listD) := by
  intro pins s σ H xs us Q I r ⟨M, ds, z, dom, t, hz, q⟩
  unfold listD at hz
  split at hz
  · obtain ⟨v, rfl, t1⟩ := t.one
    obtain ⟨a, xs, rfl, ha, r1⟩ := t1.lst
    cases hz
    exact call_list_of pins s σ H _ us Q I r ⟨a, xs, rfl, .inl (rd_lst ha), fun l n => q _ _ (Same.new n) (Im.newLst dom n r1)⟩
  · obtain ⟨v, rfl, t1⟩ := t.one
    obtain ⟨a, xs, rfl, ha, r1⟩ := t1.tup
    cases hz
    exact call_list_of pins s σ H _ us Q I r ⟨a, xs, rfl, .inr ha, fun l n => q _ _ (Same.new n) (Im.newLst dom n r1)⟩
  · cases hz
def intD : List D → Option D
  | [.int i] => some (.int i)
  | [.bl b] => some (.int (if b then 1 else 0))
  | _ => none
theorem call_intD : CallR X (.type "int") (CallD X.K intD) := by
  intro pins s σ H xs us Q I r ⟨M, ds, z, dom, t, hz, q⟩
  unfold intD at hz
  split at hz
  · obtain ⟨v, rfl, t1⟩ := t.one
    have e1 := t1.sc (w := .int _) rfl
    subst e1
    cases hz
    exact call_int1 pins s σ H _ us Q I r (.inl ⟨_, rfl, q _ H (Same.refl H) .int⟩)
  · obtain ⟨v, rfl, t1⟩ := t.one
    have e1 := t1.sc (w := .bl _) rfl
    subst e1
    cases hz
    exact call_int1 pins s σ H _ us Q I r (.inr ⟨_, rfl, q _ H (Same.refl H) .int⟩)
  · cases hz
def absD : List D → Option D
  | [.int i] => some (.int (if i < 0 then -i else i))
  | _ => none
theorem call_absD : CallR X (.builtin "abs") (CallD X.K absD) := by
  intro pins s σ H xs us Q I r ⟨M, ds, z, dom, t, hz, q⟩
  unfold absD at hz
  split at hz
  · obtain ⟨v, rfl, t1⟩ := t.one
    have e1 := t1.sc (w := .int _) rfl
    subst e1
    cases hz
    exact call_abs pins s σ H _ us Q I r ⟨_, rfl, q _ H (Same.refl H) .int⟩
  · cases hz
def maxD : List D → Option D
  | [.int i, .int j] => some (.int (if j > i then j else i))
  | _ => none
def minD : List D → Option D
  | [.int i, .int j] => some (.int (if j < i then j else i))
  | _ => none
theorem call_maxD (hc : X.calm = true) : CallR X (.builtin "max") (CallD X.K maxD) := by
  intro pins s σ H xs us Q I r ⟨M, ds, z, dom, t, hz, q⟩
  unfold maxD at hz
  split at hz
  · obtain ⟨v, w, rfl, t1, t2⟩ := t.two
    have e1 := t1.sc (w := .int _) rfl
    have e2 := t2.sc (w := .int _) rfl
    subst e1 e2
    cases hz
    exact call_max2 hc pins s σ H _ us Q I r ⟨_, _, rfl, q _ H (Same.refl H) .int⟩
  · cases hz
theorem call_minD (hc : X.calm = true) : CallR X (.builtin "min") (CallD X.K minD) := by
  intro pins s σ H xs us Q I r ⟨M, ds, z, dom, t, hz, q⟩
  unfold minD at hz
  split at hz
  · obtain ⟨v, w, rfl, t1, t2⟩ := t.two
    have e1 := t1.sc (w := .int _) rfl
    have e2 := t2.sc (w := .int _) rfl
    subst e1 e2
    cases hz
    exact call_min2 hc pins s σ H _ us Q I r ⟨_, _, rfl, q _ H (Same.refl H) .int⟩
  · cases hz

/-! ### all, any of bools -/
def blsD : List D → Option (List Bool)
  | [] => some []
  | .bl b :: r => (blsD r).map (b :: ·)
  | _ => none
def allD : List D → Option D
  | [.lst xs] => (blsD xs).map fun bs => .bl (bs.all id)
  | _ => none
def anyD : List D → Option D
  | [.lst xs] => (blsD xs).map fun bs => .bl (bs.any id)
  | _ => none
theorem bls_of {K : PySem.W.Frag} {H : Hp} {M : Gh} : ∀ {xs : List V} {ds : List D} {us : List Value} {bs : List Bool}, ImL K H M xs ds → Vals xs us → blsD ds = some bs → PyProof.Rows.LSm.BoolsAre us bs
  | _, _, _, _, .nil, .nil, h => by simp [blsD] at h; subst h; exact .nil
  | _, _, _, bs, .cons (d := d) im t, .cons r rr, h => by
    cases d <;> simp only [blsD, reduceCtorEq, Option.map_eq_some_iff] at h
    obtain ⟨b2, h1, h2⟩ := h
    subst h2
    have e := bls_of t rr h1
    cases im
    have e2 : _ = _ := r
    subst e2
    exact .cons _ e
theorem call_allD (hc : X.calm = true) : CallR X (.builtin "all") (CallD X.K allD) := by
  intro pins s σ H xs us Q I r ⟨M, ds, z, dom, t, hz, q⟩
  unfold allD at hz
  split at hz
  · obtain ⟨v, rfl, t1⟩ := t.one
    obtain ⟨l, vs, rfl, ha, r1⟩ := t1.lst
    obtain ⟨u, rfl, rx⟩ := vals1 r
    cases rx
    obtain ⟨its, rv, pl, hz2⟩ := I.list (rd_lst ha)
    rw [Option.map_eq_some_iff] at hz
    obtain ⟨bs, hb, e⟩ := hz
    subst e
    have ei := bls_of r1 rv hb
    have hl := pl.isList
    have hlt : l < s.heap.objs.size := by obtain ⟨_, e, _⟩ := hl; exact Heap.lt_size e
    refine call_all_walk (wpAny_pyIter_list hl ?_)
    refine ⟨s.heap.objs.size, [s.heap.objs.size, l], [s.heap.objs.size], its.toArray.size, _, _, fun i => (bs[i]?).getD true, rfl, Walks.list (A := X.A.in1) (I.ok.hd hc) _ l (Nat.ne_of_lt hlt) its.toArray,
      ⟨⟨_, Heap.get?_push_size _ rfl, rfl, rfl⟩, hl.push _⟩, fun i v s' Q' E' hP hQ => ?_, fun h' tk hk => ?_⟩
    · obtain ⟨b, e, rfl⟩ := ei.get i v (by simpa using hP)
      simp only [e, Option.getD_some] at hQ
      exact wpAny_truthy_bool hQ
    · have e : ((List.range its.toArray.size).all fun i => (bs[i]?).getD true) = bs.all id := by
        rw [List.size_toArray, ei.length]; exact PyProof.Rows.LSm.range_all bs
      rw [e]
      exact ⟨.bl _, H, I.kept (t' := tk) (PyProof.Rows.LSm.kept_iter hk), rfl, q _ H (Same.refl H) .bl⟩
  · cases hz
theorem call_anyD (hc : X.calm = true) : CallR X (.builtin "any") (CallD X.K anyD) := by
  intro pins s σ H xs us Q I r ⟨M, ds, z, dom, t, hz, q⟩
  unfold anyD at hz
  split at hz
  · obtain ⟨v, rfl, t1⟩ := t.one
    obtain ⟨l, vs, rfl, ha, r1⟩ := t1.lst
    obtain ⟨u, rfl, rx⟩ := vals1 r
    cases rx
    obtain ⟨its, rv, pl, hz2⟩ := I.list (rd_lst ha)
    rw [Option.map_eq_some_iff] at hz
    obtain ⟨bs, hb, e⟩ := hz
    subst e
    have ei := bls_of r1 rv hb
    have hl := pl.isList
    have hlt : l < s.heap.objs.size := by obtain ⟨_, e, _⟩ := hl; exact Heap.lt_size e
    refine call_any_walk (wpAny_pyIter_list hl ?_)
    refine ⟨s.heap.objs.size, [s.heap.objs.size, l], [s.heap.objs.size], its.toArray.size, _, _, fun i => (bs[i]?).getD false, rfl, Walks.list (A := X.A.in1) (I.ok.hd hc) _ l (Nat.ne_of_lt hlt) its.toArray,
      ⟨⟨_, Heap.get?_push_size _ rfl, rfl, rfl⟩, hl.push _⟩, fun i v s' Q' E' hP hQ => ?_, fun h' tk hk => ?_⟩
    · obtain ⟨b, e, rfl⟩ := ei.get i v (by simpa using hP)
      simp only [e, Option.getD_some] at hQ
      exact wpAny_truthy_bool hQ
    · have e : ((List.range its.toArray.size).any fun i => (bs[i]?).getD false) = bs.any id := by
        rw [List.size_toArray, ei.length]; exact PyProof.Rows.LSm.range_any bs
      rw [e]
      exact ⟨.bl _, H, I.kept (t' := tk) (PyProof.Rows.LSm.kept_iter hk), rfl, q _ H (Same.refl H) .bl⟩
  · cases hz
/-! ### text * int -/
theorem op_rep : OpR X (binaryOp .Mult) (OpD X.K repD) := by
  intro pins s σ H x y v u Q I rx ry ⟨M, dx, dy, z, dom, tx, ty, hz, q⟩
  cases dx <;> cases dy <;> simp only [repD, reduceCtorEq] at hz
  · exact op_mulI pins s σ H x y v u Q I rx ry ⟨M, _, _, z, dom, tx, ty, hz, q⟩
  · have o1 := tx.str
    have e1 := tx.sc (w := .str _) rfl
    have e2 := ty.sc (w := .int _) rfl
    subst e1 e2
    obtain ⟨t, rfl⟩ := rx
    obtain ⟨t', rfl⟩ := ry
    split at hz
    · rename_i x n hc
      cases hz
      obtain ⟨h1, h2, h3, h4⟩ := hc
      have n1 : ¬ n < 1 := by omega
      have b1 : (n == 1 || x.length == 0) = false := by
        rw [Bool.or_eq_false_iff]
        exact ⟨by simp; omega, by simp; omega⟩
      refine PySem.P.mul_str ?_ (fun _ _ => ?_) (fun _ _ => ?_) ?_
      · rw [Bool.or_eq_false_iff]; exact ⟨by simp; omega, by simp; omega⟩
      · have e : (1000 : Int) ≤ (2 ^ 63 - 1) / n := by
          rw [Int.le_ediv_iff_mul_le (by omega)]
          omega
        omega
      · have e : x.length * n.toNat ≤ 1000 * 1000 := Nat.mul_le_mul h4 (by omega)
        show decide (x.length * n.toNat > sizeLine) = false
        rw [sizeLine_eq]
        exact decide_eq_false (by omega)
      · rw [if_neg n1, if_neg (by rw [b1]; simp)]
        have e : ((List.replicate n.toNat x.cps).foldl (· ++ ·) #[]).size ≤ 1000000 := by
          have key : ∀ (k : Nat) (acc : Array Nat), ((List.replicate k x.cps).foldl (· ++ ·) acc).size = acc.size + k * x.cps.size := by
            intro k
            induction k with
            | zero => intro acc; simp
            | succ k ih =>
              intro acc
              show ((List.replicate k x.cps).foldl (· ++ ·) (acc ++ x.cps)).size = _
              rw [ih, Array.size_append, Nat.succ_mul]; omega
          rw [key]
          have e2 : n.toNat * x.cps.size ≤ 1000 * 1000 := Nat.mul_le_mul (by omega) h4
          simpa using e2
        refine ⟨?_, ⟨.str _, H, I.tok _, ⟨_, rfl⟩, q _ H (Same.refl H) (.str (strOk_rep o1 _))⟩⟩
        rw [sizeLine_eq]
        exact Nat.le_trans e (by omega)
    · split at hz
      · rename_i x n _ hn
        cases hz
        subst hn
        refine PySem.P.mul_str (by decide) (fun _ z => by simp at z) (fun _ z => by simp at z) ?_
        rw [if_neg (by decide), if_pos (by simp)]
        exact ⟨.str _, H, I.tok _, ⟨_, rfl⟩, q _ H (Same.refl H) (.str o1)⟩
      · cases hz
end
end DD

set_option Elab.async false
set_option linter.all false
set_option maxRecDepth 100000
set_option maxHeartbeats 4000000
namespace DD
open PySem PySem.Spec L2

/-! ### places of lists that are changed -/
inductive Pl where
  | slot (i : Nat) | fld (a : Addr) (f : Str) (l : Addr) | mls (a : Addr)
def Pl.ow : Pl → Own
  | .slot i => .slot i
  | .fld a f _ => .fld a f
  | .mls _ => .obj
def Pl.isAt : Pl → St → Addr → Prop
  | .slot i, σ, l => σ[i]? = some (some (.ref l))
  | .fld _ _ l0, _, l => l = l0
  | .mls a, _, l => l = a
/-- what stands there -/
def Pl.rd : Pl → DSt → DG → List D → Prop
  | .slot i, δ, _, ds => δ[i]? = some (some (.own ds))
  | .fld a f l, _, G, ds => ∃ C fs, G a = some (.ins C fs) ∧ fs.lookup f = some (.own l ds) ∧ (fs.map (·.1)).Nodup
  | .mls a, _, G, ds => G a = some (.mls ds)
/-- behind a change to ds -/
def Pl.wr : Pl → List D → DSt → DG → DSt → DG → Prop
  | .slot i, ds, δ, G, δ', G' => δ' = δ.set i (some (.own ds)) ∧ G' = G
  | .fld a f l, ds, δ, G, δ', G' => δ' = δ ∧ ∃ C fs, G a = some (.ins C fs) ∧ G' = gset G a (some (.ins C (putV f (.own l ds) fs)))
  | .mls a, ds, δ, G, δ', G' => δ' = δ ∧ G' = gset G a (some (.mls ds))
section
variable {K : PySem.W.Frag} {H : Hp} {M : Gh} {σ : St} {δ : DSt} {G : DG} {p : Pl}
theorem Pl.inj {l l' : Addr} : ∀ {p : Pl}, p.isAt σ l → p.isAt σ l' → l = l'
  | .slot i, h, h' => by
    have e : _ = _ := h
    have e' : _ = _ := h'
    rw [e] at e'
    cases e'; rfl
  | .fld _ _ _, h, h' => h.trans h'.symm
  | .mls _, h, h' => h.trans h'.symm
theorem Pl.ow_ne (p : Pl) : p.ow ≠ .other := by cases p <;> intro h <;> cases h
theorem Pl.has {ds : List D} (rs : RS K H M σ δ G) : ∀ {p : Pl}, p.rd δ G ds → ∃ l xs, p.isAt σ l ∧ M l = some p.ow ∧ H l = some (.lst xs) ∧ ImL K H M xs ds
  | .slot i, h => by
    obtain ⟨x, hx, l, xs, rfl, m, hl, r⟩ := rs.slot i _ h
    exact ⟨l, xs, hx, m, hl, r⟩
  | .fld a f l, ⟨C, fs, ga, hl, nd⟩ => by
    obtain ⟨ma, dx, ps, ha, fr⟩ := rs.g.obj a _ ga
    obtain ⟨x, hx, ⟨l2, xs, e, m, h, r⟩, sa⟩ := fr.get hl
    have e2 : x = .ref l := sa
    rw [e2] at e; cases e
    exact ⟨l, xs, rfl, m, h, r⟩
  | .mls a, h => by
    obtain ⟨ma, xs, ha, r⟩ := rs.g.obj a _ h
    exact ⟨a, xs, rfl, ma, ha, r⟩
theorem Pl.put {ds ds' : List D} {δ' : DSt} {G' : DG} {l : Addr} {xs' : List V} (rs : RS K H M σ δ G) : ∀ {p : Pl}, p.rd δ G ds → p.isAt σ l → ImL K H M xs' ds' → p.wr ds' δ G δ' G' → RS K (upd H l (.lst xs')) M σ δ' G'
  | .slot i, h, ha, r, ⟨e1, e2⟩ => by
    obtain ⟨l2, xs, ha2, m, hl, _⟩ := Pl.has rs (p := .slot i) h
    cases Pl.inj (p := .slot i) ha ha2
    subst e1 e2
    exact rs.setOwn m ha r
  | .fld a f l0, ⟨C, fs, ga, hl, nd⟩, ha, r, ⟨e1, C', fs', ga', e2⟩ => by
    rw [ga] at ga'; cases ga'
    subst e1 e2
    cases (show l = l0 from ha)
    exact (rs.writeFld ga hl nd r).2
  | .mls a, h, ha, r, ⟨e1, e2⟩ => by
    cases (show l = a from ha)
    subst e1 e2
    obtain ⟨ma, _⟩ := rs.g.obj _ _ h
    exact rs.setObj (u := .mls ds') ma ⟨xs', upd_same, ImL.mono (Stay.at ma) r⟩
end
abbrev DTP := DSt → DG → (Pl → DG → Prop) → (DX → DG → Prop) → Prop
def rdP (K : PySem.W.Frag) (W : WX) (d : DTP) : TE := fun σ H R => ∃ M δ G Q QE, RS K H M σ δ G ∧ d δ G Q QE ∧ ExOk K W H M σ δ QE ∧ ∀ p l G' H' M', Frame H M H' M' → RS K H' M' σ δ G' → p.isAt σ l → Q p G' → R (.ref l) H'
abbrev DPl (X : Cx) (W : WX) (e : Expr) (d : DTP) : Prop := PE X e (rdP X.K W d)
def pVar (i : Nat) : DTP := fun δ G Q _ => (∃ ds, δ[i]? = some (some (.own ds)) ∧ Q (.slot i) G) ∨ (∃ a ds, δ[i]? = some (some (.v (.ref a))) ∧ G a = some (.mls ds) ∧ Q (.mls a) G)
def pRef (d : DTE) : DTP := fun δ G Q E => d δ G (fun x G1 => ∃ a ds, x = .ref a ∧ G1 a = some (.mls ds) ∧ Q (.mls a) G1) E
def pFld (C : Addr) (f : Str) (d : DTE) : DTP := fun δ G Q E => d δ G (fun x G1 => ∃ a fs l ds, x = .ref a ∧ G1 a = some (.ins C fs) ∧ fs.lookup f = some (.own l ds) ∧ Q (.fld a f l) G1) E
/-- its items, borrowed -/
def dPl (p : DTP) : DTE := fun δ G Q E => p δ G (fun pl G1 => ∃ ds, pl.rd δ G1 ds ∧ Q (.lst ds) G1) E
section
variable {X : Cx} {W : WX} {e : Expr} {d : DTE} {p : DTP} {i : Nat}
theorem dp_var (h : PE X e (tVar i)) : DPl X W e (pVar i) := h.imp fun σ H R ⟨M, δ, G, Q, QE, rs, hh, ex, k⟩ => by
  rcases hh with ⟨ds, hd, q⟩ | ⟨a, ds, hd, ga, q⟩
  · obtain ⟨x, hx, l, xs, rfl, m, hl, r⟩ := rs.slot i _ hd
    exact ⟨_, hx, k (.slot i) l G H M (Frame.refl H M) rs hx q⟩
  · obtain ⟨x, hx, im⟩ := rs.slot i _ hd
    cases im
    exact ⟨_, hx, k (.mls a) a G H M (Frame.refl H M) rs rfl q⟩
theorem dp_ref (h : DE X W e d) : DPl X W e (pRef d) := h.imp fun σ H R ⟨M, δ, G, Q, QE, rs, hh, ex, k⟩ =>
  ⟨M, δ, G, _, QE, rs, hh, ex, fun v dv G' H' M' f rs' im ⟨a, ds, e, ga, q⟩ => by
    subst e
    cases im
    exact k (.mls a) a G' H' M' f rs' rfl q⟩
theorem dp_fld {f : Str} {o : Expr} {pos : Pos} {C : Addr} (ho : DE X W o d) (c : Cls X.K C) (n : NoAttr X.K C f) (hp : PE X (.Attribute o f pos) (tFld X.K (rdE X.K W d) f)) : DPl X W (.Attribute o f pos) (pFld C f d) := hp.imp fun σ H R ⟨M, δ, G, Q, QE, rs, hh, ex, k⟩ =>
  ⟨M, δ, G, _, QE, rs, hh, ex, fun v dv G' H' M' f' rs' im ⟨a, fs, l, ds, e, ga, hl, q⟩ => by
    subst e
    cases im
    obtain ⟨ma, dx, ps, ha, fr⟩ := rs'.g.obj a _ ga
    obtain ⟨x, hx, _, sa⟩ := fr.get hl
    have e2 : x = .ref l := sa
    subst e2
    exact ⟨a, C, dx, ps, _, rfl, ha, c, n, hx, k (.fld a f l) l G' H' M' f' rs' rfl q⟩⟩
theorem db_pl (h : DPl X W e p) : DB X W e (dPl p) := h.imp fun σ H R ⟨M, δ, G, Q, QE, rs, hh, ex, k⟩ =>
  ⟨M, δ, G, _, QE, rs, hh, ex, fun pl l G' H' M' f rs' ha ⟨ds, hr, q⟩ => by
    refine k _ _ G' H' M' f rs' (fun H2 M2 f2 rs2 => ?_) q
    obtain ⟨l2, xs, ha2, m, hl, r⟩ := Pl.has rs2 hr
    cases Pl.inj ha ha2
    exact .inr (.inl ⟨_, _, _, rfl, rfl, hl, r⟩)⟩
/-- a reference to a list, or any value, borrowed -/
def dDer (d : DTE) : DTE := fun δ G Q E => d δ G (fun x G1 => (∃ a ds, x = .ref a ∧ G1 a = some (.mls ds) ∧ Q (.lst ds) G1) ∨ ((∀ a ds, x = .ref a → G1 a ≠ some (.mls ds)) ∧ Q x G1)) E
theorem db_der (h : DE X W e d) : DB X W e (dDer d) := h.imp fun σ H R ⟨M, δ, G, Q, QE, rs, hh, ex, k⟩ =>
  ⟨M, δ, G, _, QE, rs, hh, ex, fun v dv G' H' M' f rs' im q => by
    rcases q with ⟨a, ds, e, ga, q⟩ | ⟨_, q⟩
    · subst e
      cases im
      refine k _ _ G' H' M' f rs' (fun H2 M2 f2 rs2 => ?_) q
      obtain ⟨_, xs, hl, r⟩ := rs2.g.obj a _ ga
      exact .inr (.inl ⟨_, _, _, rfl, rfl, hl, r⟩)
    · exact k _ _ G' H' M' f rs' im.bo q⟩
/-- a name, borrowed: a value, a list of its own, a list that is reached by its address -/
def dBov (i : Nat) : DTE := fun δ G Q E => (∃ ds, δ[i]? = some (some (.own ds)) ∧ Q (.lst ds) G) ∨ (∃ ds, δ[i]? = some (some (.ownd ds)) ∧ Q (.dct ds) G) ∨ dDer (dVar i) δ G Q E
theorem db_bov (h : PE X e (tVar i)) : DB X W e (dBov i) := ⟨fun pins s σ H R I h' => by
  obtain ⟨M, δ, G, Q, QE, rs, hh, ex, k⟩ := h'
  rcases hh with ⟨ds, hd, q⟩ | ⟨ds, hd, q⟩ | q
  · exact (db_var h).run pins s σ H R I ⟨M, δ, G, Q, QE, rs, .inr (.inl ⟨ds, hd, q⟩), ex, k⟩
  · exact (db_var h).run pins s σ H R I ⟨M, δ, G, Q, QE, rs, .inr (.inr ⟨ds, hd, q⟩), ex, k⟩
  · exact (db_der (de_var (W := W) h)).run pins s σ H R I ⟨M, δ, G, Q, QE, rs, q, ex, k⟩⟩
end

/-! ### methods that change a list -/
def MutD (X : Cx) (r : V → List V → Hp → VK → Prop) (g : List D → List D → Option (List D × D)) : Prop :=
  ∀ (H : Hp) (M : Gh) (l : Addr) (xs : List V) (ds : List D) (vs : List V) (dvs ds' : List D) (z : D) (Q : VK), H l = some (.lst xs) → ImL X.K H M xs ds → ImL X.K H M vs dvs → g ds dvs = some (ds', z) →
    (∀ xs' v, ImL X.K H M xs' ds' → Im X.K H M v z → Q v (upd H l (.lst xs'))) → r (.ref l) vs H Q
def gApp (ds vs : List D) : Option (List D × D) := match vs with
  | [y] => if ds.length < 1000000 then some (ds ++ [y], .non) else none
  | _ => none
def gClear (_ vs : List D) : Option (List D × D) := match vs with
  | [] => some ([], .non)
  | _ => none
def gPop (ds vs : List D) : Option (List D × D) := match vs with
  | [] => (ds[ds.length - 1]?).map fun y => (ds.dropLast, y)
  | _ => none
def gPopAt (ds vs : List D) : Option (List D × D) := match vs with
  | [.int i] => if 0 ≤ i ∧ i < 1000000 then (ds[i.toNat]?).map fun y => (ds.eraseIdx i.toNat, y) else none
  | _ => none
def gIns (ds vs : List D) : Option (List D × D) := match vs with
  | [.int i, y] => if 0 ≤ i ∧ i < 1000000 ∧ ds.length < 1000000 then some (ds.take i.toNat ++ [y] ++ ds.drop i.toNat, .non) else none
  | _ => none
section
variable {X : Cx}
theorem ImL.one {K : PySem.W.Frag} {H : Hp} {M : Gh} {vs : List V} {d : D} (h : ImL K H M vs [d]) : ∃ v, vs = [v] ∧ Im K H M v d := by
  cases h with
  | cons r t => cases t; exact ⟨_, rfl, r⟩
theorem ImL.two {K : PySem.W.Frag} {H : Hp} {M : Gh} {vs : List V} {d e : D} (h : ImL K H M vs [d, e]) : ∃ v w, vs = [v, w] ∧ Im K H M v d ∧ Im K H M w e := by
  cases h with
  | cons r t => cases t with
    | cons r2 t => cases t; exact ⟨_, _, rfl, r, r2⟩
theorem ImL.nil' {K : PySem.W.Frag} {H : Hp} {M : Gh} {vs : List V} (h : ImL K H M vs []) : vs = [] := by cases h; rfl
theorem ImL.dropLast' {K : PySem.W.Frag} {H : Hp} {M : Gh} {vs : List V} {ds : List D} (h : ImL K H M vs ds) : ImL K H M vs.dropLast ds.dropLast := by
  rw [List.dropLast_eq_take, List.dropLast_eq_take, h.length]
  exact h.take _
theorem ImL.erase {K : PySem.W.Frag} {H : Hp} {M : Gh} : ∀ {vs : List V} {ds : List D} (i : Nat), ImL K H M vs ds → ImL K H M (vs.eraseIdx i) (ds.eraseIdx i)
  | _, _, _, .nil => .nil
  | _, _, 0, .cons _ t => t
  | _, _, i + 1, .cons r t => .cons r (ImL.erase i t)
theorem mut_app : MutD X rAppend gApp := fun H M l xs ds vs dvs ds' z Q hl r rv hg k => by
  unfold gApp at hg
  split at hg
  · split at hg
    · rename_i hc
      cases hg
      obtain ⟨v, rfl, im⟩ := rv.one
      exact ⟨l, xs, v, rfl, rfl, hl, by rw [r.length, sizeLine_eq]; omega, k _ _ (r.append (.cons im .nil)) .non⟩
    · cases hg
  · cases hg
theorem mut_clear : MutD X rClear gClear := fun H M l xs ds vs dvs ds' z Q hl r rv hg k => by
  unfold gClear at hg
  split at hg
  · cases hg
    cases rv.nil'
    exact ⟨l, xs, rfl, rfl, hl, k _ _ .nil .non⟩
  · cases hg
theorem mut_pop : MutD X rPop gPop := fun H M l xs ds vs dvs ds' z Q hl r rv hg k => by
  unfold gPop at hg
  split at hg
  · rw [Option.map_eq_some_iff] at hg
    obtain ⟨y, hy, e⟩ := hg
    cases e
    cases rv.nil'
    obtain ⟨v, hv, im⟩ := r.get hy
    exact ⟨l, xs, v, rfl, rfl, hl, by rw [r.length]; exact hv, k _ _ r.dropLast' im⟩
  · cases hg
theorem mut_popAt : MutD X rPopAt gPopAt := fun H M l xs ds vs dvs ds' z Q hl r rv hg k => by
  unfold gPopAt at hg
  split at hg
  · split at hg
    · rename_i i hc
      rw [Option.map_eq_some_iff] at hg
      obtain ⟨y, hy, e⟩ := hg
      cases e
      obtain ⟨v, rfl, im⟩ := rv.one
      cases im
      obtain ⟨v, hv, im⟩ := r.get hy
      refine ⟨l, xs, i, i.toNat, v, rfl, rfl, hl, by omega, by omega, ?_, hv, k _ _ (r.erase _) im⟩
      have hlt : i.toNat < xs.length := (List.getElem?_eq_some_iff.mp hv).1
      exact seqIndex_of hc.1 (by omega)
    · cases hg
  · cases hg
abbrev rInsert : V → List V → Hp → VK → Prop := fun x vs H Q => ∃ (l : Addr) (xs : List V) (i : Int) (y : V), x = .ref l ∧ vs = [.int i, y] ∧ H l = some (.lst xs) ∧ xs.length < sizeLine ∧ 0 ≤ i ∧ i < 2 ^ 63 ∧
    Q .non (upd H l (.lst (xs.take i.toNat ++ [y] ++ xs.drop i.toNat)))
theorem mut_ins : MutD X rInsert gIns := fun H M l xs ds vs dvs ds' z Q hl r rv hg k => by
  unfold gIns at hg
  split at hg
  · split at hg
    · rename_i i y hc
      cases hg
      obtain ⟨v, w, rfl, im, im2⟩ := rv.two
      cases im
      exact ⟨l, xs, i, w, rfl, rfl, hl, by rw [r.length, sizeLine_eq]; omega, hc.1, by omega, k _ _ (((r.take _).append (.cons im2 .nil)).append (r.drop _)) .non⟩
    · cases hg
  · cases hg
end
/-- p.name(a), p a place, as a statement -/
def sMut (g : List D → List D → Option (List D × D)) (p : DTP) (a : DTA) : DTS := fun N δ G => p δ G (fun pl G1 => (∃ ds, pl.rd δ G1 ds) ∧ a δ G1 (fun vs G2 => ∃ ds ds' z, pl.rd δ G2 ds ∧ g ds vs = some (ds', z) ∧ ∀ δ' G', pl.wr ds' δ G2 δ' G' → N.nx δ' G') (exOf N δ)) (exOf N δ)
/-- x = p.name(a) -/
def sMutSet (i : Nat) (g : List D → List D → Option (List D × D)) (p : DTP) (a : DTA) : DTS := fun N δ G => p δ G (fun pl G1 => (∃ ds, pl.rd δ G1 ds) ∧ a δ G1 (fun vs G2 => ∃ ds ds' z, pl.rd δ G2 ds ∧ g ds vs = some (ds', z) ∧ ∀ δ' G', pl.wr ds' δ G2 δ' G' → N.nx (δ'.set i (some (.v z))) G') (exOf N δ)) (exOf N δ)
section
variable {X : Cx} {W : WX} {e o : Expr} {es : List Expr} {p : DTP} {a : DTA} {i : Nat} {x : Str} {pos pos' apos : Pos} {g : List D → List D → Option (List D × D)} {r : V → List V → Hp → VK → Prop} {name : Str}
theorem Pl.wr_ex {δ : DSt} {G : DG} {ds ds' : List D} : ∀ {p : Pl}, p.rd δ G ds → ∃ δ' G', p.wr ds' δ G δ' G'
  | .slot i, _ => ⟨_, _, rfl, rfl⟩
  | .fld a f l, ⟨C, fs, ga, _⟩ => ⟨_, _, rfl, C, fs, ga, rfl⟩
  | .mls a, _ => ⟨_, _, rfl, rfl⟩
theorem ds_mut (hm : MutD X r g) (hp : PE X (.Call (.Attribute o name apos) (e :: es) [] pos) (tBM X.K "list" r (rdP X.K W p) (rdA X.K W a))) (hs : swapsWith (.Call (.Attribute o name apos) (e :: es) [] pos) none pos'.line X.env = pure false := by rfl) :
    DS X W (.Expr (.Call (.Attribute o name apos) (e :: es) [] pos) pos') (sMut g p a) := (ps_expr hp hs).imp fun E σ H ⟨M, δ, G, DD, rs, d, ok⟩ => by
  refine ⟨M, δ, G, _, _, rs, d, ok.exOf, fun pl l G1 H1 M1 f1 rs1 ha ⟨⟨ds, hr⟩, q⟩ => ?_⟩
  obtain ⟨l2, xs, ha2, m, hl, rr⟩ := Pl.has rs1 hr
  cases Pl.inj ha ha2
  refine ⟨.inl ⟨rfl, _, SqL.of hl⟩, M1, δ, G1, _, _, rs1, q, (ok.mono f1).exOf, fun vs dvs G2 H2 M2 f2 rs2 iml ⟨ds2, ds3, z, hr2, hg, q2⟩ => ?_⟩
  obtain ⟨l3, xs2, ha3, m2, hl2, rr2⟩ := Pl.has rs2 hr2
  cases Pl.inj ha ha3
  refine hm H2 M2 l xs2 ds2 vs dvs ds3 z _ hl2 rr2 iml hg fun xs' v r3 im => ?_
  obtain ⟨δ', G', hw⟩ := Pl.wr_ex (ds' := ds3) hr2
  exact ok.nx _ _ G' _ M2 ((f1.trans f2).trans (Frame.at m2 pl.ow_ne)) (Pl.put rs2 hr2 ha r3 hw) (q2 δ' G' hw)
theorem ds_mut0 (hm : MutD X r g) (hp : PE X (.Call (.Attribute o name apos) [] [] pos) (tBM0 X.K "list" r (rdP X.K W p))) (hs : swapsWith (.Call (.Attribute o name apos) [] [] pos) none pos'.line X.env = pure false := by rfl) :
    DS X W (.Expr (.Call (.Attribute o name apos) [] [] pos) pos') (sMut g p dNil) := (ps_expr hp hs).imp fun E σ H ⟨M, δ, G, DD, rs, d, ok⟩ => by
  refine ⟨M, δ, G, _, _, rs, d, ok.exOf, fun pl l G1 H1 M1 f1 rs1 ha ⟨⟨ds, hr⟩, q⟩ => ?_⟩
  obtain ⟨l2, xs, ha2, m, hl, rr⟩ := Pl.has rs1 hr
  cases Pl.inj ha ha2
  refine ⟨.inl ⟨rfl, _, SqL.of hl⟩, ?_⟩
  obtain ⟨ds2, ds3, z, hr2, hg, q2⟩ := q
  obtain ⟨l3, xs2, ha3, m2, hl2, rr2⟩ := Pl.has rs1 hr2
  cases Pl.inj ha ha3
  refine hm H1 M1 l xs2 ds2 [] [] ds3 z _ hl2 rr2 .nil hg fun xs' v r3 im => ?_
  obtain ⟨δ', G', hw⟩ := Pl.wr_ex (ds' := ds3) hr2
  exact ok.nx _ _ G' _ M1 (f1.trans (Frame.at m2 pl.ow_ne)) (Pl.put rs1 hr2 ha r3 hw) (q2 δ' G' hw)
theorem ds_mutSet (hN : X.N.Nodup) (hi : X.N[i]? = some x) (hx : Loc X.env.scope x) (hm : MutD X r g) (hp : PE X (.Call (.Attribute o name apos) (e :: es) [] pos) (tBM X.K "list" r (rdP X.K W p) (rdA X.K W a))) (hs : swapsWith (.Call (.Attribute o name apos) (e :: es) [] pos) (some (.Name x pos')) apos.line X.env = pure false := by rfl) {pos2 : Pos} 
    (hs2 : swapsWith (.Call (.Attribute o name apos) (e :: es) [] pos) (some (.Name x pos')) pos2.line X.env = pure false := by rfl) (hf : X.fn x = true ∨ X.env.scope.names.lookup x = some .local := by first | exact .inl rfl | exact .inr rfl | assumption) :
    DS X W (.Assign [.Name x pos'] (.Call (.Attribute o name apos) (e :: es) [] pos) pos2) (sMutSet i g p a) := (ps_set (pos := pos2) (pos' := pos') hN hi hx hp hs2 hf).imp fun E σ H ⟨M, δ, G, DD, rs, d, ok⟩ => by
  refine ⟨M, δ, G, _, _, rs, d, ok.exOf, fun pl l G1 H1 M1 f1 rs1 ha ⟨⟨ds, hr⟩, q⟩ => ?_⟩
  obtain ⟨l2, xs, ha2, m, hl, rr⟩ := Pl.has rs1 hr
  cases Pl.inj ha ha2
  refine ⟨.inl ⟨rfl, _, SqL.of hl⟩, M1, δ, G1, _, _, rs1, q, (ok.mono f1).exOf, fun vs dvs G2 H2 M2 f2 rs2 iml ⟨ds2, ds3, z, hr2, hg, q2⟩ => ?_⟩
  obtain ⟨l3, xs2, ha3, m2, hl2, rr2⟩ := Pl.has rs2 hr2
  cases Pl.inj ha ha3
  refine hm H2 M2 l xs2 ds2 vs dvs ds3 z _ hl2 rr2 iml hg fun xs' v r3 im => ?_
  obtain ⟨δ', G', hw⟩ := Pl.wr_ex (ds' := ds3) hr2
  have rs3 := Pl.put rs2 hr2 ha r3 hw
  exact ok.nx _ _ G' _ M2 ((f1.trans f2).trans (Frame.at m2 pl.ow_ne)) (rs3.setV (im.mono (Stay.at m2))) (q2 δ' G' hw)
/-! p[i] = v -/
def sSetAt (d : DTE) (p : DTP) (ix : DTE) : DTS := fun N δ G => d δ G (fun y G0 => p δ G0 (fun pl G1 => ix δ G1 (fun k G2 => ∃ i ds j, k = .int i ∧ pl.rd δ G2 ds ∧ ixN ds.length i = some j ∧ ∀ δ' G', pl.wr (ds.set j y) δ G2 δ' G' → N.nx δ' G') (exOf N δ)) (exOf N δ)) (exOf N δ)
theorem ds_setAt {v ix : Expr} {d di : DTE} {tpos : Pos} (hv : DE X W v d) (ho : DPl X W o p) (hix : DE X W ix di)
    (ha : ∀ v, assign (.Subscript o ix tpos) X.env v = (do
      let ov ← holding [v] (eval o X.env)
      let iv ← holding [v, ov] (eval ix X.env)
      standAt tpos
      holding [v, ov, iv] (setItem ov iv v)
      release [v, ov, iv] []) := by intro _; rfl)
    (hs : swapsWithSole [.Subscript o ix tpos] v pos.line X.env = pure false := by rfl) (hw : swappedStores [.Subscript o ix tpos] v X.env = pure none := by rfl)
    (h1 : (assignEach [.Subscript o ix tpos] X.env).map (·.2) = [assign (.Subscript o ix tpos) X.env] := by rfl) :
    DS X W (.Assign [.Subscript o ix tpos] v pos) (sSetAt d p di) := (ps_asg (pos := pos) hv (pg_sub ho hix set_list ha) hs hw h1).imp fun E σ H ⟨M, δ, G, DD, rs, q0, ok⟩ => by
  refine ⟨M, δ, G, _, _, rs, q0, ok.exOf, fun y dy G0 H0 M0 f0 rs0 imy q => ?_⟩
  refine ⟨M0, δ, G0, _, _, rs0, q, (ok.mono f0).exOf, fun pl l G1 H1 M1 f1 rs1 ha q1 => ?_⟩
  refine ⟨M1, δ, G1, _, _, rs1, q1, (ok.mono (f0.trans f1)).exOf, fun k dk G2 H2 M2 f2 rs2 imk ⟨i, ds, j, ek, hr, hj, q2⟩ => ?_⟩
  subst ek
  cases imk
  obtain ⟨l3, xs2, ha3, m2, hl2, rr2⟩ := Pl.has rs2 hr
  cases Pl.inj ha ha3
  refine ⟨l, xs2, i, j, rfl, rfl, hl2, by rw [rr2.length]; exact hj, ?_⟩
  obtain ⟨δ', G', hw⟩ := Pl.wr_ex (ds' := ds.set j dy) hr
  exact ok.nx _ _ G' _ M2 (((f0.trans f1).trans f2).trans (Frame.at m2 pl.ow_ne)) (Pl.put rs2 hr ha (rr2.set ((imy.mono f1.stay).mono f2.stay) j) hw) (q2 δ' G' hw)
end
end DD

set_option Elab.async false
set_option linter.all false
set_option maxRecDepth 100000
set_option maxHeartbeats 4000000
namespace DD
open PySem PySem.Spec L2

/-! ### slices -/
abbrev DTO := DSt → DG → (Option Int → DG → Prop) → (DX → DG → Prop) → Prop
def oNone : DTO := fun _ G Q _ => Q none G
def oSome (d : DTE) : DTO := fun δ G Q E => d δ G (fun x G1 => ∃ i, x = .int i ∧ Q (some i) G1) E
def rdO (K : PySem.W.Frag) (W : WX) (d : DTO) : TO := fun σ H R => ∃ M δ G Q QE, RS K H M σ δ G ∧ d δ G Q QE ∧ ExOk K W H M σ δ QE ∧ ∀ o G' H' M', Frame H M H' M' → RS K H' M' σ δ G' → Q o G' → R o H'
abbrev DO_ (X : Cx) (W : WX) (e : Option Expr) (d : DTO) : Prop := PO X e (rdO X.K W d)
def dSl (g : D → Option Int → Option Int → Option D) (a : DTE) (lo hi : DTO) : DTE := fun δ G Q E => a δ G (fun x G1 => lo δ G1 (fun l G2 => hi δ G2 (fun u G3 => G3 = G1 ∧ ∃ z, g x l u = some z ∧ Q z G3) E) E) E
section
variable {X : Cx} {W : WX} {a b c : Expr} {da db dc d : DTE} {lo hi : Option Expr} {ol oh : DTO} {pos p2 : Pos}
theorem _root_.L2.PO.imp {e : Option Expr} {t t' : TO} (h : PO X e t) (i : ∀ σ H R, t' σ H R → t σ H R) : PO X e t' := ⟨fun pins s σ H Q I q => h.run pins s σ H Q I (i _ _ _ q)⟩
theorem do_none : DO_ X W none oNone := po_none.imp fun σ H R ⟨M, δ, G, Q, QE, rs, q, ex, k⟩ => k none G H M (Frame.refl H M) rs q
theorem do_some (h : DE X W a da) : DO_ X W (some a) (oSome da) := (po_some h).imp fun σ H R ⟨M, δ, G, Q, QE, rs, q, ex, k⟩ =>
  ⟨M, δ, G, _, QE, rs, q, ex, fun v dv G' H' M' f rs' im ⟨i, e, q⟩ => by
    subst e
    cases im
    exact ⟨i, rfl, k _ G' H' M' f rs' q⟩⟩
theorem de_slice {g : D → Option Int → Option Int → Option D} (hr : SlR X (SlD X.K g)) (ha : DB X W a da) (hl : DO_ X W lo ol) (hh : DO_ X W hi oh) : DE X W (.Subscript a (.Slice lo hi none p2) pos) (dSl g da ol oh) := (pe_slice hr ha hl hh).imp fun σ H R ⟨M, δ, G, Q, QE, rs, d, ex, k⟩ => by
  refine ⟨M, δ, G, _, QE, rs, d, ex, fun v dv G1 H1 M1 f1 rs1 bo q => ?_⟩
  refine ⟨M1, δ, G1, _, QE, rs1, q, ex.mono f1, fun l G2 H2 M2 f2 rs2 q2 => ?_⟩
  refine ⟨M2, δ, G2, _, QE, rs2, q2, (ex.mono f1).mono f2, fun u G3 H3 M3 f3 rs3 q3 => ?_⟩
  obtain ⟨eG, z, hz, qz⟩ := q3
  subst eG
  exact ⟨M3, dv, z, rs3.g.dom, bo H3 M3 (f2.trans f3) rs3, hz, fun w H4 sm im => k w z _ H4 M3 (((f1.trans f2).trans f3).trans (Same.keep sm).frame) (rs3.same sm) im qz⟩

/-! ### a op b op c -/
def dChain (g g' : D → D → Option D) (a b c : DTE) : DTE := fun δ G Q E => a δ G (fun x G1 => b δ G1 (fun y G2 => G2 = G1 ∧ ∃ k, g x y = some (.bl k) ∧ if k = true then c δ G2 (fun z G3 => G3 = G2 ∧ ∃ r, g' y z = some r ∧ Q r G3) E else Q (.bl false) G2) E) E
theorem chain_run {g g' : D → D → Option D} {ta tb tc : DTE} {σ : St} {H : Hp} {R : VK} : rdE X.K W (dChain g g' ta tb tc) σ H R → tChain (OpD X.K g) (OpD X.K g') (rdB X.K W ta) (rdB X.K W tb) (rdB X.K W tc) σ H R := fun ⟨M, δ, G, Q, QE, rs, d, ex, k⟩ => by
  refine ⟨M, δ, G, _, QE, rs, d, ex, fun v dv G1 H1 M1 f1 rs1 bo q => ?_⟩
  refine ⟨M1, δ, G1, _, QE, rs1, q, ex.mono f1, fun y dy G2 H2 M2 f2 rs2 bo2 q2 => ?_⟩
  obtain ⟨eG, kk, hk, q2⟩ := q2
  subst eG
  refine ⟨M2, dv, dy, .bl kk, rs2.g.dom, bo H2 M2 f2 rs2, bo2.now rs2, hk, fun w H3 sm im => ?_⟩
  cases im
  refine ⟨kk, rfl, ?_⟩
  have f3 : Frame H2 M2 H3 M2 := (Same.keep sm).frame
  have rs3 := rs2.same sm
  cases kk with
  | true =>
    simp only [if_true] at q2 ⊢
    refine ⟨M2, δ, _, _, QE, rs3, q2, ((ex.mono f1).mono f2).mono f3, fun z dz G4 H4 M4 f4 rs4 bo4 q4 => ?_⟩
    obtain ⟨eG, r, hr, qr⟩ := q4
    subst eG
    exact ⟨M4, dy, dz, r, rs4.g.dom, bo2 H4 M4 (f3.trans f4) rs4, bo4.now rs4, hr, fun w H5 sm5 im => k w r _ H5 M4 ((((f1.trans f2).trans f3).trans f4).trans (Same.keep sm5).frame) (rs4.same sm5) im qr⟩
  | false =>
    simp only [Bool.false_eq_true, if_false] at q2 ⊢
    exact k _ _ _ H3 M2 ((f1.trans f2).trans f3) rs3 .bl q2
theorem de_chain {op op' : CmpOp} {g g' : D → D → Option D} (ho : OpR X (compareOp op) (OpD X.K g)) (ho' : OpR X (compareOp op') (OpD X.K g')) (ha : DB X W a da) (hb : DB X W b db) (hc : DB X W c dc)
    (hm : lastMarks [op, op'] [b, c] = false := by with_unfolding_all rfl) : DE X W (.Compare a [op, op'] [b, c] pos) (dChain g g' da db dc) := (pe_chain ho ho' ha hb hc hm).imp fun σ H R h => chain_run h
theorem dt_chain {op op' : CmpOp} {g g' : D → D → Option D} (ho : OpR X (compareOp op) (OpD X.K g)) (ho' : OpR X (compareOp op') (OpD X.K g')) (ha : DB X W a da) (hb : DB X W b db) (hc : DB X W c dc)
    (hm : lastMarks [op, op'] [b, c] = false := by with_unfolding_all rfl) : DT X W (.Compare a [op, op'] [b, c] pos) (dTst (dChain g g' da db dc)) := (pt_chain ho ho' ha hb hc hm).imp fun σ H R ⟨M, δ, G, Q, QE, rs, d, ex, k⟩ => by
  refine chain_run (W := W) (X := X) (g := g) (g' := g') ⟨M, δ, G, _, QE, rs, d, ex, fun v dv G' H' M' f rs' im q => ?_⟩
  obtain ⟨b, rfl, q⟩ := q
  cases im
  exact ⟨b, rfl, k b G' H' M' f rs' q⟩

/-! ### a value's truth -/
def truD : D → Option Bool
  | .non => some false
  | .bl b => some b
  | .int i => some (i != 0)
  | .str x => if x.length ≤ 16777216 then some (x.length != 0) else none
  | .lst xs => some (!xs.isEmpty)
  | .tup xs => some (!xs.isEmpty)
  | .dct kvs => some (!kvs.isEmpty)
  | _ => none
def dTru (a : DTE) : DTT := fun δ G Q E => a δ G (fun x G1 => ∃ b, truD x = some b ∧ Q b G1) E
theorem ImL.empty {K : PySem.W.Frag} {H : Hp} {M : Gh} {vs : List V} {ds : List D} (r : ImL K H M vs ds) : vs.isEmpty = ds.isEmpty := by cases r <;> rfl
theorem ImK.empty {K : PySem.W.Frag} {H : Hp} {M : Gh} {vs : List (Key × V)} {ds : List (Key × D)} (r : ImK K H M vs ds) : vs.isEmpty = ds.isEmpty := by cases r <;> rfl
theorem tru_of {K : PySem.W.Frag} {H : Hp} {M : Gh} {v : V} {d : D} {b : Bool} (t : Tm K H M v d) (h : truD d = some b) : TruV K v H b := by
  cases d <;> simp only [truD, reduceCtorEq, Option.some.injEq] at h
  · have e := t.sc (w := .non) rfl; subst e h; exact rfl
  · have e := t.sc (w := .bl _) rfl; subst e h; exact rfl
  · have e := t.sc (w := .int _) rfl; subst e h; exact rfl
  · have e := t.sc (w := .str _) rfl
    subst e
    split at h
    · rename_i x hx
      cases h
      refine ⟨by rw [sizeLine_eq]; exact hx, ?_⟩
      cases e : x.length with
      | zero => rfl
      | succ n => simp; omega
    · cases h
  · obtain ⟨a, xs, rfl, ha, r⟩ := t.tup
    subst h
    exact .inr (.inl ⟨xs, ha, by rw [r.empty]⟩)
  · obtain ⟨a, xs, rfl, ha, r⟩ := t.lst
    subst h
    exact .inl ⟨xs, rd_lst ha, by rw [r.empty]⟩
  · obtain ⟨a, xs, rfl, ha, r⟩ := t.dct
    subst h
    exact .inr (.inr ⟨xs, ha, by rw [r.empty]⟩)
theorem dt_tru (ha : DB X W a da) (he : ∀ whole, isTrue a X.env whole = (do let v ← whole; standAt a.pos; holding [v] (truthy v)) := by intro _; rfl) : DT X W a (dTru da) := (pt_truth ha he).imp fun σ H R ⟨M, δ, G, Q, QE, rs, d, ex, k⟩ =>
  ⟨M, δ, G, _, QE, rs, d, ex, fun v dv G' H' M' f rs' bo ⟨b, hb, q⟩ => ⟨b, tru_of (bo.now rs') hb, k b G' H' M' f rs' q⟩⟩

/-! ### isinstance -/
def TyD (K : PySem.W.Frag) (G : DG) : D → Value → Prop
  | .non, t => t = .type "NoneType"
  | .bl _, t => t = .type "bool"
  | .int _, t => t = .type "int"
  | .str _, t => t = .type "str"
  | .tup _, t => t = .type "tuple"
  | .lst _, t => t = .type "list"
  | .dct _, t => t = .type "dict"
  | .obj C _, t => t = .ref C ∧ C8.InsC K C
  | .ref a, t => (∃ C fs, G a = some (.ins C fs) ∧ t = .ref C ∧ C8.InsC K C) ∨ (∃ ds, G a = some (.mls ds) ∧ t = .type "list") ∨ (∃ n, G a = some (.jar n) ∧ t = .type "list")
  | .ty _, _ => False
def ClD : D → Value → Prop
  | .ty n, u => u = .type n
  | .ref C, u => u = .ref C
  | _, _ => False
def dIsi (K : PySem.W.Frag) (a c : DTE) : DTE := fun δ G Q E => a δ G (fun x G1 => c δ G1 (fun y G2 => G2 = G1 ∧ ∃ t u b, TyD K G2 x t ∧ ClD y u ∧ PySem.W.kitOne K t u = some b ∧ Q (.bl b) G2) E) E
theorem tyx_of {K : PySem.W.Frag} {H : Hp} {M : Gh} {G : DG} {v : V} {d : D} {t : Value} (g : RG K H M G) (tm : Tm K H M v d) (h : TyD K G d t) : TyX K H v t := by
  cases d with
  | non => have e := tm.sc (w := .non) rfl; subst e; cases h; exact .base .non
  | bl b => have e := tm.sc (w := .bl _) rfl; subst e; cases h; exact .base (.bl b)
  | int b => have e := tm.sc (w := .int _) rfl; subst e; cases h; exact .base (.int b)
  | str b => have e := tm.sc (w := .str _) rfl; subst e; cases h; exact .base (.str b)
  | tup ds =>
    cases h
    rcases tm with tm | ⟨_, _, _, _, e, _⟩ | ⟨_, _, _, _, e, _⟩
    · cases tm with
      | tup m h r =>
        rcases h with h | ⟨o, h⟩
        · exact .base (.tup h)
        · exact .fTuple h
      | tupK h r =>
        rcases h (fun _ => none) with h | ⟨o, its, n, e, c, _⟩
        · rcases h with h | ⟨_, h⟩ <;> cases h
        · exact .kTuple e c
    · cases e
    · cases e
  | lst ds =>
    cases h
    obtain ⟨a, xs, rfl, ha, r⟩ := tm.lst
    rcases ha with (ha | ⟨o, ha⟩) | ⟨o, its, n, e, c, _⟩
    · exact .base (.lst ha)
    · exact .base (.frz ha)
    · exact .kList e c
  | dct ds =>
    cases h
    obtain ⟨a, xs, rfl, ha, r⟩ := tm.dct
    exact .base (.dK ha)
  | obj C fs =>
    obtain ⟨rfl, c⟩ := h
    rcases tm with tm | ⟨_, _, _, _, e, _⟩ | ⟨_, _, _, _, e, _⟩
    · cases tm with
      | obj m ha r => exact .base (.ins ha c.cl c.ha c.hn c.htk c.hm)
    · cases e
    · cases e
  | ref a =>
    have e := tm.sc (w := .ref a) rfl
    subst e
    rcases h with ⟨C, fs, ga, rfl, c⟩ | ⟨ds, ga, rfl⟩ | ⟨n, ga, rfl⟩
    · obtain ⟨_, dx, ps, ha, _⟩ := g.obj _ _ ga
      exact .base (.ins ha c.cl c.ha c.hn c.htk c.hm)
    · obtain ⟨_, xs, ha, _⟩ := g.obj _ _ ga
      exact .base (.lst ha)
    · obtain ⟨_, i, j, k, ha, _⟩ := g.obj _ _ ga
      exact .base (.lst ha)
  | ty n => exact h.elim

theorem de_isi {p : Pos} (hg : Gl X "isinstance") (hm : X.mg "isinstance" = none) (ha : DB X W a da) (hc : DB X W c dc)
    (h1 : starEach [a, c] X.env = (false, eval a X.env) :: starEach [c] X.env := by rfl) (h2 : starEach [c] X.env = (false, eval c X.env) :: starEach [] X.env := by rfl) (hpl : (backTo pos (starEach [c] X.env)).any (·.1) = false := by rfl) :
    DE X W (.Call (.Name "isinstance" p) [a, c] [] pos) (dIsi X.K da dc) := (pe_callB (p := p) (pos := pos) call_isi hg hm rfl (pa_cons ha (pa_cons hc pa_nil h2) h1) (by decide) (by decide) h1 hpl).imp fun σ H R ⟨M, δ, G, Q, QE, rs, d, ex, k⟩ => by
  refine ⟨M, δ, G, _, QE, rs, d, ex, fun v dv G1 H1 M1 f1 rs1 bo q => ?_⟩
  refine ⟨M1, δ, G1, _, QE, rs1, q, ex.mono f1, fun y dy G2 H2 M2 f2 rs2 bo2 q2 => ?_⟩
  obtain ⟨eG, t, u, b, ht, hu, hk, q2⟩ := q2
  subst eG
  have hcl : ClsV y u := by
    have t2 := bo2.now rs2
    cases dy <;> first | exact hu.elim | skip
    · have e := t2.sc (w := .ref _) rfl
      subst e; cases hu; exact .own _
    · have e := t2.sc (w := .ty _) rfl
      subst e; cases hu; exact .ty _
  exact ⟨v, y, t, u, b, rfl, hcl, tyx_of rs2.g (bo H2 M2 f2 rs2) ht, hk, k _ _ _ H2 M2 (f1.trans f2) rs2 .bl q2⟩
theorem de_tyn {x : Str} {n : String} {p : Pos} (hg : Gl X x) (hm : X.mg x = none) (hv : bootBuiltins x = some (.type n)) (hn : x ≠ "__name__" := by decide) (hd : (x == ("__debug__" : Str)) = false := by decide) : DE X W (.Name x p) (dC (.ty n)) :=
  de_c (pe_bltn (v := .ty n) hg hm hv rfl hn hd) fun _ _ => .ty

/-! ### list(x), a new list -/
def dLstOf (d : DTE) : DTA := fun δ G Q E => d δ G (fun x G1 => ∃ xs, (x = .lst xs ∨ x = .tup xs) ∧ Q xs G1) E
theorem df_listOf {p : Pos} (hg : Gl X "list") (hm : X.mg "list" = none) (ha : DB X W a da) (h2 : starEach [a] X.env = (false, eval a X.env) :: starEach [] X.env := by rfl) (hpl : (backTo pos (starEach [] X.env)).any (·.1) = false := by rfl) :
    DF X W (.Call (.Name "list" p) [a] [] pos) (dLstOf da) := (pe_callTy (p := p) (pos := pos) call_list_of hg hm rfl (pa_cons ha pa_nil h2) (by decide) (by decide) h2 hpl).imp fun σ H R ⟨M, δ, G, Q, QE, rs, d, ex, k⟩ => by
  refine ⟨M, δ, G, _, QE, rs, d, ex, fun v dv G1 H1 M1 f1 rs1 bo q => ?_⟩
  obtain ⟨xs, hx, q⟩ := q
  have t := bo.now rs1
  rcases hx with rfl | rfl
  · obtain ⟨l, vs, rfl, hl, r⟩ := t.lst
    refine ⟨l, vs, rfl, .inl (rd_lst hl), fun p n => ?_⟩
    obtain ⟨kp, r2⟩ := rs1.newOther (u := .lst vs) n
    exact k p vs xs G1 _ _ (f1.trans kp.frame) r2 (f1.fresh n) mset_same upd_same (ImL.mono kp.stay r) q
  · obtain ⟨l, vs, rfl, hl, r⟩ := t.tup
    refine ⟨l, vs, rfl, .inr hl, fun p n => ?_⟩
    obtain ⟨kp, r2⟩ := rs1.newOther (u := .lst vs) n
    exact k p vs xs G1 _ _ (f1.trans kp.frame) r2 (f1.fresh n) mset_same upd_same (ImL.mono kp.stay r) q
/-- a list plus a list, a new one (both of nobody's or borrowed) -/
def dCat (a b : DTE) : DTA := fun δ G Q E => a δ G (fun x G1 => b δ G1 (fun y G2 => G2 = G1 ∧ ∃ xs ys, x = .lst xs ∧ y = .lst ys ∧ xs.length + ys.length ≤ 1000000 ∧ Q (xs ++ ys) G2) E) E

/-! ### len(set(t)) -/
def strsD : List D → Option (List Str)
  | [] => some []
  | .str x :: r => (strsD r).map (x :: ·)
  | _ => none
def dLenSet (d : DTE) : DTE := fun δ G Q E => d δ G (fun x G1 => ∃ xs zs, x = .tup xs ∧ strsD xs = some zs ∧ xs.length ≤ 1000 ∧ Q (.int (DDs.metAll zs).length) G1) E
theorem strs_get {K : PySem.W.Frag} {H : Hp} {M : Gh} : ∀ {vs : List V} {ds : List D} {us : List Value} {zs : List Str}, ImL K H M vs ds → Vals vs us → strsD ds = some zs → zs.length = us.length ∧ ∀ (i : Nat) v k, us[i]? = some v → zs[i]? = some k → ∃ t, v = .str k t
  | _, _, _, _, .nil, .nil, h => by simp [strsD] at h; subst h; exact ⟨rfl, fun i v k e => by simp at e⟩
  | _, _, _, zs, .cons (d := d) im r, .cons rv rr, h => by
    cases d <;> simp only [strsD, reduceCtorEq, Option.map_eq_some_iff] at h
    obtain ⟨z2, h1, h2⟩ := h
    subst h2
    obtain ⟨e1, e2⟩ := strs_get r rr h1
    cases im
    obtain ⟨t, ht⟩ := rv
    refine ⟨by simp [e1], fun i v k ev ek => ?_⟩
    cases i with
    | zero => simp at ev ek; subst ev ek; exact ⟨t, ht⟩
    | succ i => exact e2 i v k (by simpa using ev) (by simpa using ek)
theorem de_lenSet {p p2 q : Pos} (hc : X.calm = true) (hg : Gl X "len") (hm : X.mg "len" = none) (hg2 : Gl X "set") (hm2 : X.mg "set" = none) (ha : DB X W a da)
    (na : starEach [a] X.env = (false, eval a X.env) :: starEach [] X.env := by rfl) : DE X W (.Call (.Name "len" p) [.Call (.Name "set" p2) [a] [] q] [] pos) (dLenSet da) := by
  refine ⟨fun pins s σ H R I h => ?_⟩
  obtain ⟨M, δ, G, Q, QE, rs, d, ex, k⟩ := h
  refine PyProof.Rows.Call_ (ld_blt (u := .builtin "len") I hg hm (by decide +kernel) ?_)
  refine PyProof.Rows.callWith_builtin1 (PyProof.Rows.args_cons ?_ rfl) rfl rfl
  refine PyProof.Rows.Call_ (ld_blt (u := .type "set") I hg2 hm2 (by decide +kernel) ?_)
  refine PyProof.Rows.callWith_type1 (PyProof.Rows.args_cons (thn (ha.run pins s σ H (fun v H1 => ∃ dv G1 M1, Frame H M H1 M1 ∧ RS X.K H1 M1 σ δ G1 ∧ Bo X.K H1 M1 σ δ G1 v dv ∧ ∃ xs zs, dv = .tup xs ∧ strsD xs = some zs ∧ xs.length ≤ 1000 ∧ Q (.int (DDs.metAll zs).length) G1) I
    ⟨M, δ, G, _, QE, rs, d, ex, fun v dv G1 H1 M1 f1 rs1 bo q => ⟨dv, G1, M1, f1, rs1, bo, q⟩⟩) fun v s1 ⟨x, H1, I1, r1, dv, G1, M1, f1, rs1, bo, xs, zs, e, hz, hn, q1⟩ => PyProof.Rows.args_nil ?_) na) na rfl
  subst e
  obtain ⟨l, vs, rfl, hl, r⟩ := (bo.now rs1).tup
  cases r1
  obtain ⟨its, rv, pl, hsz⟩ := I1.tuple hl
  obtain ⟨e1, e2⟩ := strs_get r rv hz
  have hlen : its.length ≤ 1000 := by rw [← rv.length, r.length]; exact hn
  refine DDs.set_of_tup (PySem.strKind X.prog X.w) (ks := zs) (I1.ok.hd hc) pl (by rw [List.size_toArray]; exact e1) (by rw [List.size_toArray]; unfold scanBound; omega) (fun i v k ev ek => ?_) fun h' tk hS hk => ?_
  · obtain ⟨t, rfl⟩ := e2 i v k (by simpa using ev) ek
    exact ⟨by show (k == k) = true; exact beq_self_eq_true k, rfl⟩
  · refine PyProof.Rows.args_nil ?_
    obtain ⟨o, es, ep, t, ho, hex, hd, _, _, _, hf, hn2⟩ := hS
    have I2 : Inv X pins σ H1 { s1 with heap := h', toks := tk } := I1.kept fun b o e => hk b o (Heap.lt_size e) e
    have hle : (DDs.metAll zs).length ≤ 1000 := by
      have h1 := DDs.met_le zs ([] : List Str)
      simp only [List.length_nil] at h1
      unfold DDs.metAll
      omega
    exact call_len_set ho hex hd hf (by rw [hn2]; omega) ⟨.int (DDs.metAll zs).length, H1, I2.tok _, ⟨_, by rw [hn2]⟩, k _ _ G1 H1 M1 f1 rs1 .int q1⟩
end
end DD

set_option Elab.async false
set_option linter.all false
set_option maxRecDepth 100000
set_option maxHeartbeats 4000000
namespace DD
open PySem PySem.Spec L2

/-! ### a new list becomes an object; a list object is finished -/
section
variable {K : PySem.W.Frag} {H : Hp} {M : Gh} {σ : St} {δ : DSt} {G : DG} {p a : Addr} {xs : List V} {ds : List D}
theorem RS.takeObj {o : DO} (r : RS K H M σ δ G) (m : M p = some .other) (q : ObjR K H (mset M p (some .obj)) p o) : RS K H (mset M p (some .obj)) σ δ (gset G p (some o)) ∧ G p = none := by
  have gp : G p = none := by
    cases e : G p with
    | none => rfl
    | some u =>
      obtain ⟨mp, _⟩ := r.g.obj p u e
      rw [m] at mp; cases mp
  have r2 := r.give (o := some .obj) m
  refine ⟨⟨⟨fun b u hb => ?_, r2.g.dom⟩, r2.len, r2.slot⟩, gp⟩
  by_cases e : b = p
  · subst e
    rw [gset_same] at hb
    cases hb
    exact ⟨mset_same, q⟩
  · rw [gset_ne e] at hb
    exact r2.g.obj b u hb
theorem RS.freezeM (r : RS K H M σ δ G) (ga : G a = some (.mls ds)) : RS K H (mset M a none) σ δ (gset G a none) ∧ Im K H (mset M a none) (.ref a) (.lst ds) ∧ M a = some .obj := by
  obtain ⟨m, xs, ha, rr⟩ := r.g.obj a _ ga
  have st : Stay H M H (mset M a none) := Stay.give m
  refine ⟨⟨⟨fun b u hb => ?_, fun b hb => ?_⟩, r.len, fun i s hs => ?_⟩, .lst mset_same (.inl ha) (ImL.mono st rr), m⟩
  · have e : b ≠ a := fun e => by rw [e, gset_same] at hb; cases hb
    rw [gset_ne e] at hb
    obtain ⟨mb, q⟩ := r.g.obj b u hb
    exact ⟨by rw [mset_ne e]; exact mb, q.give m fun f z => by cases z⟩
  · by_cases e : b = a
    · rw [e, mset_same] at hb; exact absurd rfl hb
    · rw [mset_ne e] at hb; exact r.g.dom b hb
  · obtain ⟨x, hx, q⟩ := r.slot i s hs
    exact ⟨x, hx, q.give m fun z => by cases z⟩
theorem Frame.freezeM (m : M a = some .obj) : Frame H M H (mset M a none) := ⟨fun b u h n => ⟨h, mset_ne fun e => by
  rw [e, m] at n
  rcases n with n | n <;> cases n⟩, fun _ h => h⟩
end
def dNewM (d : DTA) : DTE := fun δ G Q E => d δ G (fun ds G1 => ∀ a, G1 a = none → Q (.ref a) (gset G1 a (some (.mls ds)))) E
def dNewJ (d : DTA) : DTE := fun δ G Q E => d δ G (fun ds G1 => ∃ i j k, ds = [.int i, .int j, .int k] ∧ JarOk i j k ∧ k = 0 ∧ ∀ a, G1 a = none → Q (.ref a) (gset G1 a (some (.jar 0)))) E
def dFrzM (d : DTE) : DTE := fun δ G Q E => d δ G (fun x G1 => ∃ a ds, x = .ref a ∧ G1 a = some (.mls ds) ∧ Q (.lst ds) (gset G1 a none)) E
section
variable {X : Cx} {W : WX} {e : Expr} {d : DTE} {da : DTA} {p : DTP}
theorem de_newM (h : DF X W e da) : DE X W e (dNewM da) := h.imp fun σ H R ⟨M, δ, G, Q, QE, rs, d, ex, k⟩ =>
  ⟨M, δ, G, _, QE, rs, d, ex, fun p xs ds G' H' M' f rs' n m hp iml q => by
    obtain ⟨r2, gp⟩ := rs'.takeObj (o := .mls ds) m ⟨xs, hp, ImL.mono (Stay.give m) iml⟩
    exact k _ _ _ H' _ (f.give n) r2 .ref (q p gp)⟩
theorem de_newJ (h : DF X W e da) : DE X W e (dNewJ da) := h.imp fun σ H R ⟨M, δ, G, Q, QE, rs, d, ex, k⟩ =>
  ⟨M, δ, G, _, QE, rs, d, ex, fun p xs ds G' H' M' f rs' n m hp iml q => by
    obtain ⟨i, j, kk, e, ok, k0, q⟩ := q
    subst e
    cases iml with
    | cons i1 r => cases r with
      | cons i2 r => cases r with
        | cons i3 r =>
          cases r
          cases i1
          cases i2
          cases i3
          obtain ⟨r2, gp⟩ := rs'.takeObj (o := .jar 0) m ⟨i, j, kk, hp, ok, by rw [k0]; exact Int.le_refl _⟩
          exact k _ _ _ H' _ (f.give n) r2 .ref (q p gp)⟩
theorem de_frzM (h : DE X W e d) : DE X W e (dFrzM d) := h.imp fun σ H R ⟨M, δ, G, Q, QE, rs, d, ex, k⟩ =>
  ⟨M, δ, G, _, QE, rs, d, ex, fun v dv G' H' M' f rs' im q => by
    obtain ⟨a, ds, e, ga, q⟩ := q
    subst e
    cases im
    obtain ⟨r2, im2, m⟩ := rs'.freezeM ga
    exact k _ _ _ H' _ (f.trans (Frame.freezeM m)) r2 im2 q⟩
end

/-! ### a loop over a list that is reached by its address or a field -/
def forP (pl : Pl) (ds : List D) (g : DTG) (tb : DTS) (N : DEnds) : List D → DSt → DG → Prop
  | [], δ, G => pl.rd δ G ds ∧ N.nx δ G
  | x :: r, δ, G => pl.rd δ G ds ∧ g x δ G (fun δ' G' => tb { N with nx := forP pl ds g tb N r, ct := forP pl ds g tb N r, bk := N.nx } δ' G')
def Pl.fixed : Pl → Prop
  | .slot _ => False
  | _ => True
def sForP (p : DTP) (g : DTG) (tb : DTS) : DTS := fun D δ G => p δ G (fun pl G1 => pl.fixed ∧ ∃ ds, pl.rd δ G1 ds ∧ forP pl ds g tb D ds δ G1) (exOf D δ)
theorem Pl.fix {σ σ' : St} {l : Addr} : ∀ {p : Pl}, p.fixed → p.isAt σ l → p.isAt σ' l
  | .slot _, h, _ => h.elim
  | .fld _ _ _, _, h => h
  | .mls _, _, h => h
def rdPI (K : PySem.W.Frag) (W : WX) (d : DTP) : TI := fun σ H R => ∃ M δ G Q QE, RS K H M σ δ G ∧ d δ G Q QE ∧ ExOk K W H M σ δ QE ∧ ∀ p l G' H' M', Frame H M H' M' → RS K H' M' σ δ G' → p.isAt σ l → Q p G' → (∃ ds, p.rd δ G' ds) ∧ R (Itl K l) H'
theorem di_pl {X : Cx} {W : WX} {tg e : Expr} {p : DTP} (he : DPl X W e p) : PI X tg e (rdPI X.K W p) := by
  refine ⟨fun pins s σ H R I h => ?_⟩
  obtain ⟨M, δ, G, Q, QE, rs, d, ex, k⟩ := h
  refine thn (he.run pins s σ H (fun v H1 => ∃ pl l G1 M1, v = .ref l ∧ Frame H M H1 M1 ∧ RS X.K H1 M1 σ δ G1 ∧ pl.isAt σ l ∧ Q pl G1) I ⟨M, δ, G, _, QE, rs, d, ex, fun pl l G1 H1 M1 f1 rs1 ha q => ⟨pl, l, G1, M1, rfl, f1, rs1, ha, q⟩⟩) fun v s1 ⟨x, H1, I1, r1, pl, l, G1, M1, ev, f1, rs1, ha, q⟩ => ?_
  subst ev
  cases r1
  obtain ⟨⟨ds, hr⟩, q2⟩ := k pl l G1 H1 M1 f1 rs1 ha q
  obtain ⟨l2, xs, ha2, m, hl, rr⟩ := Pl.has rs1 hr
  cases Pl.inj ha ha2
  obtain ⟨its, rv, pll, hz⟩ := I1.list (SqL.of hl)
  refine wpAny_pyIter_list pll.isList ⟨s1.heap.objs.size, [s1.heap.objs.size], _, _, H1, rfl, I1.kept (t' := s1.toks) fun b o e => Heap.get?_push_of_some _ e, turn_list l _, ⟨_, Heap.get?_push_size _ rfl, rfl, rfl⟩, fun b hb => ?_, q2⟩
  rw [show b = s1.heap.objs.size by simpa using hb]
  exact I1.fpOk (Nat.le_refl _) (I1.hok.fresh (Nat.le_refl _))
theorem ds_forP {X : Cx} {W : WX} {tg iter : Expr} {body : List Stmt} {p : DTP} {g : DTG} {tb : DTS} {pos : Pos} (hp : PassesOwn (model X.prog X.w) X.A X.env X.xe) (hc : X.calm = true) (hi : DPl X W iter p) (hg : DGt X tg g) (hb : DSs X W body tb)
    (hs : ∀ x, foldedSetIterable iter X.env x = pure x := by intro _; rfl) : DS X W (.For tg iter body [] pos) (sForP p g tb) := (ps_for hp hc (di_pl hi) hg hb hs).imp fun E σ H ⟨M, δ, G, DD, rs, d, ok⟩ => by
  refine ⟨M, δ, G, _, _, rs, d, ok.exOf, fun pl l G1 H1 M1 f1 rs1 ha ⟨fx, xs, hr, q⟩ => ⟨⟨xs, hr⟩, ?_⟩⟩
  refine ⟨fun i m σ' H' => ∃ δ' G' M', Frame H1 M1 H' M' ∧ RS X.K H' M' σ' δ' G' ∧ forP pl xs g tb DD (xs.drop i) δ' G' ∧ m = xs.length - i ∧ i ≤ xs.length, ⟨xs.length, δ, G1, M1, Frame.refl _ _, rs1, by simpa using q, by simp, Nat.zero_le _⟩, ?_⟩
  rintro i m σ' H' ⟨δ', G', M', f, rs', q, rfl, hi⟩
  by_cases hlt : i < xs.length
  · have e : xs.drop i = xs[i] :: xs.drop (i + 1) := List.drop_eq_getElem_cons hlt
    rw [e] at q
    obtain ⟨hr', q⟩ := q
    obtain ⟨l2, vs, ha2, m2, hl2, rr⟩ := Pl.has rs' hr'
    cases Pl.inj (Pl.fix fx ha) ha2
    obtain ⟨y, hy, im⟩ := rr.get (List.getElem?_eq_getElem hlt)
    refine .inr ⟨⟨vs, y, SqL.of hl2, hy⟩, fun σ2 H2 => ∃ δ2 G2 M2, Frame H1 M1 H2 M2 ∧ RS X.K H2 M2 σ2 δ2 G2 ∧ forP pl xs g tb DD (xs.drop (i + 1)) δ2 G2, fun σ2 H2 ⟨δ2, G2, M2, f2, rs2, q2⟩ => ⟨xs.length - (i + 1), by omega, δ2, G2, M2, f2, rs2, q2, rfl, hlt⟩, fun x H3 ⟨e3, hyy⟩ => ?_⟩
    subst e3
    have e4 := hyy vs (SqL.of hl2)
    rw [hy] at e4
    cases e4
    refine ⟨M', δ', G', _, _, rs', im, q, fun σ2 δ2 G2 H2 M2 f2 rs2 q2 => ?_⟩
    refine ⟨M2, δ2, G2, _, rs2, q2, ⟨fun σ4 δ4 G4 H4 M4 f4 rs4 q4 => ⟨δ4, G4, M4, (f.trans f2).trans f4, rs4, q4⟩, fun v dv G4 H4 M4 f4 ns rg im q4 => ok.rt v dv G4 H4 M4 (f1.trans ((f.trans f2).trans f4)) ns rg im q4,
      fun σ4 δ4 G4 H4 M4 f4 rs4 q4 => ok.nx σ4 δ4 G4 H4 M4 (f1.trans ((f.trans f2).trans f4)) rs4 q4, fun σ4 δ4 G4 H4 M4 f4 rs4 q4 => ⟨δ4, G4, M4, (f.trans f2).trans f4, rs4, q4⟩,
      fun x4 σ4 δ4 G4 H4 M4 cls dd f4 rs4 rx q4 => ok.ex x4 σ4 δ4 G4 H4 M4 cls dd (f1.trans ((f.trans f2).trans f4)) rs4 rx q4⟩⟩
  · have e : xs.drop i = [] := List.drop_eq_nil_of_le (by omega)
    rw [e] at q
    obtain ⟨hr', q⟩ := q
    obtain ⟨l2, vs, ha2, m2, hl2, rr⟩ := Pl.has rs' hr'
    cases Pl.inj (Pl.fix fx ha) ha2
    exact .inl ⟨⟨vs, SqL.of hl2, by rw [rr.length]; omega⟩, ok.nx σ' δ' G' H' M' (f1.trans f) rs' q⟩

/-! ### methods of texts -/
def joinD (x : D) (xs : List D) : Option D := match x, xs with
  | .str a, [.lst ys] => match strsD ys with
    | some zs => if (zs.map (·.length)).sum + zs.length * a.length ≤ 16777216 then some (.str (Str.join a zs)) else none
    | none => none
  | .str a, [.tup ys] => match strsD ys with
    | some zs => if (zs.map (·.length)).sum + zs.length * a.length ≤ 16777216 then some (.str (Str.join a zs)) else none
    | none => none
  | _, _ => none
theorem strOk_join {a : Str} (h : PyData.strOk a = true) : ∀ {zs : List Str}, (∀ z ∈ zs, PyData.strOk z = true) → PyData.strOk (Str.join a zs) = true
  | [], _ => by simp [PyData.strOk, Str.join, Str.empty]
  | [z], hz => hz z (by simp)
  | x :: z :: r, hz => strOk_app (strOk_app (hz x (by simp)) h) (strOk_join h fun y hy => hz y (by simp [hy]))
theorem strs_im {K : PySem.W.Frag} {H : Hp} {M : Gh} : ∀ {vs : List V} {ds : List D} {zs : List Str}, ImL K H M vs ds → strsD ds = some zs → vs = zs.map V.str ∧ ∀ z ∈ zs, PyData.strOk z = true
  | _, _, _, .nil, h => by simp [strsD] at h; subst h; exact ⟨rfl, fun z e => by simp at e⟩
  | _, _, zs, .cons (d := d) im r, h => by
    cases d <;> simp only [strsD, reduceCtorEq, Option.map_eq_some_iff] at h
    obtain ⟨z2, h1, h2⟩ := h
    subst h2
    obtain ⟨e1, e2⟩ := strs_im r h1
    have ok := (Tm.of im).str
    cases im
    refine ⟨by rw [e1]; rfl, fun z hz => ?_⟩
    rcases List.mem_cons.mp hz with rfl | hz
    · exact ok
    · exact e2 z hz
section
variable {X : Cx} {W : WX} {o e : Expr} {dO de : DTE} {apos pos : Pos}
theorem mt_joinD : MtR X "str.join" (MethD X.K joinD) := by
  intro pins s σ H x xs v us Q I rx rxs ⟨M, dx, ds, z, dom, tx, t, hz, q⟩
  unfold joinD at hz
  split at hz
  · obtain ⟨w, rfl, t1⟩ := t.one
    obtain ⟨l, vs, rfl, hl, r⟩ := t1.lst
    have ok := tx.str
    have e1 := tx.sc (w := .str _) rfl
    subst e1
    split at hz
    · rename_i zs hzs
      split at hz
      · rename_i hc
        cases hz
        obtain ⟨e2, oks⟩ := strs_im r hzs
        subst e2
        refine mt_join pins s σ H _ _ v us Q I rx rxs ⟨_, l, zs, rfl, rfl, .inl (rd_lst hl), hc, ?_⟩
        rw [TL.join_eq]
        exact q _ H (Same.refl H) (.str (strOk_join ok oks))
      · cases hz
    · cases hz
  · obtain ⟨w, rfl, t1⟩ := t.one
    obtain ⟨l, vs, rfl, hl, r⟩ := t1.tup
    have ok := tx.str
    have e1 := tx.sc (w := .str _) rfl
    subst e1
    split at hz
    · rename_i zs hzs
      split at hz
      · rename_i hc
        cases hz
        obtain ⟨e2, oks⟩ := strs_im r hzs
        subst e2
        refine mt_join pins s σ H _ _ v us Q I rx rxs ⟨_, l, zs, rfl, rfl, .inr hl, hc, ?_⟩
        rw [TL.join_eq]
        exact q _ H (Same.refl H) (.str (strOk_join ok oks))
      · cases hz
    · cases hz
  · cases hz
def isStrD : D → Prop
  | .str _ => True
  | _ => False
/-- a text's method with one argument -/
def dStM (g : D → List D → Option D) (o a : DTE) : DTE := fun δ G Q E => o δ G (fun x G1 => isStrD x ∧ a δ G1 (fun y G2 => G2 = G1 ∧ ∃ z, g x [y] = some z ∧ Q z G2) E) E
theorem de_strM {id : String} {name : Str} {g : D → List D → Option D} (slot : Slot "str" name id) (ty : typeOf (.builtin id) = pure (.type "method_descriptor")) (rule : MtR X id (MethD X.K g)) (ho : DB X W o dO) (he : DB X W e de)
    (hs : starEach [e] X.env = [(false, eval e X.env)] := by rfl) (hbase : attributeBase o name X.env (eval o X.env) = eval o X.env := by rfl) (hline : (apos.endLine == pos.line) = true := by rfl) :
    DE X W (.Call (.Attribute o name apos) [e] [] pos) (dStM g dO de) := (pe_m1 slot ty rule ho he hs hbase hline).imp fun σ H R ⟨M, δ, G, Q, QE, rs, d, ex, k⟩ => by
  refine ⟨M, δ, G, _, QE, rs, d, ex, fun v dv G1 H1 M1 f1 rs1 bo ⟨is, q⟩ => ⟨?_, ?_⟩⟩
  · cases dv <;> first | exact is.elim | skip
    exact ⟨_, (bo.now rs1).sc (w := .str _) rfl⟩
  · refine ⟨M1, δ, G1, _, QE, rs1, q, ex.mono f1, fun y dy G2 H2 M2 f2 rs2 bo2 ⟨eG, z, hz, qz⟩ => ?_⟩
    subst eG
    exact ⟨M2, dv, [dy], z, rs2.g.dom, bo H2 M2 f2 rs2, .cons (bo2.now rs2) .nil, hz, fun w H3 sm im => k w z _ H3 M2 ((f1.trans f2).trans (Same.keep sm).frame) (rs2.same sm) im qz⟩
theorem de_join (ho : DB X W o dO) (he : DB X W e de)
    (hs : starEach [e] X.env = [(false, eval e X.env)] := by rfl) (hbase : attributeBase o "join" X.env (eval o X.env) = eval o X.env := by rfl) (hline : (apos.endLine == pos.line) = true := by rfl) :
    DE X W (.Call (.Attribute o "join" apos) [e] [] pos) (dStM joinD dO de) := de_strM F.slot_str_join F.type_str_join mt_joinD ho he hs hbase hline
end
end DD

set_option Elab.async false
set_option linter.all false
set_option maxRecDepth 100000
set_option maxHeartbeats 4000000
namespace DD
open PySem PySem.Spec L2

/-! ### an own class's special methods -/
def IsC (C : Addr) (G : DG) : D → Prop
  | .obj C' _ => C' = C
  | .ref a => ∃ fs, G a = some (.ins C fs)
  | _ => False
theorem isC_of {K : PySem.W.Frag} {H : Hp} {M : Gh} {G : DG} {C : Addr} {v : V} {d : D} (g : RG K H M G) (t : Tm K H M v d) (h : IsC C G d) : ∃ a dx fs, v = .ref a ∧ H a = some (.ins C dx fs) := by
  rcases t with im | ⟨_, _, _, _, e, _⟩ | ⟨_, _, _, _, e, _⟩
  · cases im with
    | obj mm ha r =>
      have e : _ = C := h
      subst e
      exact ⟨_, _, _, rfl, ha⟩
    | ref =>
      obtain ⟨fs, hG⟩ := h
      obtain ⟨_, dx, ps, ha, r⟩ := g.obj _ _ hG
      exact ⟨_, dx, ps, rfl, ha⟩
    | _ => exact h.elim
  · subst e; exact h.elim
  · subst e; exact h.elim
section
variable {X : Cx} {W : WX} {k : Nat} {fa C : Addr} {fd : FuncData} {ps : List Str} {f : Fn} {sp : Sp} {pins : List (Addr × Obj)} {σ : St} {H : Hp} {s : Shared}
theorem run_sp {A : Around} {Q : VK} {us : List Value} {vs : List V} (F : FnOk X.prog X.w X.K X.mg X.base (L2.CX X.prog X.w) k fa fd ps sp) (hr : Room k A) (e0 : Env0 X.prog X.w X.K X.mg X.base A X.stack s H) (hb : Binds X.K fd ps []) (tk : Takes X W)
    (I : Inv X pins σ H s) (r : Vals vs us) (h : sp vs H Q (WE W σ)) : wpAny (model X.prog X.w) A (call (.ref fa) us) (EP X pins σ Q) X.xe s := by
  have hl : us.length = ps.length := by rw [← r.length]; exact F.len _ _ _ _ h
  have b := hb s us I.kIn (by rw [List.append_nil]; exact hl)
  rw [List.append_nil] at b
  refine wpAny_call (codeAny_mono (F.run A X.stack s H ⟨us, []⟩ us vs Q (WE W σ) hr e0 b r h) fun r s' hq => ?_)
  cases r with
  | error e => exact passAt tk σ pins H s e s' I hq
  | ok fl =>
    cases fl with
    | ret u => exact I.after hq
    | next => exact False.elim hq
    | brk => exact False.elim hq
    | cont => exact False.elim hq
theorem inst_of {a dx : Addr} {fs : List (Str × V)} (I : Inv X pins σ H s) (ha : H a = some (.ins C dx fs)) : ∃ od, PySem.W.InstAt s.heap a (PySem.W.instObj C dx) C (some od) := by
  obtain ⟨mA, O, _⟩ := ins_get I.hok ha
  obtain ⟨od, J, _⟩ := O.look
  exact ⟨od, J⟩
end
/-- the type of a value -/
theorem type_of {X : Cx} {pins : List (Addr × Obj)} {σ : St} {H : Hp} {s : Shared} {v : V} {u t : Value} (I : Inv X pins σ H s) (rx : RelV v u) (ty : TyX X.K H v t) (hr : ∀ n, t = .type n → True) : ∀ M, PySem.W.Looks M s.heap (typeOf u) t := by
  intro M
  cases ty with
  | base b =>
    cases b with
    | non => cases (show u = Value.none from rx); exact fun A Q E s k q => wpAny_pure q
    | bl y => cases (show u = Value.bool y from rx); exact fun A Q E s k q => wpAny_pure q
    | int i => obtain ⟨t, q⟩ := (show ∃ t, u = Value.int i t from rx); cases q; exact fun A Q E s k q => wpAny_pure q
    | str y => obtain ⟨t, q⟩ := (show ∃ t, u = Value.str y t from rx); cases q; exact fun A Q E s k q => wpAny_pure q
    | flt y => obtain ⟨t, q⟩ := (show ∃ t, u = Value.float y t from rx); cases q; exact fun A Q E s k q => wpAny_pure q
    | @ins a C dx fs ea cl ha hn htk hm =>
      cases (show u = Value.ref a from rx)
      obtain ⟨mA, O, _⟩ := ins_get I.hok ea
      obtain ⟨od, J, _⟩ := O.look
      exact J.type
    | @lst a xs ea =>
      cases (show u = Value.ref a from rx)
      obtain ⟨_, _, n, _, h1⟩ := (show ObjOk X.prog X.w H s.heap a (.lst xs) from I.hok a _ ea)
      exact fun A Q E s k q => wpAny_typeOf (T := "list") ⟨_, k _ _ h1, rfl⟩ q
    | @frz a ob xs ea =>
      cases (show u = Value.ref a from rx)
      obtain ⟨_, _, _, n, _, h1⟩ := (show ObjOk X.prog X.w H s.heap a (.frz ob (.lst xs)) from I.hok a _ ea)
      exact fun A Q E s k q => wpAny_typeOf (T := "list") ⟨_, k _ _ h1, rfl⟩ q
    | @tup a xs ea =>
      cases (show u = Value.ref a from rx)
      obtain ⟨_, _, _, o, h1, h2, _⟩ := (show ObjOk X.prog X.w H s.heap a (.tup xs) from I.hok a _ ea)
      exact fun A Q E s k q => wpAny_typeOf (T := "tuple") ⟨o, k _ _ h1, h2⟩ q
    | @dK a kvs ea =>
      cases (show u = Value.ref a from rx)
      obtain ⟨_, _, vs, _, o, es, ep, h1, h2, _⟩ := (show ObjOk X.prog X.w H s.heap a (.dK kvs) from I.hok a _ ea)
      exact fun A Q E s k q => wpAny_typeOf (T := "dict") ⟨o, k _ _ h1, h2.1⟩ q
    | @dT a kvs ea =>
      cases (show u = Value.ref a from rx)
      obtain ⟨_, _, xs, _, o, es, ep, h1, h2, _⟩ := (show ObjOk X.prog X.w H s.heap a (.dT kvs) from I.hok a _ ea)
      exact fun A Q E s k q => wpAny_typeOf (T := "dict") ⟨o, k _ _ h1, h2.1⟩ q
  | byt b => obtain ⟨t, q⟩ := (show ∃ t, u = Value.bytes b t from rx); cases q; exact fun A Q E s k q => wpAny_pure q
  | @kTuple a o e c => cases (show u = Value.ref a from rx); exact fun A Q E s k q => wpAny_typeOf (T := "tuple") ⟨o, k _ _ (I.kIn _ _ e), c⟩ q
  | @kList a o e c => cases (show u = Value.ref a from rx); exact fun A Q E s k q => wpAny_typeOf (T := "list") ⟨o, k _ _ (I.kIn _ _ e), c⟩ q
  | @kDict a o e c => cases (show u = Value.ref a from rx); exact fun A Q E s k q => wpAny_typeOf (T := "dict") ⟨o, k _ _ (I.kIn _ _ e), c⟩ q
  | @fTuple a o xs ea =>
    cases (show u = Value.ref a from rx)
    obtain ⟨_, _, _, _, o, h1, h2, _⟩ := (show ObjOk X.prog X.w H s.heap a (.frz o (.tup xs)) from I.hok a _ ea)
    exact fun A Q E s k q => wpAny_typeOf (T := "tuple") ⟨o, k _ _ h1, h2⟩ q
  | @fDict a o kvs ea =>
    cases (show u = Value.ref a from rx)
    obtain ⟨_, _, _, vs, _, o, es, ep, h1, h2, _⟩ := (show ObjOk X.prog X.w H s.heap a (.frz o (.dK kvs)) from I.hok a _ ea)
    exact fun A Q E s k q => wpAny_typeOf (T := "dict") ⟨o, k _ _ h1, h2.1⟩ q
  | @set a S n ea =>
    cases (show u = Value.ref a from rx)
    obtain ⟨o, _, _, _, e, ex, _⟩ := I.hok a _ ea
    exact fun A Q E s k q => wpAny_typeOf (T := "set") ⟨o, k _ _ e, ex.1⟩ q
/-- len(x), x an instance -/
def dLenO (C : Addr) (f : Fn) (a : DTE) : DTE := fun δ G Q E => a δ G (fun x G1 => IsC C G1 x ∧ f [x] G1 (fun z G2 => ∃ n : Int, z = .int n ∧ 0 ≤ n ∧ n < 2 ^ 63 ∧ Q (.int n) G2) E) E
/-- x[i], x an instance -/
def dIxO (C : Addr) (f : Fn) (a b : DTE) : DTE := fun δ G Q E => a δ G (fun x G1 => b δ G1 (fun y G2 => IsC C G2 x ∧ f [x, y] G2 Q E) E) E
/-- x op y, x an instance, y anything of a type that is not below x's -/
def dCmpO (K : PySem.W.Frag) (C : Addr) (f : Fn) (a b : DTE) : DTE := fun δ G Q E => a δ G (fun x G1 => b δ G1 (fun y G2 => IsC C G2 x ∧ (∃ t, TyD K G2 y t ∧ PySem.W.notFirst K C t = true) ∧ f [x, y] G2 Q E) E) E
/-- x + y, both instances of one class -/
def dAddO (C : Addr) (f : Fn) (a b : DTE) : DTE := fun δ G Q E => a δ G (fun x G1 => b δ G1 (fun y G2 => IsC C G2 x ∧ IsC C G2 y ∧ f [x, y] G2 Q E) E) E
section
variable {X : Cx} {W : WX} {k : Nat} {fa C : Addr} {fd : FuncData} {ps : List Str} {f : Fn} {a b : Expr} {da db : DTE} {p pos : Pos}
theorem de_lenO (F : FnOk X.prog X.w X.K X.mg X.base (L2.CX X.prog X.w) k fa fd ps (spD X.K f)) (hr : Room (k + 1) X.A) (hb : Binds X.K fd ps []) (tk : Takes X W) (hs : PySem.W.findIn X.K (.ref C) "__len__" = some (some (.ref fa))) (hf : PySem.W.isFn X.K (.ref fa) = true)
    (hg : Gl X "len") (hm : X.mg "len" = none) (ha : DE X W a da) (na : starEach [a] X.env = (false, eval a X.env) :: starEach [] X.env := by rfl) (hpl : (backTo pos (starEach [] X.env)).any (·.1) = false := by rfl) :
    DE X W (.Call (.Name "len" p) [a] [] pos) (dLenO C f da) := by
  refine ⟨fun pins s σ H R I h => ?_⟩
  obtain ⟨M, δ, G, Q, QE, rs, d, ex, k⟩ := h
  refine wpAny_Call_Name_kw (ld_blt (u := .builtin "len") I hg hm (by decide +kernel) ?_)
  refine PyProof.Rows.callWith_builtin1 (PyProof.Rows.args_cons (thn (ha.run pins s σ H (fun v H1 => ∃ dv G1 M1, Frame H M H1 M1 ∧ RS X.K H1 M1 σ δ G1 ∧ Im X.K H1 M1 v dv ∧ IsC C G1 dv ∧ f [dv] G1 (fun z G2 => ∃ n : Int, z = .int n ∧ 0 ≤ n ∧ n < 2 ^ 63 ∧ Q (.int n) G2) QE) I
    ⟨M, δ, G, _, QE, rs, d, ex, fun v dv G1 H1 M1 f1 rs1 im q => ⟨dv, G1, M1, f1, rs1, im, q⟩⟩) fun v s1 ⟨x, H1, I1, r1, dv, G1, M1, f1, rs1, im, is, q⟩ => PyProof.Rows.args_nil ?_) na) na hpl
  obtain ⟨l, dx, fs, rfl, hl⟩ := isC_of rs1.g (Tm.of im) is
  cases (show v = Value.ref l from r1)
  obtain ⟨od, J⟩ := inst_of I1 hl
  obtain ⟨m, hF⟩ := I1.fr
  refine PySem.W.len_K hF I1.ok.mod.kin J hs hf ?_
  have kk := fun (v : V) (dv : D) (G' : DG) (H' : Hp) (M' : Gh) (f2 : Frame H1 M1 H' M') (rs2 : RS X.K H' M' σ δ G') (im2 : Im X.K H' M' v dv) (z : ∃ n : Int, dv = .int n ∧ 0 ≤ n ∧ n < 2 ^ 63 ∧ Q (.int n) G') => show ∃ n : Int, v = .int n ∧ 0 ≤ n ∧ n < 2 ^ 63 ∧ R (.int n) H' from by
    obtain ⟨n, e, h0, h1, q2⟩ := z
    subst e
    cases im2
    exact ⟨n, rfl, h0, h1, k _ _ G' H' M' (f1.trans f2) rs2 .int q2⟩
  refine wpAny_mono (run_sp (A := X.A.in1) (us := [.ref l]) (vs := [.ref l]) F hr.in1 I1.env0.in1 hb tk I1 (.cons rfl .nil) (spD_of rs1 (.cons im .nil) q (ex.mono f1) kk)) (fun w s' z => ?_) fun _ _ x => x
  obtain ⟨z', H', I', rz, n, e, h0, h1, qz⟩ := z
  subst e
  obtain ⟨t, rfl⟩ := (show ∃ t, w = Value.int n t from rz)
  exact ⟨⟨h0, h1⟩, .int n, H', I'.tok _, ⟨_, rfl⟩, qz⟩
theorem de_ixO (F : FnOk X.prog X.w X.K X.mg X.base (L2.CX X.prog X.w) k fa fd ps (spD X.K f)) (hr : Room (k + 1) X.A) (hb : Binds X.K fd ps []) (tk : Takes X W) (hs : PySem.W.findIn X.K (.ref C) "__getitem__" = some (some (.ref fa))) (hn : PySem.W.fnIn X.K fa = true) (hf : PySem.W.isFn X.K (.ref fa) = true)
    (ha : DE X W a da) (hbb : DE X W b db) (hsl : ∀ (x : Addr) (i : Value), subscripted b true (.ref x) i = runValue (.builtin "lifetime.subscript" ⟨[.ref x, i], []⟩) := by intro _ _; with_unfolding_all rfl) :
    DE X W (.Subscript a b pos) (dIxO C f da db) := by
  refine ⟨fun pins s σ H R I h => ?_⟩
  obtain ⟨M, δ, G, Q, QE, rs, d, ex, k⟩ := h
  refine PyProof.Rows.Subscript_ (binT ha hbb (R := fun v w H2 => ∃ dv dw G2 M2, Frame H M H2 M2 ∧ RS X.K H2 M2 σ δ G2 ∧ Im X.K H2 M2 v dv ∧ Im X.K H2 M2 w dw ∧ IsC C G2 dv ∧ f [dv, dw] G2 Q QE) I
    ⟨M, δ, G, _, QE, rs, d, ex, fun v dv G1 H1 M1 f1 rs1 im q => ⟨M1, δ, G1, _, QE, rs1, q, ex.mono f1, fun w dw G2 H2 M2 f2 rs2 im2 q2 => ⟨dv, dw, G2, M2, f1.trans f2, rs2, im.mono f2.stay, im2, q2⟩⟩⟩ fun v u s2 x y H2 I2 rx ry ⟨dv, dw, G2, M2, f1, rs1, im, im2, is, q⟩ => ?_)
  obtain ⟨l, dx, fs, rfl, hl⟩ := isC_of rs1.g (Tm.of im) is
  cases (show v = Value.ref l from rx)
  obtain ⟨od, J⟩ := inst_of I2 hl
  obtain ⟨m, hF⟩ := I2.fr
  refine PySem.W.sub_K hF I2.ok.mod.kin J hs hn hf ?_ (hsl l u)
  exact run_sp (A := X.A.in1) (us := [.ref l, u]) (vs := [.ref l, y]) F hr.in1 I2.env0.in1 hb tk I2 (.cons rfl (.cons ry .nil)) (spD_of rs1 (.cons im (.cons im2 .nil)) q (ex.mono f1) fun v dv G' H' M' f2 rs2 im2 q2 => k v dv G' H' M' (f1.trans f2) rs2 im2 q2)
theorem cmpO_run {op : CmpOp} (F : FnOk X.prog X.w X.K X.mg X.base (L2.CX X.prog X.w) k fa fd ps (spD X.K f)) (hr : Room k X.A) (hb : Binds X.K fd ps []) (tk : Takes X W) (hop : ∀ a b, compareOp op a b = richCompare op a b) (hs : PySem.W.findIn X.K (.ref C) (cmpInfo op).2.1 = some (some (.ref fa))) (hf : PySem.W.isFn X.K (.ref fa) = true)
    {pins : List (Addr × Obj)} {s : Shared} {σ : St} {H : Hp} {x y : V} {v u : Value} {M : Gh} {δ : DSt} {G : DG} {dx dy : D} {Q : D → DG → Prop} {QE : DX → DG → Prop} {R : VK} (I : Inv X pins σ H s) (rx : RelV x v) (ry : RelV y u) (rs : RS X.K H M σ δ G) (im : Im X.K H M x dx) (im2 : Im X.K H M y dy)
    (is : IsC C G dx) (ty : ∃ t, TyD X.K G dy t ∧ PySem.W.notFirst X.K C t = true) (q : f [dx, dy] G Q QE) (ex : ExOk X.K W H M σ δ QE) (k : ∀ v dv G' H' M', Frame H M H' M' → RS X.K H' M' σ δ G' → Im X.K H' M' v dv → Q dv G' → R v H') :
    wpAny (model X.prog X.w) X.A (compareOp op v u) (EP X pins σ R) X.xe s := by
  obtain ⟨l, ddx, fs, rfl, hl⟩ := isC_of rs.g (Tm.of im) is
  cases (show v = Value.ref l from rx)
  obtain ⟨od, J⟩ := inst_of I hl
  obtain ⟨m, hF⟩ := I.fr
  obtain ⟨t, ht, hn⟩ := ty
  rw [hop]
  refine PySem.W.cmp_K (op := op) (tb := t) hr.units0 hF I.ok.mod.kin J (type_of I ry (tyx_of rs.g (Tm.of im2) ht) (fun _ _ => trivial) _) hn hs hf ?_
  refine wpAny_mono (run_sp (us := [.ref l, u]) (vs := [.ref l, y]) F hr I.env0 hb tk I (.cons rfl (.cons ry .nil)) (spD_of rs (.cons im (.cons im2 .nil)) q ex k)) (fun w s' z => ?_) fun _ _ x => x
  obtain ⟨z', H', I', rz, qz⟩ := z
  exact SlX.cmpback rz ⟨z', H', I', rz, qz⟩
theorem de_cmpO {op : CmpOp} (F : FnOk X.prog X.w X.K X.mg X.base (L2.CX X.prog X.w) k fa fd ps (spD X.K f)) (hr : Room k X.A) (hb : Binds X.K fd ps []) (tk : Takes X W) (hop : ∀ a b, compareOp op a b = richCompare op a b) (hs : PySem.W.findIn X.K (.ref C) (cmpInfo op).2.1 = some (some (.ref fa))) (hf : PySem.W.isFn X.K (.ref fa) = true)
    (ha : DE X W a da) (hbb : DE X W b db) (hm : behindInMarks op b = false) : DE X W (.Compare a [op] [b] pos) (dCmpO X.K C f da db) := by
  refine ⟨fun pins s σ H R I h => ?_⟩
  obtain ⟨M, δ, G, Q, QE, rs, d, ex, k⟩ := h
  refine wpAny_Compare1 (binT ha hbb (R := fun v w H2 => ∃ dv dw G2 M2, Frame H M H2 M2 ∧ RS X.K H2 M2 σ δ G2 ∧ Im X.K H2 M2 v dv ∧ Im X.K H2 M2 w dw ∧ IsC C G2 dv ∧ (∃ t, TyD X.K G2 dw t ∧ PySem.W.notFirst X.K C t = true) ∧ f [dv, dw] G2 Q QE) I
    ⟨M, δ, G, _, QE, rs, d, ex, fun v dv G1 H1 M1 f1 rs1 im q => ⟨M1, δ, G1, _, QE, rs1, q, ex.mono f1, fun w dw G2 H2 M2 f2 rs2 im2 q2 => ⟨dv, dw, G2, M2, f1.trans f2, rs2, im.mono f2.stay, im2, q2⟩⟩⟩ fun v u s2 x y H2 I2 rx ry ⟨dv, dw, G2, M2, f1, rs1, im, im2, is, ty, q⟩ => ?_) hm
  exact cmpO_run F hr hb tk hop hs hf I2 rx ry rs1 im im2 is ty q (ex.mono f1) fun v dv G' H' M' f2 rs2 im2 q2 => k v dv G' H' M' (f1.trans f2) rs2 im2 q2
theorem dt_cmpO {op : CmpOp} (F : FnOk X.prog X.w X.K X.mg X.base (L2.CX X.prog X.w) k fa fd ps (spD X.K f)) (hr : Room k X.A) (hb : Binds X.K fd ps []) (tk : Takes X W) (hop : ∀ a b, compareOp op a b = richCompare op a b) (hs : PySem.W.findIn X.K (.ref C) (cmpInfo op).2.1 = some (some (.ref fa))) (hf : PySem.W.isFn X.K (.ref fa) = true)
    (ha : DE X W a da) (hbb : DE X W b db) (hm : behindInMarks op b = false) : DT X W (.Compare a [op] [b] pos) (dTst (dCmpO X.K C f da db)) := by
  refine ⟨fun pins s σ H R I h => ?_⟩
  obtain ⟨M, δ, G, Q, QE, rs, d, ex, k⟩ := h
  refine wpAny_isTrue_Compare1 (binT ha hbb (R := fun v w H2 => ∃ dv dw G2 M2, Frame H M H2 M2 ∧ RS X.K H2 M2 σ δ G2 ∧ Im X.K H2 M2 v dv ∧ Im X.K H2 M2 w dw ∧ IsC C G2 dv ∧ (∃ t, TyD X.K G2 dw t ∧ PySem.W.notFirst X.K C t = true) ∧ f [dv, dw] G2 (fun x G1 => ∃ b, x = .bl b ∧ Q b G1) QE) I
    ⟨M, δ, G, _, QE, rs, d, ex, fun v dv G1 H1 M1 f1 rs1 im q => ⟨M1, δ, G1, _, QE, rs1, q, ex.mono f1, fun w dw G2 H2 M2 f2 rs2 im2 q2 => ⟨dv, dw, G2, M2, f1.trans f2, rs2, im.mono f2.stay, im2, q2⟩⟩⟩
    (f := fun v u => compareOp op v u) fun v u s2 x y H2 I2 rx ry ⟨dv, dw, G2, M2, f1, rs1, im, im2, is, ty, q⟩ => ?_) hm
  refine thn (cmpO_run (R := fun v H' => ∃ b, v = .bl b ∧ R b H') F hr hb tk hop hs hf I2 rx ry rs1 im im2 is ty q (ex.mono f1) fun v dv G' H' M' f2 rs2 im2 ⟨b, e, q2⟩ => ?_) fun c s3 ⟨z, H3, I3, r3, kk, e, q3⟩ => ?_
  · subst e
    cases im2
    exact ⟨b, rfl, k b G' H' M' (f1.trans f2) rs2 q2⟩
  · subst e
    cases r3
    exact wpAny_truthy_bool ⟨H3, I3, q3⟩
theorem de_addO (F : FnOk X.prog X.w X.K X.mg X.base (L2.CX X.prog X.w) k fa fd ps (spD X.K f)) (hr : Room k X.A) (hb : Binds X.K fd ps []) (tk : Takes X W) (hc : PySem.W.selfFirst X.K C = true) (hs : PySem.W.findIn X.K (.ref C) "__add__" = some (some (.ref fa))) (hf : PySem.W.isFn X.K (.ref fa) = true)
    (ha : DE X W a da) (hbb : DE X W b db) : DE X W (.BinOp a .Add b pos) (dAddO C f da db) := by
  refine ⟨fun pins s σ H R I h => ?_⟩
  obtain ⟨M, δ, G, Q, QE, rs, d, ex, k⟩ := h
  refine wpAny_BinOp (binT ha hbb (R := fun v w H2 => ∃ dv dw G2 M2, Frame H M H2 M2 ∧ RS X.K H2 M2 σ δ G2 ∧ Im X.K H2 M2 v dv ∧ Im X.K H2 M2 w dw ∧ IsC C G2 dv ∧ IsC C G2 dw ∧ f [dv, dw] G2 Q QE) I
    ⟨M, δ, G, _, QE, rs, d, ex, fun v dv G1 H1 M1 f1 rs1 im q => ⟨M1, δ, G1, _, QE, rs1, q, ex.mono f1, fun w dw G2 H2 M2 f2 rs2 im2 q2 => ⟨dv, dw, G2, M2, f1.trans f2, rs2, im.mono f2.stay, im2, q2⟩⟩⟩ fun v u s2 x y H2 I2 rx ry ⟨dv, dw, G2, M2, f1, rs1, im, im2, is, is2, q⟩ => ?_)
  obtain ⟨l, ddx, fs, rfl, hl⟩ := isC_of rs1.g (Tm.of im) is
  obtain ⟨l2, ddx2, fs2, rfl, hl2⟩ := isC_of rs1.g (Tm.of im2) is2
  cases (show v = Value.ref l from rx)
  cases (show u = Value.ref l2 from ry)
  obtain ⟨od, J⟩ := inst_of I2 hl
  obtain ⟨od2, J2⟩ := inst_of I2 hl2
  obtain ⟨m, hF⟩ := I2.fr
  refine PySem.W.binop_K (op := .Add) hF I2.ok.mod.kin J J2.type hc hs hf ?_
  refine wpAny_mono (run_sp (us := [.ref l, .ref l2]) (vs := [.ref l, .ref l2]) F hr I2.env0 hb tk I2 (.cons rfl (.cons rfl .nil)) (spD_of rs1 (.cons im (.cons im2 .nil)) q (ex.mono f1) fun v dv G' H' M' f2 rs2 im2 q2 => k v dv G' H' M' (f1.trans f2) rs2 im2 q2)) (fun w s' z => ?_) fun _ _ x => x
  obtain ⟨z', H', I', rz, qz⟩ := z
  exact SlX.cmpback rz ⟨z', H', I', rz, qz⟩
end
end DD

set_option Elab.async false
set_option linter.all false
set_option maxRecDepth 100000
set_option maxHeartbeats 4000000
/-! a head's Hook with any tests of the written part beside its facts and defs -/
namespace DH
open PySem PySem.Spec PyProof.Rows L2
abbrev Bx := PySem.W.Frag → Bool
abbrev AlX : Type := He.AlD × Bool
def obsX (fa : List He.Fa) (fn : List He.DefD) (bx : List Bx) (K : PySem.W.Frag) : AlX := (He.obsD fa fn K, bx.all fun b => b K)
def valX (fn : List He.DefD) : AlX := (He.valD fn, true)
def SaysX (fa : List He.Fa) (fn : List He.DefD) (bx : List Bx) (K : PySem.W.Frag) : Prop := obsX fa fn bx K = valX fn
def obsXG (n : Nat) (fa : List He.Fa) (fn : List He.DefD) (bx : List Bx) (g : Addr → Option Obj) : AlX := obsX fa fn bx (He.frG g (He.asD g n))
def hookX (n : Nat) (fa : List He.Fa) (fn : List He.DefD) (bx : List Bx) : PySem.W.Hook where
  α := AlX
  obs := fun s => obsXG n fa fn bx s.heap.get?
  val := fun _ => valX fn
  says := fun _ h => ∃ K : PySem.W.Frag, K.In h ∧ SaysX fa fn bx K
  of := fun _ _ e => ⟨_, He.frG_in, e⟩
  keeps := fun _ _ _ ⟨K, hK, c⟩ k => ⟨K, PySem.W.Frag.In.keeps hK k, c⟩
theorem obsXG_eq {n : Nat} {fa : List He.Fa} {fn : List He.DefD} {bx : List Bx} {g : Addr → Option Obj} {s : Shared} (h : ∀ a, g a = s.heap.get? a) : obsXG n fa fn bx g = (hookX n fa fn bx).obs s := by
  have e : g = s.heap.get? := funext h
  rw [e] <;> rfl
section
variable {fa : List He.Fa} {fn : List He.DefD} {bx : List Bx} {K : PySem.W.Frag}
theorem SaysX.d (c : SaysX fa fn bx K) : He.SaysD fa fn K := congrArg (fun z : AlX => z.1) c
theorem SaysX.b (c : SaysX fa fn bx K) (i : Nat) {b : Bx} (h : bx[i]? = some b := by rfl) : b K = true := by
  have c1 : (bx.all fun b => b K) = true := congrArg (fun z : AlX => z.2) c
  exact List.all_eq_true.mp c1 b (List.mem_of_getElem? h)
end
/-! ### tests -/
def oexB (K : PySem.W.Frag) (C : Addr) : Bool := (match K.lookup C with
  | some ⟨.type "type", _, .cls cd, sl⟩ => (match cd.mro, sl.toList with
    | .ref C' :: bm, [_, _, _, _, some (.builtin n), _] => C' == C && n == "ValueError.__new__" && !cd.hasDel && cd.hasDict && PySem.HandSPX.refsVE bm
    | _, _ => false)
  | _ => false) && (He.eqO (PySem.W.findIn K (.ref C) "__setattr__") (some (some (.builtin "object.__setattr__"))) &&
  (decide (PySem.W.subIn K (.ref C) (.type "BaseException") = some true) && (decide (PySem.W.typeIn K (.ref C) = some (.type "type")) && PySem.W.keepIn K (.ref C))))
theorem oexB_ok {K : PySem.W.Frag} {C : Addr} (h : oexB K C = true) : OexC K C := by
  unfold oexB at h
  rw [Bool.and_eq_true, Bool.and_eq_true, Bool.and_eq_true, Bool.and_eq_true] at h
  obtain ⟨q, h1, h2, h3, h4⟩ := h
  refine ⟨?_, He.eqO_ok h1, of_decide_eq_true h2, of_decide_eq_true h3, h4⟩
  split at q
  · rename_i dd cd sl ho
    split at q
    · rename_i C' bm k0 k1 k2 k3 n k5 hm hs
      simp only [Bool.and_eq_true, beq_iff_eq, Bool.not_eq_true'] at q
      obtain ⟨⟨⟨⟨rfl, rfl⟩, hdel⟩, hdd⟩, ht⟩ := q
      obtain ⟨nm, bs, mro, ns, qn, hd, sn, sub, ab, col, del⟩ := cd
      dsimp only at hm hdel hdd
      subst hm hdel hdd
      have hsl : sl = #[k0, k1, k2, k3, some (.builtin "ValueError.__new__"), k5] := by
        obtain ⟨l⟩ := sl
        simp only at hs
        rw [hs]
      subst hsl
      exact ⟨nm, qn, ns, bs, bm, sn, sub, ab, col, dd, k0, k1, k2, k3, k5, ho, ht⟩
    · cases q
  · cases q
def insB (K : PySem.W.Frag) (C : Addr) : Bool := He.eqO (PySem.W.findIn K (.ref C) "__class__") (some (some (.builtin "object.__class__"))) && (He.eqO (PySem.W.specialIn K (.builtin "object.__class__") "__get__") (some (some (.builtin "getset_descriptor.__get__"))) &&
  (decide (PySem.W.takesIn K (.builtin "object.__class__") = some true) && (decide (PySem.W.mroIn K C (.type "object") = some true) && decide (PySem.W.kitOne K (.ref C) (.ref C) = some true))))
theorem insB_ok {K : PySem.W.Frag} {C : Addr} (c : Cls K C) (h : insB K C = true) : C8.InsC K C := by
  unfold insB at h
  rw [Bool.and_eq_true, Bool.and_eq_true, Bool.and_eq_true, Bool.and_eq_true] at h
  obtain ⟨h1, h2, h3, h4, h5⟩ := h
  exact ⟨c, He.eqO_ok h1, He.eqO_ok h2, of_decide_eq_true h3, of_decide_eq_true h4, of_decide_eq_true h5⟩
def kitB (K : PySem.W.Frag) (t u : Value) (b : Bool) : Bool := decide (PySem.W.kitOne K t u = some b)
theorem kitB_ok {K : PySem.W.Frag} {t u : Value} {b : Bool} (h : kitB K t u b = true) : PySem.W.kitOne K t u = some b := of_decide_eq_true h
/-- a class's own __init__ that is a def -/
def iniB (K : PySem.W.Frag) (C : Addr) : Bool := He.eqO (PySem.W.findIn K (.ref C) "__init__") (some (some (.ref (He.ma K C "__init__")))) && decide (PySem.W.typeIn K (.ref (He.ma K C "__init__")) = some (.type "function"))
theorem iniB_ok {K : PySem.W.Frag} {C : Addr} (h : iniB K C = true) : PySem.W.findIn K (.ref C) "__init__" = some (some (.ref (He.ma K C "__init__"))) ∧ PySem.W.typeIn K (.ref (He.ma K C "__init__")) = some (.type "function") := by
  unfold iniB at h
  rw [Bool.and_eq_true] at h
  exact ⟨He.eqO_ok h.1, of_decide_eq_true h.2⟩
end DH
namespace DD
open PySem PySem.Spec L2
theorem ru {k : Nat} {A : Around} (r : Room k A) : A.units + 65 < cLine := by have := r.un; omega
section
variable {P : Program} {w : World} {K : PySem.W.Frag} {mg : Str → Option Value} {base : Heap}
/-- an error's __init__: self.f = index -/
theorem low_ok {qual m : Str} {a b f : Str} {st : Stmt} {fa C : Addr} {fd : FuncData} {k : Nat} {p1 p2 p3 p4 : Pos} (F : FunD K m qual (defArgs st) (defBody st) (defScope st) [] [] fa fd) (S : FnScope [a, b] [a, b] (defScope st))
    (T : OexC K C) (n : PySem.W.findIn K (.ref C) f = some none) (hb : defBody st = [.Assign [.Attribute (.Name a p1) f p2] (.Name b p3) p4])
    (h0 : ∀ X : Cx, X.N = [a, b] → X.env.scope = defScope st → PE X (.Name a p1) (tVar 0)) (h1 : ∀ X : Cx, X.N = [a, b] → X.env.scope = defScope st → PE X (.Name b p3) (tVar 1)) : FnOk P w K mg base (L2.CX P w) (k + 1) fa fd [a, b] (spLow C f) := by
  refine F.ok S (fun vs H Q E ⟨x, y, e, _⟩ => by subst e; rfl) (fun cdv A outer s H vs Q E hr ⟨x, y, e, h, q⟩ => ?_)
  subst e
  refine ⟨_, by rw [hb]; exact pss_one (ps_ost (h0 _ rfl rfl) (h1 _ rfl rfl)), ?_⟩
  exact ⟨y, rfl, .ref x, rfl, x, C, rfl, T, n, .inl ⟨h, fun dx n1 n2 => q dx n1 n2⟩⟩
end
end DD

set_option Elab.async false
set_option linter.all false
set_option maxRecDepth 100000
set_option maxHeartbeats 4000000
namespace DD
open PySem PySem.Spec L2

/-! ### a def's data, from the written part -/
def fdOf (K : PySem.W.Frag) (f : Addr) (fd : FuncData) : Prop := ∃ oc od osl, K.lookup f = some ⟨oc, od, .func fd, osl⟩
section
variable {K : PySem.W.Frag} {x qual : Str} {params : Arguments} {body : List Stmt} {scope : Scope} {dvs : List V} {f : Addr} {fd : FuncData} {ps : List Str}
/-- keywords, defaults among the parameters or none -/
theorem kbn1 (F : FunD K x qual params body scope dvs [] f fd) (n : Nat) (ks : List Str) (g : {α : Type} → List α → List α → List α → List α) (hd : dvs ≠ [])
    (hrel : ∀ {vs ds zs : List V} {us its ws : List Value}, Vals vs us → Vals ds its → Vals zs ws → Vals (g vs ds zs) (g us its ws))
    (h : ∀ (T : Addr) (kV doc pm : Value) (an : Option Addr) (cdv ct : Value) (us its ws : List Value), us.length = n → its.length = dvs.length → ws.length = ks.length →
      ∃ k, bindArgs (PySem.W.fnOf x qual params body scope (.ref T) kV doc pm an cdv ct) ⟨us, ks.zip ws⟩ = seqItems? (.ref T) >>= k ∧ k (some its.toArray) = pure (ps.zip (g us its ws))) : ∃ its : List Value, KBn K fd ps n ks (fun us ws => g us its ws) (fun vs zs => g vs dvs zs) := by
  obtain ⟨oc, od, dV, kV, doc, pm, an, cdv, ct, osl, rfl, lk, hcd, hD, hK⟩ := F.ex
  rcases hD with ⟨e, _⟩ | ⟨_, T, o, its, m, rfl, lT, oT, rT⟩
  · exact absurd e hd
  · refine ⟨its, ⟨fun s us ws X l1 l2 => ?_, fun r1 r2 => hrel r1 rT r2⟩⟩
    obtain ⟨k, e1, e2⟩ := h T kV doc pm an cdv ct us its ws l1 rT.length.symm l2
    refine BindsTo.of_looks fun M => ?_
    rw [e1]
    exact looks_items X lT oT (.of_pure e2)
theorem kbnN (F : FunD K x qual params body scope [] [] f fd) (n : Nat) (ks : List Str) (g : {α : Type} → List α → List α → List α)
    (hrel : ∀ {vs zs : List V} {us ws : List Value}, Vals vs us → Vals zs ws → Vals (g vs zs) (g us ws))
    (h : ∀ (kV doc pm : Value) (an : Option Addr) (cdv ct : Value) (us ws : List Value), us.length = n → ws.length = ks.length →
      bindArgs (PySem.W.fnOf x qual params body scope .none kV doc pm an cdv ct) ⟨us, ks.zip ws⟩ = pure (ps.zip (g us ws))) : KBn K fd ps n ks (fun us ws => g us ws) (fun vs zs => g vs zs) := by
  obtain ⟨oc, od, dV, kV, doc, pm, an, cdv, ct, osl, rfl, lk, hcd, hD, hK⟩ := F.ex
  rcases hD with ⟨_, rfl⟩ | ⟨e, _⟩
  · exact ⟨fun s us ws X l1 l2 => BindsTo.of_eq (h kV doc pm an cdv ct us ws l1 l2), fun r1 r2 => hrel r1 r2⟩
  · exact absurd rfl e
end
/-! ### C(k = v, ..) -/
def dMakeK (C : Addr) (f : Fn) (n m : Nat) (gD : List D → List D → List D) (a b : DTA) : DTE := fun δ G Q E => a δ G (fun ds G1 => b δ G1 (fun es G2 => ds.length = n ∧ es.length = m ∧ ∀ x, G2 x = none → f (gD (.ref x :: ds) es) (gset G2 x (some (.ins C []))) (fun v G3 => v = .non ∧ Q (.ref x) G3) (fun ex G3 => E ex (gset G3 x none))) E) E
def dMakeKZ (C : Addr) (f : Fn) (n m : Nat) (gD : List D → List D → List D) (a b : DTA) : DTE := fun δ G Q E => a δ G (fun ds G1 => b δ G1 (fun es G2 => ds.length = n ∧ es.length = m ∧ ∀ x, G2 x = none → f (gD (.ref x :: ds) es) (gset G2 x (some (.ins C []))) (fun v G3 => v = .non ∧ ∃ fs, G3 x = some (.ins C fs) ∧ Q (.obj C (fs.map fun p => (p.1, p.2.d))) (gset G3 x none)) (fun ex G3 => E ex (gset G3 x none))) E) E
abbrev DK (X : Cx) (W : WX) (kws : List Keyword) (d : DTA) : Prop := PK X kws (rdA X.K W d)
section
variable {X : Cx} {W : WX} {k n : Nat} {fa C : Addr} {fd : FuncData} {ps ks : List Str} {f : Fn} {x : Str} {p pos kpos : Pos} {e : Expr} {es : List Expr} {kws : List Keyword} {ta tk : DTA} {de : DTE} {nm : Option Str} {g : List Value → List Value → List Value} {gV : List V → List V → List V} {gD : List D → List D → List D}
theorem _root_.L2.PK.imp {X : Cx} {e : List Keyword} {t t' : TA} (h : PK X e t) (i : ∀ σ H R, t' σ H R → t σ H R) : PK X e t' := ⟨fun p pins s σ H Q I q => h.run p pins s σ H Q I (i _ _ _ q)⟩
theorem dk_nil : DK X W [] dNil := pk_nil.imp fun σ H R ⟨M, δ, G, Q, QE, rs, d, ex, k⟩ => k [] [] G H M (Frame.refl H M) rs .nil d
theorem dk_cons (ha : DE X W e de) (hr : DK X W kws ta) : DK X W (⟨nm, e, kpos⟩ :: kws) (dCons de ta) := (pk_cons ha hr).imp fun σ H R ⟨M, δ, G, Q, QE, rs, d, ex, k⟩ =>
  ⟨M, δ, G, _, QE, rs, d, ex, fun v dv G' H' M' f rs' im q => ⟨M', δ, G', _, QE, rs', q, ex.mono f, fun vs ds G2 H2 M2 f2 rs2 iml q2 => k (v :: vs) (dv :: ds) G2 H2 M2 (f.trans f2) rs2 (.cons (im.mono f2.stay) iml) q2⟩⟩
theorem dd_run_makeK {pins : List (Addr × Obj)} {σ : St} {H : Hp} {s : Shared} {Q : VK} {sp : Sp} {E : XK} {us ws : List Value} {vs zs : List V} (M : Mk X.K C fa) (F : FnOk X.prog X.w X.K X.mg X.base (L2.CX X.prog X.w) k fa fd ps sp) (hr : Room (k + 1) X.A) (hb : KBn X.K fd ps (n + 1) ks g gV) (hx : PassesAt (L2.CX X.prog X.w) X σ E)
    (I : Inv X pins σ H s) (r : Vals vs us) (rz : Vals zs ws) (l1 : vs.length = n) (l2 : zs.length = ks.length)
    (h : ∀ x dx, H x = none → H dx = none → dx ≠ x → sp (gV (.ref x :: vs) zs) (upd (upd H dx (.own x)) x (.ins C dx [])) (fun v H2 => v = .non ∧ Q (.ref x) H2) E) :
    wpAny (model X.prog X.w) X.A (call (.ref C) us (ks.zip ws)) (EP X pins σ Q) X.xe s := by
  have hq := h (s.heap.objs.size + 1) s.heap.objs.size (I.hok.fresh (Nat.le_succ _)) (I.hok.fresh (Nat.le_refl _)) (Nat.ne_of_lt (Nat.lt_succ_self _))
  have I2 := Inv.made (C := C) I
  have r1 : Vals (V.ref (s.heap.objs.size + 1) :: vs) (Value.ref (s.heap.objs.size + 1) :: us) := .cons rfl r
  have r2 := hb.rel r1 rz
  have n1 : (Value.ref (s.heap.objs.size + 1) :: us).length = n + 1 := by
    rw [List.length_cons, ← r.length, l1]
  refine wpAny_call (make_map (f := fa) I.kIn M.makes M.init (beq_iff_eq.mp M.fn) (codeAny_mono (F.run _ X.stack _ _ ⟨Value.ref (s.heap.objs.size + 1) :: us, ks.zip ws⟩ (g (Value.ref (s.heap.objs.size + 1) :: us) ws) _ _ E (hr.make C us (ks.zip ws))
    (I2.env0.make C us (ks.zip ws)) (hb.to _ (Value.ref (s.heap.objs.size + 1) :: us) ws I2.kIn n1 (rz.length.symm.trans l2)) r2 hq) fun r s' hq' => ?_))
  cases r with
  | error e => exact hx pins _ _ e s' I2 hq'
  | ok fl =>
    cases fl with
    | ret u =>
      obtain ⟨v, H', I3, rv, ev, q3⟩ := I2.after hq'
      subst ev
      exact ⟨rv, ⟨V.ref (s.heap.objs.size + 1), H', I3, rfl, q3⟩⟩
    | next => exact False.elim hq'
    | brk => exact False.elim hq'
    | cont => exact False.elim hq'
theorem de_makeK0 (MK : Mk X.K C fa) (F : FnOk X.prog X.w X.K X.mg X.base (L2.CX X.prog X.w) k fa fd ps (spD X.K f)) (hr : Room (k + 1) X.A) (hg : Gl X x) (hm : X.mg x = some (.ref C)) (hb : KBn X.K fd ps 1 ks g gV) (hi : ∀ H M (v : V) (d : D) zs es, Im X.K H M v d → ImL X.K H M zs es → es.length = ks.length → ImL X.K H M (gV [v] zs) (gD [d] es)) (tk' : Takes X W)
    (ha : DK X W kws tk)
    (hall : (backToKw pos (keywordEach kws X.env)).all (·.1.isSome) = true := by rfl) (hks : (backToKw pos (keywordEach kws X.env)).filterMap (·.1) = ks := by rfl) (hdb : (x == ("__debug__" : Str)) = false := by decide)
    (hpl : ((backTo pos (starEach [] X.env)).any (·.1) || (backToKw pos (keywordEach kws X.env)).any (·.1.isNone)) = false := by rfl) :
    DE X W (.Call (.Name x p) [] kws pos) (dMakeK C f 0 ks.length gD dNil tk) := by
  refine ⟨fun pins s σ H R I h => ?_⟩
  obtain ⟨M, δ, G, Q, QE, rs, d, ex, k⟩ := h
  refine wpAny_Call_Name_kw (ld_glob I hg hm ?_ hdb)
  refine PySem.W.callWith_KW0 (h₀ := X.base) I.ok.mod.kin MK.kp hall ?_ hpl
  refine thn (ha.run pos pins s σ H (fun vs H1 => ∃ es G1 M1, Frame H M H1 M1 ∧ RS X.K H1 M1 σ δ G1 ∧ ImL X.K H1 M1 vs es ∧ ([] : List D).length = 0 ∧ es.length = ks.length ∧ ∀ x, G1 x = none → f (gD [.ref x] es) (gset G1 x (some (.ins C []))) (fun v G3 => v = .non ∧ Q (.ref x) G3) (fun ex G3 => QE ex (gset G3 x none))) I ⟨M, δ, G, _, QE, rs, d, ex, fun vs ds G1 H1 M1 f1 rs1 iml q => ⟨ds, G1, M1, f1, rs1, iml, q⟩⟩) fun ws s1 ⟨zs, H1, I1, r, es, G1, M1, f1, rs1, iml, _, l2, q⟩ => ⟨I1.kIn, ?_⟩
  rw [hks]
  refine dd_run_makeK (n := 0) (us := []) (vs := []) MK F hr hb (passAt tk' σ) I1 .nil r rfl (by rw [iml.length]; exact l2) fun z dz nz ndz ne => ?_
  obtain ⟨kp, rs2, gz⟩ := rs1.newIns (C := C) nz ndz ne
  refine spD_of rs2 (hi _ _ _ _ _ _ .ref (ImL.mono kp.stay iml) l2) (q z gz) (fun ex' G' H' M' cls dd f3 rs3 rx qe => ex _ _ _ _ cls dd ((f1.trans kp.frame).trans f3) rs3.drop rx qe) fun v dv G' H' M' f3 rs3 im qd => ?_
  obtain ⟨ev, qd⟩ := qd
  subst ev
  cases im
  exact ⟨rfl, k _ _ G' H' M' ((f1.trans kp.frame).trans f3) rs3 .ref qd⟩
end
/-! ### list methods -/
section
variable {X : Cx} {W : WX} {e o e2 : Expr} {p : DTP} {d d2 : DTE} {i : Nat} {x : Str} {pos pos' apos : Pos}
theorem ds_append (ho : DPl X W o p) (he : DE X W e d) (hbase : attributeBase o "append" X.env (eval o X.env) = eval o X.env := by rfl) (hline : (apos.endLine == pos.line) = true := by rfl) (hs1 : starEach [e] X.env = (false, eval e X.env) :: starEach [] X.env := by rfl)
    (hfew : ((backTo pos (starEach [e] X.env)).all (fun x => !x.1) && (backToKw pos (keywordEach [] X.env)).all (fun x => x.1.isSome) && decide (([e] : List Expr).length + ([] : List Keyword).length + (if ([] : List Keyword).isEmpty then 0 else 1) < 30)) = true := by rfl)
    (hs : swapsWith (.Call (.Attribute o "append" apos) [e] [] pos) none pos'.line X.env = pure false := by rfl) : DS X W (.Expr (.Call (.Attribute o "append" apos) [e] [] pos) pos') (sMut gApp p (dCons d dNil)) :=
  ds_mut mut_app (pe_bm PySem.F.plainAttrs_list PySem.F.slot_list_append PySem.F.type_list_append mt_append ho (da_cons he da_nil hs1) hbase hfew hline hs1 rfl) hs
theorem ds_clear (ho : DPl X W o p) (hbase : attributeBase o "clear" X.env (eval o X.env) = eval o X.env := by rfl) (hline : (apos.endLine == pos.line) = true := by rfl)
    (hs : swapsWith (.Call (.Attribute o "clear" apos) [] [] pos) none pos'.line X.env = pure false := by rfl) : DS X W (.Expr (.Call (.Attribute o "clear" apos) [] [] pos) pos') (sMut gClear p dNil) :=
  ds_mut0 mut_clear (pe_bm0 PySem.F.plainAttrs_list PySem.F.slot_list_clear PySem.F.type_list_clear mt_clear ho hbase hline) hs
theorem ds_popAt (ho : DPl X W o p) (he : DE X W e d) (hbase : attributeBase o "pop" X.env (eval o X.env) = eval o X.env := by rfl) (hline : (apos.endLine == pos.line) = true := by rfl) (hs1 : starEach [e] X.env = (false, eval e X.env) :: starEach [] X.env := by rfl)
    (hfew : ((backTo pos (starEach [e] X.env)).all (fun x => !x.1) && (backToKw pos (keywordEach [] X.env)).all (fun x => x.1.isSome) && decide (([e] : List Expr).length + ([] : List Keyword).length + (if ([] : List Keyword).isEmpty then 0 else 1) < 30)) = true := by rfl)
    (hs : swapsWith (.Call (.Attribute o "pop" apos) [e] [] pos) none pos'.line X.env = pure false := by rfl) : DS X W (.Expr (.Call (.Attribute o "pop" apos) [e] [] pos) pos') (sMut gPopAt p (dCons d dNil)) :=
  ds_mut mut_popAt (pe_bm PySem.F.plainAttrs_list PySem.F.slot_list_pop PySem.F.type_list_pop mt_popAt ho (da_cons he da_nil hs1) hbase hfew hline hs1 rfl) hs
theorem ds_pop (ho : DPl X W o p) (hbase : attributeBase o "pop" X.env (eval o X.env) = eval o X.env := by rfl) (hline : (apos.endLine == pos.line) = true := by rfl)
    (hs : swapsWith (.Call (.Attribute o "pop" apos) [] [] pos) none pos'.line X.env = pure false := by rfl) : DS X W (.Expr (.Call (.Attribute o "pop" apos) [] [] pos) pos') (sMut gPop p dNil) :=
  ds_mut0 mut_pop (pe_bm0 PySem.F.plainAttrs_list PySem.F.slot_list_pop PySem.F.type_list_pop mt_pop ho hbase hline) hs
theorem ds_insert (ho : DPl X W o p) (he : DE X W e d) (he2 : DE X W e2 d2) (hbase : attributeBase o "insert" X.env (eval o X.env) = eval o X.env := by rfl) (hline : (apos.endLine == pos.line) = true := by rfl) (hs1 : starEach [e, e2] X.env = (false, eval e X.env) :: starEach [e2] X.env := by rfl) (hs2 : starEach [e2] X.env = (false, eval e2 X.env) :: starEach [] X.env := by rfl)
    (hfew : ((backTo pos (starEach [e, e2] X.env)).all (fun x => !x.1) && (backToKw pos (keywordEach [] X.env)).all (fun x => x.1.isSome) && decide (([e, e2] : List Expr).length + ([] : List Keyword).length + (if ([] : List Keyword).isEmpty then 0 else 1) < 30)) = true := by rfl) (hpl : (backTo pos (starEach [e2] X.env)).any (·.1) = false := by rfl)
    (hs : swapsWith (.Call (.Attribute o "insert" apos) [e, e2] [] pos) none pos'.line X.env = pure false := by rfl) : DS X W (.Expr (.Call (.Attribute o "insert" apos) [e, e2] [] pos) pos') (sMut gIns p (dCons d (dCons d2 dNil))) :=
  ds_mut mut_ins (pe_bm PySem.F.plainAttrs_list PySem.F.slot_list_insert PySem.F.type_list_insert mt_insert ho (da_cons he (da_cons he2 da_nil hs2) hs1) hbase hfew hline hs1 hpl) hs
end
/-- an empty tuple of the written part -/
def tup0B (K : PySem.W.Frag) (a : Addr) : Bool := match K.lookup a with
  | some ⟨.type c, _, .seq its _, _⟩ => c == "tuple" && its.size == 0
  | _ => false
theorem tup0B_ok {K : PySem.W.Frag} {a : Addr} (h : tup0B K a = true) (H : Hp) (M : Gh) : Im K H M (.ref a) (.tup []) := by
  unfold tup0B at h
  split at h
  · rename_i c dd its n sl ho
    simp only [Bool.and_eq_true, beq_iff_eq] at h
    obtain ⟨rfl, h2⟩ := h
    refine .tupK (xs := []) (fun H' => .inr ⟨_, its, n, ho, rfl, rfl, by omega, ?_⟩) .nil
    have e : its = #[] := Array.size_eq_zero_iff.mp h2
    rw [e]
    exact .nil
  · cases h
end DD

set_option Elab.async false
set_option linter.all false
set_option maxRecDepth 100000
set_option maxHeartbeats 4000000
namespace DD
open PySem PySem.Spec L2

section
variable {X : Cx} {W : WX} {x : Str} {pos p p2 apos : Pos} {j : Nat} {i : Int} {z : Str} {b : Bool}
theorem de_int : DE X W (.Constant (.int i) j pos) (dC (.int i)) := de_c pe_int fun _ _ => .int
theorem de_str (h : PyData.strOk z = true := by decide +kernel) : DE X W (.Constant (.str z) j pos) (dC (.str z)) := de_c pe_str fun _ _ => .str h
theorem de_bl : DE X W (.Constant (.bool b) j pos) (dC (.bl b)) := de_c pe_bl fun _ _ => .bl
theorem de_non : DE X W (.Constant .none j pos) (dC .non) := de_c pe_non fun _ _ => .non
theorem de_gstr (hg : Gl X x) (hm : ∃ t, X.mg x = some (.str z t)) (ok : PyData.strOk z = true := by decide +kernel) (hd : (x == ("__debug__" : Str)) = false := by decide) : DE X W (.Name x pos) (dC (.str z)) := by
  obtain ⟨t, hm⟩ := hm
  exact de_c (pe_glob (v := .str z) hg hm ⟨t, rfl⟩ hd) fun _ _ => .str ok
theorem de_gint (hg : Gl X x) (hm : ∃ t, X.mg x = some (.int i t)) (hd : (x == ("__debug__" : Str)) = false := by decide) : DE X W (.Name x pos) (dC (.int i)) := by
  obtain ⟨t, hm⟩ := hm
  exact de_c (pe_glob (v := .int i) hg hm ⟨t, rfl⟩ hd) fun _ _ => .int
theorem de_gref {a : Addr} (hg : Gl X x) (hm : X.mg x = some (.ref a)) (hd : (x == ("__debug__" : Str)) = false := by decide) : DE X W (.Name x pos) (dC (.ref a)) := de_c (pe_glob (v := .ref a) hg hm rfl hd) fun _ _ => .ref
/-! errors -/
theorem ds_raiseT {C : Addr} {m : Str} (hc : X.calm = true) (tk : Takes X W) (q : PySem.W.excIn X.K C He.veBase "ValueError.__new__" = true) (gC : X.mg x = some (.ref C)) (kC : PySem.W.keepIn X.K (.ref C) = true) (h1 : PySem.W.subIn X.K (.ref C) (.type "BaseException") = some true) (h2 : PySem.W.typeIn X.K (.ref C) = some (.type "type")) (hg : Gl X x)
    (hdb : (x == ("__debug__" : Str)) = false := by decide) : DS X W (.Raise (some (.Call (.Name x p) [.Constant (.str m) j p2] [] pos)) none apos) (sRaise C) :=
  ds_raise hc tk (pmk_own PySem.F.excBase_ValueError q gC kC (raises_own h1 h2) hg hdb)
theorem ds_raiseX {C fI : Addr} {f : Str} {e : Expr} {d : DTE} {k n : Nat} {fd : FuncData} {ps : List Str} (hc : X.calm = true) (tk : Takes X W) (T : OexC X.K C) (iC : PySem.W.findIn X.K (.ref C) "__init__" = some (some (.ref fI))) (tI : PySem.W.typeIn X.K (.ref fI) = some (.type "function"))
    (F1 : FnOk X.prog X.w X.K X.mg X.base (L2.CX X.prog X.w) k fI fd ps (spLow C f)) (hr : Room n X.A) (hk : k + 1 ≤ n) (hb : Binds X.K fd ps []) (hg : Gl X x) (hm : X.mg x = some (.ref C)) (he : DE X W e d)
    (hs : starEach [e] X.env = (false, eval e X.env) :: starEach [] X.env := by rfl) (hpl : (backTo pos (starEach [] X.env)).any (·.1) = false := by rfl) (hdb : (x == ("__debug__" : Str)) = false := by decide) :
    DS X W (.Raise (some (.Call (.Name x p) [e] [] pos)) none apos) (sRaiseF C f d) :=
  ds_raiseF hc tk (a := e) (pmk_oex T iC tI F1 (hr.mono hk) hb .nil passL hg hm (pa_cons he pa_nil hs) hdb hs hpl)
end
/-- C(e, ..), defaults behind -/
theorem de_makeD {X : Cx} {W : WX} {k : Nat} {fa C : Addr} {fd : FuncData} {ps : List Str} {f : Fn} {x : Str} {p pos : Pos} {e : Expr} {es : List Expr} {ta : DTA} {dvs : List V} {dds : List D} (MK : Mk X.K C fa) (F : FnOk X.prog X.w X.K X.mg X.base (L2.CX X.prog X.w) k fa fd ps (spD X.K f)) (hr : Room (k + 1) X.A) (hg : Gl X x) (hm : X.mg x = some (.ref C))
    (hb : ∃ ds, Vals dvs ds ∧ Binds X.K fd ps ds) (hi : ∀ H M, ImL X.K H M dvs dds) (tk : Takes X W)
    (ha : DA X W (e :: es) ta) (hdb : (x == ("__debug__" : Str)) = false := by decide) (he : starEach (e :: es) X.env = (false, eval e X.env) :: starEach es X.env := by rfl) (hpl : (backTo pos (starEach es X.env)).any (·.1) = false := by rfl) :
    DE X W (.Call (.Name x p) (e :: es) [] pos) (dMake C f dds ta) := by
  obtain ⟨ds, hd, hb⟩ := hb
  exact de_make MK F hr hg hm hb hd hi tk ha hdb he hpl
/-- C(k = v, ..), defaults there or not -/
theorem de_makeKE {X : Cx} {W : WX} {k : Nat} {fa C : Addr} {fd : FuncData} {ps ks : List Str} {f : Fn} {x : Str} {p pos : Pos} {kws : List Keyword} {tk : DTA} {g : List Value → List Value → List Value → List Value} {gV : List V → List V → List V} {gD : List D → List D → List D} (MK : Mk X.K C fa) (F : FnOk X.prog X.w X.K X.mg X.base (L2.CX X.prog X.w) k fa fd ps (spD X.K f)) (hr : Room (k + 1) X.A) (hg : Gl X x) (hm : X.mg x = some (.ref C))
    (hb : ∃ its : List Value, KBn X.K fd ps 1 ks (g its) gV) (hi : ∀ H M (v : V) (d : D) zs es, Im X.K H M v d → ImL X.K H M zs es → es.length = ks.length → ImL X.K H M (gV [v] zs) (gD [d] es)) (tk' : Takes X W)
    (ha : DK X W kws tk)
    (hall : (backToKw pos (keywordEach kws X.env)).all (·.1.isSome) = true := by rfl) (hks : (backToKw pos (keywordEach kws X.env)).filterMap (·.1) = ks := by rfl) (hdb : (x == ("__debug__" : Str)) = false := by decide)
    (hpl : ((backTo pos (starEach [] X.env)).any (·.1) || (backToKw pos (keywordEach kws X.env)).any (·.1.isNone)) = false := by rfl) :
    DE X W (.Call (.Name x p) [] kws pos) (dMakeK C f 0 ks.length gD dNil tk) := by
  obtain ⟨its, hb⟩ := hb
  exact de_makeK0 MK F hr hg hm hb hi tk' ha hall hks hdb hpl
/-- a comprehension's reading -/
def dLcW (it : DTA) (g : DTG) (tt : DTT) (te : DTE) (vs : List Nat) : DTA := fun δ G Q E => dwipe δ vs = δ ∧ dLc it g tt te vs δ G Q E
theorem df_lcW {X : Cx} {W : WX} {elt tg iter : Expr} {ifs : List Expr} {scope : Scope} {own : List (Str × Nat)} {vs : List Nat} {pos : Pos} {it : DTA} {g : DTG} {tt : DTT} {te : DTE} (hc : X.calm = true) (hN : X.N.Nodup) (hi : DI X W tg iter it) (ok : BlkOk X.N X.env.scope scope own)
    (hg : ∀ (s : Shared) (H : Hp) (C : Addr) (cl : List (Str × Addr)) (fp : List Addr), DGc (X.blk s H scope (PySem.compEnvC scope cl C X.env) fp) vs tg g) (ht : ∀ (s : Shared) (H : Hp) (C : Addr) (cl : List (Str × Addr)) (fp : List Addr), DTs (X.blk s H scope (PySem.compEnvC scope cl C X.env) fp) ifs tt)
    (he : ∀ (s : Shared) (H : Hp) (C : Addr) (cl : List (Str × Addr)) (fp : List Addr), DE (X.blk s H scope (PySem.compEnvC scope cl C X.env) fp) W0 elt te) (hvs : own.map (fun p => p.2) = vs := by rfl) (hs : ∀ x, foldedSetIterable iter X.env x = pure x := by intro _; rfl) :
    DF X W (.ListComp elt [⟨tg, iter, ifs, 0⟩] scope pos) (dLcW it g tt te vs) := by
  subst hvs
  exact df_lc hc hN hi ok hg ht he hs
theorem ds_setLcW {X : Cx} {W : WX} {i : Nat} {y : Str} {py spos : Pos} {elt tg iter : Expr} {ifs : List Expr} {scope : Scope} {own : List (Str × Nat)} {vs : List Nat} {pos : Pos} {it : DTA} {g : DTG} {tt : DTT} {te : DTE} (hc : X.calm = true) (hN : X.N.Nodup) (hy : X.N[i]? = some y) (hyl : X.env.scope.names.lookup y = some .local)
    (hsw : swapsWith (.ListComp elt [⟨tg, iter, ifs, 0⟩] scope pos) (some (.Name y py)) spos.line X.env = pure true) (hi : DI X W tg iter it) (ok : BlkOk X.N X.env.scope scope own)
    (hg : ∀ (s : Shared) (H : Hp) (C : Addr) (cl : List (Str × Addr)) (fp : List Addr), DGc (X.blk s H scope (PySem.compEnvC scope cl C X.env) fp) vs tg g) (ht : ∀ (s : Shared) (H : Hp) (C : Addr) (cl : List (Str × Addr)) (fp : List Addr), DTs (X.blk s H scope (PySem.compEnvC scope cl C X.env) fp) ifs tt)
    (he : ∀ (s : Shared) (H : Hp) (C : Addr) (cl : List (Str × Addr)) (fp : List Addr), DE (X.blk s H scope (PySem.compEnvC scope cl C X.env) fp) W0 elt te) (hvs : own.map (fun p => p.2) = vs := by rfl) (hs : ∀ x, foldedSetIterable iter X.env x = pure x := by intro _; rfl) :
    DS X W (.Assign [.Name y py] (.ListComp elt [⟨tg, iter, ifs, 0⟩] scope pos) spos) (sSetF i (dLcW it g tt te vs)) := by
  subst hvs
  exact ds_setLc hc hN hy hyl hsw hi ok hg ht he hs
theorem ds_setLcVW {X : Cx} {W : WX} {i : Nat} {y : Str} {py spos : Pos} {elt tg iter : Expr} {ifs : List Expr} {scope : Scope} {own : List (Str × Nat)} {vs : List Nat} {pos : Pos} {it : DTA} {g : DTG} {tt : DTT} {te : DTE} (hc : X.calm = true) (hN : X.N.Nodup) (hy : X.N[i]? = some y) (hyl : X.env.scope.names.lookup y = some .local)
    (hsw : swapsWith (.ListComp elt [⟨tg, iter, ifs, 0⟩] scope pos) (some (.Name y py)) spos.line X.env = pure true) (hi : DI X W tg iter it) (ok : BlkOk X.N X.env.scope scope own)
    (hg : ∀ (s : Shared) (H : Hp) (C : Addr) (cl : List (Str × Addr)) (fp : List Addr), DGc (X.blk s H scope (PySem.compEnvC scope cl C X.env) fp) vs tg g) (ht : ∀ (s : Shared) (H : Hp) (C : Addr) (cl : List (Str × Addr)) (fp : List Addr), DTs (X.blk s H scope (PySem.compEnvC scope cl C X.env) fp) ifs tt)
    (he : ∀ (s : Shared) (H : Hp) (C : Addr) (cl : List (Str × Addr)) (fp : List Addr), DE (X.blk s H scope (PySem.compEnvC scope cl C X.env) fp) W0 elt te) (hvs : own.map (fun p => p.2) = vs := by rfl) (hs : ∀ x, foldedSetIterable iter X.env x = pure x := by intro _; rfl) :
    DS X W (.Assign [.Name y py] (.ListComp elt [⟨tg, iter, ifs, 0⟩] scope pos) spos) (sSet i (dFrz (dLcW it g tt te vs))) := by
  subst hvs
  exact ds_setLcV hc hN hy hyl hsw hi ok hg ht he hs
/-! ### operations whose second operand may change objects: the first is a value -/
def dBinV (g : D → D → Option D) (a b : DTE) : DTE := fun δ G Q E => a δ G (fun x G1 => b δ G1 (fun y G2 => ∃ z, g x y = some z ∧ Q z G2) E) E
section
variable {X : Cx} {W : WX} {a b : Expr} {da db : DTE} {pos apos : Pos}
theorem de_binV {op : Operator} {g : D → D → Option D} (ho : OpR X (binaryOp op) (OpD X.K g)) (ha : DE X W a da) (hb : DB X W b db) : DE X W (.BinOp a op b pos) (dBinV g da db) := (pe_op ho ha hb).imp fun σ H R ⟨M, δ, G, Q, QE, rs, d, ex, k⟩ => by
  refine ⟨M, δ, G, _, QE, rs, d, ex, fun v dv G' H' M' f rs' im q => ?_⟩
  refine ⟨M', δ, G', _, QE, rs', q, ex.mono f, fun y dy G2 H2 M2 f2 rs2 bo2 q2 => ?_⟩
  obtain ⟨z, hz, qz⟩ := q2
  exact ⟨M2, dv, dy, z, rs2.g.dom, Tm.of (im.mono f2.stay), bo2.now rs2, hz, fun w H3 sm im => k w z _ H3 M2 ((f.trans f2).trans (Same.keep sm).frame) (rs2.same sm) im qz⟩
theorem de_ixV {g : D → D → Option D} (ho : IxR X (OpD X.K g)) (ha : DE X W a da) (hb : DB X W b db) (hs : PlainIx b) : DE X W (.Subscript a b pos) (dBinV g da db) := (pe_ix ho ha hb hs).imp fun σ H R ⟨M, δ, G, Q, QE, rs, d, ex, k⟩ => by
  refine ⟨M, δ, G, _, QE, rs, d, ex, fun v dv G' H' M' f rs' im q => ?_⟩
  refine ⟨M', δ, G', _, QE, rs', q, ex.mono f, fun y dy G2 H2 M2 f2 rs2 bo2 q2 => ?_⟩
  obtain ⟨z, hz, qz⟩ := q2
  exact ⟨M2, dv, dy, z, rs2.g.dom, Tm.of (im.mono f2.stay), bo2.now rs2, hz, fun w H3 sm im => k w z _ H3 M2 ((f.trans f2).trans (Same.keep sm).frame) (rs2.same sm) im qz⟩
theorem de_cmpV {op : CmpOp} {g : D → D → Option D} (ho : OpR X (compareOp op) (OpD X.K g)) (ha : DE X W a da) (hb : DB X W b db) (hm : behindInMarks op b = false) : DE X W (.Compare a [op] [b] pos) (dBinV g da db) := (pe_cmpR ho ha hb hm).imp fun σ H R ⟨M, δ, G, Q, QE, rs, d, ex, k⟩ => by
  refine ⟨M, δ, G, _, QE, rs, d, ex, fun v dv G' H' M' f rs' im q => ?_⟩
  refine ⟨M', δ, G', _, QE, rs', q, ex.mono f, fun y dy G2 H2 M2 f2 rs2 bo2 q2 => ?_⟩
  obtain ⟨z, hz, qz⟩ := q2
  exact ⟨M2, dv, dy, z, rs2.g.dom, Tm.of (im.mono f2.stay), bo2.now rs2, hz, fun w H3 sm im => k w z _ H3 M2 ((f.trans f2).trans (Same.keep sm).frame) (rs2.same sm) im qz⟩
theorem dt_cmpV {op : CmpOp} {g : D → D → Option D} (ho : OpR X (compareOp op) (OpD X.K g)) (ha : DE X W a da) (hb : DB X W b db) (hm : behindInMarks op b = false) : DT X W (.Compare a [op] [b] pos) (dTst (dBinV g da db)) := (pt_cmpR ho ha hb hm).imp fun σ H R ⟨M, δ, G, Q, QE, rs, d, ex, k⟩ => by
  refine ⟨M, δ, G, _, QE, rs, d, ex, fun v dv G' H' M' f rs' im q => ?_⟩
  refine ⟨M', δ, G', _, QE, rs', q, ex.mono f, fun y dy G2 H2 M2 f2 rs2 bo2 q2 => ?_⟩
  obtain ⟨z, hz, b, eb, qz⟩ := q2
  subst eb
  refine ⟨M2, dv, dy, .bl b, rs2.g.dom, Tm.of (im.mono f2.stay), bo2.now rs2, hz, fun w H3 sm im => ?_⟩
  cases im
  exact ⟨b, rfl, k b _ H3 M2 ((f.trans f2).trans (Same.keep sm).frame) (rs2.same sm) qz⟩
def dStMV (g : D → List D → Option D) (o a : DTE) : DTE := fun δ G Q E => o δ G (fun x G1 => isStrD x ∧ a δ G1 (fun y G2 => ∃ z, g x [y] = some z ∧ Q z G2) E) E
theorem de_joinV {o e : Expr} {dO de : DTE} (ho : DE X W o dO) (he : DB X W e de)
    (hs : starEach [e] X.env = [(false, eval e X.env)] := by rfl) (hbase : attributeBase o "join" X.env (eval o X.env) = eval o X.env := by rfl) (hline : (apos.endLine == pos.line) = true := by rfl) :
    DE X W (.Call (.Attribute o "join" apos) [e] [] pos) (dStMV joinD dO de) := (pe_m1 F.slot_str_join F.type_str_join mt_joinD ho he hs hbase hline).imp fun σ H R ⟨M, δ, G, Q, QE, rs, d, ex, k⟩ => by
  refine ⟨M, δ, G, _, QE, rs, d, ex, fun v dv G1 H1 M1 f1 rs1 im ⟨is, q⟩ => ⟨?_, ?_⟩⟩
  · cases dv <;> first | exact is.elim | skip
    exact ⟨_, (Tm.of im).sc (w := .str _) rfl⟩
  · refine ⟨M1, δ, G1, _, QE, rs1, q, ex.mono f1, fun y dy G2 H2 M2 f2 rs2 bo2 ⟨z, hz, qz⟩ => ?_⟩
    exact ⟨M2, dv, [dy], z, rs2.g.dom, Tm.of (im.mono f2.stay), .cons (bo2.now rs2) .nil, hz, fun w H3 sm im => k w z _ H3 M2 ((f1.trans f2).trans (Same.keep sm).frame) (rs2.same sm) im qz⟩
end
/-! ### a law's jar: its three numbers, then what a draw of them tells -/
theorem gset_gset {G : DG} {a : Addr} {u v : Option DO} : gset (gset G a u) a v = gset G a v := by
  funext b
  unfold gset
  split <;> rfl
theorem gset_self {G : DG} {a : Addr} {u : Option DO} (h : G a = u) : gset G a u = G := by
  funext b
  unfold gset
  split
  · rename_i e; rw [e, h]
  · rfl
section
variable {K : PySem.W.Frag} {H : Hp} {M : Gh} {G : DG} {a : Addr} {n : Nat}
theorem RG.open (r : RG K H M G) (ga : G a = some (.jar n)) : ∃ i j k, JarOk i j k ∧ k ≤ (n : Int) ∧ RG K H M (gset G a (some (.mls [.int i, .int j, .int k]))) := by
  obtain ⟨ma, i, j, k, ha, ok, hk⟩ := r.obj a _ ga
  refine ⟨i, j, k, ok, hk, ⟨fun b u hb => ?_, r.dom⟩⟩
  by_cases e : b = a
  · subst e
    rw [gset_same] at hb
    cases hb
    exact ⟨ma, _, ha, .cons .int (.cons .int (.cons .int .nil))⟩
  · rw [gset_ne e] at hb
    exact r.obj b u hb
theorem RG.shut {i j k : Int} (r : RG K H M (gset G a (some (.mls [.int i, .int j, .int k])))) (ok : JarOk i j k) (hk : k ≤ (n : Int)) : RG K H M (gset G a (some (.jar n))) := by
  refine ⟨fun b u hb => ?_, r.dom⟩
  by_cases e : b = a
  · subst e
    rw [gset_same] at hb
    cases hb
    obtain ⟨ma, xs, ha, iml⟩ := r.obj b _ gset_same
    cases iml with
    | cons i1 t => cases t with
      | cons i2 t => cases t with
        | cons i3 t =>
          cases t
          cases i1
          cases i2
          cases i3
          exact ⟨ma, i, j, k, ha, ok, hk⟩
  · rw [gset_ne e] at hb
    exact r.obj b u (by rw [gset_ne e]; exact hb)
end
/-- a draw, by the jar's numbers -/
def fDrawM : Fn := fun ds G Q _ => ∃ a m i j k, ds = [.ref a, .int m] ∧ G a = some (.mls [.int i, .int j, .int k]) ∧ JarOk i j k ∧ k < 2 ^ 64 ∧ 0 < m ∧ m < 2 ^ 64 ∧
  ∀ n i' j' k' : Int, 0 ≤ n → n < m → JarOk i' j' k' → k' ≤ k + 1 → Q (.int n) (gset G a (some (.mls [.int i', .int j', .int k'])))
/-- a draw: any number below m -/
def fDraw : Fn := fun ds G Q _ => ∃ a m c, ds = [.ref a, .int m] ∧ G a = some (.jar c) ∧ c < 2 ^ 63 ∧ 0 < m ∧ m < 2 ^ 64 ∧ ∀ n : Int, 0 ≤ n → n < m → Q (.int n) (gset G a (some (.jar (c + 1))))
theorem draw_ok {P : Program} {w : World} {K : PySem.W.Frag} {mg : Str → Option Value} {base : Heap} {fa : Addr} {fd : FuncData} {ps : List Str} {k : Nat} (F : FnOk P w K mg base (L2.CX P w) k fa fd ps (spD K fDrawM)) : FnOk P w K mg base (L2.CX P w) k fa fd ps (spD K fDraw) :=
  F.imp fun vs H Q E ⟨M, ds, G, QD, QE, ns, g, r, ⟨a, m, c, eds, ga, hc, h0, h1, q⟩, kq, ke⟩ => by
    obtain ⟨i, j, k, ok, hk, g2⟩ := g.open ga
    refine ⟨M, ds, _, fun v G' => ∃ n i' j' k' : Int, v = .int n ∧ 0 ≤ n ∧ n < m ∧ JarOk i' j' k' ∧ k' ≤ k + 1 ∧ G' = gset G a (some (.mls [.int i', .int j', .int k'])), fun _ _ => False, ns, g2, r, ⟨a, m, i, j, k, eds, gset_same, ok, by omega, h0, h1, fun n i' j' k' hn0 hn1 ok' hk' => ⟨n, i', j', k', rfl, hn0, hn1, ok', hk', gset_gset⟩⟩, ?_, fun x G' H' M' cls dd _ _ _ _ q => False.elim q⟩
    intro v dv G' H' M' f ns' g' im ⟨n, i', j', k', e, hn0, hn1, ok', hk', eG⟩
    subst e eG
    exact kq v _ _ H' M' f ns' (g'.shut (n := c + 1) ok' (by omega)) im (q n hn0 hn1)
theorem ints_im {K : PySem.W.Frag} {H : Hp} {M : Gh} : ∀ ns : List Int, ImL K H M (ns.map V.int) (ns.map D.int)
  | [] => .nil
  | _ :: r => .cons .int (ints_im r)
/-- a law: its list of ints -/
theorem law_im {K : PySem.W.Frag} {H : Hp} {a : Addr} {ns : List Int} (h : SqL K H a (ns.map V.int)) : Im K H (fun _ => none) (.ref a) (.lst (ns.map D.int)) := by
  rcases h with h | h
  · exact .lst rfl h (ints_im _)
  · exact .lstK (fun H' => .inr h) (ints_im _)
/-- a law's def: what it promises tells the walk -/
theorem law_sp {K : PySem.W.Frag} {f : Fn} {H : Hp} {a : Addr} {ns : List Int} (hS : SqL K H a (ns.map V.int)) (h : f [.lst (ns.map D.int)] (fun _ => none) (fun v _ => v = .bl true) (fun _ _ => False)) : spD K f [.ref a] H (fun v _ => v = .bl true) fun _ _ _ => False := by
  refine ⟨fun _ => none, _, fun _ => none, _, _, (fun _ _ e => (nomatch e)), ⟨fun a o e => (nomatch e), fun a e => absurd rfl e⟩, .cons (law_im hS) .nil, h, fun v dv G' H' M' _ _ _ im q => ?_, fun x G' H' M' cls dd _ _ _ _ q => False.elim q⟩
  subst q
  cases im
  rfl
end DD

set_option Elab.async false
set_option linter.all false
set_option maxRecDepth 100000
set_option maxHeartbeats 4000000
namespace DD
open PySem PySem.Spec L2

/-! ### plain laws of the readings -/
/-- a value that is no object of its own -/
def nrm : D → Bool
  | .ref _ => false
  | .ty _ => false
  | .obj _ _ => false
  | .str s => decide (s.length ≤ 16777216)
  | _ => true
theorem bov_nrm {δ : DSt} {G : DG} {Q : D → DG → Prop} {E : DX → DG → Prop} {i : Nat} {x : D} (h : δ[i]? = some (some (.v x))) (n : nrm x = true) (q : Q x G) : dBov i δ G Q E := by
  refine .inr (.inr ⟨x, h, .inr ⟨fun a ds e => ?_, q⟩⟩)
  subst e; cases n
theorem der_nrm {x : D} {G : DG} {Q : D → DG → Prop} (n : nrm x = true) (q : Q x G) : (∃ a ds, x = .ref a ∧ G a = some (.mls ds) ∧ Q (.lst ds) G) ∨ ((∀ a ds, x = .ref a → G a ≠ some (.mls ds)) ∧ Q x G) := by
  refine .inr ⟨fun a ds e => ?_, q⟩
  subst e; cases n
theorem bov_v {δ : DSt} {G : DG} {Q : D → DG → Prop} {E : DX → DG → Prop} {i : Nat} {x : D} (h : δ[i]? = some (some (.v x))) (n : ∀ a ds, x = .ref a → G a ≠ some (.mls ds)) (q : Q x G) : dBov i δ G Q E := .inr (.inr ⟨x, h, .inr ⟨n, q⟩⟩)
theorem bov_own {δ : DSt} {G : DG} {Q : D → DG → Prop} {E : DX → DG → Prop} {i : Nat} {ds : List D} (h : δ[i]? = some (some (.own ds))) (q : Q (.lst ds) G) : dBov i δ G Q E := .inl ⟨ds, h, q⟩
theorem bov_mls {δ : DSt} {G : DG} {Q : D → DG → Prop} {E : DX → DG → Prop} {i : Nat} {a : Addr} {ds : List D} (h : δ[i]? = some (some (.v (.ref a)))) (ga : G a = some (.mls ds)) (q : Q (.lst ds) G) : dBov i δ G Q E := .inr (.inr ⟨.ref a, h, .inl ⟨a, ds, rfl, ga, q⟩⟩)
/-- a comprehension whose elements leave all objects -/
theorem lc_pure {i : Nat} {te : DTE} {δ : DSt} {G : DG} {Q : List D → DG → Prop} (h : D → D) : ∀ (xs acc : List D), (∀ x ∈ xs, ∀ Q' : D → DG → Prop, Q' (h x) G → te (δ.set i (some (.v x))) G Q' (fun _ _ => False)) → acc.length + xs.length ≤ 1000000 → Q (acc ++ xs.map h) G → lcL (gN i) ttYes te δ Q xs acc G
  | [], acc, _, _, q => by
    rw [List.map_nil, List.append_nil] at q
    exact q
  | x :: r, acc, ht, hl, q => by
    unfold lcL
    unfold gN ttYes
    simp only [if_true]
    refine ht x (by simp) _ ⟨by simp at hl; omega, lc_pure h r (acc ++ [h x]) (fun y hy => ht y (by simp [hy])) (by simp at hl ⊢; omega) ?_⟩
    rw [List.map_cons] at q
    simpa using q
/-- pairwise -/
inductive F2 {α β : Type} (Y : α → β → Prop) : List α → List β → Prop
  | nil : F2 Y [] []
  | cons {x : α} {y : β} {xs : List α} {ys : List β} : Y x y → F2 Y xs ys → F2 Y (x :: xs) (y :: ys)
theorem F2.length {α β : Type} {Y : α → β → Prop} : ∀ {xs : List α} {ys : List β}, F2 Y xs ys → xs.length = ys.length
  | _, _, .nil => rfl
  | _, _, .cons _ t => congrArg (· + 1) (F2.length t)
theorem F2.mem {α β : Type} {Y : α → β → Prop} {Z : β → Prop} : ∀ {xs : List α} {ys : List β}, F2 Y xs ys → (∀ x ∈ xs, ∀ y, Y x y → Z y) → ∀ y ∈ ys, Z y
  | _, _, .nil, _, _, h => by simp at h
  | _, _, .cons (x := x) (y := y) a t, k, z, h => by
    rcases List.mem_cons.mp h with rfl | h
    · exact k x (by simp) _ a
    · exact F2.mem t (fun w hw => k w (by simp [hw])) z h
/-- a comprehension that draws: at most N for each element -/
theorem lc_draw {i : Nat} {te : DTE} {δ : DSt} {Gj : Nat → DG} {Q : List D → DG → Prop} (N B : Nat) (Y : D → D → Prop) : ∀ (xs acc : List D) (c : Nat), (∀ x ∈ xs, ∀ c, c + N ≤ B → ∀ Q' : D → DG → Prop, (∀ y, Y x y → Q' y (Gj (c + N))) → te (δ.set i (some (.v x))) (Gj c) Q' (fun _ _ => False)) → acc.length + xs.length ≤ 1000000 → c + N * xs.length ≤ B →
    (∀ ys, F2 Y xs ys → Q (acc ++ ys) (Gj (c + N * xs.length))) → lcL (gN i) ttYes te δ Q xs acc (Gj c)
  | [], acc, c, _, _, _, q => by
    have := q [] .nil
    unfold lcL
    simpa using this
  | x :: r, acc, c, ht, hl, hc, q => by
    unfold lcL
    unfold gN ttYes
    simp only [if_true]
    have e : N * (x :: r).length = N + N * r.length := by rw [List.length_cons, Nat.mul_succ, Nat.add_comm]
    refine ht x (by simp) c (by rw [e] at hc; omega) _ fun y hy => ⟨by simp at hl; omega, lc_draw N B Y r (acc ++ [y]) (c + N) (fun z hz => ht z (by simp [hz])) (by simp at hl ⊢; omega) (by rw [e] at hc; omega) fun ys hys => ?_⟩
    have := q (y :: ys) (.cons hy hys)
    rw [e, ← Nat.add_assoc] at this
    simpa using this
/-! ### draws spent: behind a def the jar is told to have drawn n times -/
def spend (a : Addr) (n : Nat) (Q : D → DG → Prop) : D → DG → Prop := fun v G' => ∃ c, c ≤ n ∧ G' a = some (.jar c) ∧ Q v (gset G' a (some (.jar n)))
theorem RG.more {K : PySem.W.Frag} {H : Hp} {M : Gh} {G : DG} {a : Addr} {c n : Nat} (r : RG K H M G) (ga : G a = some (.jar c)) (h : c ≤ n) : RG K H M (gset G a (some (.jar n))) := by
  refine ⟨fun b u hb => ?_, r.dom⟩
  by_cases e : b = a
  · subst e
    rw [gset_same] at hb
    cases hb
    obtain ⟨ma, i, j, k, ha, ok, hk⟩ := r.obj b _ ga
    exact ⟨ma, i, j, k, ha, ok, by omega⟩
  · rw [gset_ne e] at hb
    exact r.obj b u hb
theorem dfnJ {P : Program} {w : World} {K : PySem.W.Frag} {mg : Str → Option Value} {base : Heap} {x qual : Str} {st : Stmt} {dvs : List V} {fa : Addr} {fd : FuncData} {N ps : List Str} {k : Nat} {f : Fn} {db : DTS} (F : FunD K x qual (defArgs st) (defBody st) (defScope st) dvs [] fa fd) (S : FnScope N ps (defScope st))
    (len : ∀ ds G Q E, f ds G Q E → ds.length = ps.length)
    (hb : ∀ (cdv : Value) (A : Around) (outer : List Env) (s : Shared) (H : Hp) (E : XK), Room k (A.deeper (PyProof.Rows.envOfC qual (defScope st) s.heap.objs.size fa cdv)) →
      DSs (cxOf (L2.CX P w) P w K mg base N qual (defScope st) fa cdv A outer s H E) (fun cls d _ H' => E cls d H') (defBody st) db)
    (h : ∀ ds G Q QE, f ds G Q QE → ∃ a n, db (fnEnds (spend a n Q) QE) (dstart N ds) G) : FnOk P w K mg base (L2.CX P w) (k + 1) fa fd ps (spD K f) := by
  have F0 := dfn (f := fun ds G Q QE => ds.length = ps.length ∧ db (fnEnds Q QE) (dstart N ds) G) F S (fun _ _ _ _ h => h.1) hb (fun _ _ _ _ h => h.2)
  refine F0.imp fun vs H Q E ⟨M, ds, G, QD, QE, ns, g, r, q, kq, ke⟩ => ?_
  obtain ⟨a, n, q2⟩ := h _ _ _ _ q
  refine ⟨M, ds, G, _, QE, ns, g, r, ⟨len _ _ _ _ q, q2⟩, ?_, ke⟩
  intro v dv G' H' M' f ns' g' im ⟨c, hc, ga, q3⟩
  exact kq v dv _ H' M' f ns' (g'.more ga hc) im q3
end DD

set_option Elab.async false
set_option linter.all false
set_option maxRecDepth 100000
namespace DD
open PySem PySem.Spec L2
section
variable {K : PySem.W.Frag}
theorem kt_NoneType_bool : PySem.W.kitOne K (.type "NoneType") (.type "bool") = some false := kit_ty (by decide +kernel)
theorem kt_NoneType_int : PySem.W.kitOne K (.type "NoneType") (.type "int") = some false := kit_ty (by decide +kernel)
theorem kt_NoneType_str : PySem.W.kitOne K (.type "NoneType") (.type "str") = some false := kit_ty (by decide +kernel)
theorem kt_NoneType_tuple : PySem.W.kitOne K (.type "NoneType") (.type "tuple") = some false := kit_ty (by decide +kernel)
theorem kt_NoneType_list : PySem.W.kitOne K (.type "NoneType") (.type "list") = some false := kit_ty (by decide +kernel)
theorem kt_NoneType_dict : PySem.W.kitOne K (.type "NoneType") (.type "dict") = some false := kit_ty (by decide +kernel)
theorem kt_bool_bool : PySem.W.kitOne K (.type "bool") (.type "bool") = some true := kit_ty (by decide +kernel)
theorem kt_bool_int : PySem.W.kitOne K (.type "bool") (.type "int") = some true := kit_ty (by decide +kernel)
theorem kt_bool_str : PySem.W.kitOne K (.type "bool") (.type "str") = some false := kit_ty (by decide +kernel)
theorem kt_bool_tuple : PySem.W.kitOne K (.type "bool") (.type "tuple") = some false := kit_ty (by decide +kernel)
theorem kt_bool_list : PySem.W.kitOne K (.type "bool") (.type "list") = some false := kit_ty (by decide +kernel)
theorem kt_bool_dict : PySem.W.kitOne K (.type "bool") (.type "dict") = some false := kit_ty (by decide +kernel)
theorem kt_int_bool : PySem.W.kitOne K (.type "int") (.type "bool") = some false := kit_ty (by decide +kernel)
theorem kt_int_int : PySem.W.kitOne K (.type "int") (.type "int") = some true := kit_ty (by decide +kernel)
theorem kt_int_str : PySem.W.kitOne K (.type "int") (.type "str") = some false := kit_ty (by decide +kernel)
theorem kt_int_tuple : PySem.W.kitOne K (.type "int") (.type "tuple") = some false := kit_ty (by decide +kernel)
theorem kt_int_list : PySem.W.kitOne K (.type "int") (.type "list") = some false := kit_ty (by decide +kernel)
theorem kt_int_dict : PySem.W.kitOne K (.type "int") (.type "dict") = some false := kit_ty (by decide +kernel)
theorem kt_str_bool : PySem.W.kitOne K (.type "str") (.type "bool") = some false := kit_ty (by decide +kernel)
theorem kt_str_int : PySem.W.kitOne K (.type "str") (.type "int") = some false := kit_ty (by decide +kernel)
theorem kt_str_str : PySem.W.kitOne K (.type "str") (.type "str") = some true := kit_ty (by decide +kernel)
theorem kt_str_tuple : PySem.W.kitOne K (.type "str") (.type "tuple") = some false := kit_ty (by decide +kernel)
theorem kt_str_list : PySem.W.kitOne K (.type "str") (.type "list") = some false := kit_ty (by decide +kernel)
theorem kt_str_dict : PySem.W.kitOne K (.type "str") (.type "dict") = some false := kit_ty (by decide +kernel)
theorem kt_tuple_bool : PySem.W.kitOne K (.type "tuple") (.type "bool") = some false := kit_ty (by decide +kernel)
theorem kt_tuple_int : PySem.W.kitOne K (.type "tuple") (.type "int") = some false := kit_ty (by decide +kernel)
theorem kt_tuple_str : PySem.W.kitOne K (.type "tuple") (.type "str") = some false := kit_ty (by decide +kernel)
theorem kt_tuple_tuple : PySem.W.kitOne K (.type "tuple") (.type "tuple") = some true := kit_ty (by decide +kernel)
theorem kt_tuple_list : PySem.W.kitOne K (.type "tuple") (.type "list") = some false := kit_ty (by decide +kernel)
theorem kt_tuple_dict : PySem.W.kitOne K (.type "tuple") (.type "dict") = some false := kit_ty (by decide +kernel)
theorem kt_list_bool : PySem.W.kitOne K (.type "list") (.type "bool") = some false := kit_ty (by decide +kernel)
theorem kt_list_int : PySem.W.kitOne K (.type "list") (.type "int") = some false := kit_ty (by decide +kernel)
theorem kt_list_str : PySem.W.kitOne K (.type "list") (.type "str") = some false := kit_ty (by decide +kernel)
theorem kt_list_tuple : PySem.W.kitOne K (.type "list") (.type "tuple") = some false := kit_ty (by decide +kernel)
theorem kt_list_list : PySem.W.kitOne K (.type "list") (.type "list") = some true := kit_ty (by decide +kernel)
theorem kt_list_dict : PySem.W.kitOne K (.type "list") (.type "dict") = some false := kit_ty (by decide +kernel)
theorem kt_dict_bool : PySem.W.kitOne K (.type "dict") (.type "bool") = some false := kit_ty (by decide +kernel)
theorem kt_dict_int : PySem.W.kitOne K (.type "dict") (.type "int") = some false := kit_ty (by decide +kernel)
theorem kt_dict_str : PySem.W.kitOne K (.type "dict") (.type "str") = some false := kit_ty (by decide +kernel)
theorem kt_dict_tuple : PySem.W.kitOne K (.type "dict") (.type "tuple") = some false := kit_ty (by decide +kernel)
theorem kt_dict_list : PySem.W.kitOne K (.type "dict") (.type "list") = some false := kit_ty (by decide +kernel)
theorem kt_dict_dict : PySem.W.kitOne K (.type "dict") (.type "dict") = some true := kit_ty (by decide +kernel)
end
end DD

set_option Elab.async false
set_option linter.all false
set_option maxRecDepth 100000
set_option maxHeartbeats 4000000
namespace DD
open PySem PySem.Spec L2
theorem cx_none {P : Program} {w : World} {o : List Env} {H : Hp} {s : Shared} {e : Value} {s' : Shared} (h : L2.CX P w o H s (fun _ _ _ => False) e s') : False := by
  obtain ⟨_, _, _, _, _, _, _, _, _, _, _, _, z⟩ := h
  exact z.elim
theorem calm_ok {P : Program} {w : World} {K : PySem.W.Frag} {mg : Str → Option Value} {base : Heap} {k : Nat} {f : Addr} {fd : FuncData} {ps : List Str} {sp : Sp} (F : FnOk P w K mg base (L2.CX P w) k f fd ps sp) : FnOk P w K mg base L2.CX0 k f fd ps (fun vs H Q _ => sp vs H Q fun _ _ _ => False) := by
  refine ⟨fun vs H Q E h => F.len _ _ _ _ h, fun A outer s H args us vs Q E hr e0 b r h => ?_⟩
  refine codeAny_mono (F.run A outer s H args us vs Q (fun _ _ _ => False) hr e0 b r h) fun r s' hq => ?_
  cases r with
  | error e => exact (cx_none hq).elim
  | ok fl =>
    cases fl with
    | ret u => exact hq
    | next => exact False.elim hq
    | brk => exact False.elim hq
    | cont => exact False.elim hq
end DD

set_option Elab.async false
set_option linter.all false
set_option maxRecDepth 100000
set_option maxHeartbeats 0
namespace Lk01
open PySem PySem.Spec L2
def top (i : Nat) : Stmt := PySem.Challenge.pw_labelsdown_k01_listings_made.main.body.getD i (.Pass ⟨0, 0, 0, 0⟩)
abbrev s24 : Stmt := top 22
def q24 : He.DefD := ⟨("_law_draw", none), "_law_draw", "_law_draw", defArgs s24, defBody s24, defScope s24, [], []⟩
abbrev s25 : Stmt := top 23
def q25 : He.DefD := ⟨("_law_heads", none), "_law_heads", "_law_heads", defArgs s25, defBody s25, defScope s25, [], []⟩
abbrev s26 : Stmt := top 24
def q26 : He.DefD := ⟨("_law_cell", none), "_law_cell", "_law_cell", defArgs s26, defBody s26, defScope s26, [], []⟩
abbrev s27 : Stmt := top 25
def q27 : He.DefD := ⟨("_law_lines", none), "_law_lines", "_law_lines", defArgs s27, defBody s27, defScope s27, [], []⟩
abbrev s4 : Stmt := top 13
def q4 : He.DefD := ⟨("is_written", none), "is_written", "is_written", defArgs s4, defBody s4, defScope s4, [], []⟩
abbrev s5 : Stmt := top 14
def q5 : He.DefD := ⟨("is_name", none), "is_name", "is_name", defArgs s5, defBody s5, defScope s5, [], []⟩
abbrev s7 : Stmt := top 16
def q7 : He.DefD := ⟨("are_columns", none), "are_columns", "are_columns", defArgs s7, defBody s7, defScope s7, [], []⟩
abbrev s1 : Stmt := inClass (top 4) 0
def q1 : He.DefD := ⟨("NoRow", some "__init__"), "__init__", "NoRow.__init__", defArgs s1, defBody s1, defScope s1, [], []⟩
abbrev s6 : Stmt := top 15
def q6 : He.DefD := ⟨("is_cell", none), "is_cell", "is_cell", defArgs s6, defBody s6, defScope s6, [], []⟩
abbrev s8 : Stmt := top 17
def q8 : He.DefD := ⟨("is_row", none), "is_row", "is_row", defArgs s8, defBody s8, defScope s8, [], []⟩
abbrev s9 : Stmt := inClass (top 19) 0
def q9 : He.DefD := ⟨("Listing", some "__init__"), "__init__", "Listing.__init__", defArgs s9, defBody s9, defScope s9, [.adr (He.dflAt ("Listing", some "__init__") 0)], []⟩
abbrev s21 : Stmt := inClass (top 19) 12
def q21 : He.DefD := ⟨("Listing", some "rows"), "rows", "Listing.rows", defArgs s21, defBody s21, defScope s21, [], []⟩
abbrev s13 : Stmt := inClass (top 19) 4
def q13 : He.DefD := ⟨("Listing", some "__len__"), "__len__", "Listing.__len__", defArgs s13, defBody s13, defScope s13, [], []⟩
abbrev s20 : Stmt := inClass (top 19) 11
def q20 : He.DefD := ⟨("Listing", some "columns"), "columns", "Listing.columns", defArgs s20, defBody s20, defScope s20, [], []⟩
abbrev s3 : Stmt := top 12
def q3 : He.DefD := ⟨("is_whole", none), "is_whole", "is_whole", defArgs s3, defBody s3, defScope s3, [], []⟩
abbrev s17 : Stmt := inClass (top 19) 8
def q17 : He.DefD := ⟨("Listing", some "has"), "has", "Listing.has", defArgs s17, defBody s17, defScope s17, [], []⟩
abbrev s2 : Stmt := inClass (top 5) 0
def q2 : He.DefD := ⟨("NoIndex", some "__init__"), "__init__", "NoIndex.__init__", defArgs s2, defBody s2, defScope s2, [], []⟩
abbrev s10 : Stmt := inClass (top 19) 1
def q10 : He.DefD := ⟨("Listing", some "__getitem__"), "__getitem__", "Listing.__getitem__", defArgs s10, defBody s10, defScope s10, [], []⟩
abbrev s28 : Stmt := top 26
def q28 : He.DefD := ⟨("_law_tells", none), "_law_tells", "_law_tells", defArgs s28, defBody s28, defScope s28, [], []⟩
abbrev s29 : Stmt := top 27
def q29 : He.DefD := ⟨("_law_right", none), "_law_right", "_law_right", defArgs s29, defBody s29, defScope s29, [], []⟩
abbrev s23 : Stmt := top 21
def q23 : He.DefD := ⟨("_law_jar", none), "_law_jar", "_law_jar", defArgs s23, defBody s23, defScope s23, [], []⟩
abbrev s30 : Stmt := top 28
def q30 : He.DefD := ⟨("law", none), "law", "law", defArgs s30, defBody s30, defScope s30, [], []⟩
def fn : List He.DefD := [q24, q25, q26, q27, q4, q5, q7, q1, q6, q8, q9, q21, q13, q20, q3, q17, q2, q10, q28, q29, q23, q30]
def fa : List He.Fa := [.glo "_law_jar", .glo "_law_right", .free "len", .free "min", .free "max", .free "range", .free "int", .free "abs", .glo "_law_draw", .glo "_law_heads", .glo "_law_lines", .mkr "Listing", .free "tuple", .glo "Listing", .glo "_law_tells", .meth "Listing" "rows", .cls "Listing", .free "list", .free "isinstance", .meth "Listing" "__len__", .meth "Listing" "columns", .meth "Listing" "__getitem__", .meth "Listing" "has", .noat "NoIndex" "index", .glo "NoIndex", .noat "Listing" "lines", .glo "is_whole", .free "bool", .noat "Listing" "heads", .glo "are_columns", .exc "NoColumns", .glo "NoColumns", .noat "NoRow" "index", .glo "NoRow", .glo "is_row", .free "enumerate", .glo "is_cell", .free "all", .int "LONGEST_CELL" 20, .str "CELL_CHARACTERS" "abcdefghijklmnopqrstuvwxyz0123456789-", .glo "is_written", .free "str", .int "MOST_COLUMNS" 5, .glo "is_name", .free "set", .int "LONGEST_NAME" 8, .str "LETTERS" "abcdefghijklmnopqrstuvwxyz", .glo "_law_cell", .glo "law"]
def bx : List DH.Bx := [fun K => PySem.W.fnIn K (He.fAd K ("Listing", some "__getitem__")), fun K => DH.oexB K (He.ga K "NoIndex"), fun K => DH.iniB K (He.ga K "NoIndex"), fun K => DH.oexB K (He.ga K "NoRow"), fun K => DH.iniB K (He.ga K "NoRow"), fun K => DD.tup0B K (He.dflAt ("Listing", some "__init__") 0 K)]
abbrev R : PySem.W.OpenRow := PySem.W.OpenLaw.row PySem.Challenge.rw_labelsdown_k01_listings_made
abbrev hk : PySem.W.Hook := DH.hookX 5 fa fn bx
def ob (s : PySem.W.SharedT) : DH.AlX := DH.obsXG 5 fa fn bx (HandSHeadRun.getT s)
theorem ob_eq (s : PySem.W.SharedT) : ob s = hk.obs s.abs := DH.obsXG_eq (HandSHeadRun.getT_eq s)
def nm0 : List PySem.Str := ["_wall", "LabelError", "NoColumns", "NoRow", "NoIndex", "LETTERS", "CELL_CHARACTERS", "LONGEST_NAME", "LONGEST_CELL", "MOST_COLUMNS", "is_whole", "is_written", "is_name", "is_cell", "are_columns", "is_row", "Listing", "_law_jar", "_law_draw", "_law_heads", "_law_cell", "_law_lines", "_law_tells", "_law_right"]
def names : List PySem.Str := nm0
theorem run (w : World) : HandSHeadRun.RunEq R (PySem.W.view R.prog [28]) hk ob 4000 names w := by
  intro os
  kernel_rfl
end Lk01

set_option Elab.async false
set_option linter.all false
set_option maxRecDepth 100000
set_option maxHeartbeats 0
namespace Lk01
open PySem PySem.Spec L2 DD
structure Fx (K : PySem.W.Frag) (mg : Str → Option Value) where
  d__law_draw : FuncData
  D__law_draw : FunD K "_law_draw" "_law_draw" (defArgs s24) (defBody s24) (defScope s24) [] [] (He.fAd K ("_law_draw", none)) d__law_draw
  d__law_heads : FuncData
  D__law_heads : FunD K "_law_heads" "_law_heads" (defArgs s25) (defBody s25) (defScope s25) [] [] (He.fAd K ("_law_heads", none)) d__law_heads
  d__law_cell : FuncData
  D__law_cell : FunD K "_law_cell" "_law_cell" (defArgs s26) (defBody s26) (defScope s26) [] [] (He.fAd K ("_law_cell", none)) d__law_cell
  d__law_lines : FuncData
  D__law_lines : FunD K "_law_lines" "_law_lines" (defArgs s27) (defBody s27) (defScope s27) [] [] (He.fAd K ("_law_lines", none)) d__law_lines
  d_is_written : FuncData
  D_is_written : FunD K "is_written" "is_written" (defArgs s4) (defBody s4) (defScope s4) [] [] (He.fAd K ("is_written", none)) d_is_written
  d_is_name : FuncData
  D_is_name : FunD K "is_name" "is_name" (defArgs s5) (defBody s5) (defScope s5) [] [] (He.fAd K ("is_name", none)) d_is_name
  d_are_columns : FuncData
  D_are_columns : FunD K "are_columns" "are_columns" (defArgs s7) (defBody s7) (defScope s7) [] [] (He.fAd K ("are_columns", none)) d_are_columns
  d_NoRow___init__ : FuncData
  D_NoRow___init__ : FunD K "__init__" "NoRow.__init__" (defArgs s1) (defBody s1) (defScope s1) [] [] (He.fAd K ("NoRow", some "__init__")) d_NoRow___init__
  d_is_cell : FuncData
  D_is_cell : FunD K "is_cell" "is_cell" (defArgs s6) (defBody s6) (defScope s6) [] [] (He.fAd K ("is_cell", none)) d_is_cell
  d_is_row : FuncData
  D_is_row : FunD K "is_row" "is_row" (defArgs s8) (defBody s8) (defScope s8) [] [] (He.fAd K ("is_row", none)) d_is_row
  d_Listing___init__ : FuncData
  D_Listing___init__ : FunD K "__init__" "Listing.__init__" (defArgs s9) (defBody s9) (defScope s9) [V.ref (He.dflAt ("Listing", some "__init__") 0 K)] [] (He.fAd K ("Listing", some "__init__")) d_Listing___init__
  d_Listing_rows : FuncData
  D_Listing_rows : FunD K "rows" "Listing.rows" (defArgs s21) (defBody s21) (defScope s21) [] [] (He.fAd K ("Listing", some "rows")) d_Listing_rows
  d_Listing___len__ : FuncData
  D_Listing___len__ : FunD K "__len__" "Listing.__len__" (defArgs s13) (defBody s13) (defScope s13) [] [] (He.fAd K ("Listing", some "__len__")) d_Listing___len__
  d_Listing_columns : FuncData
  D_Listing_columns : FunD K "columns" "Listing.columns" (defArgs s20) (defBody s20) (defScope s20) [] [] (He.fAd K ("Listing", some "columns")) d_Listing_columns
  d_is_whole : FuncData
  D_is_whole : FunD K "is_whole" "is_whole" (defArgs s3) (defBody s3) (defScope s3) [] [] (He.fAd K ("is_whole", none)) d_is_whole
  d_Listing_has : FuncData
  D_Listing_has : FunD K "has" "Listing.has" (defArgs s17) (defBody s17) (defScope s17) [] [] (He.fAd K ("Listing", some "has")) d_Listing_has
  d_NoIndex___init__ : FuncData
  D_NoIndex___init__ : FunD K "__init__" "NoIndex.__init__" (defArgs s2) (defBody s2) (defScope s2) [] [] (He.fAd K ("NoIndex", some "__init__")) d_NoIndex___init__
  d_Listing___getitem__ : FuncData
  D_Listing___getitem__ : FunD K "__getitem__" "Listing.__getitem__" (defArgs s10) (defBody s10) (defScope s10) [] [] (He.fAd K ("Listing", some "__getitem__")) d_Listing___getitem__
  d__law_tells : FuncData
  D__law_tells : FunD K "_law_tells" "_law_tells" (defArgs s28) (defBody s28) (defScope s28) [] [] (He.fAd K ("_law_tells", none)) d__law_tells
  d__law_right : FuncData
  D__law_right : FunD K "_law_right" "_law_right" (defArgs s29) (defBody s29) (defScope s29) [] [] (He.fAd K ("_law_right", none)) d__law_right
  d__law_jar : FuncData
  D__law_jar : FunD K "_law_jar" "_law_jar" (defArgs s23) (defBody s23) (defScope s23) [] [] (He.fAd K ("_law_jar", none)) d__law_jar
  d_law : FuncData
  D_law : FunD K "law" "law" (defArgs s30) (defBody s30) (defScope s30) [] [] (He.fAd K ("law", none)) d_law
  g__law_jar : mg "_law_jar" = some (.ref (He.ga K "_law_jar"))
  g__law_right : mg "_law_right" = some (.ref (He.ga K "_law_right"))
  n_len : mg "len" = none
  n_min : mg "min" = none
  n_max : mg "max" = none
  n_range : mg "range" = none
  n_int : mg "int" = none
  n_abs : mg "abs" = none
  g__law_draw : mg "_law_draw" = some (.ref (He.ga K "_law_draw"))
  g__law_heads : mg "_law_heads" = some (.ref (He.ga K "_law_heads"))
  g__law_lines : mg "_law_lines" = some (.ref (He.ga K "_law_lines"))
  mk_Listing : Mk K (He.ga K "Listing") (He.fAd K ("Listing", some "__init__"))
  n_tuple : mg "tuple" = none
  g_Listing : mg "Listing" = some (.ref (He.ga K "Listing"))
  g__law_tells : mg "_law_tells" = some (.ref (He.ga K "_law_tells"))
  m_Listing_rows : Meth K (He.ga K "Listing") "rows" (He.fAd K ("Listing", some "rows"))
  c_Listing : Cls K (He.ga K "Listing")
  n_list : mg "list" = none
  n_isinstance : mg "isinstance" = none
  s_Listing___len__ : PySem.W.findIn K (.ref (He.ga K "Listing")) "__len__" = some (some (.ref (He.fAd K ("Listing", some "__len__")))) ∧ PySem.W.isFn K (.ref (He.fAd K ("Listing", some "__len__"))) = true
  m_Listing_columns : Meth K (He.ga K "Listing") "columns" (He.fAd K ("Listing", some "columns"))
  s_Listing___getitem__ : PySem.W.findIn K (.ref (He.ga K "Listing")) "__getitem__" = some (some (.ref (He.fAd K ("Listing", some "__getitem__")))) ∧ PySem.W.isFn K (.ref (He.fAd K ("Listing", some "__getitem__"))) = true
  f_Listing___getitem__ : PySem.W.fnIn K (He.fAd K ("Listing", some "__getitem__")) = true
  m_Listing_has : Meth K (He.ga K "Listing") "has" (He.fAd K ("Listing", some "has"))
  o_NoIndex : OexC K (He.ga K "NoIndex") ∧ PySem.W.findIn K (.ref (He.ga K "NoIndex")) "__init__" = some (some (.ref (He.fAd K ("NoIndex", some "__init__")))) ∧ PySem.W.typeIn K (.ref (He.fAd K ("NoIndex", some "__init__"))) = some (.type "function")
  oa_NoIndex : PySem.W.findIn K (.ref (He.ga K "NoIndex")) "index" = some none
  g_NoIndex : mg "NoIndex" = some (.ref (He.ga K "NoIndex"))
  a_Listing_lines : NoAttr K (He.ga K "Listing") "lines"
  g_is_whole : mg "is_whole" = some (.ref (He.ga K "is_whole"))
  n_bool : mg "bool" = none
  a_Listing_heads : NoAttr K (He.ga K "Listing") "heads"
  g_are_columns : mg "are_columns" = some (.ref (He.ga K "are_columns"))
  e_NoColumns : PySem.W.excIn K (He.ga K "NoColumns") He.veBase "ValueError.__new__" = true ∧ PySem.W.keepIn K (.ref (He.ga K "NoColumns")) = true ∧ PySem.W.subIn K (.ref (He.ga K "NoColumns")) (.type "BaseException") = some true ∧ PySem.W.typeIn K (.ref (He.ga K "NoColumns")) = some (.type "type")
  g_NoColumns : mg "NoColumns" = some (.ref (He.ga K "NoColumns"))
  o_NoRow : OexC K (He.ga K "NoRow") ∧ PySem.W.findIn K (.ref (He.ga K "NoRow")) "__init__" = some (some (.ref (He.fAd K ("NoRow", some "__init__")))) ∧ PySem.W.typeIn K (.ref (He.fAd K ("NoRow", some "__init__"))) = some (.type "function")
  oa_NoRow : PySem.W.findIn K (.ref (He.ga K "NoRow")) "index" = some none
  g_NoRow : mg "NoRow" = some (.ref (He.ga K "NoRow"))
  g_is_row : mg "is_row" = some (.ref (He.ga K "is_row"))
  n_enumerate : mg "enumerate" = none
  g_is_cell : mg "is_cell" = some (.ref (He.ga K "is_cell"))
  n_all : mg "all" = none
  k_LONGEST_CELL : ∃ t, mg "LONGEST_CELL" = some (.int 20 t)
  k_CELL_CHARACTERS : ∃ t, mg "CELL_CHARACTERS" = some (.str "abcdefghijklmnopqrstuvwxyz0123456789-" t)
  g_is_written : mg "is_written" = some (.ref (He.ga K "is_written"))
  n_str : mg "str" = none
  k_MOST_COLUMNS : ∃ t, mg "MOST_COLUMNS" = some (.int 5 t)
  g_is_name : mg "is_name" = some (.ref (He.ga K "is_name"))
  n_set : mg "set" = none
  k_LONGEST_NAME : ∃ t, mg "LONGEST_NAME" = some (.int 8 t)
  k_LETTERS : ∃ t, mg "LETTERS" = some (.str "abcdefghijklmnopqrstuvwxyz" t)
  g__law_cell : mg "_law_cell" = some (.ref (He.ga K "_law_cell"))
  g_law : mg "law" = some (.ref (He.ga K "law"))
  t0_Listing : DD.tup0B K (He.dflAt ("Listing", some "__init__") 0 K) = true
theorem fx_of {K : PySem.W.Frag} {mg : Str → Option Value} {h : Heap} (X : K.In h) (G : h.Ns mainGlobals mg) (sy : DH.SaysX fa fn bx K) : Nonempty (Fx K mg) := by
  obtain ⟨fd0, FD0⟩ := sy.d.def_ 0 (d := q24) rfl
  obtain ⟨fd1, FD1⟩ := sy.d.def_ 1 (d := q25) rfl
  obtain ⟨fd2, FD2⟩ := sy.d.def_ 2 (d := q26) rfl
  obtain ⟨fd3, FD3⟩ := sy.d.def_ 3 (d := q27) rfl
  obtain ⟨fd4, FD4⟩ := sy.d.def_ 4 (d := q4) rfl
  obtain ⟨fd5, FD5⟩ := sy.d.def_ 5 (d := q5) rfl
  obtain ⟨fd6, FD6⟩ := sy.d.def_ 6 (d := q7) rfl
  obtain ⟨fd7, FD7⟩ := sy.d.def_ 7 (d := q1) rfl
  obtain ⟨fd8, FD8⟩ := sy.d.def_ 8 (d := q6) rfl
  obtain ⟨fd9, FD9⟩ := sy.d.def_ 9 (d := q8) rfl
  obtain ⟨fd10, FD10⟩ := sy.d.def_ 10 (d := q9) rfl
  obtain ⟨fd11, FD11⟩ := sy.d.def_ 11 (d := q21) rfl
  obtain ⟨fd12, FD12⟩ := sy.d.def_ 12 (d := q13) rfl
  obtain ⟨fd13, FD13⟩ := sy.d.def_ 13 (d := q20) rfl
  obtain ⟨fd14, FD14⟩ := sy.d.def_ 14 (d := q3) rfl
  obtain ⟨fd15, FD15⟩ := sy.d.def_ 15 (d := q17) rfl
  obtain ⟨fd16, FD16⟩ := sy.d.def_ 16 (d := q2) rfl
  obtain ⟨fd17, FD17⟩ := sy.d.def_ 17 (d := q10) rfl
  obtain ⟨fd18, FD18⟩ := sy.d.def_ 18 (d := q28) rfl
  obtain ⟨fd19, FD19⟩ := sy.d.def_ 19 (d := q29) rfl
  obtain ⟨fd20, FD20⟩ := sy.d.def_ 20 (d := q23) rfl
  obtain ⟨fd21, FD21⟩ := sy.d.def_ 21 (d := q30) rfl
  exact ⟨{ d__law_draw := fd0, D__law_draw := FD0, d__law_heads := fd1, D__law_heads := FD1, d__law_cell := fd2, D__law_cell := FD2, d__law_lines := fd3, D__law_lines := FD3, d_is_written := fd4, D_is_written := FD4, d_is_name := fd5, D_is_name := FD5, d_are_columns := fd6, D_are_columns := FD6, d_NoRow___init__ := fd7, D_NoRow___init__ := FD7, d_is_cell := fd8, D_is_cell := FD8, d_is_row := fd9, D_is_row := FD9, d_Listing___init__ := fd10, D_Listing___init__ := FD10, d_Listing_rows := fd11, D_Listing_rows := FD11, d_Listing___len__ := fd12, D_Listing___len__ := FD12, d_Listing_columns := fd13, D_Listing_columns := FD13, d_is_whole := fd14, D_is_whole := FD14, d_Listing_has := fd15, D_Listing_has := FD15, d_NoIndex___init__ := fd16, D_NoIndex___init__ := FD16, d_Listing___getitem__ := fd17, D_Listing___getitem__ := FD17, d__law_tells := fd18, D__law_tells := FD18, d__law_right := fd19, D__law_right := FD19, d__law_jar := fd20, D__law_jar := FD20, d_law := fd21, D_law := FD21, g__law_jar := He.glo_ok X G (sy.d.fact 0 (f := .glo "_law_jar") rfl), g__law_right := He.glo_ok X G (sy.d.fact 1 (f := .glo "_law_right") rfl), n_len := He.free_ok X G (sy.d.fact 2 (f := .free "len") rfl), n_min := He.free_ok X G (sy.d.fact 3 (f := .free "min") rfl), n_max := He.free_ok X G (sy.d.fact 4 (f := .free "max") rfl), n_range := He.free_ok X G (sy.d.fact 5 (f := .free "range") rfl), n_int := He.free_ok X G (sy.d.fact 6 (f := .free "int") rfl), n_abs := He.free_ok X G (sy.d.fact 7 (f := .free "abs") rfl), g__law_draw := He.glo_ok X G (sy.d.fact 8 (f := .glo "_law_draw") rfl), g__law_heads := He.glo_ok X G (sy.d.fact 9 (f := .glo "_law_heads") rfl), g__law_lines := He.glo_ok X G (sy.d.fact 10 (f := .glo "_law_lines") rfl), mk_Listing := He.mkr_ok (sy.d.fact 11 (f := .mkr "Listing") rfl), n_tuple := He.free_ok X G (sy.d.fact 12 (f := .free "tuple") rfl), g_Listing := He.glo_ok X G (sy.d.fact 13 (f := .glo "Listing") rfl), g__law_tells := He.glo_ok X G (sy.d.fact 14 (f := .glo "_law_tells") rfl), m_Listing_rows := He.meth_ok (sy.d.fact 15 (f := .meth "Listing" "rows") rfl), c_Listing := He.cls_ok (sy.d.fact 16 (f := .cls "Listing") rfl), n_list := He.free_ok X G (sy.d.fact 17 (f := .free "list") rfl), n_isinstance := He.free_ok X G (sy.d.fact 18 (f := .free "isinstance") rfl), s_Listing___len__ := (let z := He.meth_ok (sy.d.fact 19 (f := .meth "Listing" "__len__") rfl); ⟨z.at_, z.fn⟩), m_Listing_columns := He.meth_ok (sy.d.fact 20 (f := .meth "Listing" "columns") rfl), s_Listing___getitem__ := (let z := He.meth_ok (sy.d.fact 21 (f := .meth "Listing" "__getitem__") rfl); ⟨z.at_, z.fn⟩), f_Listing___getitem__ := (sy.b 0 rfl), m_Listing_has := He.meth_ok (sy.d.fact 22 (f := .meth "Listing" "has") rfl), o_NoIndex := ⟨DH.oexB_ok (sy.b 1 rfl), DH.iniB_ok (sy.b 2 rfl)⟩, oa_NoIndex := He.noat_ok (sy.d.fact 23 (f := .noat "NoIndex" "index") rfl), g_NoIndex := He.glo_ok X G (sy.d.fact 24 (f := .glo "NoIndex") rfl), a_Listing_lines := He.noat_ok (sy.d.fact 25 (f := .noat "Listing" "lines") rfl), g_is_whole := He.glo_ok X G (sy.d.fact 26 (f := .glo "is_whole") rfl), n_bool := He.free_ok X G (sy.d.fact 27 (f := .free "bool") rfl), a_Listing_heads := He.noat_ok (sy.d.fact 28 (f := .noat "Listing" "heads") rfl), g_are_columns := He.glo_ok X G (sy.d.fact 29 (f := .glo "are_columns") rfl), e_NoColumns := He.exc_ok (sy.d.fact 30 (f := .exc "NoColumns") rfl), g_NoColumns := He.glo_ok X G (sy.d.fact 31 (f := .glo "NoColumns") rfl), o_NoRow := ⟨DH.oexB_ok (sy.b 3 rfl), DH.iniB_ok (sy.b 4 rfl)⟩, oa_NoRow := He.noat_ok (sy.d.fact 32 (f := .noat "NoRow" "index") rfl), g_NoRow := He.glo_ok X G (sy.d.fact 33 (f := .glo "NoRow") rfl), g_is_row := He.glo_ok X G (sy.d.fact 34 (f := .glo "is_row") rfl), n_enumerate := He.free_ok X G (sy.d.fact 35 (f := .free "enumerate") rfl), g_is_cell := He.glo_ok X G (sy.d.fact 36 (f := .glo "is_cell") rfl), n_all := He.free_ok X G (sy.d.fact 37 (f := .free "all") rfl), k_LONGEST_CELL := He.int_ok X G (sy.d.fact 38 (f := .int "LONGEST_CELL" 20) rfl), k_CELL_CHARACTERS := He.str_ok X G (sy.d.fact 39 (f := .str "CELL_CHARACTERS" "abcdefghijklmnopqrstuvwxyz0123456789-") rfl), g_is_written := He.glo_ok X G (sy.d.fact 40 (f := .glo "is_written") rfl), n_str := He.free_ok X G (sy.d.fact 41 (f := .free "str") rfl), k_MOST_COLUMNS := He.int_ok X G (sy.d.fact 42 (f := .int "MOST_COLUMNS" 5) rfl), g_is_name := He.glo_ok X G (sy.d.fact 43 (f := .glo "is_name") rfl), n_set := He.free_ok X G (sy.d.fact 44 (f := .free "set") rfl), k_LONGEST_NAME := He.int_ok X G (sy.d.fact 45 (f := .int "LONGEST_NAME" 8) rfl), k_LETTERS := He.str_ok X G (sy.d.fact 46 (f := .str "LETTERS" "abcdefghijklmnopqrstuvwxyz") rfl), g__law_cell := He.glo_ok X G (sy.d.fact 47 (f := .glo "_law_cell") rfl), g_law := He.glo_ok X G (sy.d.fact 48 (f := .glo "law") rfl), t0_Listing := (sy.b 5 rfl) }⟩
end Lk01

set_option Elab.async false
set_option linter.all false
set_option maxRecDepth 100000
set_option maxHeartbeats 4000000
namespace Lk01
open PySem PySem.Spec L2 DD
/-! what each def does -/
abbrev f__law_draw (K : PySem.W.Frag) : Fn := fDraw
def letters : Str := "abcdefghijklmnopqrstuvwxyz"
def cellch : Str := "abcdefghijklmnopqrstuvwxyz0123456789-"
def isWr (x : D) (ch : Str) (l m : Int) : Bool := match x with
  | .str s => (decide (l ≤ (s.length : Int)) && decide ((s.length : Int) ≤ m)) && s.cps.toList.all fun k => decide (k ∈ ch.cps.toList)
  | _ => false
def isName (x : D) : Bool := isWr x letters 1 8
def isCell (x : D) : Bool := isWr x cellch 0 20
def areCols : D → Bool
  | .tup xs => (decide (1 ≤ xs.length) && decide (xs.length ≤ 5)) && (xs.all isName && (match strsD xs with
    | some zs => decide ((DDs.metAll zs).length = xs.length)
    | none => false))
  | _ => false
def isRow : D → D → Bool
  | .tup cs, .tup xs => decide (xs.length = cs.length) && xs.all isCell
  | _, _ => false
def nrmL (x : D) : Bool := nrm x && match x with
  | .tup xs => decide (xs.length ≤ 1000000) && xs.all nrm
  | _ => true
def nrmR (x : D) : Bool := nrm x && match x with
  | .tup xs => decide (xs.length ≤ 1000000) && xs.all nrmL
  | _ => true
def f_is_written (K : PySem.W.Frag) : Fn := fun ds G Q _ => ∃ x ch l m, ds = [x, .str ch, .int l, .int m] ∧ nrm x = true ∧ m ≤ 1000 ∧ Q (.bl (isWr x ch l m)) G
def f_is_name (K : PySem.W.Frag) : Fn := fun ds G Q _ => ∃ x, ds = [x] ∧ nrm x = true ∧ Q (.bl (isName x)) G
def f_is_cell (K : PySem.W.Frag) : Fn := fun ds G Q _ => ∃ x, ds = [x] ∧ nrm x = true ∧ Q (.bl (isCell x)) G
def f_are_columns (K : PySem.W.Frag) : Fn := fun ds G Q _ => ∃ x, ds = [x] ∧ nrmL x = true ∧ Q (.bl (areCols x)) G
def f_is_row (K : PySem.W.Frag) : Fn := fun ds G Q _ => ∃ cs x, ds = [.tup cs, x] ∧ nrmL x = true ∧ Q (.bl (isRow (.tup cs) x)) G
/-- the first row that is none -/
def firstBad (cs : D) : Nat → List D → Option Nat
  | _, [] => none
  | i, r :: rs => if isRow cs r = true then firstBad cs (i + 1) rs else some i
/-- a listing's object -/
def lsO (K : PySem.W.Frag) (cs : D) (l : Addr) (rs : List D) : DO := .ins (He.ga K "Listing") [("heads", .v cs), ("lines", .own l rs)]
def f_Listing___init__ (K : PySem.W.Frag) : Fn := fun ds G Q E => ∃ a cs rows, ds = [.ref a, cs, rows] ∧ G a = some (.ins (He.ga K "Listing") []) ∧ nrmL cs = true ∧ nrmR rows = true ∧
  if areCols cs = true then (match rows with
    | .tup rs => (match firstBad cs 0 rs with
      | some i => E ⟨He.ga K "NoRow", some [("index", .int (i : Nat))]⟩ G
      | none => ∀ l, Q .non (gset G a (some (lsO K cs l rs))))
    | _ => E ⟨He.ga K "NoRow", some [("index", .int 0)]⟩ G)
  else E ⟨He.ga K "NoColumns", none⟩ G
def f_Listing_rows (K : PySem.W.Frag) : Fn := fun ds G Q _ => ∃ a cs l rs, ds = [.ref a] ∧ G a = some (lsO K cs l rs) ∧ ∀ b, G b = none → Q (.ref b) (gset G b (some (.mls rs)))
def f_Listing___len__ (K : PySem.W.Frag) : Fn := fun ds G Q _ => ∃ a cs l rs, ds = [.ref a] ∧ G a = some (lsO K cs l rs) ∧ Q (.int (rs.length : Nat)) G
def f_Listing_columns (K : PySem.W.Frag) : Fn := fun ds G Q _ => ∃ a cs l rs, ds = [.ref a] ∧ G a = some (lsO K cs l rs) ∧ Q cs G
def isWhole : D → Bool
  | .int _ => true
  | _ => false
def f_is_whole (K : PySem.W.Frag) : Fn := fun ds G Q _ => ∃ x, ds = [x] ∧ nrm x = true ∧ Q (.bl (isWhole x)) G
def hasIx (x : D) (n : Nat) : Bool := match x with
  | .int i => decide (0 ≤ i) && decide (i < (n : Int))
  | _ => false
def f_Listing_has (K : PySem.W.Frag) : Fn := fun ds G Q _ => ∃ a cs l rs x, ds = [.ref a, x] ∧ nrm x = true ∧ G a = some (lsO K cs l rs) ∧ Q (.bl (hasIx x rs.length)) G
def f_Listing___getitem__ (K : PySem.W.Frag) : Fn := fun ds G Q E => ∃ a cs l rs x, ds = [.ref a, x] ∧ nrm x = true ∧ G a = some (lsO K cs l rs) ∧
  match x with
  | .int i => if 0 ≤ i ∧ i < (rs.length : Int) then ∃ r, rs[i.toNat]? = some r ∧ Q r G else E ⟨He.ga K "NoIndex", some [("index", x)]⟩ G
  | _ => E ⟨He.ga K "NoIndex", some [("index", x)]⟩ G
/-! the law's own -/
def f__law_jar (K : PySem.W.Frag) : Fn := fun ds G Q _ => ∃ (ns : List Int) (k : Int), ds = [.lst (ns.map D.int), .int k] ∧ 0 ≤ k ∧ k < 64 ∧ ∀ a, G a = none → Q (.ref a) (gset G a (some (.jar 0)))
def f__law_heads (K : PySem.W.Frag) : Fn := fun ds G Q _ => ∃ (a : Addr) (m : Int) (c : Nat), ds = [.ref a, .int m] ∧ G a = some (.jar c) ∧ 1 ≤ m ∧ m ≤ 5 ∧ c + 60 ≤ 2 ^ 62 ∧ ∀ xs, areCols (.tup xs) = true → (xs.length : Int) = m → Q (.tup xs) (gset G a (some (.jar (c + 60))))
def f__law_cell (K : PySem.W.Frag) : Fn := fun ds G Q _ => ∃ (a : Addr) (c : Nat), ds = [.ref a] ∧ G a = some (.jar c) ∧ c + 30 ≤ 2 ^ 62 ∧ ∀ x, isCell x = true → Q x (gset G a (some (.jar (c + 30))))
def f__law_lines (K : PySem.W.Frag) : Fn := fun ds G Q _ => ∃ (a : Addr) (hs : List D) (m : Int) (c : Nat), ds = [.ref a, .tup hs, .int m] ∧ G a = some (.jar c) ∧ hs.length ≤ 5 ∧ 0 ≤ m ∧ m ≤ 200 ∧ c + 500 ≤ 2 ^ 62 ∧
  ∀ rs, (∀ r ∈ rs, isRow (.tup hs) r = true) → rs.length ≤ 200 → Q (.lst rs) (gset G a (some (.jar (c + 500))))
/-- the objects that are there stay -/
def Ext (G G' : DG) : Prop := ∀ b o, G b = some o → G' b = some o
def goodRows (cs : D) (rs : List D) : Prop := (∀ r ∈ rs, isRow cs r = true) ∧ rs.length ≤ 200
def f__law_tells (K : PySem.W.Frag) : Fn := fun ds G Q _ => ∃ w cs l rs, ds = [.ref w, cs, .lst rs] ∧ G w = some (lsO K cs l rs) ∧ areCols cs = true ∧ goodRows cs rs ∧ ∀ G', Ext G G' → Q (.bl true) G'
/-- an entry of what is held -/
def EntOk (K : PySem.W.Frag) (G : DG) (e : D) : Prop := ∃ w cs l rs, e = .tup [.ref w, cs, .lst rs] ∧ G w = some (lsO K cs l rs) ∧ areCols cs = true ∧ goodRows cs rs
def f__law_right (K : PySem.W.Frag) : Fn := fun ds G Q _ => ∃ j h es, ds = [.ref j, .ref h] ∧ G j = some (.jar 0) ∧ G h = some (.mls es) ∧ es.length ≤ 1000 ∧ (∀ e ∈ es, EntOk K G e) ∧
  ∀ G' es', G' h = some (.mls es') → es'.length ≤ es.length + 3 → (∀ e ∈ es', EntOk K G' e) → Q (.bl true) G'
def f_law (K : PySem.W.Frag) : Fn := fun ds G Q _ => ∃ ns : List Int, ds = [.lst (ns.map D.int)] ∧ ns.length ≤ 63 ∧ ∀ G', Q (.bl true) G'
/-! how many values -/
theorem len__law_draw {ds : List D} {G : DG} {Q : D → DG → Prop} {E : DX → DG → Prop} (h : fDrawM ds G Q E) : ds.length = 2 := by obtain ⟨_, _, _, _, _, rfl, _⟩ := h; rfl
theorem len_is_written {K : PySem.W.Frag} {ds : List D} {G : DG} {Q : D → DG → Prop} {E : DX → DG → Prop} (h : f_is_written K ds G Q E) : ds.length = 4 := by obtain ⟨_, _, _, _, rfl, _⟩ := h; rfl
theorem len_is_name {K : PySem.W.Frag} {ds : List D} {G : DG} {Q : D → DG → Prop} {E : DX → DG → Prop} (h : f_is_name K ds G Q E) : ds.length = 1 := by obtain ⟨_, rfl, _⟩ := h; rfl
theorem len_is_cell {K : PySem.W.Frag} {ds : List D} {G : DG} {Q : D → DG → Prop} {E : DX → DG → Prop} (h : f_is_cell K ds G Q E) : ds.length = 1 := by obtain ⟨_, rfl, _⟩ := h; rfl
theorem len_are_columns {K : PySem.W.Frag} {ds : List D} {G : DG} {Q : D → DG → Prop} {E : DX → DG → Prop} (h : f_are_columns K ds G Q E) : ds.length = 1 := by obtain ⟨_, rfl, _⟩ := h; rfl
theorem len_is_row {K : PySem.W.Frag} {ds : List D} {G : DG} {Q : D → DG → Prop} {E : DX → DG → Prop} (h : f_is_row K ds G Q E) : ds.length = 2 := by obtain ⟨_, _, rfl, _⟩ := h; rfl
theorem len_Listing___init__ {K : PySem.W.Frag} {ds : List D} {G : DG} {Q : D → DG → Prop} {E : DX → DG → Prop} (h : f_Listing___init__ K ds G Q E) : ds.length = 3 := by obtain ⟨_, _, _, rfl, _⟩ := h; rfl
theorem len_Listing_rows {K : PySem.W.Frag} {ds : List D} {G : DG} {Q : D → DG → Prop} {E : DX → DG → Prop} (h : f_Listing_rows K ds G Q E) : ds.length = 1 := by obtain ⟨_, _, _, _, rfl, _⟩ := h; rfl
theorem len_Listing___len__ {K : PySem.W.Frag} {ds : List D} {G : DG} {Q : D → DG → Prop} {E : DX → DG → Prop} (h : f_Listing___len__ K ds G Q E) : ds.length = 1 := by obtain ⟨_, _, _, _, rfl, _⟩ := h; rfl
theorem len_Listing_columns {K : PySem.W.Frag} {ds : List D} {G : DG} {Q : D → DG → Prop} {E : DX → DG → Prop} (h : f_Listing_columns K ds G Q E) : ds.length = 1 := by obtain ⟨_, _, _, _, rfl, _⟩ := h; rfl
theorem len_is_whole {K : PySem.W.Frag} {ds : List D} {G : DG} {Q : D → DG → Prop} {E : DX → DG → Prop} (h : f_is_whole K ds G Q E) : ds.length = 1 := by obtain ⟨_, rfl, _⟩ := h; rfl
theorem len_Listing_has {K : PySem.W.Frag} {ds : List D} {G : DG} {Q : D → DG → Prop} {E : DX → DG → Prop} (h : f_Listing_has K ds G Q E) : ds.length = 2 := by obtain ⟨_, _, _, _, _, rfl, _⟩ := h; rfl
theorem len_Listing___getitem__ {K : PySem.W.Frag} {ds : List D} {G : DG} {Q : D → DG → Prop} {E : DX → DG → Prop} (h : f_Listing___getitem__ K ds G Q E) : ds.length = 2 := by obtain ⟨_, _, _, _, _, rfl, _⟩ := h; rfl
theorem len__law_jar {K : PySem.W.Frag} {ds : List D} {G : DG} {Q : D → DG → Prop} {E : DX → DG → Prop} (h : f__law_jar K ds G Q E) : ds.length = 2 := by obtain ⟨_, _, rfl, _⟩ := h; rfl
theorem len__law_heads {K : PySem.W.Frag} {ds : List D} {G : DG} {Q : D → DG → Prop} {E : DX → DG → Prop} (h : f__law_heads K ds G Q E) : ds.length = 2 := by obtain ⟨_, _, _, rfl, _⟩ := h; rfl
theorem len__law_cell {K : PySem.W.Frag} {ds : List D} {G : DG} {Q : D → DG → Prop} {E : DX → DG → Prop} (h : f__law_cell K ds G Q E) : ds.length = 1 := by obtain ⟨_, _, rfl, _⟩ := h; rfl
theorem len__law_lines {K : PySem.W.Frag} {ds : List D} {G : DG} {Q : D → DG → Prop} {E : DX → DG → Prop} (h : f__law_lines K ds G Q E) : ds.length = 3 := by obtain ⟨_, _, _, _, rfl, _⟩ := h; rfl
theorem len__law_tells {K : PySem.W.Frag} {ds : List D} {G : DG} {Q : D → DG → Prop} {E : DX → DG → Prop} (h : f__law_tells K ds G Q E) : ds.length = 3 := by obtain ⟨_, _, _, _, rfl, _⟩ := h; rfl
theorem len__law_right {K : PySem.W.Frag} {ds : List D} {G : DG} {Q : D → DG → Prop} {E : DX → DG → Prop} (h : f__law_right K ds G Q E) : ds.length = 2 := by obtain ⟨_, _, _, rfl, _⟩ := h; rfl
theorem len_law {K : PySem.W.Frag} {ds : List D} {G : DG} {Q : D → DG → Prop} {E : DX → DG → Prop} (h : f_law K ds G Q E) : ds.length = 1 := by obtain ⟨_, rfl, _⟩ := h; rfl
end Lk01

set_option Elab.async false
set_option linter.all false
set_option maxRecDepth 100000
set_option maxHeartbeats 0
namespace Lk01
open PySem PySem.Spec L2 DD
def kg0_Listing : List D → List D → List D := fun vs zs => vs ++ (match zs with | [z0, z1] => [z1, z0] | _ => [])
abbrev N__law_draw : List Str := ["_law_jar_here", "_law_many", "_law_found", "_law_stirred"]
def tb__law_draw (K : PySem.W.Frag) : DTS := (sSeq (sIf (dTst (dBin gtD (dDer (dBin ixD (dBov 0) (dC (.int 0)))) (dC (.int 0))))
  (sSeq (sSet 2 (dBin modD (dCallB intD (dConsB (dDer (dBin ixD (dBov 0) (dC (.int 0)))) dNil)) (dBov 1)))
  (sSeq (sSetAt (dBin fdivD (dDer (dBin ixD (dBov 0) (dC (.int 0)))) (dBov 1)) (pVar 0) (dC (.int 0)))
  (sRet (dVar 2))))
  sNext)
  (sSeq (sSetAt (dBin addD (dDer (dBin ixD (dBov 0) (dC (.int 2)))) (dC (.int 1))) (pVar 0) (dC (.int 2)))
  (sSeq (sSet 3 (dBin modD (dCallB intD (dConsB (dBin addD (dBin powD (dBin addD (dDer (dBin ixD (dBov 0) (dC (.int 1)))) (dBin repD (dC (.int 15485867)) (dDer (dBin ixD (dBov 0) (dC (.int 2)))))) (dC (.int 4))) (dBin repD (dC (.int 3)) (dDer (dBin ixD (dBov 0) (dC (.int 2)))))) dNil)) (dBin addD (dBin powD (dC (.int 10)) (dC (.int 42))) (dC (.int 63)))))
  (sSeq (sSet 3 (dBin modD (dCallB intD (dConsB (dBin powD (dBin addD (dBov 3) (dBin repD (dC (.int 32452867)) (dDer (dBin ixD (dBov 0) (dC (.int 2)))))) (dC (.int 3))) dNil)) (dBin addD (dBin powD (dC (.int 10)) (dC (.int 40))) (dC (.int 121)))))
  (sRet (dBin modD (dCallB intD (dConsB (dBin fdivD (dBov 3) (dBin powD (dC (.int 10)) (dC (.int 6)))) dNil)) (dBov 1)))))))
abbrev N__law_heads : List Str := ["_law_jar_here", "_law_many", "_law_letters", "_law_found", "_law_k", "_law_name", "_law_j", "_law_one"]
def tb__law_heads (K : PySem.W.Frag) : DTS := (sSeq (sSet 2 (dC (.str "abcdefghijklmnopqrstuvwxyz")))
  (sSeq (sSetF 3 (dLst dNil))
  (sSeq (sFor (iRg1 (dCons (dVar 1) dNil)) (gN 4)
  (sSeq (sSet 5 (dStMV joinD (dC (.str "")) (dFrz (dLcW (iRg1 (dCons (dBinV addD (dC (.int 1)) (dDer (dCall (f__law_draw K) (dCons (dVar 0) (dCons (dC (.int 8)) dNil))))) dNil)) (gN 6) ttYes (dBinV ixD (dVar 2) (dDer (dCall (f__law_draw K) (dCons (dVar 0) (dCons (dC (.int 26)) dNil))))) [6]))))
  (sSeq (sIf (dAndT (dTst (dBin neD (dBov 3) (dFrz (dLst dNil)))) (dTst (dBin eqD (dDer (dCall (f__law_draw K) (dCons (dVar 0) (dCons (dC (.int 3)) dNil)))) (dC (.int 0)))))
  (sSet 5 (dBinV addD (dSl slD (dDer (dBin ixD (dBov 3) (dUn negD (dC (.int 1))))) oNone (oSome (dC (.int 7)))) (dDer (dBinV ixD (dVar 2) (dDer (dCall (f__law_draw K) (dCons (dVar 0) (dCons (dC (.int 26)) dNil))))))))
  sNext)
  (sSeq (sIf (dTst (dBin inD (dBov 5) (dBov 3)))
  (sSet 5 (dBin ixD (dFrz (dLcW (iSeq (dFrz (dLcW (iRg1 (dCons (dC (.int 6)) dNil)) (gN 6) ttYes (dBin repD (dC (.str "q")) (dBin addD (dBov 6) (dC (.int 1)))) [6]))) (gN 7) (dTst (dBin notInD (dBov 7) (dBov 3))) (dVar 7) [7])) (dC (.int 0))))
  sNext)
  (sMut gApp (pVar 3) (dCons (dVar 5) dNil))))))
  (sRet (dCallB tupleD (dConsB (dBov 3) dNil))))))
abbrev N__law_cell : List Str := ["_law_jar_here", "_law_signs", "_law_many", "_law_k"]
def tb__law_cell (K : PySem.W.Frag) : DTS := (sSeq (sSet 1 (dC (.str "abcdefghijklmnopqrstuvwxyz0123456789-")))
  (sSeq (sSet 2 (dBinV ixD (dFrz (dLst (dCons (dC (.int 0)) (dCons (dC (.int 1)) (dCons (dC (.int 3)) (dCons (dC (.int 20)) (dCons (dCall (f__law_draw K) (dCons (dVar 0) (dCons (dC (.int 21)) dNil))) dNil))))))) (dDer (dCall (f__law_draw K) (dCons (dVar 0) (dCons (dC (.int 5)) dNil))))))
  (sRet (dStMV joinD (dC (.str "")) (dFrz (dLcW (iRg1 (dCons (dVar 2) dNil)) (gN 3) ttYes (dBinV ixD (dVar 1) (dDer (dCall (f__law_draw K) (dCons (dVar 0) (dCons (dC (.int 37)) dNil))))) [3]))))))
abbrev N__law_lines : List Str := ["_law_jar_here", "_law_heads_here", "_law_most", "_law_cells", "_law_kinds", "_law_k", "_law_head"]
def tb__law_lines (K : PySem.W.Frag) : DTS := (sSeq (sSet 3 (dFrz (dLst (dCons (dC (.str "")) (dCons (dCall (f__law_cell K) (dCons (dVar 0) dNil)) (dCons (dCall (f__law_cell K) (dCons (dVar 0) dNil)) (dCons (dCall (f__law_cell K) (dCons (dVar 0) dNil)) dNil)))))))
  (sSeq (sSetF 4 (dLcW (iRg1 (dCons (dC (.int 5)) dNil)) (gN 5) ttYes (dCallB tupleD (dConsB (dFrz (dLcW (iSeq (dVar 1)) (gN 6) ttYes (dBinV ixD (dVar 3) (dDer (dCall (f__law_draw K) (dCons (dVar 0) (dCons (dC (.int 4)) dNil))))) [6])) dNil)) [5]))
  (sSeq (sMut gApp (pVar 4) (dCons (dCallB tupleD (dConsB (dFrz (dLcW (iSeq (dVar 1)) (gN 6) ttYes (dCall (f__law_cell K) (dCons (dVar 0) dNil)) [6])) dNil)) dNil))
  (sFrz 4 (sRet (dFrz (dLcW (iRg1 (dCons (dCall (f__law_draw K) (dCons (dVar 0) (dCons (dBin addD (dBov 2) (dC (.int 1))) dNil))) dNil)) (gN 5) ttYes (dBinV ixD (dVar 4) (dDer (dCall (f__law_draw K) (dCons (dVar 0) (dCons (dC (.int 6)) dNil))))) [5])))))))
abbrev N_is_written : List Str := ["thing", "characters", "least", "most", "sign"]
def tb_is_written (K : PySem.W.Frag) : DTS := (sSeq (sIf (dOrT (dNotT (dTru (dIsi K (dBov 0) (dC (.ty "str"))))) (dNotT (dTst (dChain leD leD (dBov 2) (dCallB lenD (dConsB (dBov 0) dNil)) (dBov 3)))))
  (sRet (dC (.bl false)))
  sNext)
  (sRet (dCallB allD (dConsB (dFrz (dLcW (iSeq (dVar 0)) (gN 4) ttYes (dBin inD (dBov 4) (dBov 1)) [4])) dNil))))
abbrev N_is_name : List Str := ["thing"]
def tb_is_name (K : PySem.W.Frag) : DTS := (sRet (dCall (f_is_written K) (dCons (dVar 0) (dCons (dC (.str "abcdefghijklmnopqrstuvwxyz")) (dCons (dC (.int 1)) (dCons (dC (.int 8)) dNil))))))
abbrev N_are_columns : List Str := ["thing", "name"]
def tb_are_columns (K : PySem.W.Frag) : DTS := (sSeq (sIf (dOrT (dNotT (dTru (dIsi K (dBov 0) (dC (.ty "tuple"))))) (dNotT (dTst (dChain leD leD (dC (.int 1)) (dCallB lenD (dConsB (dBov 0) dNil)) (dC (.int 5))))))
  (sRet (dC (.bl false)))
  sNext)
  (sRet (dAndV (dCallB allD (dConsB (dFrz (dLcW (iSeq (dVar 0)) (gN 1) ttYes (dCall (f_is_name K) (dCons (dVar 1) dNil)) [1])) dNil)) (dBin eqD (dLenSet (dBov 0)) (dCallB lenD (dConsB (dBov 0) dNil))))))
abbrev N_NoRow___init__ : List Str := ["self", "index"]
abbrev N_is_cell : List Str := ["thing"]
def tb_is_cell (K : PySem.W.Frag) : DTS := (sRet (dCall (f_is_written K) (dCons (dVar 0) (dCons (dC (.str "abcdefghijklmnopqrstuvwxyz0123456789-")) (dCons (dC (.int 0)) (dCons (dC (.int 20)) dNil))))))
abbrev N_is_row : List Str := ["columns", "thing", "cell"]
def tb_is_row (K : PySem.W.Frag) : DTS := (sRet (dAndV (dIsi K (dBov 1) (dC (.ty "tuple"))) (dAndV (dBin eqD (dCallB lenD (dConsB (dBov 1) dNil)) (dCallB lenD (dConsB (dBov 0) dNil))) (dCallB allD (dConsB (dFrz (dLcW (iSeq (dVar 1)) (gN 2) ttYes (dCall (f_is_cell K) (dCons (dVar 2) dNil)) [2])) dNil)))))
abbrev N_Listing___init__ : List Str := ["self", "columns", "rows", "index", "row"]
def tb_Listing___init__ (K : PySem.W.Frag) : DTS := (sSeq (sIf (dNotT (dTru (dDer (dCall (f_are_columns K) (dCons (dVar 1) dNil)))))
  (sRaise (He.ga K "NoColumns"))
  sNext)
  (sSeq (sIf (dNotT (dTru (dIsi K (dBov 2) (dC (.ty "tuple")))))
  (sRaiseF (He.ga K "NoRow") "index" (dC (.int 0)))
  sNext)
  (sSeq (sFor (iEn (dVar 2)) (gT 2 (gsCons (gN 3) (gsCons (gN 4) gsNil)))
  (sIf (dNotT (dTru (dDer (dCall (f_is_row K) (dCons (dVar 1) (dCons (dVar 4) dNil))))))
  (sRaiseF (He.ga K "NoRow") "index" (dVar 3))
  sNext))
  (sSeq (sFldS (He.ga K "Listing") "heads" (dVar 1) (dVar 0))
  (sFldF (He.ga K "Listing") "lines" (dLstOf (dBov 2)) 0)))))
abbrev N_Listing_rows : List Str := ["self"]
def tb_Listing_rows (K : PySem.W.Frag) : DTS := (sRet (dNewM (dLstOf (dFldB (He.ga K "Listing") "lines" (dVar 0)))))
abbrev N_Listing___len__ : List Str := ["self"]
def tb_Listing___len__ (K : PySem.W.Frag) : DTS := (sRet (dCallB lenD (dConsB (dFldB (He.ga K "Listing") "lines" (dVar 0)) dNil)))
abbrev N_Listing_columns : List Str := ["self"]
def tb_Listing_columns (K : PySem.W.Frag) : DTS := (sRet (dFld (He.ga K "Listing") "heads" (dVar 0)))
abbrev N_is_whole : List Str := ["thing"]
def tb_is_whole (K : PySem.W.Frag) : DTS := (sRet (dAndV (dIsi K (dBov 0) (dC (.ty "int"))) (dNotV (dIsi K (dBov 0) (dC (.ty "bool"))))))
abbrev N_Listing_has : List Str := ["self", "index"]
def tb_Listing_has (K : PySem.W.Frag) : DTS := (sRet (dAndV (dCall (f_is_whole K) (dCons (dVar 1) dNil)) (dChain leD ltD (dC (.int 0)) (dBov 1) (dCallB lenD (dConsB (dFldB (He.ga K "Listing") "lines" (dVar 0)) dNil)))))
abbrev N_NoIndex___init__ : List Str := ["self", "index"]
abbrev N_Listing___getitem__ : List Str := ["self", "index"]
def tb_Listing___getitem__ (K : PySem.W.Frag) : DTS := (sSeq (sIf (dNotT (dTru (dDer (dMeth (He.ga K "Listing") "has" (f_Listing_has K) (dVar 0) (dCons (dVar 1) dNil)))))
  (sRaiseF (He.ga K "NoIndex") "index" (dVar 1))
  sNext)
  (sRet (dBin ixD (dFldB (He.ga K "Listing") "lines" (dVar 0)) (dBov 1))))
abbrev N__law_tells : List Str := ["_law_work", "_law_heads_here", "_law_lines_here", "_law_told", "_law_at"]
def tb__law_tells (K : PySem.W.Frag) : DTS := (sSeq (sSet 3 (dMeth (He.ga K "Listing") "rows" (f_Listing_rows K) (dVar 0) dNil))
  (sSeq (sIf (dOrT (dNotT (dTru (dIsi K (dBov 3) (dC (.ty "list"))))) (dOrT (dTst (dBin neD (dBov 3) (dBov 2))) (dOrT (dTst (dBin neD (dLenO (He.ga K "Listing") (f_Listing___len__ K) (dVar 0)) (dCallB lenD (dConsB (dBov 2) dNil)))) (dTst (dBin neD (dDer (dMeth (He.ga K "Listing") "columns" (f_Listing_columns K) (dVar 0) dNil)) (dBov 1))))))
  (sRet (dC (.bl false)))
  sNext)
  (sSeq (sFor (iRg1 (dCons (dCallB lenD (dConsB (dBov 2) dNil)) dNil)) (gN 4)
  (sIf (dTst (dBin neD (dDer (dIxO (He.ga K "Listing") (f_Listing___getitem__ K) (dVar 0) (dVar 4))) (dDer (dBin ixD (dBov 2) (dBov 4)))))
  (sRet (dC (.bl false)))
  sNext))
  (sSeq (sMut gClear (pVar 3) dNil)
  (sRet (dBin eqD (dDer (dMeth (He.ga K "Listing") "rows" (f_Listing_rows K) (dVar 0) dNil)) (dBov 2)))))))
abbrev N__law_right : List Str := ["_law_jar_here", "_law_held", "_law_heads_here", "_law_lines_here", "_law_works", "_law_due", "_law_at", "_law_work", "_law_names", "_law_some"]
def tb__law_right (K : PySem.W.Frag) : DTS := (sSeq (sSet 2 (dCall (f__law_heads K) (dCons (dVar 0) (dCons (dBinV addD (dC (.int 1)) (dDer (dCall (f__law_draw K) (dCons (dVar 0) (dCons (dC (.int 5)) dNil))))) dNil))))
  (sSeq (sSet 3 (dCall (f__law_lines K) (dCons (dVar 0) (dCons (dVar 2) (dCons (dBinV ixD (dFrz (dLst (dCons (dC (.int 9)) (dCons (dC (.int 9)) (dCons (dC (.int 9)) (dCons (dC (.int 9)) (dCons (dC (.int 9)) (dCons (dC (.int 200)) dNil)))))))) (dDer (dCall (f__law_draw K) (dCons (dVar 0) (dCons (dC (.int 6)) dNil))))) dNil)))))
  (sSeq (sSet 4 (dFrz (dLst (dCons (dMake (He.ga K "Listing") (f_Listing___init__ K) [] (dCons (dVar 2) (dCons (dCallB tupleD (dConsB (dBov 3) dNil)) dNil))) (dCons (dMake (He.ga K "Listing") (f_Listing___init__ K) [.tup []] (dCons (dVar 2) dNil)) (dCons (dMakeK (He.ga K "Listing") (f_Listing___init__ K) 0 2 kg0_Listing dNil (dCons (dCallB tupleD (dConsB (dBov 3) dNil)) (dCons (dVar 2) dNil))) dNil))))))
  (sSeq (sSet 5 (dFrz (dLst (dCons (dVar 3) (dCons (dFrz (dLst dNil)) (dCons (dVar 3) dNil))))))
  (sSeq (sFor (iRg1 (dCons (dC (.int 3)) dNil)) (gN 6)
  (sMut gApp (pVar 1) (dCons (dTup (dCons (dBin ixD (dBov 4) (dBov 6)) (dCons (dVar 2) (dCons (dBin ixD (dBov 5) (dBov 6)) dNil)))) dNil)))
  (sSeq (sForP (pVar 1) (gT 3 (gsCons (gN 7) (gsCons (gN 8) (gsCons (gN 9) gsNil))))
  (sIf (dNotT (dTru (dDer (dCall (f__law_tells K) (dCons (dVar 7) (dCons (dVar 8) (dCons (dVar 9) dNil)))))))
  (sRet (dC (.bl false)))
  sNext))
  (sRet (dC (.bl true)))))))))
abbrev N__law_jar : List Str := ["_law_script", "_law_k", "_law_cell_here"]
def tb__law_jar (K : PySem.W.Frag) : DTS := (sSeq (sSet 2 (dIfE (dTst (dBin ltD (dBov 1) (dCallB lenD (dConsB (dBov 0) dNil)))) (dCallB absD (dConsB (dCallB intD (dConsB (dDer (dBin ixD (dBov 0) (dBov 1))) dNil)) dNil)) (dC (.int 0))))
  (sRet (dNewJ (dLst (dCons (dCallB maxD (dConsB (dC (.int 0)) (dConsB (dBin subD (dBov 2) (dBin powD (dC (.int 10)) (dC (.int 18)))) dNil))) (dCons (dBin addD (dBin modD (dCallB intD (dConsB (dBov 2) dNil)) (dBin addD (dBin powD (dC (.int 10)) (dC (.int 36))) (dC (.int 67)))) (dBin repD (dC (.int 1299709)) (dBov 1))) (dCons (dC (.int 0)) dNil)))))))
abbrev N_law : List Str := ["_law_script", "_law_held", "_law_k"]
def tb_law (K : PySem.W.Frag) : DTS := (sSeq (sSet 1 (dNewM (dLst dNil)))
  (sSeq (sFor (iRg1 (dCons (dCallB maxD (dConsB (dC (.int 1)) (dConsB (dCallB minD (dConsB (dC (.int 6)) (dConsB (dCallB lenD (dConsB (dBov 0) dNil)) dNil))) dNil))) dNil)) (gN 2)
  (sIf (dNotT (dTru (dDer (dCall (f__law_right K) (dCons (dCall (f__law_jar K) (dCons (dVar 0) (dCons (dVar 2) dNil))) (dCons (dVar 1) dNil))))))
  (sRet (dC (.bl false)))
  sNext))
  (sRet (dC (.bl true)))))
end Lk01

set_option Elab.async false
set_option linter.all false
set_option maxRecDepth 100000
set_option maxHeartbeats 4000000
set_option exponentiation.threshold 20000
namespace Lk01
open PySem PySem.Spec L2 DD
section
variable {K : PySem.W.Frag} {mg : Str → Option Value}
theorem all_bls {α : Type} (f : α → D) (p : α → Bool) : ∀ (xs : List α), (∀ x ∈ xs, f x = .bl (p x)) → blsD (xs.map f) = some (xs.map p)
  | [], _ => rfl
  | x :: r, h => by rw [List.map_cons, h x (by simp), blsD, all_bls f p r fun y hy => h y (by simp [hy])]; rfl
theorem all_of {α : Type} (f : α → D) (p : α → Bool) (xs : List α) (h : ∀ x ∈ xs, f x = .bl (p x)) : allD [.lst (xs.map f)] = some (.bl (xs.all p)) := by
  simp [allD, all_bls f p xs h, List.all_map]
def inH (ch : Str) (y : D) : D := match y with
  | .str z => (match z.cps.toList with
    | [c] => .bl (decide (c ∈ ch.cps.toList))
    | _ => .non)
  | _ => .non
theorem p_is_written (c : Fx K mg) (ds : List D) (G : DG) (Q : D → DG → Prop) (E : DX → DG → Prop) (h : f_is_written K ds G Q E) : tb_is_written K (fnEnds Q E) (dstart N_is_written ds) G := by
  obtain ⟨x, ch, l, m, rfl, hn, hm, q⟩ := h
  show tb_is_written K (fnEnds Q E) [some (.v x), some (.v (.str ch)), some (.v (.int l)), some (.v (.int m)), none] G
  unfold tb_is_written
  cases x with
  | str s =>
    have hs : s.length ≤ 16777216 := by simpa [nrm] using hn
    simp [sSeq, sSet, sSetF, sIf, sRet, sRetN, sNext, sExpr, sRaise, sRaiseF, sFldS, sFldF, exOf, dVar, dBov, dDer, dC, dBin, dBinV, dUn, dTst, dTru, dNil, dCons, dConsB, dCallB, dTup, dLst, dFrz, dAndT, dOrT, dNotT, dAndV, dOrV, dNotV, dIfE, dIsi, dChain, dSl, oNone, oSome, dStM, dStMV, isStrD, dCall, TyD, ClD, truD, lenD, addD, subD, repD, mulI, fdivD, modD, powD, negD, ltD, leD, gtD, geD, intD, absD, maxD, minD, tupleD, listD, iSeq, iRg1, iRg2, iEn, iterD, kt_NoneType_bool, kt_NoneType_int, kt_NoneType_str, kt_NoneType_tuple, kt_NoneType_list, kt_NoneType_dict, kt_bool_bool, kt_bool_int, kt_bool_str, kt_bool_tuple, kt_bool_list, kt_bool_dict, kt_int_bool, kt_int_int, kt_int_str, kt_int_tuple, kt_int_list, kt_int_dict, kt_str_bool, kt_str_int, kt_str_str, kt_str_tuple, kt_str_list, kt_str_dict, kt_tuple_bool, kt_tuple_int, kt_tuple_str, kt_tuple_tuple, kt_tuple_list, kt_tuple_dict, kt_list_bool, kt_list_int, kt_list_str, kt_list_tuple, kt_list_list, kt_list_dict, kt_dict_bool, kt_dict_int, kt_dict_str, kt_dict_tuple, kt_dict_list, kt_dict_dict, hs]
    by_cases h1 : l ≤ (s.length : Int)
    · by_cases h2 : (s.length : Int) ≤ m
      · simp [h1, h2]
        refine .inr (.inr ⟨rfl, _, rfl, _, rfl, ?_⟩)
        refine lc_pure (inH ch) _ [] (fun y hy Q' q' => ?_) (by have e : s.length = s.cps.size := rfl; simp; omega) ?_
        · obtain ⟨k, hk, rfl⟩ := List.mem_map.mp hy
          simpa [sSeq, sSet, sSetF, sIf, sRet, sRetN, sNext, sExpr, sRaise, sRaiseF, sFldS, sFldF, exOf, dVar, dBov, dDer, dC, dBin, dBinV, dUn, dTst, dTru, dNil, dCons, dConsB, dCallB, dTup, dLst, dFrz, dAndT, dOrT, dNotT, dAndV, dOrV, dNotV, dIfE, dIsi, dChain, dSl, oNone, oSome, dStM, dStMV, isStrD, dCall, TyD, ClD, truD, lenD, addD, subD, repD, mulI, fdivD, modD, powD, negD, ltD, leD, gtD, geD, intD, absD, maxD, minD, tupleD, listD, iSeq, iRg1, iRg2, iEn, iterD, inD, inS, dwipe, inH] using q'
        · refine ⟨.bl (s.cps.toList.all fun k => decide (k ∈ ch.cps.toList)), ?_, ?_⟩
          · rw [List.nil_append, List.map_map]
            exact all_of _ _ _ fun k _ => rfl
          · simpa [isWr, h1, h2] using q
      · have h3 : m < (s.length : Int) := by omega
        simp [isWr, h2] at q
        simp [h1, h2, h3]
        exact .inr q
    · have h3 : (s.length : Int) < l := by omega
      simp [isWr, h1] at q
      simp [h1, h3]
      exact q
  | ref a => cases hn
  | ty a => cases hn
  | obj a b => cases hn
  | _ =>
    simp [sSeq, sSet, sSetF, sIf, sRet, sRetN, sNext, sExpr, sRaise, sRaiseF, sFldS, sFldF, exOf, dVar, dBov, dDer, dC, dBin, dBinV, dUn, dTst, dTru, dNil, dCons, dConsB, dCallB, dTup, dLst, dFrz, dAndT, dOrT, dNotT, dAndV, dOrV, dNotV, dIfE, dIsi, dChain, dSl, oNone, oSome, dStM, dStMV, isStrD, dCall, TyD, ClD, truD, lenD, addD, subD, repD, mulI, fdivD, modD, powD, negD, ltD, leD, gtD, geD, intD, absD, maxD, minD, tupleD, listD, iSeq, iRg1, iRg2, iEn, iterD, kt_NoneType_bool, kt_NoneType_int, kt_NoneType_str, kt_NoneType_tuple, kt_NoneType_list, kt_NoneType_dict, kt_bool_bool, kt_bool_int, kt_bool_str, kt_bool_tuple, kt_bool_list, kt_bool_dict, kt_int_bool, kt_int_int, kt_int_str, kt_int_tuple, kt_int_list, kt_int_dict, kt_str_bool, kt_str_int, kt_str_str, kt_str_tuple, kt_str_list, kt_str_dict, kt_tuple_bool, kt_tuple_int, kt_tuple_str, kt_tuple_tuple, kt_tuple_list, kt_tuple_dict, kt_list_bool, kt_list_int, kt_list_str, kt_list_tuple, kt_list_list, kt_list_dict, kt_dict_bool, kt_dict_int, kt_dict_str, kt_dict_tuple, kt_dict_list, kt_dict_dict]
    exact q
theorem p_is_name (c : Fx K mg) (ds : List D) (G : DG) (Q : D → DG → Prop) (E : DX → DG → Prop) (h : f_is_name K ds G Q E) : tb_is_name K (fnEnds Q E) (dstart N_is_name ds) G := by
  obtain ⟨x, rfl, hn, q⟩ := h
  exact ⟨x, rfl, x, _, 1, 8, rfl, hn, by decide, q⟩
theorem p_is_cell (c : Fx K mg) (ds : List D) (G : DG) (Q : D → DG → Prop) (E : DX → DG → Prop) (h : f_is_cell K ds G Q E) : tb_is_cell K (fnEnds Q E) (dstart N_is_cell ds) G := by
  obtain ⟨x, rfl, hn, q⟩ := h
  exact ⟨x, rfl, x, _, 0, 20, rfl, hn, by decide, q⟩
theorem p_is_row (c : Fx K mg) (ds : List D) (G : DG) (Q : D → DG → Prop) (E : DX → DG → Prop) (h : f_is_row K ds G Q E) : tb_is_row K (fnEnds Q E) (dstart N_is_row ds) G := by
  obtain ⟨cs, x, rfl, hn, q⟩ := h
  show tb_is_row K (fnEnds Q E) [some (.v (.tup cs)), some (.v x), none] G
  unfold tb_is_row
  cases x with
  | tup xs =>
    simp [nrmL, nrm] at hn
    obtain ⟨hz, hx⟩ := hn
    simp [sSeq, sSet, sSetF, sIf, sRet, sRetN, sNext, sExpr, sRaise, sRaiseF, sFldS, sFldF, exOf, dVar, dBov, dDer, dC, dBin, dBinV, dUn, dTst, dTru, dNil, dCons, dConsB, dCallB, dTup, dLst, dFrz, dAndT, dOrT, dNotT, dAndV, dOrV, dNotV, dIfE, dIsi, dChain, dSl, oNone, oSome, dStM, dStMV, isStrD, dCall, TyD, ClD, truD, lenD, addD, subD, repD, mulI, fdivD, modD, powD, negD, ltD, leD, gtD, geD, intD, absD, maxD, minD, tupleD, listD, iSeq, iRg1, iRg2, iEn, iterD, kt_NoneType_bool, kt_NoneType_int, kt_NoneType_str, kt_NoneType_tuple, kt_NoneType_list, kt_NoneType_dict, kt_bool_bool, kt_bool_int, kt_bool_str, kt_bool_tuple, kt_bool_list, kt_bool_dict, kt_int_bool, kt_int_int, kt_int_str, kt_int_tuple, kt_int_list, kt_int_dict, kt_str_bool, kt_str_int, kt_str_str, kt_str_tuple, kt_str_list, kt_str_dict, kt_tuple_bool, kt_tuple_int, kt_tuple_str, kt_tuple_tuple, kt_tuple_list, kt_tuple_dict, kt_list_bool, kt_list_int, kt_list_str, kt_list_tuple, kt_list_list, kt_list_dict, kt_dict_bool, kt_dict_int, kt_dict_str, kt_dict_tuple, kt_dict_list, kt_dict_dict, eqD, pl, beq]
    by_cases h1 : xs.length = cs.length
    · simp [h1]
      refine ⟨rfl, _, rfl, _, rfl, ?_⟩
      refine lc_pure (fun y => .bl (isCell y)) _ [] (fun y hy Q' q' => ?_) (by simpa using hz) ?_
      · exact ⟨y, rfl, y, rfl, hx y hy, q'⟩
      · refine ⟨.bl (xs.all isCell), ?_, ?_⟩
        · rw [List.nil_append]
          exact all_of _ _ _ fun k _ => rfl
        · simpa [isRow, h1] using q
    · have h2 : ¬ ((xs.length : Int) = (cs.length : Int)) := by omega
      simp [h2]
      simpa [isRow, h1] using q
  | ref a => cases hn
  | ty a => cases hn
  | obj a b => cases hn
  | _ =>
    simp [sSeq, sSet, sSetF, sIf, sRet, sRetN, sNext, sExpr, sRaise, sRaiseF, sFldS, sFldF, exOf, dVar, dBov, dDer, dC, dBin, dBinV, dUn, dTst, dTru, dNil, dCons, dConsB, dCallB, dTup, dLst, dFrz, dAndT, dOrT, dNotT, dAndV, dOrV, dNotV, dIfE, dIsi, dChain, dSl, oNone, oSome, dStM, dStMV, isStrD, dCall, TyD, ClD, truD, lenD, addD, subD, repD, mulI, fdivD, modD, powD, negD, ltD, leD, gtD, geD, intD, absD, maxD, minD, tupleD, listD, iSeq, iRg1, iRg2, iEn, iterD, kt_NoneType_bool, kt_NoneType_int, kt_NoneType_str, kt_NoneType_tuple, kt_NoneType_list, kt_NoneType_dict, kt_bool_bool, kt_bool_int, kt_bool_str, kt_bool_tuple, kt_bool_list, kt_bool_dict, kt_int_bool, kt_int_int, kt_int_str, kt_int_tuple, kt_int_list, kt_int_dict, kt_str_bool, kt_str_int, kt_str_str, kt_str_tuple, kt_str_list, kt_str_dict, kt_tuple_bool, kt_tuple_int, kt_tuple_str, kt_tuple_tuple, kt_tuple_list, kt_tuple_dict, kt_list_bool, kt_list_int, kt_list_str, kt_list_tuple, kt_list_list, kt_list_dict, kt_dict_bool, kt_dict_int, kt_dict_str, kt_dict_tuple, kt_dict_list, kt_dict_dict]
    exact q
theorem p_is_whole (c : Fx K mg) (ds : List D) (G : DG) (Q : D → DG → Prop) (E : DX → DG → Prop) (h : f_is_whole K ds G Q E) : tb_is_whole K (fnEnds Q E) (dstart N_is_whole ds) G := by
  obtain ⟨x, rfl, hn, q⟩ := h
  show tb_is_whole K (fnEnds Q E) [some (.v x)] G
  unfold tb_is_whole
  cases x with
  | ref a => cases hn
  | ty a => cases hn
  | obj a b => cases hn
  | _ =>
    simp [sSeq, sSet, sSetF, sIf, sRet, sRetN, sNext, sExpr, sRaise, sRaiseF, sFldS, sFldF, exOf, dVar, dBov, dDer, dC, dBin, dBinV, dUn, dTst, dTru, dNil, dCons, dConsB, dCallB, dTup, dLst, dFrz, dAndT, dOrT, dNotT, dAndV, dOrV, dNotV, dIfE, dIsi, dChain, dSl, oNone, oSome, dStM, dStMV, isStrD, dCall, TyD, ClD, truD, lenD, addD, subD, repD, mulI, fdivD, modD, powD, negD, ltD, leD, gtD, geD, intD, absD, maxD, minD, tupleD, listD, iSeq, iRg1, iRg2, iEn, iterD, kt_NoneType_bool, kt_NoneType_int, kt_NoneType_str, kt_NoneType_tuple, kt_NoneType_list, kt_NoneType_dict, kt_bool_bool, kt_bool_int, kt_bool_str, kt_bool_tuple, kt_bool_list, kt_bool_dict, kt_int_bool, kt_int_int, kt_int_str, kt_int_tuple, kt_int_list, kt_int_dict, kt_str_bool, kt_str_int, kt_str_str, kt_str_tuple, kt_str_list, kt_str_dict, kt_tuple_bool, kt_tuple_int, kt_tuple_str, kt_tuple_tuple, kt_tuple_list, kt_tuple_dict, kt_list_bool, kt_list_int, kt_list_str, kt_list_tuple, kt_list_list, kt_list_dict, kt_dict_bool, kt_dict_int, kt_dict_str, kt_dict_tuple, kt_dict_list, kt_dict_dict]
    exact q
theorem strs_names : ∀ {xs : List D}, xs.all isName = true → ∃ zs, strsD xs = some zs
  | [], _ => ⟨[], rfl⟩
  | x :: r, h => by
    rw [List.all_cons, Bool.and_eq_true] at h
    obtain ⟨zs, e⟩ := strs_names h.2
    cases x with
    | str s => exact ⟨s :: zs, by simp [strsD, e]⟩
    | _ => exact absurd h.1 (by simp [isName, isWr])
theorem p_are_columns (c : Fx K mg) (ds : List D) (G : DG) (Q : D → DG → Prop) (E : DX → DG → Prop) (h : f_are_columns K ds G Q E) : tb_are_columns K (fnEnds Q E) (dstart N_are_columns ds) G := by
  obtain ⟨x, rfl, hn, q⟩ := h
  show tb_are_columns K (fnEnds Q E) [some (.v x), none] G
  unfold tb_are_columns
  cases x with
  | tup xs =>
    simp [nrmL, nrm] at hn
    obtain ⟨hz, hx⟩ := hn
    simp [sSeq, sSet, sSetF, sIf, sRet, sRetN, sNext, sExpr, sRaise, sRaiseF, sFldS, sFldF, exOf, dVar, dBov, dDer, dC, dBin, dBinV, dUn, dTst, dTru, dNil, dCons, dConsB, dCallB, dTup, dLst, dFrz, dAndT, dOrT, dNotT, dAndV, dOrV, dNotV, dIfE, dIsi, dChain, dSl, oNone, oSome, dStM, dStMV, isStrD, dCall, TyD, ClD, truD, lenD, addD, subD, repD, mulI, fdivD, modD, powD, negD, ltD, leD, gtD, geD, intD, absD, maxD, minD, tupleD, listD, iSeq, iRg1, iRg2, iEn, iterD, kt_NoneType_bool, kt_NoneType_int, kt_NoneType_str, kt_NoneType_tuple, kt_NoneType_list, kt_NoneType_dict, kt_bool_bool, kt_bool_int, kt_bool_str, kt_bool_tuple, kt_bool_list, kt_bool_dict, kt_int_bool, kt_int_int, kt_int_str, kt_int_tuple, kt_int_list, kt_int_dict, kt_str_bool, kt_str_int, kt_str_str, kt_str_tuple, kt_str_list, kt_str_dict, kt_tuple_bool, kt_tuple_int, kt_tuple_str, kt_tuple_tuple, kt_tuple_list, kt_tuple_dict, kt_list_bool, kt_list_int, kt_list_str, kt_list_tuple, kt_list_list, kt_list_dict, kt_dict_bool, kt_dict_int, kt_dict_str, kt_dict_tuple, kt_dict_list, kt_dict_dict, eqD, pl, beq]
    by_cases h1 : 1 ≤ xs.length
    · by_cases h2 : xs.length ≤ 5
      · have h1' : (1 : Int) ≤ (xs.length : Int) := by omega
        have h2' : (xs.length : Int) ≤ 5 := by omega
        have h3 : ¬ (5 : Int) < (xs.length : Int) := by omega
        have h4 : ¬ (xs.length : Int) < 1 := by omega
        simp [h1', h2', h3, h4]
        refine ⟨rfl, _, rfl, _, rfl, ?_⟩
        refine lc_pure (fun y => .bl (isName y)) _ [] (fun y hy Q' q' => ?_) (by simpa using hz) ?_
        · exact ⟨y, rfl, y, rfl, hx y hy, q'⟩
        · refine ⟨.bl (xs.all isName), ?_, ?_⟩
          · rw [List.nil_append]
            exact all_of _ _ _ fun k _ => rfl
          · cases ha : xs.all isName with
            | false =>
              simp [areCols, ha] at q
              exact .inl ⟨rfl, q⟩
            | true =>
              refine .inr ⟨rfl, ?_⟩
              obtain ⟨zs, hs⟩ := strs_names ha
              simp [areCols, ha, hs, h1, h2] at q
              simp [dLenSet, dBov, dDer, dVar, hs]
              refine ⟨by omega, ?_⟩
              have e : ((DDs.metAll zs).length == xs.length) = (((DDs.metAll zs).length : Int) == (xs.length : Int)) := by
                rw [Bool.eq_iff_iff]; simp; omega
              refine ⟨_, ⟨rfl, rfl⟩, ?_⟩
              simp only [beq, ← e]
              have e2 : (decide ((DDs.metAll zs).length = xs.length)) = ((DDs.metAll zs).length == xs.length) := by
                rw [Bool.eq_iff_iff]; simp
              rw [← e2]
              exact q
      · have h3 : (5 : Int) < (xs.length : Int) := by omega
        have h1' : ¬ (xs.length : Int) < 1 := by omega
        have h2' : ¬ (xs.length : Int) ≤ 5 := by omega
        simp [areCols, h2] at q
        simp [h3, h1', h2']
        exact ⟨by omega, q⟩
    · have h3 : (xs.length : Int) < 1 := by omega
      simp [areCols, h1] at q
      simp [h3]
      exact .inl q
  | ref a => cases hn
  | ty a => cases hn
  | obj a b => cases hn
  | _ =>
    simp [sSeq, sSet, sSetF, sIf, sRet, sRetN, sNext, sExpr, sRaise, sRaiseF, sFldS, sFldF, exOf, dVar, dBov, dDer, dC, dBin, dBinV, dUn, dTst, dTru, dNil, dCons, dConsB, dCallB, dTup, dLst, dFrz, dAndT, dOrT, dNotT, dAndV, dOrV, dNotV, dIfE, dIsi, dChain, dSl, oNone, oSome, dStM, dStMV, isStrD, dCall, TyD, ClD, truD, lenD, addD, subD, repD, mulI, fdivD, modD, powD, negD, ltD, leD, gtD, geD, intD, absD, maxD, minD, tupleD, listD, iSeq, iRg1, iRg2, iEn, iterD, kt_NoneType_bool, kt_NoneType_int, kt_NoneType_str, kt_NoneType_tuple, kt_NoneType_list, kt_NoneType_dict, kt_bool_bool, kt_bool_int, kt_bool_str, kt_bool_tuple, kt_bool_list, kt_bool_dict, kt_int_bool, kt_int_int, kt_int_str, kt_int_tuple, kt_int_list, kt_int_dict, kt_str_bool, kt_str_int, kt_str_str, kt_str_tuple, kt_str_list, kt_str_dict, kt_tuple_bool, kt_tuple_int, kt_tuple_str, kt_tuple_tuple, kt_tuple_list, kt_tuple_dict, kt_list_bool, kt_list_int, kt_list_str, kt_list_tuple, kt_list_list, kt_list_dict, kt_dict_bool, kt_dict_int, kt_dict_str, kt_dict_tuple, kt_dict_list, kt_dict_dict]
    exact q
theorem lk_lines {cs : D} {l : Addr} {rs : List D} : ([("heads", .v cs), ("lines", .own l rs)] : List (Str × FV)).lookup ("lines" : Str) = some (FV.own l rs) := by rfl
theorem lk_heads {cs : D} {l : Addr} {rs : List D} : ([("heads", .v cs), ("lines", .own l rs)] : List (Str × FV)).lookup ("heads" : Str) = some (FV.v cs) := by rfl
theorem fb_lines {G : DG} {a l : Addr} {cs : D} {rs : List D} (ga : G a = some (lsO K cs l rs)) : FldB (He.ga K "Listing") "lines" G (.ref a) (.lst rs) := ⟨_, _, ga, lk_lines, rfl⟩
theorem fb_heads {G : DG} {a l : Addr} {cs : D} {rs : List D} (ga : G a = some (lsO K cs l rs)) : FldB (He.ga K "Listing") "heads" G (.ref a) cs := ⟨_, _, ga, lk_heads, rfl⟩
theorem fv_heads {G : DG} {a l : Addr} {cs : D} {rs : List D} (ga : G a = some (lsO K cs l rs)) : FldV (He.ga K "Listing") "heads" G (.ref a) cs := ⟨_, ga, lk_heads⟩
theorem is_ls {G : DG} {a l : Addr} {cs : D} {rs : List D} {m : Str} (ga : G a = some (lsO K cs l rs)) (h : ([("heads", .v cs), ("lines", .own l rs)] : List (Str × FV)).lookup m = none) : IsIns (He.ga K "Listing") m G (.ref a) := ⟨_, ga, h⟩
theorem p_Listing_rows (c : Fx K mg) (ds : List D) (G : DG) (Q : D → DG → Prop) (E : DX → DG → Prop) (h : f_Listing_rows K ds G Q E) : tb_Listing_rows K (fnEnds Q E) (dstart N_Listing_rows ds) G := by
  obtain ⟨a, cs, l, rs, rfl, ga, q⟩ := h
  exact ⟨.ref a, rfl, .lst rs, fb_lines ga, rs, .inl rfl, fun b hb => q b hb⟩
theorem p_Listing___len__ (c : Fx K mg) (ds : List D) (G : DG) (Q : D → DG → Prop) (E : DX → DG → Prop) (h : f_Listing___len__ K ds G Q E) : tb_Listing___len__ K (fnEnds Q E) (dstart N_Listing___len__ ds) G := by
  obtain ⟨a, cs, l, rs, rfl, ga, q⟩ := h
  exact ⟨.ref a, rfl, .lst rs, fb_lines ga, rfl, _, rfl, q⟩
theorem p_Listing_columns (c : Fx K mg) (ds : List D) (G : DG) (Q : D → DG → Prop) (E : DX → DG → Prop) (h : f_Listing_columns K ds G Q E) : tb_Listing_columns K (fnEnds Q E) (dstart N_Listing_columns ds) G := by
  obtain ⟨a, cs, l, rs, rfl, ga, q⟩ := h
  exact ⟨.ref a, rfl, cs, fv_heads ga, q⟩
theorem p_Listing_has (c : Fx K mg) (ds : List D) (G : DG) (Q : D → DG → Prop) (E : DX → DG → Prop) (h : f_Listing_has K ds G Q E) : tb_Listing_has K (fnEnds Q E) (dstart N_Listing_has ds) G := by
  obtain ⟨a, cs, l, rs, x, rfl, hn, ga, q⟩ := h
  show tb_Listing_has K (fnEnds Q E) [some (.v (.ref a)), some (.v x)] G
  refine ⟨x, rfl, x, rfl, hn, isWhole x, rfl, ?_⟩
  cases x with
  | int i =>
    show dChain leD ltD (dC (D.int 0)) (dBov 1) (dCallB lenD (dConsB (dFldB (He.ga K "Listing") "lines" (dVar 0)) dNil)) [some (.v (.ref a)), some (.v (.int i))] G (fun x G1 => (fnEnds Q E).rt x G1) _
    unfold dChain dC
    refine bov_nrm (x := .int i) rfl rfl ?_
    refine ⟨rfl, decide (0 ≤ i), rfl, ?_⟩
    by_cases h0 : 0 ≤ i
    · simp only [h0, decide_true, if_true]
      refine ⟨.ref a, rfl, .lst rs, fb_lines ga, rfl, _, rfl, rfl, _, rfl, ?_⟩
      simpa [hasIx, h0] using q
    · simp only [h0, decide_false, Bool.false_eq_true, if_false]
      simpa [hasIx, h0] using q
  | _ => exact q
theorem p_Listing___getitem__ (c : Fx K mg) (ds : List D) (G : DG) (Q : D → DG → Prop) (E : DX → DG → Prop) (h : f_Listing___getitem__ K ds G Q E) : tb_Listing___getitem__ K (fnEnds Q E) (dstart N_Listing___getitem__ ds) G := by
  obtain ⟨a, cs, l, rs, x, rfl, hn, ga, q⟩ := h
  show tb_Listing___getitem__ K (fnEnds Q E) [some (.v (.ref a)), some (.v x)] G
  refine ⟨.ref a, rfl, is_ls ga rfl, x, rfl, a, cs, l, rs, x, rfl, hn, ga, ?_⟩
  refine .inr ⟨fun a ds e => (nomatch e), ?_⟩
  refine ⟨hasIx x rs.length, rfl, ?_⟩
  cases x with
  | int i =>
    by_cases h0 : 0 ≤ i ∧ i < (rs.length : Int)
    · simp only [h0, and_self, if_true] at q
      obtain ⟨r, hr, q⟩ := q
      have e : hasIx (.int i) rs.length = true := by simp [hasIx, h0.1, h0.2]
      simp only [e, Bool.not_true, Bool.false_eq_true, if_false]
      refine ⟨.ref a, rfl, .lst rs, fb_lines ga, ?_⟩
      refine bov_nrm (x := .int i) rfl rfl ?_
      refine ⟨rfl, r, ?_, q⟩
      simp [ixD, atI, ixN, h0.1, h0.2]
      exact (List.getElem?_eq_some_iff.mp hr).2
    · simp only [h0, if_false] at q
      have e : hasIx (.int i) rs.length = false := by
        simp only [hasIx, Bool.and_eq_false_iff, decide_eq_false_iff_not]
        by_cases z : 0 ≤ i
        · exact .inr fun y => h0 ⟨z, y⟩
        · exact .inl z
      simp only [e, Bool.not_false, if_true]
      exact ⟨.int i, rfl, q⟩
  | ref b => cases hn
  | ty b => cases hn
  | obj b d => cases hn
  | _ => exact ⟨_, rfl, q⟩
theorem cols_tup {cs : D} (h : areCols cs = true) : ∃ xs, cs = .tup xs := by
  cases cs with
  | tup xs => exact ⟨xs, rfl⟩
  | _ => cases h
abbrev ibody (K : PySem.W.Frag) : DTS := sIf (dNotT (dTru (dDer (dCall (f_is_row K) (dCons (dVar 1) (dCons (dVar 4) dNil)))))) (sRaiseF (He.ga K "NoRow") "index" (dVar 3)) sNext
abbrev itg : DTG := gT 2 (gsCons (gN 3) (gsCons (gN 4) gsNil))
theorem init_loop (N : DEnds) (G : DG) (s0 s2 : Option SV) (cs : List D) : ∀ (rs : List D) (i : Nat) (s3 s4 : Option SV), rs.all nrmL = true →
    (match firstBad (.tup cs) i rs with
      | some j => ∀ δ, N.ex ⟨He.ga K "NoRow", some [("index", .int (j : Nat))]⟩ δ G
      | none => ∀ t3 t4, N.nx [s0, some (.v (.tup cs)), s2, t3, t4] G) → forL itg (ibody K) N (numD i rs) [s0, some (.v (.tup cs)), s2, s3, s4] G
  | [], i, s3, s4, _, q => q s3 s4
  | r :: rs, i, s3, s4, hn, q => by
    rw [List.all_cons, Bool.and_eq_true] at hn
    refine ⟨[.int (i : Nat), r], rfl, rfl, .int (i : Nat), [r], rfl, r, [], rfl, rfl, ?_⟩
    refine ⟨.tup cs, rfl, r, rfl, cs, r, rfl, hn.1, ?_⟩
    refine .inr ⟨fun a ds e => (nomatch e), ?_⟩
    refine ⟨isRow (.tup cs) r, rfl, ?_⟩
    unfold firstBad at q
    cases hb : isRow (.tup cs) r with
    | true =>
      rw [hb] at q
      exact init_loop N G s0 s2 cs rs (i + 1) _ _ hn.2 q
    | false =>
      rw [hb] at q
      exact ⟨.int (i : Nat), rfl, q _⟩
theorem p_Listing___init__ (c : Fx K mg) (ds : List D) (G : DG) (Q : D → DG → Prop) (E : DX → DG → Prop) (h : f_Listing___init__ K ds G Q E) : tb_Listing___init__ K (fnEnds Q E) (dstart N_Listing___init__ ds) G := by
  obtain ⟨a, cs, rows, rfl, ga, hn, hr, q⟩ := h
  show tb_Listing___init__ K (fnEnds Q E) [some (.v (.ref a)), some (.v cs), some (.v rows), none, none] G
  refine ⟨cs, rfl, cs, rfl, hn, ?_⟩
  refine .inr ⟨fun a ds e => (nomatch e), ?_⟩
  refine ⟨areCols cs, rfl, ?_⟩
  cases hc : areCols cs with
  | false =>
    rw [hc] at q
    exact q
  | true =>
    rw [hc] at q
    simp only [if_true] at q
    obtain ⟨xs, rfl⟩ := cols_tup hc
    simp only [Bool.not_true, Bool.false_eq_true, if_false]
    cases rows with
    | tup rs =>
      simp only [nrmR, nrm, Bool.true_and, Bool.and_eq_true, decide_eq_true_eq] at hr
      simp only [sNext, sSeq, sIf, dNotT, dTru, dIsi]
      refine bov_nrm (x := .tup rs) rfl rfl ?_
      refine ⟨rfl, _, _, true, rfl, rfl, kt_tuple_tuple, true, rfl, ?_⟩
      refine ⟨.tup rs, rfl, rs, .inr rfl, ?_⟩
      refine init_loop _ G _ _ xs rs 0 none none hr.2 ?_
      cases hb : firstBad (.tup xs) 0 rs with
      | some j =>
        simp only [hb] at q
        exact fun _ => q
      | none =>
        simp only [hb] at q
        intro t3 t4
        refine ⟨.tup xs, rfl, .ref a, rfl, a, [], rfl, ga, by decide, ?_⟩
        simp only [sFldF, dLstOf]
        refine bov_nrm (x := .tup rs) rfl rfl ?_
        refine ⟨rs, .inr rfl, a, _, rfl, gset_same, (by show 1 < 900; decide), fun l => ?_⟩
        have e := q l
        rw [gset_gset]
        exact e
    | ref b => cases hr
    | ty b => cases hr
    | obj b d => cases hr
    | _ =>
      simp only [nrmR, Bool.and_true] at hr
      simp only [sNext, sSeq, sIf, dNotT, dTru, dIsi]
      refine bov_nrm rfl hr ?_
      simp [sSeq, sSet, sSetF, sIf, sRet, sRetN, sNext, sExpr, sRaise, sRaiseF, sFldS, sFldF, exOf, dVar, dBov, dDer, dC, dBin, dBinV, dUn, dTst, dTru, dNil, dCons, dConsB, dCallB, dTup, dLst, dFrz, dAndT, dOrT, dNotT, dAndV, dOrV, dNotV, dIfE, dIsi, dChain, dSl, oNone, oSome, dStM, dStMV, isStrD, dCall, TyD, ClD, truD, lenD, addD, subD, repD, mulI, fdivD, modD, powD, negD, ltD, leD, gtD, geD, intD, absD, maxD, minD, tupleD, listD, iSeq, iRg1, iRg2, iEn, iterD, kt_NoneType_bool, kt_NoneType_int, kt_NoneType_str, kt_NoneType_tuple, kt_NoneType_list, kt_NoneType_dict, kt_bool_bool, kt_bool_int, kt_bool_str, kt_bool_tuple, kt_bool_list, kt_bool_dict, kt_int_bool, kt_int_int, kt_int_str, kt_int_tuple, kt_int_list, kt_int_dict, kt_str_bool, kt_str_int, kt_str_str, kt_str_tuple, kt_str_list, kt_str_dict, kt_tuple_bool, kt_tuple_int, kt_tuple_str, kt_tuple_tuple, kt_tuple_list, kt_tuple_dict, kt_list_bool, kt_list_int, kt_list_str, kt_list_tuple, kt_list_list, kt_list_dict, kt_dict_bool, kt_dict_int, kt_dict_str, kt_dict_tuple, kt_dict_list, kt_dict_dict]
      exact q
theorem log_lt {i : Int} {n : Nat} (h0 : 0 ≤ i) (h : i < 2 ^ n) (hn : n ≠ 0) : i.natAbs.log2 < n := by
  by_cases z : i.natAbs = 0
  · rw [z]; simp; omega
  · rw [Nat.log2_lt z]
    have e : (i.natAbs : Int) = i := Int.natAbs_of_nonneg h0
    have : (i.natAbs : Int) < ((2 ^ n : Nat) : Int) := by rw [e]; push_cast; exact h
    exact Int.ofNat_lt.mp this
theorem pow_ok {b : Int} {e : Int} (h0 : 2 ≤ b) (h1 : b < 2 ^ 1000) (he : 1 ≤ e ∧ e ≤ 1000) : powD (.int b) (.int e) = some (.int (b ^ e.toNat)) := by
  have l : b.natAbs.log2 < 1000 := log_lt (by omega) h1 (by decide)
  exact if_pos ⟨he.1, he.2, Nat.lt_trans l (by decide), h0⟩
theorem mul_ok {b e : Int} (h0 : 0 ≤ b) (h1 : b < 2 ^ 1000) (h2 : 0 ≤ e) (h3 : e < 2 ^ 1000) : repD (.int b) (.int e) = some (.int (b * e)) := by
  have l1 : b.natAbs.log2 < 1000 := log_lt h0 h1 (by decide)
  have l2 : e.natAbs.log2 < 1000 := log_lt h2 h3 (by decide)
  have l3 : b.natAbs.log2 + e.natAbs.log2 < 1000000 := by omega
  exact if_pos l3
theorem mod_ok {b e : Int} (h : 0 < e) : modD (.int b) (.int e) = some (.int (b % e)) := by
  exact if_pos h
theorem fdiv_ok {b e : Int} (h : 0 < e) (h1 : e < 2 ^ 1000) : fdivD (.int b) (.int e) = some (.int (b / e)) := by
  have l : e.natAbs.log2 < 1000 := log_lt (by omega) h1 (by decide)
  exact if_pos ⟨h, Nat.lt_trans l (by decide)⟩
theorem p__law_draw (c : Fx K mg) (ds : List D) (G : DG) (Q : D → DG → Prop) (E : DX → DG → Prop) (h : fDrawM ds G Q E) : tb__law_draw K (fnEnds Q E) (dstart N__law_draw ds) G := by
  obtain ⟨a, m, i, j, k, rfl, ga, ok, hk, h0, h1, q⟩ := h
  obtain ⟨o1, o2, o3, o4⟩ := ok
  show tb__law_draw K (fnEnds Q E) [some (.v (.ref a)), some (.v (.int m)), none, none] G
  unfold tb__law_draw
  have rj : ∀ (t v : Int) (xs : List D), atI xs t = some (.int v) → ∀ (r : DSt) (G : DG) (Q : D → DG → Prop) (E : DX → DG → Prop), G a = some (.mls xs) → Q (.int v) G → dDer (dBin ixD (dBov 0) (dC (.int t))) (some (.v (.ref a)) :: r) G Q E := fun t v xs hv r G Q E ga q => by
    simp only [dDer, dBin, dC]
    exact bov_mls (a := a) (ds := xs) rfl ga ⟨trivial, .int v, hv, .inr ⟨fun _ _ e => (nomatch e), q⟩⟩
  obtain ⟨j0, e0, r0⟩ : ∃ J : DTE, J = dDer (dBin ixD (dBov 0) (dC (.int 0))) ∧ ∀ (x y z : Int) (r : DSt) (G : DG) (Q : D → DG → Prop) (E : DX → DG → Prop), G a = some (.mls [.int x, .int y, .int z]) → Q (.int x) G → J (some (.v (.ref a)) :: r) G Q E := ⟨_, rfl, fun x y z => rj 0 x [.int x, .int y, .int z] rfl⟩
  obtain ⟨j1, e1, r1⟩ : ∃ J : DTE, J = dDer (dBin ixD (dBov 0) (dC (.int 1))) ∧ ∀ (x y z : Int) (r : DSt) (G : DG) (Q : D → DG → Prop) (E : DX → DG → Prop), G a = some (.mls [.int x, .int y, .int z]) → Q (.int y) G → J (some (.v (.ref a)) :: r) G Q E := ⟨_, rfl, fun x y z => rj 1 y [.int x, .int y, .int z] rfl⟩
  obtain ⟨j2, e2, r2⟩ : ∃ J : DTE, J = dDer (dBin ixD (dBov 0) (dC (.int 2))) ∧ ∀ (x y z : Int) (r : DSt) (G : DG) (Q : D → DG → Prop) (E : DX → DG → Prop), G a = some (.mls [.int x, .int y, .int z]) → Q (.int z) G → J (some (.v (.ref a)) :: r) G Q E := ⟨_, rfl, fun x y z => rj 2 z [.int x, .int y, .int z] rfl⟩
  obtain ⟨b1, eb1, rb1⟩ : ∃ J : DTE, J = dBov 1 ∧ ∀ (s0 : Option SV) (x : Int) (r : DSt) (G : DG) (Q : D → DG → Prop) (E : DX → DG → Prop), Q (.int x) G → J (s0 :: some (.v (.int x)) :: r) G Q E := ⟨_, rfl, fun s0 x r G Q E q => bov_nrm (x := .int x) rfl rfl q⟩
  obtain ⟨b3, eb3, rb3⟩ : ∃ J : DTE, J = dBov 3 ∧ ∀ (s0 s1 s2 : Option SV) (x : Int) (r : DSt) (G : DG) (Q : D → DG → Prop) (E : DX → DG → Prop), Q (.int x) G → J (s0 :: s1 :: s2 :: some (.v (.int x)) :: r) G Q E := ⟨_, rfl, fun s0 s1 s2 x r G Q E q => bov_nrm (x := .int x) rfl rfl q⟩
  rw [← e0, ← e1, ← e2, ← eb1, ← eb3]
  have pl0 : ∀ {G' : DG} {x y z : Int}, G' a = some (.mls [.int x, .int y, .int z]) → ∃ ds, (Pl.mls a).rd [] G' ds := fun h => ⟨_, h⟩
  refine r0 i j k _ _ _ _ ga ?_
  refine ⟨rfl, _, rfl, _, rfl, ?_⟩
  by_cases hi : 0 < i
  · simp only [hi, decide_true, if_true]
    refine r0 i j k _ _ _ _ ga ?_
    refine ⟨rfl, .int i, rfl, ?_⟩
    refine rb1 _ _ _ _ _ _ ?_
    refine ⟨rfl, _, mod_ok h0, ?_⟩
    refine r0 i j k _ _ _ _ ga ?_
    refine rb1 _ _ _ _ _ _ ?_
    refine ⟨rfl, _, fdiv_ok h0 (Int.lt_trans h1 (by decide)), ?_⟩
    refine .inr ⟨a, _, rfl, ga, ?_⟩
    refine ⟨0, _, 0, rfl, ga, rfl, ?_⟩
    rintro δ' G' ⟨rfl, rfl⟩
    refine ⟨.int (i % m), rfl, ?_⟩
    exact q _ _ _ _ (Int.emod_nonneg _ (by omega)) (Int.emod_lt_of_pos _ h0) ⟨Int.ediv_nonneg o1 (by omega), o2, o3, o4⟩ (by omega)
  · simp only [hi, decide_false, Bool.false_eq_true, if_false]
    refine r2 i j k _ _ _ _ ga ?_
    refine ⟨rfl, _, rfl, ?_⟩
    refine .inr ⟨a, _, rfl, ga, ?_⟩
    refine ⟨2, _, 2, rfl, ga, rfl, ?_⟩
    rintro δ' G' ⟨rfl, rfl⟩
    have gb : (gset G a (some (.mls [.int i, .int j, .int (k + 1)]))) a = some (.mls [.int i, .int j, .int (k + 1)]) := gset_same
    have bd : ∀ {x y : Int}, 0 ≤ x → x < 2 ^ 200 → 0 ≤ y → y < 2 ^ 64 → 0 ≤ x + 32452867 * y ∧ x + 32452867 * y < 2 ^ 1000 := fun h1 h2 h3 h4 => by
      have e1 : (2 : Int) ^ 1000 = 2 ^ 200 * 2 ^ 800 := by decide
      have e2 : (2 : Int) ^ 200 + 32452867 * 2 ^ 64 < 2 ^ 200 * 2 ^ 800 := by decide
      omega
    have k0 : (0 : Int) ≤ k + 1 := by omega
    have k1 : k + 1 < 2 ^ 65 := by omega
    have k2 : k + 1 < 2 ^ 1000 := Int.lt_trans k1 (by decide)
    have m1 : repD (.int 15485867) (.int (k + 1)) = some (.int (15485867 * (k + 1))) := mul_ok (by decide) (by decide) k0 k2
    have hb0 : (2 : Int) ≤ j + 15485867 * (k + 1) := by omega
    have hb1 : j + 15485867 * (k + 1) < 2 ^ 1000 := by
      have e2 : (10 : Int) ^ 36 + 67 + 1299709 * 64 + 15485867 * 2 ^ 65 < 2 ^ 1000 := by decide
      omega
    have p1 : powD (.int (j + 15485867 * (k + 1))) (.int 4) = some (.int ((j + 15485867 * (k + 1)) ^ 4)) := pow_ok hb0 hb1 (by decide)
    have m2 : repD (.int 3) (.int (k + 1)) = some (.int (3 * (k + 1))) := mul_ok (by decide) (by decide) k0 k2
    have p2 : powD (.int 10) (.int 42) = some (.int (10 ^ 42)) := pow_ok (by decide) (by decide) (by decide)
    have p3 : powD (.int 10) (.int 40) = some (.int (10 ^ 40)) := pow_ok (by decide) (by decide) (by decide)
    have p4 : powD (.int 10) (.int 6) = some (.int (10 ^ 6)) := pow_ok (by decide) (by decide) (by decide)
    refine r1 i j (k + 1) _ _ _ _ gb ?_
    refine r2 i j (k + 1) _ _ _ _ gb ?_
    refine ⟨rfl, _, m1, ?_⟩
    refine ⟨rfl, _, rfl, ?_⟩
    refine ⟨rfl, _, p1, ?_⟩
    refine r2 i j (k + 1) _ _ _ _ gb ?_
    refine ⟨rfl, _, m2, ?_⟩
    refine ⟨rfl, _, rfl, ?_⟩
    refine ⟨rfl, _, rfl, ?_⟩
    refine ⟨rfl, _, p2, ?_⟩
    refine ⟨rfl, _, rfl, ?_⟩
    refine ⟨rfl, _, mod_ok (by decide), ?_⟩
    generalize hst : ((j + 15485867 * (k + 1)) ^ 4 + 3 * (k + 1)) % (10 ^ 42 + 63) = st
    have s0 : 0 ≤ st := by rw [← hst]; exact Int.emod_nonneg _ (by decide)
    have s1 : st < 10 ^ 42 + 63 := by rw [← hst]; exact Int.emod_lt_of_pos _ (by decide)
    have m3 : repD (.int 32452867) (.int (k + 1)) = some (.int (32452867 * (k + 1))) := mul_ok (by decide) (by decide) k0 k2
    have p5 : powD (.int (st + 32452867 * (k + 1))) (.int 3) = some (.int ((st + 32452867 * (k + 1)) ^ 3)) := pow_ok (by omega) (by
      have e2 : (10 : Int) ^ 42 + 63 + 32452867 * 2 ^ 65 < 2 ^ 1000 := by decide
      omega) (by decide)
    refine rb3 _ _ _ st _ _ _ _ ?_
    refine r2 i j (k + 1) _ _ _ _ gb ?_
    refine ⟨rfl, _, m3, ?_⟩
    refine ⟨rfl, _, rfl, ?_⟩
    refine ⟨rfl, _, p5, ?_⟩
    refine ⟨rfl, _, rfl, ?_⟩
    refine ⟨rfl, _, p3, ?_⟩
    refine ⟨rfl, _, rfl, ?_⟩
    refine ⟨rfl, _, mod_ok (by decide), ?_⟩
    refine rb3 _ _ _ _ _ _ _ _ ?_
    refine ⟨rfl, _, p4, ?_⟩
    refine ⟨rfl, _, fdiv_ok (by decide) (by decide), ?_⟩
    refine ⟨rfl, _, rfl, ?_⟩
    refine rb1 _ m _ _ _ _ ?_
    refine ⟨rfl, _, mod_ok h0, ?_⟩
    exact q _ _ _ _ (Int.emod_nonneg _ (by omega)) (Int.emod_lt_of_pos _ h0) ⟨o1, o2, o3, k0⟩ (Int.le_refl _)
theorem drw {G : DG} {a : Addr} {m : Int} {c : Nat} {Q : D → DG → Prop} {E : DX → DG → Prop} (hc : c < 2 ^ 63) (h0 : 0 < m) (h1 : m < 2 ^ 64) (q : ∀ n : Int, 0 ≤ n → n < m → Q (.int n) (gset G a (some (.jar (c + 1))))) : fDraw [.ref a, .int m] (gset G a (some (.jar c))) Q E :=
  ⟨a, m, c, rfl, gset_same, hc, h0, h1, fun n n0 n1 => by rw [gset_gset]; exact q n n0 n1⟩
theorem spent {G : DG} {a : Addr} {c n : Nat} {Q : D → DG → Prop} {x : D} (h : c ≤ n) (q : Q x (gset G a (some (.jar n)))) : spend a n Q x (gset G a (some (.jar c))) := ⟨c, h, gset_same, by rw [gset_gset]; exact q⟩
/-- one sign of a text -/
def oneOf (z : Str) (y : D) : Prop := ∃ k, k ∈ z.cps.toList ∧ y = .str ⟨#[k]⟩
theorem ix_str1 {z : Str} {n : Int} (hz : z.length ≤ 16777216) (h0 : 0 ≤ n) (h1 : n < (z.length : Int)) : ∃ y, ixD (.str z) (.int n) = some y ∧ oneOf z y := by
  have e : z.cps.toList.length = z.length := by simp [Str.length]
  have hlt : n.toNat < z.cps.toList.length := by omega
  refine ⟨.str ⟨#[z.cps.toList[n.toNat]]⟩, ?_, _, List.getElem_mem hlt, rfl⟩
  have e2 : ixN z.cps.toList.length n = some n.toNat := by
    unfold ixN
    rw [if_pos h0, if_pos (by omega)]
  simp only [ixD, hz, if_true, atI, e2, Option.bind_some]
  rw [List.getElem?_eq_getElem hlt]
  rfl
theorem ones_strs {z : Str} : ∀ {ys : List D}, (∀ y ∈ ys, oneOf z y) → ∃ ks : List Nat, (∀ k ∈ ks, k ∈ z.cps.toList) ∧ strsD ys = some (ks.map fun k => ⟨#[k]⟩) ∧ ks.length = ys.length
  | [], _ => ⟨[], by simp, rfl, rfl⟩
  | y :: r, h => by
    obtain ⟨k, hk, rfl⟩ := h y (by simp)
    obtain ⟨ks, h1, h2, h3⟩ := ones_strs (ys := r) fun w hw => h w (by simp [hw])
    refine ⟨k :: ks, ?_, ?_, by simp [h3]⟩
    · intro x hx
      rcases List.mem_cons.mp hx with rfl | hx
      · exact hk
      · exact h1 x hx
    · simp [strsD, h2]
theorem join_ones : ∀ ks : List Nat, Str.join ("" : Str) (ks.map fun k => (⟨#[k]⟩ : Str)) = ⟨ks.toArray⟩
  | [] => rfl
  | [k] => rfl
  | k :: l :: r => by
    have e := join_ones (l :: r)
    show (⟨#[k]⟩ : Str) ++ "" ++ Str.join "" ((l :: r).map fun k => (⟨#[k]⟩ : Str)) = _
    rw [e]
    show (⟨(#[k] ++ #[]) ++ (l :: r).toArray⟩ : Str) = _
    simp
theorem join_one {z : Str} {ys : List D} (h : ∀ y ∈ ys, oneOf z y) (hl : ys.length ≤ 1000) : ∃ s : Str, joinD (.str "") [.lst ys] = some (.str s) ∧ s.length = ys.length ∧ ∀ k ∈ s.cps.toList, k ∈ z.cps.toList := by
  obtain ⟨ks, h1, h2, h3⟩ := ones_strs h
  refine ⟨⟨ks.toArray⟩, ?_, by simp [Str.length, h3], by simpa using h1⟩
  have e1 : ((ks.map fun k => (⟨#[k]⟩ : Str)).map (·.length)).sum = ks.length := by
    clear h1 h2 h3
    induction ks with
    | nil => rfl
    | cons k r ih => simp only [List.map_cons, List.sum_cons, ih, List.length_cons]; show 1 + r.length = _; omega
  have e2 : (ks.map fun k => (⟨#[k]⟩ : Str)).length * ("" : Str).length = 0 := by
    show _ * 0 = 0
    omega
  simp only [joinD, h2, e1, e2]
  rw [if_pos (by omega), join_ones]
theorem p__law_cell (c : Fx K mg) (ds : List D) (G : DG) (Q : D → DG → Prop) (E : DX → DG → Prop) (h : f__law_cell K ds G Q E) : ∃ a n, tb__law_cell K (fnEnds (spend a n Q) E) (dstart N__law_cell ds) G := by
  obtain ⟨a, c, rfl, ga, hc, q⟩ := h
  refine ⟨a, c + 30, ?_⟩
  show tb__law_cell K (fnEnds (spend a (c + 30) Q) E) [some (.v (.ref a)), none, none, none] G
  rw [← gset_self ga]
  refine ⟨.ref a, rfl, a, 21, c, rfl, gset_same, by omega, by decide, by decide, fun n n0 n1 => ?_⟩
  rw [gset_gset]
  refine ⟨by show 5 ≤ 1000000; decide, .ref a, rfl, a, 5, c + 1, rfl, gset_same, by omega, by decide, by decide, fun t t0 t1 => ?_⟩
  rw [gset_gset]
  refine .inr ⟨fun _ _ e => (nomatch e), ?_⟩
  have hv : ∃ v : Int, ixD (.lst [.int 0, .int 1, .int 3, .int 20, .int n]) (.int t) = some (.int v) ∧ 0 ≤ v ∧ v ≤ 20 := by
    have : t = 0 ∨ t = 1 ∨ t = 2 ∨ t = 3 ∨ t = 4 := by omega
    rcases this with rfl | rfl | rfl | rfl | rfl
    · exact ⟨0, rfl, by decide, by decide⟩
    · exact ⟨1, rfl, by decide, by decide⟩
    · exact ⟨3, rfl, by decide, by decide⟩
    · exact ⟨20, rfl, by decide, by decide⟩
    · exact ⟨n, rfl, n0, by omega⟩
  obtain ⟨v, hv, v0, v1⟩ := hv
  refine ⟨.int v, hv, ?_⟩
  refine ⟨trivial, rfl, .int v, rfl, v, rfl, by omega, by omega, ?_⟩
  refine lc_draw (Gj := fun c => gset G a (some (.jar c))) 1 (2 ^ 62) (fun _ y => oneOf cellch y) _ [] (c + 1 + 1) (fun x hx c' hc' Q' q' => ?_) (by simp; omega) (by simp; omega) fun ys hys => ?_
  · refine ⟨.str cellch, rfl, .ref a, rfl, a, 37, c', rfl, gset_same, by omega, by decide, by decide, fun n n0 n1 => ?_⟩
    rw [gset_gset]
    refine .inr ⟨fun _ _ e => (nomatch e), ?_⟩
    obtain ⟨y, hy, o⟩ := ix_str1 (z := cellch) (n := n) (by decide +kernel) n0 (Int.lt_of_lt_of_le n1 (by decide +kernel))
    exact ⟨y, hy, q' y o⟩
  · have hl := hys.length
    have ho : ∀ y ∈ ys, oneOf cellch y := hys.mem fun _ _ _ h => h
    simp at hl
    obtain ⟨s, hs, hsl, hk⟩ := join_one ho (by omega)
    refine ⟨.str s, hs, spent (by simp; omega) (q _ ?_)⟩
    have e : s.length = v.toNat := by omega
    simp [isCell, isWr, e]
    refine ⟨by omega, fun k hk2 => ?_⟩
    have := hk s.cps[k] (by simp)
    simpa using this
theorem isRow_of {hs xs : List D} (hl : xs.length = hs.length) (h : ∀ x ∈ xs, isCell x = true) : isRow (.tup hs) (.tup xs) = true := by
  simp only [isRow, hl, decide_true, Bool.true_and, List.all_eq_true]
  exact h
theorem cell_nil : isCell (.str "") = true := by decide +kernel
theorem at_lst {xs : List D} {n : Int} (h0 : 0 ≤ n) (h1 : n < (xs.length : Int)) : ∃ y, ixD (.lst xs) (.int n) = some y ∧ y ∈ xs := by
  have hlt : n.toNat < xs.length := by omega
  refine ⟨xs[n.toNat], ?_, List.getElem_mem hlt⟩
  have e2 : ixN xs.length n = some n.toNat := by
    unfold ixN
    rw [if_pos h0, if_pos h1]
  simp only [ixD, atI, e2, Option.bind_some]
  exact List.getElem?_eq_getElem hlt
theorem p__law_lines (c : Fx K mg) (ds : List D) (G : DG) (Q : D → DG → Prop) (E : DX → DG → Prop) (h : f__law_lines K ds G Q E) : ∃ a n, tb__law_lines K (fnEnds (spend a n Q) E) (dstart N__law_lines ds) G := by
  obtain ⟨a, hs, m, c, rfl, ga, hl, m0, m1, hc, q⟩ := h
  refine ⟨a, c + 500, ?_⟩
  show tb__law_lines K (fnEnds (spend a (c + 500) Q) E) [some (.v (.ref a)), some (.v (.tup hs)), some (.v (.int m)), none, none, none, none] G
  rw [← gset_self ga]
  refine ⟨.ref a, rfl, a, c, rfl, gset_same, by omega, fun x1 h1 => ?_⟩
  rw [gset_gset]
  refine ⟨.ref a, rfl, a, c + 30, rfl, gset_same, by omega, fun x2 h2 => ?_⟩
  rw [gset_gset]
  refine ⟨.ref a, rfl, a, c + 30 + 30, rfl, gset_same, by omega, fun x3 h3 => ?_⟩
  rw [gset_gset]
  refine ⟨by show 4 ≤ 1000000; decide, ?_⟩
  have hcell : ∀ x ∈ [D.str "", x1, x2, x3], isCell x = true := by
    intro x hx
    rcases List.mem_cons.mp hx with rfl | hx
    · exact cell_nil
    · rcases List.mem_cons.mp hx with rfl | hx
      · exact h1
      · rcases List.mem_cons.mp hx with rfl | hx
        · exact h2
        · rcases List.mem_cons.mp hx with rfl | hx
          · exact h3
          · cases hx
  generalize hcs : [D.str "", x1, x2, x3] = cs at hcell
  have hc4 : cs.length = 4 := by rw [← hcs]; rfl
  refine ⟨rfl, 5, rfl, by decide, by decide, ?_⟩
  refine lc_draw (Gj := fun c => gset G a (some (.jar c))) hs.length (2 ^ 62) (fun _ y => isRow (.tup hs) y = true) _ [] (c + 30 + 30 + 30) (fun x hx c' hc' Q' q' => ?_) (by simp) (by simp; omega) fun ks hks => ?_
  · refine ⟨rfl, .tup hs, rfl, hs, rfl, ?_⟩
    refine lc_draw (Gj := fun c => gset G a (some (.jar c))) 1 (2 ^ 62) (fun _ y => isCell y = true) _ [] c' (fun x hx c2 hc2 Q2 q2 => ?_) (by simp; omega) (by omega) fun ys hys => ?_
    · refine ⟨.lst cs, by rw [← hcs]; rfl, .ref a, rfl, a, 4, c2, rfl, gset_same, by omega, by decide, by decide, fun n n0 n1 => ?_⟩
      rw [gset_gset]
      refine .inr ⟨fun _ _ e => (nomatch e), ?_⟩
      obtain ⟨y, hy, o⟩ := at_lst (xs := cs) (n := n) n0 (by omega)
      exact ⟨y, hy, q2 y (hcell y o)⟩
    · refine ⟨rfl, .tup ys, rfl, ?_⟩
      have e := q' (.tup ys) (isRow_of hys.length.symm (hys.mem fun _ _ _ h => h))
      rw [Nat.one_mul]
      exact e
  · have hk5 : ks.length = 5 := by have := hks.length; simp at this; omega
    have hkr : ∀ y ∈ ks, isRow (.tup hs) y = true := hks.mem fun _ _ _ h => h
    refine .inl ⟨ks, rfl, ⟨ks, rfl⟩, rfl, .tup hs, rfl, hs, rfl, ?_⟩
    refine lc_draw (Gj := fun c => gset G a (some (.jar c))) 30 (2 ^ 62) (fun _ y => isCell y = true) _ [] _ (fun x hx c2 hc2 Q2 q2 => ?_) (by simp; omega) (by simp; omega) fun ys hys => ?_
    · refine ⟨.ref a, rfl, a, c2, rfl, gset_same, by omega, fun x hx => ?_⟩
      rw [gset_gset]
      exact q2 x hx
    · have hlast : isRow (.tup hs) (.tup ys) = true := isRow_of hys.length.symm (hys.mem fun _ _ _ h => h)
      refine ⟨rfl, .tup ys, rfl, ks, ks ++ [.tup ys], .non, rfl, ?_, ?_⟩
      · show (if ks.length < 1000000 then _ else _) = _
        rw [if_pos (by omega)]
      · rintro δ' G' ⟨rfl, rfl⟩
        have hall : ∀ y ∈ ks ++ [D.tup ys], isRow (.tup hs) y = true := by
          intro y hy
          rcases List.mem_append.mp hy with h | h
          · exact hkr y h
          · rw [List.mem_singleton.mp h]; exact hlast
        have hl6 : (ks ++ [D.tup ys]).length = 6 := by simp [hk5]
        generalize ks ++ [D.tup ys] = rs at hall hl6
        refine ⟨rs, rfl, ?_⟩
        generalize hcc : c + 30 + 30 + 30 + hs.length * (List.map (fun k : Nat => D.int (k : Int)) (List.range (Int.toNat 5))).length + 30 * hs.length = c3
        have c3le : c3 ≤ c + 90 + 25 + 150 := by rw [← hcc]; simp; omega
        refine ⟨rfl, .ref a, rfl, .inr (.inr ⟨.int m, rfl, .inr ⟨fun _ _ e => (nomatch e), rfl, .int (m + 1), rfl, ?_⟩⟩)⟩
        refine ⟨a, m + 1, c3, rfl, gset_same, by omega, by omega, by omega, fun n n0 n1 => ?_⟩
        rw [gset_gset]
        refine ⟨n, rfl, by omega, by omega, ?_⟩
        refine lc_draw (Gj := fun c => gset G a (some (.jar c))) 1 (2 ^ 62) (fun _ y => isRow (.tup hs) y = true) _ [] (c3 + 1) (fun x hx c2 hc2 Q2 q2 => ?_) (by simp; omega) (by simp; omega) fun zs hzs => ?_
        · refine ⟨.lst rs, rfl, .ref a, rfl, a, 6, c2, rfl, gset_same, by omega, by decide, by decide, fun n n0 n1 => ?_⟩
          rw [gset_gset]
          refine .inr ⟨fun _ _ e => (nomatch e), ?_⟩
          obtain ⟨y, hy, o⟩ := at_lst (xs := rs) (n := n) n0 (by omega)
          exact ⟨y, hy, q2 y (hall y o)⟩
        · have hz := hzs.length
          simp at hz
          refine spent (by simp; omega) (q zs (hzs.mem fun _ _ _ h => h) (by omega))
theorem lc_filter {i : Nat} {tt : DTT} {δ : DSt} {G : DG} {Q : List D → DG → Prop} (p : D → Bool) (hi : i < δ.length) : ∀ (xs acc : List D), (∀ x ∈ xs, ∀ Q' : Bool → DG → Prop, Q' (p x) G → tt (δ.set i (some (.v x))) G Q' (fun _ _ => False)) → acc.length + xs.length ≤ 1000000 → Q (acc ++ xs.filter p) G → lcL (gN i) tt (dVar i) δ Q xs acc G
  | [], acc, _, _, q => by
    rw [List.filter_nil, List.append_nil] at q
    exact q
  | x :: r, acc, ht, hl, q => by
    unfold lcL gN
    refine ht x (by simp) _ ?_
    cases hp : p x with
    | true =>
      simp only [if_true]
      refine ⟨x, by rw [List.getElem?_set_self hi], by simp at hl; omega, lc_filter p hi r (acc ++ [x]) (fun y hy => ht y (by simp [hy])) (by simp at hl ⊢; omega) ?_⟩
      rw [List.filter_cons_of_pos hp] at q
      simpa using q
    | false =>
      simp only [Bool.false_eq_true, if_false]
      refine lc_filter p hi r acc (fun y hy => ht y (by simp [hy])) (by simp at hl ⊢; omega) ?_
      rw [List.filter_cons_of_neg (by rw [hp]; simp)] at q
      exact q
theorem nodup_le {α : Type} [DecidableEq α] : ∀ {xs ys : List α}, xs.Nodup → (∀ x ∈ xs, x ∈ ys) → xs.length ≤ ys.length
  | [], ys, _, _ => Nat.zero_le _
  | x :: r, ys, h, s => by
    rw [List.nodup_cons] at h
    have hx := s x (by simp)
    have := nodup_le (xs := r) (ys := ys.erase x) h.2 fun y hy => (List.mem_erase_of_ne (fun e => h.1 (by rw [← e]; exact hy))).mpr (s y (by simp [hy]))
    rw [List.length_erase_of_mem hx] at this
    have : 0 < ys.length := List.length_pos_of_mem hx
    simp only [List.length_cons]
    omega
/-- names that differ -/
def goodN (zs : List Str) : Prop := zs.Nodup ∧ ∀ z ∈ zs, isName (.str z) = true
def strV (zs : List Str) : List D := zs.map D.str
theorem metAll_nodup : ∀ (zs acc : List Str), (acc ++ zs).Nodup → zs.foldl DDs.met1 acc = acc ++ zs
  | [], acc, _ => by simp
  | z :: r, acc, h => by
    have hz : z ∉ acc := fun hm => by
      rw [List.nodup_append] at h
      exact h.2.2 z hm z (by simp) rfl
    show r.foldl DDs.met1 (DDs.met1 acc z) = _
    rw [DDs.met1, if_neg hz, metAll_nodup r (acc ++ [z]) (by simpa using h)]
    simp
theorem strs_V : ∀ zs : List Str, strsD (strV zs) = some zs
  | [] => rfl
  | z :: r => by
    show (strsD (strV r)).map (z :: ·) = _
    rw [strs_V r]; rfl
theorem good_cols {zs : List Str} (h : goodN zs) (h1 : 1 ≤ zs.length) (h5 : zs.length ≤ 5) : areCols (.tup (strV zs)) = true := by
  have e := metAll_nodup zs [] (by simpa using h.1)
  simp only [List.nil_append] at e
  have e2 : DDs.metAll zs = zs := e
  have l : (strV zs).length = zs.length := by simp [strV]
  simp only [areCols, l, strs_V, e2, decide_true, Bool.and_true, Bool.and_eq_true, decide_eq_true_eq]
  refine ⟨⟨h1, h5⟩, ?_⟩
  rw [List.all_eq_true]
  intro x hx
  obtain ⟨z, hz, rfl⟩ := List.mem_map.mp hx
  exact h.2 z hz
theorem pl_V {n : Nat} (zs : List Str) : (strV zs).all (pl n) = true := by
  rw [List.all_eq_true]
  intro x hx
  obtain ⟨z, hz, rfl⟩ := List.mem_map.mp hx
  cases n <;> rfl
theorem any_V (zs : List Str) (z : Str) : ((strV zs).any fun y => beq 49 y (.str z)) = decide (z ∈ zs) := by
  rw [Bool.eq_iff_iff]
  simp only [List.any_eq_true, strV, List.mem_map, decide_eq_true_eq]
  constructor
  · rintro ⟨x, ⟨w, hw, rfl⟩, e⟩
    have : w = z := by simpa [beq] using e
    exact this ▸ hw
  · intro h
    exact ⟨.str z, ⟨z, h, rfl⟩, by simp [beq]⟩
theorem in_V (zs : List Str) (z : Str) : inD (.str z) (.lst (strV zs)) = some (.bl (decide (z ∈ zs))) := by
  have h : pl 50 (.lst (strV zs)) = true := by
    show (strV zs).all (pl 49) = true
    exact pl_V zs
  have h2 : pl 49 (.str z) = true := rfl
  simp only [inD, h, and_true]
  rw [if_pos h2, any_V]
theorem notin_V (zs : List Str) (z : Str) : notInD (.str z) (.lst (strV zs)) = some (.bl (!decide (z ∈ zs))) := by
  unfold notInD
  rw [in_V]
/-- q, qq, .. -/
def qn (n : Nat) : Str := ⟨(List.replicate n (113 : Nat)).toArray⟩
def qs : List Str := [qn 1, qn 2, qn 3, qn 4, qn 5, qn 6]
theorem qs_nodup : qs.Nodup := by decide +kernel
theorem qs_names : ∀ z ∈ qs, isName (.str z) = true := by
  intro z hz
  have : qs.all (fun z => isName (.str z)) = true := by decide +kernel
  exact List.all_eq_true.mp this z hz
theorem qs_at : ∀ k, k < 6 → repD (.str "q") (.int ((k : Nat) + 1 : Int)) = some (.str (qn (k + 1))) := by
  intro k hk
  have : k = 0 ∨ k = 1 ∨ k = 2 ∨ k = 3 ∨ k = 4 ∨ k = 5 := by omega
  rcases this with rfl | rfl | rfl | rfl | rfl | rfl <;> rfl
def qv (x : D) : D := match x with
  | .int j => .str (qn (j.toNat + 1))
  | _ => .non
/-- a name that is free -/
theorem free_q {zs : List Str} (h : zs.length ≤ 5) : ∃ z r, (strV qs).filter (fun y => match y with
    | .str z => !decide (z ∈ zs)
    | _ => false) = .str z :: r ∧ z ∈ qs ∧ z ∉ zs := by
  by_cases ha : ∀ z ∈ qs, z ∈ zs
  · have := nodup_le qs_nodup ha
    have e : qs.length = 6 := rfl
    omega
  · have key : ∀ l : List Str, (∃ z ∈ l, z ∉ zs) → ∃ z r, (strV l).filter (fun y => match y with
        | .str z => !decide (z ∈ zs)
        | _ => false) = .str z :: r ∧ z ∈ l ∧ z ∉ zs := by
      intro l
      induction l with
      | nil => rintro ⟨z, hz, _⟩; cases hz
      | cons w r ih =>
        rintro ⟨z, hz, hn⟩
        by_cases hw : w ∈ zs
        · have hzr : z ∈ r := by
            rcases List.mem_cons.mp hz with rfl | h
            · exact absurd hw hn
            · exact h
          obtain ⟨z2, r2, e, h1, h2⟩ := ih ⟨z, hzr, hn⟩
          refine ⟨z2, r2, ?_, by simp [h1], h2⟩
          show List.filter _ (D.str w :: strV r) = _
          rw [List.filter_cons_of_neg (by simp [hw])]
          exact e
        · refine ⟨w, (strV r).filter (fun y => match y with
            | .str z => !decide (z ∈ zs)
            | _ => false), ?_, by simp, hw⟩
          show List.filter _ (D.str w :: strV r) = _
          rw [List.filter_cons_of_pos (by simp [hw])]
    refine key qs ?_
    exact Classical.byContradiction fun hh => ha fun z hz => Classical.byContradiction fun hn => hh ⟨z, hz, hn⟩
abbrev hs1 (K : PySem.W.Frag) : DTS := sSet 5 (dStMV joinD (dC (.str "")) (dFrz (dLcW (iRg1 (dCons (dBinV addD (dC (.int 1)) (dDer (dCall (f__law_draw K) (dCons (dVar 0) (dCons (dC (.int 8)) dNil))))) dNil)) (gN 6) ttYes (dBinV ixD (dVar 2) (dDer (dCall (f__law_draw K) (dCons (dVar 0) (dCons (dC (.int 26)) dNil))))) [6])))
abbrev hs2 (K : PySem.W.Frag) : DTS := sIf (dAndT (dTst (dBin neD (dBov 3) (dFrz (dLst dNil)))) (dTst (dBin eqD (dDer (dCall (f__law_draw K) (dCons (dVar 0) (dCons (dC (.int 3)) dNil)))) (dC (.int 0)))))
  (sSet 5 (dBinV addD (dSl slD (dDer (dBin ixD (dBov 3) (dUn negD (dC (.int 1))))) oNone (oSome (dC (.int 7)))) (dDer (dBinV ixD (dVar 2) (dDer (dCall (f__law_draw K) (dCons (dVar 0) (dCons (dC (.int 26)) dNil))))))))
  sNext
abbrev hs3 : DTS := sIf (dTst (dBin inD (dBov 5) (dBov 3)))
  (sSet 5 (dBin ixD (dFrz (dLcW (iSeq (dFrz (dLcW (iRg1 (dCons (dC (.int 6)) dNil)) (gN 6) ttYes (dBin repD (dC (.str "q")) (dBin addD (dBov 6) (dC (.int 1)))) [6]))) (gN 7) (dTst (dBin notInD (dBov 7) (dBov 3))) (dVar 7) [7])) (dC (.int 0))))
  sNext
abbrev hs4 : DTS := sMut gApp (pVar 3) (dCons (dVar 5) dNil)
abbrev hst (a : Addr) (m : Int) (zs : List Str) (s4 s5 : Option SV) : DSt := [some (.v (.ref a)), some (.v (.int m)), some (.v (.str "abcdefghijklmnopqrstuvwxyz")), some (.own (strV zs)), s4, s5, none, none]
theorem name_of {s : Str} {n : Nat} (h1 : s.length = n) (h2 : 1 ≤ n) (h3 : n ≤ 8) (hk : ∀ k ∈ s.cps.toList, k ∈ letters.cps.toList) : isName (.str s) = true := by
  simp [isName, isWr, h1]
  refine ⟨⟨by omega, by omega⟩, fun k hk2 => ?_⟩
  have := hk s.cps[k] (by simp)
  simpa using this
theorem h_1 {N : DEnds} {G : DG} {a : Addr} {m : Int} {zs : List Str} {s4 s5 : Option SV} {c : Nat} (hc : c + 9 ≤ 2 ^ 62) (q : ∀ s c', isName (.str s) = true → c' ≤ c + 9 → N.nx (hst a m zs s4 (some (.v (.str s)))) (gset G a (some (.jar c')))) : hs1 K N (hst a m zs s4 s5) (gset G a (some (.jar c))) := by
  refine ⟨trivial, rfl, .ref a, rfl, a, 8, c, rfl, gset_same, by omega, by decide, by decide, fun n n0 n1 => ?_⟩
  rw [gset_gset]
  refine .inr ⟨fun _ _ e => (nomatch e), .int (1 + n), rfl, 1 + n, rfl, by omega, by omega, ?_⟩
  refine lc_draw (Gj := fun c => gset G a (some (.jar c))) 1 (2 ^ 62) (fun _ y => oneOf letters y) _ [] (c + 1) (fun x hx c' hc' Q' q' => ?_) (by simp; omega) (by simp; omega) fun ys hys => ?_
  · refine ⟨.str "abcdefghijklmnopqrstuvwxyz", rfl, .ref a, rfl, a, 26, c', rfl, gset_same, by omega, by decide, by decide, fun n n0 n1 => ?_⟩
    rw [gset_gset]
    refine .inr ⟨fun _ _ e => (nomatch e), ?_⟩
    obtain ⟨y, hy, o⟩ := ix_str1 (z := letters) (n := n) (by decide +kernel) n0 (Int.lt_of_lt_of_le n1 (by decide +kernel))
    exact ⟨y, hy, q' y o⟩
  · have hl := hys.length
    have ho : ∀ y ∈ ys, oneOf letters y := hys.mem fun _ _ _ h => h
    simp at hl
    obtain ⟨s, hs, hsl, hk⟩ := join_one ho (by omega)
    exact ⟨.str s, hs, q s _ (name_of (n := ys.length) hsl (by omega) (by omega) hk) (by simp; omega)⟩
theorem h_4 {N : DEnds} {G : DG} {a : Addr} {m : Int} {zs : List Str} {s4 : Option SV} {s : Str} (hl : zs.length ≤ 1000) (q : N.nx (hst a m (zs ++ [s]) s4 (some (.v (.str s)))) G) : hs4 N (hst a m zs s4 (some (.v (.str s)))) G := by
  refine .inl ⟨strV zs, rfl, ⟨strV zs, rfl⟩, .str s, rfl, strV zs, strV zs ++ [.str s], .non, rfl, ?_, ?_⟩
  · have : (strV zs).length < 1000000 := by simp [strV]; omega
    show (if (strV zs).length < 1000000 then _ else _) = _
    rw [if_pos this]
  · rintro δ' G' ⟨rfl, rfl⟩
    have e : strV (zs ++ [s]) = strV zs ++ [.str s] := by simp [strV]
    rw [hst, e] at q
    exact q
theorem h_3 {N : DEnds} {G : DG} {a : Addr} {m : Int} {zs : List Str} {s4 : Option SV} {s : Str} (hn : isName (.str s) = true) (hs : s.length ≤ 16777216) (hl : zs.length ≤ 5) (q : ∀ s', isName (.str s') = true → s' ∉ zs → N.nx (hst a m zs s4 (some (.v (.str s')))) G) : hs3 N (hst a m zs s4 (some (.v (.str s)))) G := by
  simp only [hs3, sIf, dTst, dBin]
  refine bov_nrm (x := .str s) rfl (by simp [nrm, hs]) ?_
  refine bov_own (ds := strV zs) rfl ?_
  refine ⟨rfl, _, in_V zs s, _, rfl, ?_⟩
  by_cases hz : s ∈ zs
  · simp only [hz, decide_true, if_true]
    refine ⟨rfl, rfl, 6, rfl, by decide, by decide, ?_⟩
    refine lc_pure qv _ [] (fun x hx Q' q' => ?_) (by simp) ?_
    · obtain ⟨k, hk, rfl⟩ := List.mem_map.mp hx
      have hk6 : k < 6 := by simpa using hk
      refine .inr (.inr ⟨.int (k : Int), rfl, .inr ⟨fun _ _ e => (nomatch e), rfl, .int ((k : Int) + 1), rfl, rfl, _, qs_at k hk6, ?_⟩⟩)
      exact q'
    · refine ⟨strV qs, rfl, ?_⟩
      refine lc_filter (fun y => match y with
        | .str z => !decide (z ∈ zs)
        | _ => false) (by show 7 < 8; decide) _ [] (fun x hx Q' q' => ?_) (by simp [strV, qs]) ?_
      · obtain ⟨z, hz, rfl⟩ := List.mem_map.mp hx
        simp only [dTst, dBin]
        have hzl : z.length ≤ 16777216 := by
          have : qs.all (fun z => decide (z.length ≤ 16777216)) = true := by decide +kernel
          simpa using List.all_eq_true.mp this z hz
        refine bov_nrm (x := .str z) rfl (by simp [nrm, hzl]) ?_
        refine bov_own (ds := strV zs) rfl ?_
        exact ⟨rfl, _, notin_V zs z, _, rfl, q'⟩
      · obtain ⟨z, r, e, h1, h2⟩ := free_q hl
        rw [List.nil_append, e]
        refine ⟨rfl, .str z, ?_, q z (qs_names z h1) h2⟩
        obtain ⟨y, hy, _⟩ : ∃ y, ixD (.lst (D.str z :: r)) (.int 0) = some y ∧ y = .str z := ⟨_, by
          show atI (D.str z :: r) 0 = _
          unfold atI ixN
          rw [if_pos (by decide), if_pos (by simp)]
          rfl, rfl⟩
        rename_i hyz
        rw [hy, hyz]
  · simp only [hz, decide_false, Bool.false_eq_true, if_false]
    exact q s hn hz
theorem neD_nil (zs : List Str) : neD (.lst (strV zs)) (.lst []) = some (.bl (!zs.isEmpty)) := by
  have h : pl 50 (.lst (strV zs)) = true := by
    show (strV zs).all (pl 49) = true
    exact pl_V zs
  have h2 : pl 50 (.lst []) = true := rfl
  simp only [neD, h, h2, and_self, if_true]
  cases zs <;> rfl
theorem eqD_int (i j : Int) : eqD (.int i) (.int j) = some (.bl (i == j)) := rfl
theorem at_last {xs : List D} (h : xs ≠ []) : ixD (.lst xs) (.int (-1)) = some (xs.getLast h) := by
  have hp : 0 < xs.length := List.length_pos_iff.mpr h
  show atI xs (-1) = _
  unfold atI ixN
  rw [if_neg (by decide), if_pos (by omega)]
  show xs[(-1 + (xs.length : Int)).toNat]? = _
  have e : (-1 + (xs.length : Int)).toNat = xs.length - 1 := by omega
  rw [e, List.getLast_eq_getElem, List.getElem?_eq_getElem]
theorem cut7 {z : Str} (hz : z.length ≤ 8) (hk : ∀ k ∈ z.cps.toList, k ∈ letters.cps.toList) : ∃ s : Str, slD (.str z) none (some 7) = some (.str s) ∧ s.length ≤ 7 ∧ ∀ k ∈ s.cps.toList, k ∈ letters.cps.toList := by
  refine ⟨cutS z none (some 7), ?_, ?_, ?_⟩
  · show (if z.length ≤ 16777216 then _ else _) = _
    rw [if_pos (by omega)]
  · show ((z.cps.toList.drop 0).take (min 7 z.length - 0)).toArray.size ≤ 7
    simp
    omega
  · intro k hk2
    have h3 : k ∈ (z.cps.toList.drop 0).take (min 7 z.length - 0) := by simpa [cutS, HT.sIx] using hk2
    exact hk k (List.mem_of_mem_drop (List.mem_of_mem_take h3))
theorem letters_of {z : Str} (h : isName (.str z) = true) : z.length ≤ 8 ∧ ∀ k ∈ z.cps.toList, k ∈ letters.cps.toList := by
  simp only [isName, isWr, Bool.and_eq_true, decide_eq_true_eq, List.all_eq_true] at h
  exact ⟨by omega, h.2⟩
theorem h_2 {N : DEnds} {G : DG} {a : Addr} {m : Int} {zs : List Str} {s4 : Option SV} {s : Str} {c : Nat} (hg : goodN zs) (hn : isName (.str s) = true) (hc : c + 2 ≤ 2 ^ 62) (q : ∀ s' c', isName (.str s') = true → c' ≤ c + 2 → N.nx (hst a m zs s4 (some (.v (.str s')))) (gset G a (some (.jar c')))) : hs2 K N (hst a m zs s4 (some (.v (.str s)))) (gset G a (some (.jar c))) := by
  simp only [hs2, sIf, dAndT, dTst, dBin]
  refine bov_own (ds := strV zs) rfl ?_
  refine ⟨by decide, rfl, _, neD_nil zs, _, rfl, ?_⟩
  cases zs with
  | nil => exact q s c hn (by omega)
  | cons w r =>
    simp only [List.isEmpty_cons, Bool.not_false, if_true]
    refine ⟨.ref a, rfl, a, 3, c, rfl, gset_same, by omega, by decide, by decide, fun n n0 n1 => ?_⟩
    rw [gset_gset]
    refine .inr ⟨fun _ _ e => (nomatch e), rfl, _, eqD_int n 0, _, rfl, ?_⟩
    by_cases hz : n = 0
    · have e0 : (n == 0) = true := by simp [hz]
      simp only [e0, if_true]
      have hne : strV (w :: r) ≠ [] := by simp [strV]
      have hlast : ∃ z, (strV (w :: r)).getLast hne = .str z ∧ z ∈ (w :: r) := by
        have := List.getLast_mem hne
        obtain ⟨z, hz, e⟩ := List.mem_map.mp this
        exact ⟨z, e.symm, hz⟩
      obtain ⟨z, ez, hzm⟩ := hlast
      obtain ⟨l8, lk⟩ := letters_of (hg.2 z hzm)
      obtain ⟨t, ht, t7, tk⟩ := cut7 l8 lk
      simp only [sSet, dBinV, dSl, dDer, dBin]
      refine bov_own (ds := strV (w :: r)) rfl ?_
      refine ⟨_, rfl, rfl, _, at_last hne, ?_⟩
      rw [ez]
      refine .inr ⟨fun _ _ e => (nomatch e), 7, rfl, rfl, _, ht, ?_⟩
      refine ⟨.str "abcdefghijklmnopqrstuvwxyz", rfl, .ref a, rfl, a, 26, c + 1, rfl, gset_same, by omega, by decide, by decide, fun n n0 n1 => ?_⟩
      rw [gset_gset]
      refine .inr ⟨fun _ _ e => (nomatch e), ?_⟩
      obtain ⟨y, hy, k, hk, rfl⟩ := ix_str1 (z := letters) (n := n) (by decide +kernel) n0 (Int.lt_of_lt_of_le n1 (by decide +kernel))
      refine ⟨_, hy, .inr ⟨fun _ _ e => (nomatch e), .str (t ++ ⟨#[k]⟩), ?_, q _ _ ?_ (Nat.le_refl _)⟩⟩
      · show (if t.length + 1 ≤ 16777216 then _ else _) = _
        rw [if_pos (by omega)]
      · refine name_of (n := t.length + 1) (by show (t.cps ++ #[k]).size = _; simp [Str.length]) (by omega) (by omega) fun x hx => ?_
        have hx2 : x ∈ (t.cps ++ #[k]).toList := hx
        rw [Array.toList_append] at hx2
        rcases List.mem_append.mp hx2 with h | h
        · exact tk x h
        · have : x = k := by simpa using h
          rw [this]; exact hk
    · have e0 : (n == 0) = false := by simp [hz]
      simp only [e0, Bool.false_eq_true, if_false]
      exact q s (c + 1) hn (by omega)
theorem heads_loop {N : DEnds} {G : DG} {a : Addr} {m : Int} : ∀ (xs : List D) (zs : List Str) (s4 s5 : Option SV) (c : Nat), goodN zs → zs.length + xs.length ≤ 5 → c + 12 * xs.length ≤ 2 ^ 62 →
    (∀ zs' s4 s5 c', goodN zs' → zs'.length = zs.length + xs.length → c' ≤ c + 12 * xs.length → N.nx (hst a m zs' s4 s5) (gset G a (some (.jar c')))) →
    forL (gN 4) (sSeq (hs1 K) (sSeq (hs2 K) (sSeq hs3 hs4))) N xs (hst a m zs s4 s5) (gset G a (some (.jar c)))
  | [], zs, s4, s5, c, hg, _, _, q => q zs s4 s5 c hg (by simp) (by simp)
  | x :: r, zs, s4, s5, c, hg, hl, hc, q => by
    simp only [List.length_cons] at hl hc q
    show sSeq (hs1 K) (sSeq (hs2 K) (sSeq hs3 hs4)) _ (hst a m zs (some (.v x)) s5) _
    refine h_1 (K := K) (by omega) fun s c1 hs hc1 => ?_
    refine h_2 (K := K) hg hs (by omega) fun s2 c2 hs2 hc2 => ?_
    refine h_3 hs2 (by have := (letters_of hs2).1; omega) (by omega) fun s3 hs3 hn3 => ?_
    refine h_4 (by omega) ?_
    refine heads_loop r (zs ++ [s3]) _ _ c2 ⟨?_, ?_⟩ (by simp; omega) (by omega) fun zs' s4 s5 c' h1 h2 h3 => q zs' s4 s5 c' h1 (by simp at h2; omega) (by omega)
    · rw [List.nodup_append]
      refine ⟨hg.1, by simp, fun y hy z hz => ?_⟩
      rw [List.mem_singleton.mp hz]
      exact fun e => hn3 (e ▸ hy)
    · intro z hz
      rcases List.mem_append.mp hz with h | h
      · exact hg.2 z h
      · rw [List.mem_singleton.mp h]; exact hs3
theorem p__law_heads (c : Fx K mg) (ds : List D) (G : DG) (Q : D → DG → Prop) (E : DX → DG → Prop) (h : f__law_heads K ds G Q E) : ∃ a n, tb__law_heads K (fnEnds (spend a n Q) E) (dstart N__law_heads ds) G := by
  obtain ⟨a, m, c, rfl, ga, m0, m1, hc, q⟩ := h
  refine ⟨a, c + 60, ?_⟩
  show tb__law_heads K (fnEnds (spend a (c + 60) Q) E) [some (.v (.ref a)), some (.v (.int m)), none, none, none, none, none, none] G
  rw [← gset_self ga]
  refine ⟨by show 0 ≤ 1000000; decide, .int m, rfl, m, rfl, by omega, by omega, ?_⟩
  refine heads_loop (K := K) (a := a) (m := m) _ [] none none c ⟨.nil, by simp⟩ (by simp; omega) (by simp; omega) fun zs s4 s5 c' hg hl hc' => ?_
  simp at hl hc'
  simp only [sRet, dCallB, dConsB]
  refine bov_own (ds := strV zs) rfl ?_
  refine ⟨rfl, .tup (strV zs), rfl, spent (by omega) (q _ (good_cols hg (by omega) (by omega)) (by simp [strV]; omega))⟩
theorem beqL_refl {f : D → D → Bool} : ∀ xs : List D, (∀ x ∈ xs, f x x = true) → beqL f xs xs = true
  | [], _ => rfl
  | x :: r, h => by simp [beqL, h x (by simp), beqL_refl r fun y hy => h y (by simp [hy])]
theorem beq_refl : ∀ (n : Nat) (x : D), pl n x = true → beq n x x = true
  | 0, x, h => by cases x <;> first | (simp [pl] at h; done) | simp [beq]
  | n + 1, x, h => by
    cases x <;> first | (simp [pl] at h; done) | skip
    all_goals first | (simp [beq]; done) | skip
    · rename_i xs
      simp only [pl, List.all_eq_true] at h
      simp only [beq]
      exact beqL_refl xs fun x hx => beq_refl n x (h x hx)
    · rename_i xs
      simp only [pl, List.all_eq_true] at h
      simp only [beq]
      exact beqL_refl xs fun x hx => beq_refl n x (h x hx)
theorem eqD_self {x : D} (h : pl 50 x = true) : eqD x x = some (.bl true) := by
  unfold eqD
  rw [if_pos ⟨h, h⟩, beq_refl 50 x h]
theorem neD_self {x : D} (h : pl 50 x = true) : neD x x = some (.bl false) := by
  unfold neD
  rw [if_pos ⟨h, h⟩, beq_refl 50 x h]
  rfl
theorem pl_wr {n : Nat} {x : D} {ch : Str} {l m : Int} (h : isWr x ch l m = true) : pl n x = true := by
  cases x <;> first | (cases h; done) | skip
  cases n <;> rfl
theorem row_tup {cs x : D} (h : isRow cs x = true) : ∃ xs, x = .tup xs ∧ ∀ y ∈ xs, isCell y = true := by
  cases cs <;> first | (simp [isRow] at h; done) | skip
  cases x <;> first | (simp [isRow] at h; done) | skip
  simp only [isRow, Bool.and_eq_true, List.all_eq_true] at h
  exact ⟨_, rfl, h.2⟩
theorem pl_row {n : Nat} {cs x : D} (h : isRow cs x = true) : pl (n + 1) x = true := by
  obtain ⟨xs, rfl, hx⟩ := row_tup h
  simp only [pl, List.all_eq_true]
  exact fun y hy => pl_wr (hx y hy)
theorem pl_rows {n : Nat} {cs : D} {rs : List D} (h : ∀ r ∈ rs, isRow cs r = true) : pl (n + 2) (.lst rs) = true := by
  simp only [pl, List.all_eq_true]
  exact fun y hy => pl_row (h y hy)
theorem pl_cols {n : Nat} {cs : D} (h : areCols cs = true) : pl (n + 1) cs = true := by
  obtain ⟨xs, rfl⟩ := cols_tup h
  simp only [areCols, Bool.and_eq_true, List.all_eq_true] at h
  simp only [pl, List.all_eq_true]
  exact fun y hy => pl_wr (h.2.1 y hy)
abbrev tbody (K : PySem.W.Frag) : DTS := sIf (dTst (dBin neD (dDer (dIxO (He.ga K "Listing") (f_Listing___getitem__ K) (dVar 0) (dVar 4))) (dDer (dBin ixD (dBov 2) (dBov 4)))))
  (sRet (dC (.bl false)))
  sNext
theorem tells_loop {N : DEnds} {G : DG} {w l : Addr} {cs : D} {rs : List D} {s1 s3 : Option SV} (ga : G w = some (lsO K cs l rs)) (hr : ∀ r ∈ rs, isRow cs r = true) : ∀ (ks : List Nat) (s4 : Option SV), (∀ k ∈ ks, k < rs.length) →
    (∀ s4, N.nx [some (.v (.ref w)), s1, some (.v (.lst rs)), s3, s4] G) → forL (gN 4) (tbody K) N (ks.map fun k : Nat => D.int (k : Int)) [some (.v (.ref w)), s1, some (.v (.lst rs)), s3, s4] G
  | [], s4, _, q => q s4
  | k :: r, s4, h, q => by
    have hk := h k (by simp)
    have hm : rs[k] ∈ rs := List.getElem_mem hk
    obtain ⟨xs, ex, hx⟩ := row_tup (hr _ hm)
    have hpl : pl 50 rs[k] = true := pl_row (hr _ hm)
    refine ⟨.ref w, rfl, .int (k : Int), rfl, ⟨_, ga⟩, w, cs, l, rs, .int (k : Int), rfl, rfl, ga, ?_⟩
    show if 0 ≤ (k : Int) ∧ (k : Int) < (rs.length : Int) then _ else _
    rw [if_pos ⟨by omega, by omega⟩]
    refine ⟨rs[k], by simp [hk], ?_⟩
    have nr : ∀ a (ds : List D), rs[k] = .ref a → G a ≠ some (.mls ds) := fun a ds e => by rw [ex] at e; cases e
    refine .inr ⟨nr, ?_⟩
    refine .inr (.inr ⟨.lst rs, rfl, .inr ⟨fun _ _ e => (nomatch e), ?_⟩⟩)
    refine .inr (.inr ⟨.int (k : Int), rfl, .inr ⟨fun _ _ e => (nomatch e), rfl, rs[k], ?_, ?_⟩⟩)
    · show atI rs (k : Int) = _
      unfold atI ixN
      rw [if_pos (by omega), if_pos (by omega)]
      show rs[(k : Int).toNat]? = _
      simp [hk]
    · refine .inr ⟨nr, rfl, _, neD_self hpl, _, rfl, ?_⟩
      exact tells_loop ga hr r _ (fun k hk => h k (by simp [hk])) q
theorem p__law_tells (c : Fx K mg) (ds : List D) (G : DG) (Q : D → DG → Prop) (E : DX → DG → Prop) (h : f__law_tells K ds G Q E) : tb__law_tells K (fnEnds Q E) (dstart N__law_tells ds) G := by
  obtain ⟨w, cs, l, rs, rfl, ga, hc, ⟨hr, hl⟩, q⟩ := h
  show tb__law_tells K (fnEnds Q E) [some (.v (.ref w)), some (.v cs), some (.v (.lst rs)), none, none] G
  refine ⟨.ref w, rfl, is_ls ga rfl, w, cs, l, rs, rfl, ga, fun b hb => ?_⟩
  have nwb : w ≠ b := fun e => by rw [← e, ga] at hb; cases hb
  have ga1 : (gset G b (some (.mls rs))) w = some (lsO K cs l rs) := by rw [gset_ne nwb]; exact ga
  have hp : pl 50 (.lst rs) = true := pl_rows hr
  have hpc : pl 50 cs = true := pl_cols hc
  obtain ⟨cx, ecx⟩ := cols_tup hc
  have nc : ∀ a (ds : List D) (G : DG), cs = .ref a → G a ≠ some (.mls ds) := fun a ds G e => by rw [ecx] at e; cases e
  simp only [sSeq, sIf, dOrT, dNotT, dTru, dIsi, dTst, dBin]
  refine bov_mls (a := b) (ds := rs) rfl gset_same ?_
  refine ⟨rfl, _, _, true, rfl, rfl, kt_list_list, true, rfl, ?_⟩
  simp only [Bool.not_true, Bool.false_eq_true, if_false]
  refine bov_mls (a := b) (ds := rs) rfl gset_same ?_
  refine bov_nrm (x := .lst rs) rfl rfl ?_
  refine ⟨rfl, _, neD_self hp, _, rfl, ?_⟩
  simp only [Bool.false_eq_true, if_false]
  refine ⟨.ref w, rfl, ⟨_, ga1⟩, w, cs, l, rs, rfl, ga1, (rs.length : Int), rfl, by omega, by omega, ?_⟩
  simp only [dCallB, dConsB]
  refine bov_nrm (x := .lst rs) rfl rfl ?_
  refine ⟨rfl, _, rfl, rfl, _, neD_self (x := .int _) rfl, _, rfl, ?_⟩
  simp only [Bool.false_eq_true, if_false]
  refine ⟨.ref w, rfl, is_ls ga1 rfl, w, cs, l, rs, rfl, ga1, .inr ⟨fun a ds e => nc a ds _ e, ?_⟩⟩
  refine bov_v (x := cs) rfl (fun a ds e => nc a ds _ e) ?_
  refine ⟨rfl, _, neD_self hpc, _, rfl, ?_⟩
  simp only [Bool.false_eq_true, if_false]
  simp only [sNext, sSeq, sFor, iRg1, dCons, dCallB, dConsB]
  refine bov_nrm (x := .lst rs) rfl rfl ?_
  refine ⟨rfl, _, rfl, (rs.length : Int), rfl, by omega, by omega, ?_⟩
  refine tells_loop ga1 hr (List.range (rs.length : Int).toNat) none (fun k hk => by simpa using hk) fun s4 => ?_
  refine .inr ⟨b, rs, rfl, gset_same, ⟨rs, gset_same⟩, rs, [], .non, gset_same, rfl, ?_⟩
  rintro δ' G' ⟨rfl, rfl⟩
  rw [gset_gset]
  have ga2 : (gset G b (some (.mls []))) w = some (lsO K cs l rs) := by rw [gset_ne nwb]; exact ga
  refine ⟨.ref w, rfl, is_ls ga2 rfl, w, cs, l, rs, rfl, ga2, fun d hd => ?_⟩
  refine .inl ⟨d, rs, rfl, gset_same, ?_⟩
  refine .inr (.inr ⟨.lst rs, rfl, .inr ⟨fun _ _ e => (nomatch e), rfl, _, eqD_self hp, ?_⟩⟩)
  refine q _ fun x o hx => ?_
  have xb : x ≠ b := fun e => by rw [e, hb] at hx; cases hx
  have xd : x ≠ d := fun e => by rw [← e, gset_ne xb, hx] at hd; cases hd
  rw [gset_ne xd, gset_ne xb]
  exact hx
theorem p__law_jar (c : Fx K mg) (ds : List D) (G : DG) (Q : D → DG → Prop) (E : DX → DG → Prop) (h : f__law_jar K ds G Q E) : tb__law_jar K (fnEnds Q E) (dstart N__law_jar ds) G := by
  obtain ⟨ns, k, rfl, h0, h1, q⟩ := h
  show tb__law_jar K (fnEnds Q E) [some (.v (.lst (ns.map D.int))), some (.v (.int k)), none] G
  have rest : ∀ v : Int, 0 ≤ v → sRet (dNewJ (dLst (dCons (dCallB maxD (dConsB (dC (.int 0)) (dConsB (dBin subD (dBov 2) (dBin powD (dC (.int 10)) (dC (.int 18)))) dNil))) (dCons (dBin addD (dBin modD (dCallB intD (dConsB (dBov 2) dNil)) (dBin addD (dBin powD (dC (.int 10)) (dC (.int 36))) (dC (.int 67)))) (dBin repD (dC (.int 1299709)) (dBov 1))) (dCons (dC (.int 0)) dNil))))) (fnEnds Q E) [some (.v (.lst (ns.map D.int))), some (.v (.int k)), some (.v (.int v))] G := by
    intro v hv
    have p1 : powD (.int 10) (.int 18) = some (.int (10 ^ 18)) := pow_ok (by decide) (by decide) (by decide)
    have p2 : powD (.int 10) (.int 36) = some (.int (10 ^ 36)) := pow_ok (by decide) (by decide) (by decide)
    have m1 : repD (.int 1299709) (.int k) = some (.int (1299709 * k)) := mul_ok (by decide) (by decide) h0 (Int.lt_trans h1 (by decide))
    have b2 : ∀ (Q : D → DG → Prop) (E : DX → DG → Prop), Q (.int v) G → dBov 2 [some (.v (.lst (ns.map D.int))), some (.v (.int k)), some (.v (.int v))] G Q E := fun Q E q => bov_nrm (x := .int v) rfl rfl q
    have b1 : ∀ (Q : D → DG → Prop) (E : DX → DG → Prop), Q (.int k) G → dBov 1 [some (.v (.lst (ns.map D.int))), some (.v (.int k)), some (.v (.int v))] G Q E := fun Q E q => bov_nrm (x := .int k) rfl rfl q
    obtain ⟨J2, e2⟩ : ∃ J, J = dBov 2 := ⟨_, rfl⟩
    obtain ⟨J1, e1⟩ : ∃ J, J = dBov 1 := ⟨_, rfl⟩
    rw [← e2] at b2
    rw [← e1] at b1
    rw [← e1, ← e2]
    refine b2 _ _ ?_
    refine ⟨rfl, _, p1, ?_⟩
    refine ⟨rfl, _, rfl, ?_⟩
    refine ⟨rfl, rfl, _, rfl, ?_⟩
    refine b2 _ _ ?_
    refine ⟨rfl, _, rfl, ?_⟩
    refine ⟨rfl, _, p2, ?_⟩
    refine ⟨rfl, _, rfl, ?_⟩
    refine ⟨rfl, _, mod_ok (by decide), ?_⟩
    refine b1 _ _ ?_
    refine ⟨rfl, _, m1, ?_⟩
    refine ⟨rfl, _, rfl, ?_⟩
    refine ⟨by show 3 ≤ 1000000; decide, _, _, _, rfl, ⟨?_, ?_, ?_, Int.le_refl _⟩, rfl, q⟩
    · split <;> omega
    · have := Int.emod_nonneg v (b := 10 ^ 36 + 67) (by decide)
      omega
    · have := Int.emod_lt_of_pos v (b := 10 ^ 36 + 67) (by decide)
      omega
  simp only [tb__law_jar, sSeq, sSet, dIfE, dTst, dBin]
  refine bov_nrm (x := .int k) rfl rfl ?_
  simp only [dCallB, dConsB]
  refine bov_nrm (x := .lst (ns.map D.int)) rfl rfl ?_
  refine ⟨rfl, _, rfl, rfl, _, rfl, _, rfl, ?_⟩
  by_cases hk : k < ((ns.map D.int).length : Int)
  · simp only [hk, decide_true, if_true]
    simp only [dDer, dBin]
    refine bov_nrm (x := .lst (ns.map D.int)) rfl rfl ?_
    refine bov_nrm (x := .int k) rfl rfl ?_
    obtain ⟨y, hy, hm⟩ := at_lst (xs := ns.map D.int) h0 hk
    obtain ⟨n, hn, rfl⟩ := List.mem_map.mp hm
    refine ⟨rfl, _, hy, .inr ⟨fun _ _ e => (nomatch e), rfl, _, rfl, rfl, _, rfl, ?_⟩⟩
    exact rest _ (by split <;> omega)
  · simp only [hk, decide_false, Bool.false_eq_true, if_false]
    exact rest 0 (Int.le_refl _)
theorem Ext.refl (G : DG) : Ext G G := fun _ _ h => h
theorem Ext.trans {G G1 G2 : DG} (a : Ext G G1) (b : Ext G1 G2) : Ext G G2 := fun x o h => b x o (a x o h)
theorem Ext.new {G : DG} {x : Addr} {o : DO} (h : G x = none) : Ext G (gset G x (some o)) := fun b u e => by
  rw [gset_ne (fun z => by rw [z, h] at e; cases e)]; exact e
theorem EntOk.ext {G G' : DG} {e : D} (x : Ext G G') (h : EntOk K G e) : EntOk K G' e := by
  obtain ⟨w, cs, l, rs, e, gw, h1, h2⟩ := h
  exact ⟨w, cs, l, rs, e, x _ _ gw, h1, h2⟩
theorem nrmL_cols {cs : D} (h : areCols cs = true) : nrmL cs = true := by
  obtain ⟨xs, rfl⟩ := cols_tup h
  simp only [areCols, Bool.and_eq_true, List.all_eq_true, decide_eq_true_eq] at h
  simp only [nrmL, nrm, Bool.true_and, Bool.and_eq_true, List.all_eq_true, decide_eq_true_eq]
  refine ⟨by omega, fun x hx => ?_⟩
  have := h.2.1 x hx
  cases x with
  | str s =>
    have := (letters_of this).1
    simp [nrm]; omega
  | _ => first | rfl | (simp [isName, isWr] at this)
theorem nrm_cell {x : D} (h : isCell x = true) : nrm x = true := by
  cases x with
  | str s =>
    simp only [isCell, isWr, Bool.and_eq_true, decide_eq_true_eq] at h
    simp [nrm]; omega
  | _ => first | rfl | (simp [isCell, isWr] at h)
theorem nrmR_rows {cs : D} {rs : List D} (hc : areCols cs = true) (h : goodRows cs rs) : nrmR (.tup rs) = true := by
  simp only [nrmR, nrm, Bool.true_and, Bool.and_eq_true, List.all_eq_true, decide_eq_true_eq]
  refine ⟨by have := h.2; omega, fun x hx => ?_⟩
  obtain ⟨cx, rfl⟩ := cols_tup hc
  have hrow := h.1 x hx
  obtain ⟨xs, rfl, hxs⟩ := row_tup hrow
  simp only [areCols, Bool.and_eq_true, decide_eq_true_eq] at hc
  simp only [isRow, Bool.and_eq_true, decide_eq_true_eq] at hrow
  simp only [nrmL, nrm, Bool.true_and, Bool.and_eq_true, List.all_eq_true, decide_eq_true_eq]
  exact ⟨by omega, fun y hy => nrm_cell (hxs y hy)⟩
theorem noBad {cs : D} : ∀ (rs : List D) (i : Nat), (∀ r ∈ rs, isRow cs r = true) → firstBad cs i rs = none
  | [], _, _ => rfl
  | r :: rs, i, h => by
    unfold firstBad
    rw [if_pos (h r (by simp))]
    exact noBad rs (i + 1) fun x hx => h x (by simp [hx])
theorem init_good {G : DG} {x : Addr} {cs : D} {rs : List D} {Q : D → DG → Prop} {E : DX → DG → Prop} (hc : areCols cs = true) (h : goodRows cs rs) (q : ∀ l, Q .non (gset G x (some (lsO K cs l rs)))) :
    f_Listing___init__ K [.ref x, cs, .tup rs] (gset G x (some (.ins (He.ga K "Listing") []))) Q E := by
  refine ⟨x, cs, .tup rs, rfl, gset_same, nrmL_cols hc, nrmR_rows hc h, ?_⟩
  rw [if_pos hc]
  show (match firstBad cs 0 rs with
    | some i => E _ _
    | none => _)
  rw [noBad rs 0 h.1]
  intro l
  rw [gset_gset]
  exact q l
abbrev rbody (K : PySem.W.Frag) : DTS := sIf (dNotT (dTru (dDer (dCall (f__law_tells K) (dCons (dVar 7) (dCons (dVar 8) (dCons (dVar 9) dNil)))))))
  (sRet (dC (.bl false)))
  sNext
abbrev rtg : DTG := gT 3 (gsCons (gN 7) (gsCons (gN 8) (gsCons (gN 9) gsNil)))
theorem right_loop {N : DEnds} {G0 : DG} {h : Addr} {es : List D} {s0 s1 s2 s3 s4 s5 s6 : Option SV} (gh : G0 h = some (.mls es)) : ∀ (r : List D) (s7 s8 s9 : Option SV) (G : DG), Ext G0 G → (∀ e ∈ r, EntOk K G0 e) →
    (∀ s7 s8 s9 G, Ext G0 G → N.nx [s0, s1, s2, s3, s4, s5, s6, s7, s8, s9] G) → forP (.mls h) es rtg (rbody K) N r [s0, s1, s2, s3, s4, s5, s6, s7, s8, s9] G
  | [], s7, s8, s9, G, x, _, q => ⟨x _ _ gh, q s7 s8 s9 G x⟩
  | e :: r, s7, s8, s9, G, x, he, q => by
    obtain ⟨w, cs, l, rs, rfl, gw, hc, hr⟩ := he e (by simp)
    refine ⟨x _ _ gh, [.ref w, cs, .lst rs], rfl, rfl, _, _, rfl, _, _, rfl, _, _, rfl, rfl, ?_⟩
    refine ⟨.ref w, rfl, cs, rfl, .lst rs, rfl, w, cs, l, rs, rfl, x _ _ gw, hc, hr, fun G' x' => ?_⟩
    refine .inr ⟨fun _ _ e => (nomatch e), true, rfl, ?_⟩
    exact right_loop gh r _ _ _ G' (x.trans x') (fun e he' => he e (by simp [he'])) q
theorem happ {N : DEnds} {G : DG} {h : Addr} {es : List D} {cs x y : D} {ws du : List D} {i : Int} {s0 s3 s7 s8 s9 : Option SV} (gh : G h = some (.mls es)) (hx : ixD (.lst ws) (.int i) = some x) (hy : ixD (.lst du) (.int i) = some y) (hl : es.length < 1000000)
    (q : N.nx [s0, some (.v (.ref h)), some (.v cs), s3, some (.v (.lst ws)), some (.v (.lst du)), some (.v (.int i)), s7, s8, s9] (gset G h (some (.mls (es ++ [.tup [x, cs, y]]))))) :
    sMut gApp (pVar 1) (dCons (dTup (dCons (dBin ixD (dBov 4) (dBov 6)) (dCons (dVar 2) (dCons (dBin ixD (dBov 5) (dBov 6)) dNil)))) dNil) N [s0, some (.v (.ref h)), some (.v cs), s3, some (.v (.lst ws)), some (.v (.lst du)), some (.v (.int i)), s7, s8, s9] G := by
  refine .inr ⟨h, es, rfl, gh, ⟨es, gh⟩, ?_⟩
  refine .inr (.inr ⟨.lst ws, rfl, .inr ⟨fun _ _ e => (nomatch e), ?_⟩⟩)
  refine .inr (.inr ⟨.int i, rfl, .inr ⟨fun _ _ e => (nomatch e), rfl, x, hx, cs, rfl, ?_⟩⟩)
  refine .inr (.inr ⟨.lst du, rfl, .inr ⟨fun _ _ e => (nomatch e), ?_⟩⟩)
  refine .inr (.inr ⟨.int i, rfl, .inr ⟨fun _ _ e => (nomatch e), rfl, y, hy, ?_⟩⟩)
  refine ⟨by show 3 ≤ 1000000; decide, es, es ++ [.tup [x, cs, y]], .non, gh, ?_, ?_⟩
  · show (if es.length < 1000000 then _ else _) = _
    rw [if_pos hl]
  · rintro δ' G' ⟨rfl, rfl⟩
    exact q
theorem p__law_right (c : Fx K mg) (ds : List D) (G : DG) (Q : D → DG → Prop) (E : DX → DG → Prop) (h : f__law_right K ds G Q E) : tb__law_right K (fnEnds Q E) (dstart N__law_right ds) G := by
  obtain ⟨j, h, es, rfl, gj, gh, hl, he, q⟩ := h
  show tb__law_right K (fnEnds Q E) [some (.v (.ref j)), some (.v (.ref h)), none, none, none, none, none, none, none, none] G
  have njh : h ≠ j := fun e => by rw [e, gj] at gh; cases gh
  refine ⟨.ref j, rfl, .ref j, rfl, j, 5, 0, rfl, gj, by decide, by decide, by decide, fun n n0 n1 => ?_⟩
  refine .inr ⟨fun _ _ e => (nomatch e), .int (1 + n), rfl, ?_⟩
  refine ⟨j, 1 + n, 0 + 1, rfl, gset_same, by omega, by omega, by decide, fun hs hc hlen => ?_⟩
  rw [gset_gset]
  refine ⟨.ref j, rfl, .tup hs, rfl, by show 6 ≤ 1000000; decide, .ref j, rfl, j, 6, 0 + 1 + 60, rfl, gset_same, by decide, by decide, by decide, fun t t0 t1 => ?_⟩
  refine .inr ⟨fun _ _ e => (nomatch e), ?_⟩
  have hv : ∃ v : Int, ixD (.lst [.int 9, .int 9, .int 9, .int 9, .int 9, .int 200]) (.int t) = some (.int v) ∧ 0 ≤ v ∧ v ≤ 200 := by
    have : t = 0 ∨ t = 1 ∨ t = 2 ∨ t = 3 ∨ t = 4 ∨ t = 5 := by omega
    rcases this with rfl | rfl | rfl | rfl | rfl | rfl
    · exact ⟨9, rfl, by decide, by decide⟩
    · exact ⟨9, rfl, by decide, by decide⟩
    · exact ⟨9, rfl, by decide, by decide⟩
    · exact ⟨9, rfl, by decide, by decide⟩
    · exact ⟨9, rfl, by decide, by decide⟩
    · exact ⟨200, rfl, by decide, by decide⟩
  obtain ⟨v, hv, v0, v1⟩ := hv
  refine ⟨.int v, hv, ?_⟩
  refine ⟨j, hs, v, 0 + 1 + 60 + 1, rfl, gset_same, by omega, v0, v1, by decide, fun rs hr hrl => ?_⟩
  rw [gset_gset, gset_gset]
  generalize hG1 : gset G j (some (.jar (0 + 1 + 60 + 1 + 500))) = G1
  have good : goodRows (.tup hs) rs := ⟨hr, hrl⟩
  have gh1 : G1 h = some (.mls es) := by rw [← hG1, gset_ne njh]; exact gh
  have he1 : ∀ e ∈ es, EntOk K G1 e := fun e hem => by
    obtain ⟨w, cs, l, rs, ee, gw, h1, h2⟩ := he e hem
    exact ⟨w, cs, l, rs, ee, by rw [← hG1, gset_ne (fun z => by rw [z, gj] at gw; cases gw)]; exact gw, h1, h2⟩
  refine ⟨.tup hs, rfl, ?_⟩
  refine .inr (.inr ⟨.lst rs, rfl, .inr ⟨fun _ _ e => (nomatch e), rfl, .tup rs, rfl, fun x1 g1 => ?_⟩⟩)
  refine init_good hc good fun l1 => ⟨rfl, ?_⟩
  refine ⟨.tup hs, rfl, fun x2 g2 => ?_⟩
  refine init_good hc ⟨fun _ h => (by cases h), by simp⟩ fun l2 => ⟨rfl, ?_⟩
  refine .inr (.inr ⟨.lst rs, rfl, .inr ⟨fun _ _ e => (nomatch e), rfl, .tup rs, rfl, ?_⟩⟩)
  refine ⟨.tup hs, rfl, rfl, rfl, fun x3 g3 => ?_⟩
  refine init_good hc good fun l3' => ⟨rfl, ?_⟩
  refine ⟨by show 3 ≤ 1000000; decide, ?_⟩
  refine ⟨.lst rs, rfl, by show 0 ≤ 1000000; decide, .lst rs, rfl, by show 3 ≤ 1000000; decide, ?_⟩
  have e12 : x1 ≠ x2 := fun e => by rw [← e, gset_same] at g2; cases g2
  have e13 : x1 ≠ x3 := fun e => by rw [← e, gset_ne e12, gset_same] at g3; cases g3
  have e23 : x2 ≠ x3 := fun e => by rw [← e, gset_same] at g3; cases g3
  have X1 : Ext G1 (gset G1 x1 (some (lsO K (.tup hs) l1 rs))) := Ext.new g1
  have X2 := X1.trans (Ext.new (o := lsO K (.tup hs) l2 []) g2)
  have X3 := X2.trans (Ext.new (o := lsO K (.tup hs) l3' rs) g3)
  generalize hG2 : gset (gset (gset G1 x1 (some (lsO K (.tup hs) l1 rs))) x2 (some (lsO K (.tup hs) l2 []))) x3 (some (lsO K (.tup hs) l3' rs)) = G2 at X3
  have a1 : G2 x1 = some (lsO K (.tup hs) l1 rs) := by rw [← hG2, gset_ne e13, gset_ne e12, gset_same]
  have a2 : G2 x2 = some (lsO K (.tup hs) l2 []) := by rw [← hG2, gset_ne e23, gset_same]
  have a3 : G2 x3 = some (lsO K (.tup hs) l3' rs) := by rw [← hG2, gset_same]
  have gh2 := X3 _ _ gh1
  have he2 : ∀ e ∈ es, EntOk K G2 e := fun e hem => (he1 e hem).ext X3
  refine ⟨3, rfl, by decide, by decide, ?_⟩
  have nx : ∀ (w : Addr) (cs : D) (l : Addr) (r : List D), G2 w = some (lsO K cs l r) → w ≠ h := fun w cs l r gw e => by rw [e, gh2] at gw; cases gw
  refine happ (i := 0) gh2 rfl rfl (by omega) ?_
  refine happ (i := 1) gset_same rfl rfl (by simp; omega) ?_
  rw [gset_gset]
  refine happ (i := 2) gset_same rfl rfl (by simp; omega) ?_
  rw [gset_gset]
  generalize hE : es ++ [D.tup [.ref x1, .tup hs, .lst rs]] ++ [D.tup [.ref x2, .tup hs, .lst []]] ++ [D.tup [.ref x3, .tup hs, .lst rs]] = es3
  have l3 : es3.length = es.length + 3 := by rw [← hE]; simp
  generalize hG3 : gset G2 h (some (.mls es3)) = G3
  have gh3 : G3 h = some (.mls es3) := by rw [← hG3, gset_same]
  have up : ∀ (w : Addr) (cs : D) (l : Addr) (r : List D), G2 w = some (lsO K cs l r) → G3 w = some (lsO K cs l r) := fun w cs l r gw => by
    rw [← hG3, gset_ne (nx w cs l r gw)]; exact gw
  have he3 : ∀ e ∈ es3, EntOk K G3 e := by
    intro e hem
    rw [← hE] at hem
    simp only [List.mem_append, List.mem_singleton] at hem
    rcases hem with ((hem | rfl) | rfl) | rfl
    · obtain ⟨w, cs, l, rs, ee, gw, h1, h2⟩ := he2 e hem
      exact ⟨w, cs, l, rs, ee, up w cs l rs gw, h1, h2⟩
    · exact ⟨x1, .tup hs, l1, rs, rfl, up _ _ _ _ a1, hc, good⟩
    · exact ⟨x2, .tup hs, l2, [], rfl, up _ _ _ _ a2, hc, ⟨fun _ h => (by cases h), by simp⟩⟩
    · exact ⟨x3, .tup hs, l3', rs, rfl, up _ _ _ _ a3, hc, good⟩
  refine .inr ⟨h, es3, rfl, gh3, trivial, es3, gh3, ?_⟩
  refine right_loop gh3 es3 _ _ _ G3 (Ext.refl G3) he3 fun s7 s8 s9 G4 x4 => ?_
  exact q G4 es3 (x4 _ _ gh3) (by omega) fun e hem => (he3 e hem).ext x4
abbrev lbody (K : PySem.W.Frag) : DTS := sIf (dNotT (dTru (dDer (dCall (f__law_right K) (dCons (dCall (f__law_jar K) (dCons (dVar 0) (dCons (dVar 2) dNil))) (dCons (dVar 1) dNil))))))
  (sRet (dC (.bl false)))
  sNext
theorem law_loop {N : DEnds} {h : Addr} {ns : List Int} : ∀ (ks : List Nat) (s2 : Option SV) (G : DG) (es : List D), (∀ k ∈ ks, k < 64) → G h = some (.mls es) → es.length + 3 * ks.length ≤ 1000 → (∀ e ∈ es, EntOk K G e) →
    (∀ s2 G, N.nx [some (.v (.lst (ns.map D.int))), some (.v (.ref h)), s2] G) → forL (gN 2) (lbody K) N (ks.map fun k : Nat => D.int (k : Int)) [some (.v (.lst (ns.map D.int))), some (.v (.ref h)), s2] G
  | [], s2, G, es, _, _, _, _, q => q s2 G
  | k :: r, s2, G, es, hk, gh, hl, he, q => by
    simp only [List.length_cons] at hl
    have hk0 := hk k (by simp)
    refine ⟨.lst (ns.map D.int), rfl, .int (k : Int), rfl, ns, (k : Int), rfl, by omega, by omega, fun a ha => ?_⟩
    have nha : h ≠ a := fun e => by rw [← e, gh] at ha; cases ha
    refine ⟨.ref h, rfl, a, h, es, rfl, gset_same, by rw [gset_ne nha]; exact gh, by omega, fun e hem => (he e hem).ext (Ext.new ha), fun G' es' gh' hl' he' => ?_⟩
    refine .inr ⟨fun _ _ e => (nomatch e), true, rfl, ?_⟩
    exact law_loop r _ G' es' (fun k hk2 => hk k (by simp [hk2])) gh' (by omega) he' q
theorem p_law (c : Fx K mg) (ds : List D) (G : DG) (Q : D → DG → Prop) (E : DX → DG → Prop) (h : f_law K ds G Q E) : tb_law K (fnEnds Q E) (dstart N_law ds) G := by
  obtain ⟨ns, rfl, hn, q⟩ := h
  show tb_law K (fnEnds Q E) [some (.v (.lst (ns.map D.int))), none, none] G
  refine ⟨by show 0 ≤ 1000000; decide, fun h hh => ?_⟩
  simp only [sSeq, sFor, iRg1, dCons, dCallB, dConsB, dC]
  refine bov_nrm (x := .lst (ns.map D.int)) rfl rfl ?_
  refine ⟨rfl, _, rfl, rfl, rfl, _, rfl, rfl, rfl, _, rfl, _, rfl, ?_, ?_, ?_⟩
  · split <;> (try split) <;> omega
  · split <;> (try split) <;> omega
  · refine law_loop _ none _ [] (fun k hk => ?_) gset_same ?_ (fun e he => by cases he) fun s2 G' => q G'
    · have := List.mem_range.mp hk
      revert this
      split <;> (try split) <;> omega
    · simp only [List.length_nil, List.length_range]
      split <;> (try split) <;> omega
theorem law_law (c : Fx K mg) (ns : List Int) (hn : ns.length ≤ 63) : f_law K [.lst (ns.map D.int)] (fun _ => none) (fun v _ => v = .bl true) (fun _ _ => False) := ⟨ns, rfl, hn, fun _ => rfl⟩
theorem bs_law (c : Fx K mg) (s : Shared) (u : Value) : BindsTo s c.d_law ⟨[u], []⟩ [("_law_script", u)] := FunD.bindsA (ps := ["_law_script"]) c.D_law (fun _ _ _ _ _ _ us hl => match us, hl with | [_], _ => rfl) s [u] rfl
theorem cx_end {P : Program} {w : World} (H : Hp) (s : Shared) (e : Value) (s' : Shared) (h : L2.CX P w [] H s (fun _ _ _ => False) e s') : False := by
  obtain ⟨_, _, _, _, _, _, _, _, _, _, _, _, z⟩ := h
  exact z.elim
end
end Lk01

set_option Elab.async false
set_option linter.all false
set_option maxRecDepth 100000
set_option maxHeartbeats 0
namespace Lk01
open PySem PySem.Spec L2 DD
section
variable {P : Program} {w : World} {K : PySem.W.Frag} {mg : Str → Option Value} {base : Heap}
theorem sc__law_draw : FnScope N__law_draw ["_law_jar_here", "_law_many"] (defScope s24) := ⟨rfl, rfl, rfl, by decide +kernel, rfl, by decide +kernel, by decide +kernel⟩
theorem b__law_draw (c : Fx K mg) : Binds K c.d__law_draw ["_law_jar_here", "_law_many"] [] := c.D__law_draw.bindsN fun _ _ _ _ _ _ us hl => match us, hl with | [_, _], _ => rfl
theorem ok__law_draw (c : Fx K mg) : FnOk P w K mg base (L2.CX P w) 1 (He.fAd K ("_law_draw", none)) c.d__law_draw ["_law_jar_here", "_law_many"] (spD K (f__law_draw K)) :=
  draw_ok (dfn (db := tb__law_draw K) c.D__law_draw sc__law_draw (fun _ _ _ _ h => len__law_draw h) (fun cdv A outer s H E hr =>
    (dss_cons (ds_if (dt_cmp (DD.op_gt) (db_der (de_ix ix_any (db_bov (pv 0)) (DE_b de_int) (fun _ _ => rfl))) (DE_b de_int) (nomark _))
      (dss_cons (ds_set (i := 2) sc__law_draw.nd rfl (by first | exact Or.inl rfl | exact Or.inr rfl) (de_bin DD.op_mod (DE_b (de_callTy call_intD (by rfl) c.n_int (by decide +kernel) (dab_cons (db_der (de_ix ix_any (db_bov (pv 0)) (DE_b de_int) (fun _ _ => rfl))) dab_nil))) (db_bov (pv 1))))
      (dss_cons (ds_setAt (de_bin DD.op_fdiv (db_der (de_ix ix_any (db_bov (pv 0)) (DE_b de_int) (fun _ _ => rfl))) (db_bov (pv 1))) (dp_var (pv 0)) de_int)
      (dss_one (ds_ret (de_var (pv 2))))))
      dss_nil)
      (dss_cons (ds_setAt (de_bin DD.op_add (db_der (de_ix ix_any (db_bov (pv 0)) (DE_b de_int) (fun _ _ => rfl))) (DE_b de_int)) (dp_var (pv 0)) de_int)
      (dss_cons (ds_set (i := 3) sc__law_draw.nd rfl (by first | exact Or.inl rfl | exact Or.inr rfl) (de_bin DD.op_mod (DE_b (de_callTy call_intD (by rfl) c.n_int (by decide +kernel) (dab_cons (DE_b (de_bin DD.op_add (DE_b (de_bin DD.op_pow (DE_b (de_bin DD.op_add (db_der (de_ix ix_any (db_bov (pv 0)) (DE_b de_int) (fun _ _ => rfl))) (DE_b (de_bin DD.op_rep (DE_b de_int) (db_der (de_ix ix_any (db_bov (pv 0)) (DE_b de_int) (fun _ _ => rfl))))))) (DE_b de_int))) (DE_b (de_bin DD.op_rep (DE_b de_int) (db_der (de_ix ix_any (db_bov (pv 0)) (DE_b de_int) (fun _ _ => rfl))))))) dab_nil))) (DE_b (de_bin DD.op_add (DE_b (de_bin DD.op_pow (DE_b de_int) (DE_b de_int))) (DE_b de_int)))))
      (dss_cons (ds_set (i := 3) sc__law_draw.nd rfl (by first | exact Or.inl rfl | exact Or.inr rfl) (de_bin DD.op_mod (DE_b (de_callTy call_intD (by rfl) c.n_int (by decide +kernel) (dab_cons (DE_b (de_bin DD.op_pow (DE_b (de_bin DD.op_add (db_bov (pv 3)) (DE_b (de_bin DD.op_rep (DE_b de_int) (db_der (de_ix ix_any (db_bov (pv 0)) (DE_b de_int) (fun _ _ => rfl))))))) (DE_b de_int))) dab_nil))) (DE_b (de_bin DD.op_add (DE_b (de_bin DD.op_pow (DE_b de_int) (DE_b de_int))) (DE_b de_int)))))
      (dss_one (ds_ret (de_bin DD.op_mod (DE_b (de_callTy call_intD (by rfl) c.n_int (by decide +kernel) (dab_cons (DE_b (de_bin DD.op_fdiv (db_bov (pv 3)) (DE_b (de_bin DD.op_pow (DE_b de_int) (DE_b de_int))))) dab_nil))) (db_bov (pv 1)))))))))) (p__law_draw c))
theorem sc__law_heads : FnScope N__law_heads ["_law_jar_here", "_law_many"] (defScope s25) := ⟨rfl, rfl, rfl, by decide +kernel, rfl, by decide +kernel, by decide +kernel⟩
theorem b__law_heads (c : Fx K mg) : Binds K c.d__law_heads ["_law_jar_here", "_law_many"] [] := c.D__law_heads.bindsN fun _ _ _ _ _ _ us hl => match us, hl with | [_, _], _ => rfl
theorem ok__law_heads (c : Fx K mg) : FnOk P w K mg base (L2.CX P w) 2 (He.fAd K ("_law_heads", none)) c.d__law_heads ["_law_jar_here", "_law_many"] (spD K (f__law_heads K)) :=
  dfnJ (db := tb__law_heads K) c.D__law_heads sc__law_heads (fun _ _ _ _ h => len__law_heads h) (fun cdv A outer s H E hr =>
    (dss_cons (ds_set (i := 2) sc__law_heads.nd rfl (by first | exact Or.inl rfl | exact Or.inr rfl) (de_str))
      (dss_cons (ds_setF (i := 3) sc__law_heads.nd rfl (by first | exact Or.inl rfl | exact Or.inr rfl) (df_lst da_nil))
      (dss_cons (ds_for (passes_of rfl) rfl (di_rng1 (by rfl) c.n_range (da_cons (de_var (pv 1)) da_nil)) (dg_name (i := 4) sc__law_heads.nd rfl (by first | exact Or.inl rfl | exact Or.inr rfl))
      (dss_cons (ds_set (i := 5) sc__law_heads.nd rfl (by first | exact Or.inl rfl | exact Or.inr rfl) (de_joinV (de_str) (DE_b (DF_e (df_lcW rfl sc__law_heads.nd (di_rng1 (by rfl) c.n_range (da_cons (de_binV DD.op_add de_int (db_der (de_call (ok__law_draw c) (hr.mono (by decide)) (by rfl) c.g__law_draw c.D__law_draw.kp (b__law_draw c) (takes_of rfl rfl rfl rfl) (da_cons (de_var (pv 0)) (da_cons de_int da_nil))))) da_nil)) (blkOk_by (own := [("_law_j", 6)]) (N := N__law_heads) (sc := defScope s25) (by decide +kernel)) (fun _ _ _ _ _ => (dgc_name (vs := [6]) (i := 6) (by decide) sc__law_heads.nd rfl (by first | exact Or.inl rfl | exact Or.inr rfl))) (fun _ _ _ _ _ => dts_nil) (fun _ _ _ _ _ => (de_ixV ix_any (de_var (pv 2)) (db_der (de_call (ok__law_draw c) (hr.mono (by decide)) (by rfl) c.g__law_draw c.D__law_draw.kp (b__law_draw c) takes0 (da_cons (de_var (pv 0)) (da_cons de_int da_nil)))) (fun _ _ => rfl))))))))
      (dss_cons (ds_if (dt_w (dw_and (dt_cmp (DD.op_ne hr.units) (db_bov (pv 3)) (DE_b (DF_e (df_lst da_nil))) (nomark _)) (dw_and1 (dt_cmp (DD.op_eq hr.units) (db_der (de_call (ok__law_draw c) (hr.mono (by decide)) (by rfl) c.g__law_draw c.D__law_draw.kp (b__law_draw c) (takes_of rfl rfl rfl rfl) (da_cons (de_var (pv 0)) (da_cons de_int da_nil)))) (DE_b de_int) (nomark _)))))
      (dss_one (ds_set (i := 5) sc__law_heads.nd rfl (by first | exact Or.inl rfl | exact Or.inr rfl) (de_binV DD.op_add (de_slice sl_any (db_der (de_ix ix_any (db_bov (pv 3)) (DE_b (de_un un_neg' (DE_b de_int))) (fun _ _ => rfl))) do_none (do_some de_int)) (db_der (de_ixV ix_any (de_var (pv 2)) (db_der (de_call (ok__law_draw c) (hr.mono (by decide)) (by rfl) c.g__law_draw c.D__law_draw.kp (b__law_draw c) (takes_of rfl rfl rfl rfl) (da_cons (de_var (pv 0)) (da_cons de_int da_nil)))) (fun _ _ => rfl))))))
      dss_nil)
      (dss_cons (ds_if (dt_cmp (DD.op_in (ru hr)) (db_bov (pv 5)) (db_bov (pv 3)) (by rfl))
      (dss_one (ds_set (i := 5) sc__law_heads.nd rfl (by first | exact Or.inl rfl | exact Or.inr rfl) (de_ix ix_any (DE_b (DF_e (df_lcW rfl sc__law_heads.nd (di_seq (DF_e (df_lcW rfl sc__law_heads.nd (di_rng1 (by rfl) c.n_range (da_cons de_int da_nil)) (blkOk_by (own := [("_law_j", 6)]) (N := N__law_heads) (sc := defScope s25) (by decide +kernel)) (fun _ _ _ _ _ => (dgc_name (vs := [6]) (i := 6) (by decide) sc__law_heads.nd rfl (by first | exact Or.inl rfl | exact Or.inr rfl))) (fun _ _ _ _ _ => dts_nil) (fun _ _ _ _ _ => (de_bin DD.op_rep (DE_b (de_str)) (DE_b (de_bin DD.op_add (db_bov (pv 6)) (DE_b de_int)))))))) (blkOk_by (own := [("_law_one", 7)]) (N := N__law_heads) (sc := defScope s25) (by decide +kernel)) (fun _ _ _ _ _ => (dgc_name (vs := [7]) (i := 7) (by decide) sc__law_heads.nd rfl (by first | exact Or.inl rfl | exact Or.inr rfl))) (fun _ _ _ _ _ => dts_one (dt_cmp (DD.op_notin (ru hr)) (db_bov (pv 7)) (db_bov (pv 3)) (by rfl))) (fun _ _ _ _ _ => (de_var (pv 7)))))) (DE_b de_int) (fun _ _ => rfl))))
      dss_nil)
      (dss_one (ds_append (dp_var (pv 3)) (de_var (pv 5))))))))
      (dss_one (ds_ret (de_callTy call_tupleD (by rfl) c.n_tuple (by decide +kernel) (dab_cons (db_bov (pv 3)) dab_nil)))))))) (p__law_heads c)
theorem sc__law_cell : FnScope N__law_cell ["_law_jar_here"] (defScope s26) := ⟨rfl, rfl, rfl, by decide +kernel, rfl, by decide +kernel, by decide +kernel⟩
theorem b__law_cell (c : Fx K mg) : Binds K c.d__law_cell ["_law_jar_here"] [] := c.D__law_cell.bindsN fun _ _ _ _ _ _ us hl => match us, hl with | [_], _ => rfl
theorem ok__law_cell (c : Fx K mg) : FnOk P w K mg base (L2.CX P w) 2 (He.fAd K ("_law_cell", none)) c.d__law_cell ["_law_jar_here"] (spD K (f__law_cell K)) :=
  dfnJ (db := tb__law_cell K) c.D__law_cell sc__law_cell (fun _ _ _ _ h => len__law_cell h) (fun cdv A outer s H E hr =>
    (dss_cons (ds_set (i := 1) sc__law_cell.nd rfl (by first | exact Or.inl rfl | exact Or.inr rfl) (de_str))
      (dss_cons (ds_set (i := 2) sc__law_cell.nd rfl (by first | exact Or.inl rfl | exact Or.inr rfl) (de_ixV ix_any (DF_e (df_lst (da_cons de_int (da_cons de_int (da_cons de_int (da_cons de_int (da_cons (de_call (ok__law_draw c) (hr.mono (by decide)) (by rfl) c.g__law_draw c.D__law_draw.kp (b__law_draw c) (takes_of rfl rfl rfl rfl) (da_cons (de_var (pv 0)) (da_cons de_int da_nil))) da_nil))))))) (db_der (de_call (ok__law_draw c) (hr.mono (by decide)) (by rfl) c.g__law_draw c.D__law_draw.kp (b__law_draw c) (takes_of rfl rfl rfl rfl) (da_cons (de_var (pv 0)) (da_cons de_int da_nil)))) (fun _ _ => rfl)))
      (dss_one (ds_ret (de_joinV (de_str) (DE_b (DF_e (df_lcW rfl sc__law_cell.nd (di_rng1 (by rfl) c.n_range (da_cons (de_var (pv 2)) da_nil)) (blkOk_by (own := [("_law_k", 3)]) (N := N__law_cell) (sc := defScope s26) (by decide +kernel)) (fun _ _ _ _ _ => (dgc_name (vs := [3]) (i := 3) (by decide) sc__law_cell.nd rfl (by first | exact Or.inl rfl | exact Or.inr rfl))) (fun _ _ _ _ _ => dts_nil) (fun _ _ _ _ _ => (de_ixV ix_any (de_var (pv 1)) (db_der (de_call (ok__law_draw c) (hr.mono (by decide)) (by rfl) c.g__law_draw c.D__law_draw.kp (b__law_draw c) takes0 (da_cons (de_var (pv 0)) (da_cons de_int da_nil)))) (fun _ _ => rfl)))))))))))) (p__law_cell c)
theorem sc__law_lines : FnScope N__law_lines ["_law_jar_here", "_law_heads_here", "_law_most"] (defScope s27) := ⟨rfl, rfl, rfl, by decide +kernel, rfl, by decide +kernel, by decide +kernel⟩
theorem b__law_lines (c : Fx K mg) : Binds K c.d__law_lines ["_law_jar_here", "_law_heads_here", "_law_most"] [] := c.D__law_lines.bindsN fun _ _ _ _ _ _ us hl => match us, hl with | [_, _, _], _ => rfl
theorem ok__law_lines (c : Fx K mg) : FnOk P w K mg base (L2.CX P w) 3 (He.fAd K ("_law_lines", none)) c.d__law_lines ["_law_jar_here", "_law_heads_here", "_law_most"] (spD K (f__law_lines K)) :=
  dfnJ (db := tb__law_lines K) c.D__law_lines sc__law_lines (fun _ _ _ _ h => len__law_lines h) (fun cdv A outer s H E hr =>
    (dss_cons (ds_set (i := 3) sc__law_lines.nd rfl (by first | exact Or.inl rfl | exact Or.inr rfl) (DF_e (df_lst (da_cons (de_str) (da_cons (de_call (ok__law_cell c) (hr.mono (by decide)) (by rfl) c.g__law_cell c.D__law_cell.kp (b__law_cell c) (takes_of rfl rfl rfl rfl) (da_cons (de_var (pv 0)) da_nil)) (da_cons (de_call (ok__law_cell c) (hr.mono (by decide)) (by rfl) c.g__law_cell c.D__law_cell.kp (b__law_cell c) (takes_of rfl rfl rfl rfl) (da_cons (de_var (pv 0)) da_nil)) (da_cons (de_call (ok__law_cell c) (hr.mono (by decide)) (by rfl) c.g__law_cell c.D__law_cell.kp (b__law_cell c) (takes_of rfl rfl rfl rfl) (da_cons (de_var (pv 0)) da_nil)) da_nil)))))))
      (dss_cons (ds_setF (i := 4) sc__law_lines.nd rfl (by first | exact Or.inl rfl | exact Or.inr rfl) (df_lcW rfl sc__law_lines.nd (di_rng1 (by rfl) c.n_range (da_cons de_int da_nil)) (blkOk_by (own := [("_law_k", 5)]) (N := N__law_lines) (sc := defScope s27) (by decide +kernel)) (fun _ _ _ _ _ => (dgc_name (vs := [5]) (i := 5) (by decide) sc__law_lines.nd rfl (by first | exact Or.inl rfl | exact Or.inr rfl))) (fun _ _ _ _ _ => dts_nil) (fun _ _ _ _ _ => (de_callTy call_tupleD (by rfl) c.n_tuple (by decide +kernel) (dab_cons (DE_b (DF_e (df_lcW rfl sc__law_lines.nd (di_seq (de_var (pv 1))) (blkOk_by (own := [("_law_head", 6)]) (N := N__law_lines) (by rfl)) (fun _ _ _ _ _ => (dgc_name (vs := [6]) (i := 6) (by decide) sc__law_lines.nd rfl (by first | exact Or.inl rfl | exact Or.inr rfl))) (fun _ _ _ _ _ => dts_nil) (fun _ _ _ _ _ => (de_ixV ix_any (de_var (pv 3)) (db_der (de_call (ok__law_draw c) (hr.mono (by decide)) (by rfl) c.g__law_draw c.D__law_draw.kp (b__law_draw c) takes0 (da_cons (de_var (pv 0)) (da_cons de_int da_nil)))) (fun _ _ => rfl)))))) dab_nil)))))
      (dss_cons (ds_append (dp_var (pv 4)) (de_callTy call_tupleD (by rfl) c.n_tuple (by decide +kernel) (dab_cons (DE_b (DF_e (df_lcW rfl sc__law_lines.nd (di_seq (de_var (pv 1))) (blkOk_by (own := [("_law_head", 6)]) (N := N__law_lines) (sc := defScope s27) (by decide +kernel)) (fun _ _ _ _ _ => (dgc_name (vs := [6]) (i := 6) (by decide) sc__law_lines.nd rfl (by first | exact Or.inl rfl | exact Or.inr rfl))) (fun _ _ _ _ _ => dts_nil) (fun _ _ _ _ _ => (de_call (ok__law_cell c) (hr.mono (by decide)) (by rfl) c.g__law_cell c.D__law_cell.kp (b__law_cell c) takes0 (da_cons (de_var (pv 0)) da_nil)))))) dab_nil)))
      (dss_frz 4 (dss_one (ds_ret (DF_e (df_lcW rfl sc__law_lines.nd (di_rng1 (by rfl) c.n_range (da_cons (de_call (ok__law_draw c) (hr.mono (by decide)) (by rfl) c.g__law_draw c.D__law_draw.kp (b__law_draw c) (takes_of rfl rfl rfl rfl) (da_cons (de_var (pv 0)) (da_cons (de_bin DD.op_add (db_bov (pv 2)) (DE_b de_int)) da_nil))) da_nil)) (blkOk_by (own := [("_law_k", 5)]) (N := N__law_lines) (sc := defScope s27) (by decide +kernel)) (fun _ _ _ _ _ => (dgc_name (vs := [5]) (i := 5) (by decide) sc__law_lines.nd rfl (by first | exact Or.inl rfl | exact Or.inr rfl))) (fun _ _ _ _ _ => dts_nil) (fun _ _ _ _ _ => (de_ixV ix_any (de_var (pv 4)) (db_der (de_call (ok__law_draw c) (hr.mono (by decide)) (by rfl) c.g__law_draw c.D__law_draw.kp (b__law_draw c) takes0 (da_cons (de_var (pv 0)) (da_cons de_int da_nil)))) (fun _ _ => rfl)))))))))))) (p__law_lines c)
theorem sc_is_written : FnScope N_is_written ["thing", "characters", "least", "most"] (defScope s4) := ⟨rfl, rfl, rfl, by decide +kernel, rfl, by decide +kernel, by decide +kernel⟩
theorem b_is_written (c : Fx K mg) : Binds K c.d_is_written ["thing", "characters", "least", "most"] [] := c.D_is_written.bindsN fun _ _ _ _ _ _ us hl => match us, hl with | [_, _, _, _], _ => rfl
theorem ok_is_written (c : Fx K mg) : FnOk P w K mg base (L2.CX P w) 1 (He.fAd K ("is_written", none)) c.d_is_written ["thing", "characters", "least", "most"] (spD K (f_is_written K)) :=
  dfn (db := tb_is_written K) c.D_is_written sc_is_written (fun _ _ _ _ h => len_is_written h) (fun cdv A outer s H E hr =>
    (dss_cons (ds_if (dt_w (dw_or (dt_not (dt_tru (DE_b (de_isi (by rfl) c.n_isinstance (db_bov (pv 0)) (DE_b (de_tyn (by rfl) c.n_str (by decide +kernel))))))) (dw_or1 (dt_not (dt_chain (DD.op_le) (DD.op_le) (db_bov (pv 2)) (DE_b (de_callB call_lenD (by rfl) c.n_len (by decide +kernel) (dab_cons (db_bov (pv 0)) dab_nil))) (db_bov (pv 3)))))))
      (dss_one (ds_ret de_bl))
      dss_nil)
      (dss_one (ds_ret (de_callB (call_allD rfl) (by rfl) c.n_all (by decide +kernel) (dab_cons (DE_b (DF_e (df_lcW rfl sc_is_written.nd (di_seq (de_var (pv 0))) (blkOk_by (own := [("sign", 4)]) (N := N_is_written) (sc := defScope s4) (by decide +kernel)) (fun _ _ _ _ _ => (dgc_name (vs := [4]) (i := 4) (by decide) sc_is_written.nd rfl (by first | exact Or.inl rfl | exact Or.inr rfl))) (fun _ _ _ _ _ => dts_nil) (fun _ _ _ _ _ => (de_cmp (DD.op_in (ru hr)) (db_bov (pv 4)) (db_bov (pv 1)) (by rfl)))))) dab_nil)))))) (p_is_written c)
theorem sc_is_name : FnScope N_is_name ["thing"] (defScope s5) := ⟨rfl, rfl, rfl, by decide +kernel, rfl, by decide +kernel, by decide +kernel⟩
theorem b_is_name (c : Fx K mg) : Binds K c.d_is_name ["thing"] [] := c.D_is_name.bindsN fun _ _ _ _ _ _ us hl => match us, hl with | [_], _ => rfl
theorem ok_is_name (c : Fx K mg) : FnOk P w K mg base (L2.CX P w) 2 (He.fAd K ("is_name", none)) c.d_is_name ["thing"] (spD K (f_is_name K)) :=
  dfn (db := tb_is_name K) c.D_is_name sc_is_name (fun _ _ _ _ h => len_is_name h) (fun cdv A outer s H E hr =>
    (dss_one (ds_ret (de_call (ok_is_written c) (hr.mono (by decide)) (by rfl) c.g_is_written c.D_is_written.kp (b_is_written c) (takes_of rfl rfl rfl rfl) (da_cons (de_var (pv 0)) (da_cons (de_gstr (by rfl) c.k_LETTERS) (da_cons de_int (da_cons (de_gint (by rfl) c.k_LONGEST_NAME) da_nil)))))))) (p_is_name c)
theorem sc_are_columns : FnScope N_are_columns ["thing"] (defScope s7) := ⟨rfl, rfl, rfl, by decide +kernel, rfl, by decide +kernel, by decide +kernel⟩
theorem b_are_columns (c : Fx K mg) : Binds K c.d_are_columns ["thing"] [] := c.D_are_columns.bindsN fun _ _ _ _ _ _ us hl => match us, hl with | [_], _ => rfl
theorem ok_are_columns (c : Fx K mg) : FnOk P w K mg base (L2.CX P w) 3 (He.fAd K ("are_columns", none)) c.d_are_columns ["thing"] (spD K (f_are_columns K)) :=
  dfn (db := tb_are_columns K) c.D_are_columns sc_are_columns (fun _ _ _ _ h => len_are_columns h) (fun cdv A outer s H E hr =>
    (dss_cons (ds_if (dt_w (dw_or (dt_not (dt_tru (DE_b (de_isi (by rfl) c.n_isinstance (db_bov (pv 0)) (DE_b (de_tyn (by rfl) c.n_tuple (by decide +kernel))))))) (dw_or1 (dt_not (dt_chain (DD.op_le) (DD.op_le) (DE_b de_int) (DE_b (de_callB call_lenD (by rfl) c.n_len (by decide +kernel) (dab_cons (db_bov (pv 0)) dab_nil))) (DE_b (de_gint (by rfl) c.k_MOST_COLUMNS)))))))
      (dss_one (ds_ret de_bl))
      dss_nil)
      (dss_one (ds_ret (de_and (de_callB (call_allD rfl) (by rfl) c.n_all (by decide +kernel) (dab_cons (DE_b (DF_e (df_lcW rfl sc_are_columns.nd (di_seq (de_var (pv 0))) (blkOk_by (own := [("name", 1)]) (N := N_are_columns) (sc := defScope s7) (by decide +kernel)) (fun _ _ _ _ _ => (dgc_name (vs := [1]) (i := 1) (by decide) sc_are_columns.nd rfl (by first | exact Or.inl rfl | exact Or.inr rfl))) (fun _ _ _ _ _ => dts_nil) (fun _ _ _ _ _ => (de_call (ok_is_name c) (hr.mono (by decide)) (by rfl) c.g_is_name c.D_is_name.kp (b_is_name c) takes0 (da_cons (de_var (pv 1)) da_nil)))))) dab_nil)) (de_one (de_cmp (DD.op_eq hr.units) (DE_b (de_lenSet rfl (by rfl) c.n_len (by rfl) c.n_set (db_bov (pv 0)))) (DE_b (de_callB call_lenD (by rfl) c.n_len (by decide +kernel) (dab_cons (db_bov (pv 0)) dab_nil))) (nomark _)))))))) (p_are_columns c)
theorem sc_NoRow___init__ : FnScope N_NoRow___init__ ["self", "index"] (defScope s1) := ⟨rfl, rfl, rfl, by decide +kernel, rfl, by decide +kernel, by decide +kernel⟩
theorem b_NoRow___init__ (c : Fx K mg) : Binds K c.d_NoRow___init__ ["self", "index"] [] := c.D_NoRow___init__.bindsN fun _ _ _ _ _ _ us hl => match us, hl with | [_, _], _ => rfl
theorem ok_NoRow___init__ (c : Fx K mg) : FnOk P w K mg base (L2.CX P w) 1 (He.fAd K ("NoRow", some "__init__")) c.d_NoRow___init__ ["self", "index"] (spLow (He.ga K "NoRow") "index") := low_ok c.D_NoRow___init__ sc_NoRow___init__ c.o_NoRow.1 c.oa_NoRow rfl (fun X h1 h2 => pe_var (i := 0) (x := "self") (by rw [h1]; rfl) (by rw [h2]; first | exact Or.inl rfl | exact Or.inr (Or.inl rfl) | exact Or.inr (Or.inr rfl))) (fun X h1 h2 => pe_var (i := 1) (x := "index") (by rw [h1]; rfl) (by rw [h2]; first | exact Or.inl rfl | exact Or.inr (Or.inl rfl) | exact Or.inr (Or.inr rfl)))
theorem sc_is_cell : FnScope N_is_cell ["thing"] (defScope s6) := ⟨rfl, rfl, rfl, by decide +kernel, rfl, by decide +kernel, by decide +kernel⟩
theorem b_is_cell (c : Fx K mg) : Binds K c.d_is_cell ["thing"] [] := c.D_is_cell.bindsN fun _ _ _ _ _ _ us hl => match us, hl with | [_], _ => rfl
theorem ok_is_cell (c : Fx K mg) : FnOk P w K mg base (L2.CX P w) 2 (He.fAd K ("is_cell", none)) c.d_is_cell ["thing"] (spD K (f_is_cell K)) :=
  dfn (db := tb_is_cell K) c.D_is_cell sc_is_cell (fun _ _ _ _ h => len_is_cell h) (fun cdv A outer s H E hr =>
    (dss_one (ds_ret (de_call (ok_is_written c) (hr.mono (by decide)) (by rfl) c.g_is_written c.D_is_written.kp (b_is_written c) (takes_of rfl rfl rfl rfl) (da_cons (de_var (pv 0)) (da_cons (de_gstr (by rfl) c.k_CELL_CHARACTERS) (da_cons de_int (da_cons (de_gint (by rfl) c.k_LONGEST_CELL) da_nil)))))))) (p_is_cell c)
theorem sc_is_row : FnScope N_is_row ["columns", "thing"] (defScope s8) := ⟨rfl, rfl, rfl, by decide +kernel, rfl, by decide +kernel, by decide +kernel⟩
theorem b_is_row (c : Fx K mg) : Binds K c.d_is_row ["columns", "thing"] [] := c.D_is_row.bindsN fun _ _ _ _ _ _ us hl => match us, hl with | [_, _], _ => rfl
theorem ok_is_row (c : Fx K mg) : FnOk P w K mg base (L2.CX P w) 3 (He.fAd K ("is_row", none)) c.d_is_row ["columns", "thing"] (spD K (f_is_row K)) :=
  dfn (db := tb_is_row K) c.D_is_row sc_is_row (fun _ _ _ _ h => len_is_row h) (fun cdv A outer s H E hr =>
    (dss_one (ds_ret (de_and (de_isi (by rfl) c.n_isinstance (db_bov (pv 1)) (DE_b (de_tyn (by rfl) c.n_tuple (by decide +kernel)))) (de_and (de_cmp (DD.op_eq hr.units) (DE_b (de_callB call_lenD (by rfl) c.n_len (by decide +kernel) (dab_cons (db_bov (pv 1)) dab_nil))) (DE_b (de_callB call_lenD (by rfl) c.n_len (by decide +kernel) (dab_cons (db_bov (pv 0)) dab_nil))) (nomark _)) (de_one (de_callB (call_allD rfl) (by rfl) c.n_all (by decide +kernel) (dab_cons (DE_b (DF_e (df_lcW rfl sc_is_row.nd (di_seq (de_var (pv 1))) (blkOk_by (own := [("cell", 2)]) (N := N_is_row) (sc := defScope s8) (by decide +kernel)) (fun _ _ _ _ _ => (dgc_name (vs := [2]) (i := 2) (by decide) sc_is_row.nd rfl (by first | exact Or.inl rfl | exact Or.inr rfl))) (fun _ _ _ _ _ => dts_nil) (fun _ _ _ _ _ => (de_call (ok_is_cell c) (hr.mono (by decide)) (by rfl) c.g_is_cell c.D_is_cell.kp (b_is_cell c) takes0 (da_cons (de_var (pv 2)) da_nil)))))) dab_nil)))))))) (p_is_row c)
theorem sc_Listing___init__ : FnScope N_Listing___init__ ["self", "columns", "rows"] (defScope s9) := ⟨rfl, rfl, rfl, by decide +kernel, rfl, by decide +kernel, by decide +kernel⟩
theorem b_Listing___init__ (c : Fx K mg) : Binds K c.d_Listing___init__ ["self", "columns", "rows"] [] := by
  obtain ⟨ds, hv, hb⟩ := FunD.binds1 (ps := ["self", "columns", "rows"]) c.D_Listing___init__ 3 1 (by simp) rfl (fun _ _ _ _ _ _ _ us its hl hi => match us, hl, its, hi with | [_, _, _], _, [_], _ => ⟨_, rfl, rfl⟩)
  cases hv
  exact hb
theorem bd_Listing (c : Fx K mg) : ∃ ds, Vals [V.ref (He.dflAt ("Listing", some "__init__") 0 K)] ds ∧ Binds K c.d_Listing___init__ ["self", "columns", "rows"] ds := FunD.binds1 (ps := ["self", "columns", "rows"]) c.D_Listing___init__ 2 0 (by simp) rfl (fun _ _ _ _ _ _ _ us its hl hi => match us, hl, its, hi with | [_, _], _, [_], _ => ⟨_, rfl, rfl⟩)
theorem hd_Listing (c : Fx K mg) : ∀ H M, ImL K H M [V.ref (He.dflAt ("Listing", some "__init__") 0 K)] [.tup []] := fun H M => .cons (tup0B_ok c.t0_Listing H M) .nil
def kgv0_Listing : {α : Type} → List α → List α → List α → List α := fun {α} vs ds zs => vs ++ (match zs with | [z0, z1] => [z1, z0] | _ => [])
theorem kb0_Listing (c : Fx K mg) : ∃ its : List Value, KBn K c.d_Listing___init__ ["self", "columns", "rows"] 1 ["rows", "columns"] ((fun its us ws => kgv0_Listing us its ws) its) (fun vs zs => kgv0_Listing vs [V.ref (He.dflAt ("Listing", some "__init__") 0 K)] zs) := kbn1 (ps := ["self", "columns", "rows"]) c.D_Listing___init__ 1 ["rows", "columns"] kgv0_Listing (by simp) (fun {vs ds zs us its ws} h1 h2 h3 => by
    unfold kgv0_Listing
    refine h1.append ?_
    cases h3 with
    | nil => exact .nil
    | cons a r => cases r with
      | nil => exact .nil
      | cons b r => cases r with
        | nil => exact .cons b (.cons a .nil)
        | cons _ _ => exact .nil) (fun _ _ _ _ _ _ _ us its ws h1 h2 h3 => match us, h1, its, h2, ws, h3 with | [_], _, [_], _, [_, _], _ => ⟨_, rfl, rfl⟩)
theorem kh0_Listing : ∀ (H : Hp) (M : Gh) (v : V) (d : D) (zs : List V) (es : List D), Im K H M v d → ImL K H M zs es → es.length = 2 → ImL K H M (kgv0_Listing [v] [V.ref (He.dflAt ("Listing", some "__init__") 0 K)] zs) (kg0_Listing [d] es) := by
  intro H M v d zs es im r hl
  unfold kgv0_Listing kg0_Listing
  cases r with
  | nil => simp at hl
  | cons a r => cases r with
    | nil => simp at hl
    | cons b r => cases r with
      | nil => exact .cons im (.cons b (.cons a .nil))
      | cons _ _ => simp at hl
theorem ok_Listing___init__ (c : Fx K mg) : FnOk P w K mg base (L2.CX P w) 4 (He.fAd K ("Listing", some "__init__")) c.d_Listing___init__ ["self", "columns", "rows"] (spD K (f_Listing___init__ K)) :=
  dfn (db := tb_Listing___init__ K) c.D_Listing___init__ sc_Listing___init__ (fun _ _ _ _ h => len_Listing___init__ h) (fun cdv A outer s H E hr =>
    (dss_cons (ds_if (dt_not (dt_tru (db_der (de_call (ok_are_columns c) (hr.mono (by decide)) (by rfl) c.g_are_columns c.D_are_columns.kp (b_are_columns c) (takes_of rfl rfl rfl rfl) (da_cons (de_var (pv 1)) da_nil)))))
      (dss_one (ds_raiseT rfl (takes_of rfl rfl rfl rfl) c.e_NoColumns.1 c.g_NoColumns c.e_NoColumns.2.1 c.e_NoColumns.2.2.1 c.e_NoColumns.2.2.2 rfl))
      dss_nil)
      (dss_cons (ds_if (dt_not (dt_tru (DE_b (de_isi (by rfl) c.n_isinstance (db_bov (pv 2)) (DE_b (de_tyn (by rfl) c.n_tuple (by decide +kernel)))))))
      (dss_one (ds_raiseX rfl (takes_of rfl rfl rfl rfl) c.o_NoRow.1 c.o_NoRow.2.1 c.o_NoRow.2.2 (ok_NoRow___init__ c) hr (by decide) (b_NoRow___init__ c) (by rfl) c.g_NoRow de_int))
      dss_nil)
      (dss_cons (ds_for (passes_of rfl) rfl (di_enum (by rfl) c.n_enumerate (de_var (pv 2))) (dg_tup rfl (dgs_cons (dg_name (i := 3) sc_Listing___init__.nd rfl (by first | exact Or.inl rfl | exact Or.inr rfl)) (dgs_cons (dg_name (i := 4) sc_Listing___init__.nd rfl (by first | exact Or.inl rfl | exact Or.inr rfl)) dgs_nil)))
      (dss_one (ds_if (dt_not (dt_tru (db_der (de_call (ok_is_row c) (hr.mono (by decide)) (by rfl) c.g_is_row c.D_is_row.kp (b_is_row c) (takes_of rfl rfl rfl rfl) (da_cons (de_var (pv 1)) (da_cons (de_var (pv 4)) da_nil))))))
      (dss_one (ds_raiseX rfl (takes_of rfl rfl rfl rfl) c.o_NoRow.1 c.o_NoRow.2.1 c.o_NoRow.2.2 (ok_NoRow___init__ c) hr (by decide) (b_NoRow___init__ c) (by rfl) c.g_NoRow (de_var (pv 3))))
      dss_nil)))
      (dss_cons (ds_fld (de_var (pv 0)) (de_var (pv 1)) c.c_Listing c.a_Listing_heads)
      (dss_one (ds_fldF (i := 0) (pv 0) (df_listOf (by rfl) c.n_list (db_bov (pv 2))) c.c_Listing c.a_Listing_lines))))))) (p_Listing___init__ c)
theorem sc_Listing_rows : FnScope N_Listing_rows ["self"] (defScope s21) := ⟨rfl, rfl, rfl, by decide +kernel, rfl, by decide +kernel, by decide +kernel⟩
theorem b_Listing_rows (c : Fx K mg) : Binds K c.d_Listing_rows ["self"] [] := c.D_Listing_rows.bindsN fun _ _ _ _ _ _ us hl => match us, hl with | [_], _ => rfl
theorem ok_Listing_rows (c : Fx K mg) : FnOk P w K mg base (L2.CX P w) 1 (He.fAd K ("Listing", some "rows")) c.d_Listing_rows ["self"] (spD K (f_Listing_rows K)) :=
  dfn (db := tb_Listing_rows K) c.D_Listing_rows sc_Listing_rows (fun _ _ _ _ h => len_Listing_rows h) (fun cdv A outer s H E hr =>
    (dss_one (ds_ret (de_newM (df_listOf (by rfl) c.n_list (db_fld (de_var (pv 0)) c.c_Listing c.a_Listing_lines)))))) (p_Listing_rows c)
theorem sc_Listing___len__ : FnScope N_Listing___len__ ["self"] (defScope s13) := ⟨rfl, rfl, rfl, by decide +kernel, rfl, by decide +kernel, by decide +kernel⟩
theorem b_Listing___len__ (c : Fx K mg) : Binds K c.d_Listing___len__ ["self"] [] := c.D_Listing___len__.bindsN fun _ _ _ _ _ _ us hl => match us, hl with | [_], _ => rfl
theorem ok_Listing___len__ (c : Fx K mg) : FnOk P w K mg base (L2.CX P w) 1 (He.fAd K ("Listing", some "__len__")) c.d_Listing___len__ ["self"] (spD K (f_Listing___len__ K)) :=
  dfn (db := tb_Listing___len__ K) c.D_Listing___len__ sc_Listing___len__ (fun _ _ _ _ h => len_Listing___len__ h) (fun cdv A outer s H E hr =>
    (dss_one (ds_ret (de_callB call_lenD (by rfl) c.n_len (by decide +kernel) (dab_cons (db_fld (de_var (pv 0)) c.c_Listing c.a_Listing_lines) dab_nil))))) (p_Listing___len__ c)
theorem sc_Listing_columns : FnScope N_Listing_columns ["self"] (defScope s20) := ⟨rfl, rfl, rfl, by decide +kernel, rfl, by decide +kernel, by decide +kernel⟩
theorem b_Listing_columns (c : Fx K mg) : Binds K c.d_Listing_columns ["self"] [] := c.D_Listing_columns.bindsN fun _ _ _ _ _ _ us hl => match us, hl with | [_], _ => rfl
theorem ok_Listing_columns (c : Fx K mg) : FnOk P w K mg base (L2.CX P w) 1 (He.fAd K ("Listing", some "columns")) c.d_Listing_columns ["self"] (spD K (f_Listing_columns K)) :=
  dfn (db := tb_Listing_columns K) c.D_Listing_columns sc_Listing_columns (fun _ _ _ _ h => len_Listing_columns h) (fun cdv A outer s H E hr =>
    (dss_one (ds_ret (de_fld (de_var (pv 0)) c.c_Listing c.a_Listing_heads)))) (p_Listing_columns c)
theorem sc_is_whole : FnScope N_is_whole ["thing"] (defScope s3) := ⟨rfl, rfl, rfl, by decide +kernel, rfl, by decide +kernel, by decide +kernel⟩
theorem b_is_whole (c : Fx K mg) : Binds K c.d_is_whole ["thing"] [] := c.D_is_whole.bindsN fun _ _ _ _ _ _ us hl => match us, hl with | [_], _ => rfl
theorem ok_is_whole (c : Fx K mg) : FnOk P w K mg base (L2.CX P w) 1 (He.fAd K ("is_whole", none)) c.d_is_whole ["thing"] (spD K (f_is_whole K)) :=
  dfn (db := tb_is_whole K) c.D_is_whole sc_is_whole (fun _ _ _ _ h => len_is_whole h) (fun cdv A outer s H E hr =>
    (dss_one (ds_ret (de_and (de_isi (by rfl) c.n_isinstance (db_bov (pv 0)) (DE_b (de_tyn (by rfl) c.n_int (by decide +kernel)))) (de_one (de_not (de_isi (by rfl) c.n_isinstance (db_bov (pv 0)) (DE_b (de_tyn (by rfl) c.n_bool (by decide +kernel)))))))))) (p_is_whole c)
theorem sc_Listing_has : FnScope N_Listing_has ["self", "index"] (defScope s17) := ⟨rfl, rfl, rfl, by decide +kernel, rfl, by decide +kernel, by decide +kernel⟩
theorem b_Listing_has (c : Fx K mg) : Binds K c.d_Listing_has ["self", "index"] [] := c.D_Listing_has.bindsN fun _ _ _ _ _ _ us hl => match us, hl with | [_, _], _ => rfl
theorem ok_Listing_has (c : Fx K mg) : FnOk P w K mg base (L2.CX P w) 2 (He.fAd K ("Listing", some "has")) c.d_Listing_has ["self", "index"] (spD K (f_Listing_has K)) :=
  dfn (db := tb_Listing_has K) c.D_Listing_has sc_Listing_has (fun _ _ _ _ h => len_Listing_has h) (fun cdv A outer s H E hr =>
    (dss_one (ds_ret (de_and (de_call (ok_is_whole c) (hr.mono (by decide)) (by rfl) c.g_is_whole c.D_is_whole.kp (b_is_whole c) (takes_of rfl rfl rfl rfl) (da_cons (de_var (pv 1)) da_nil)) (de_one (de_chain (DD.op_le) (DD.op_lt) (DE_b de_int) (db_bov (pv 1)) (DE_b (de_callB call_lenD (by rfl) c.n_len (by decide +kernel) (dab_cons (db_fld (de_var (pv 0)) c.c_Listing c.a_Listing_lines) dab_nil))))))))) (p_Listing_has c)
theorem sc_NoIndex___init__ : FnScope N_NoIndex___init__ ["self", "index"] (defScope s2) := ⟨rfl, rfl, rfl, by decide +kernel, rfl, by decide +kernel, by decide +kernel⟩
theorem b_NoIndex___init__ (c : Fx K mg) : Binds K c.d_NoIndex___init__ ["self", "index"] [] := c.D_NoIndex___init__.bindsN fun _ _ _ _ _ _ us hl => match us, hl with | [_, _], _ => rfl
theorem ok_NoIndex___init__ (c : Fx K mg) : FnOk P w K mg base (L2.CX P w) 1 (He.fAd K ("NoIndex", some "__init__")) c.d_NoIndex___init__ ["self", "index"] (spLow (He.ga K "NoIndex") "index") := low_ok c.D_NoIndex___init__ sc_NoIndex___init__ c.o_NoIndex.1 c.oa_NoIndex rfl (fun X h1 h2 => pe_var (i := 0) (x := "self") (by rw [h1]; rfl) (by rw [h2]; first | exact Or.inl rfl | exact Or.inr (Or.inl rfl) | exact Or.inr (Or.inr rfl))) (fun X h1 h2 => pe_var (i := 1) (x := "index") (by rw [h1]; rfl) (by rw [h2]; first | exact Or.inl rfl | exact Or.inr (Or.inl rfl) | exact Or.inr (Or.inr rfl)))
theorem sc_Listing___getitem__ : FnScope N_Listing___getitem__ ["self", "index"] (defScope s10) := ⟨rfl, rfl, rfl, by decide +kernel, rfl, by decide +kernel, by decide +kernel⟩
theorem b_Listing___getitem__ (c : Fx K mg) : Binds K c.d_Listing___getitem__ ["self", "index"] [] := c.D_Listing___getitem__.bindsN fun _ _ _ _ _ _ us hl => match us, hl with | [_, _], _ => rfl
theorem ok_Listing___getitem__ (c : Fx K mg) : FnOk P w K mg base (L2.CX P w) 3 (He.fAd K ("Listing", some "__getitem__")) c.d_Listing___getitem__ ["self", "index"] (spD K (f_Listing___getitem__ K)) :=
  dfn (db := tb_Listing___getitem__ K) c.D_Listing___getitem__ sc_Listing___getitem__ (fun _ _ _ _ h => len_Listing___getitem__ h) (fun cdv A outer s H E hr =>
    (dss_cons (ds_if (dt_not (dt_tru (db_der (de_meth (de_var (pv 0)) c.c_Listing c.m_Listing_has (ok_Listing_has c) (hr.mono (by decide)) (b_Listing_has c) (takes_of rfl rfl rfl rfl) (da_cons (de_var (pv 1)) da_nil)))))
      (dss_one (ds_raiseX rfl (takes_of rfl rfl rfl rfl) c.o_NoIndex.1 c.o_NoIndex.2.1 c.o_NoIndex.2.2 (ok_NoIndex___init__ c) hr (by decide) (b_NoIndex___init__ c) (by rfl) c.g_NoIndex (de_var (pv 1))))
      dss_nil)
      (dss_one (ds_ret (de_ix ix_any (db_fld (de_var (pv 0)) c.c_Listing c.a_Listing_lines) (db_bov (pv 1)) (fun _ _ => rfl)))))) (p_Listing___getitem__ c)
theorem sc__law_tells : FnScope N__law_tells ["_law_work", "_law_heads_here", "_law_lines_here"] (defScope s28) := ⟨rfl, rfl, rfl, by decide +kernel, rfl, by decide +kernel, by decide +kernel⟩
theorem b__law_tells (c : Fx K mg) : Binds K c.d__law_tells ["_law_work", "_law_heads_here", "_law_lines_here"] [] := c.D__law_tells.bindsN fun _ _ _ _ _ _ us hl => match us, hl with | [_, _, _], _ => rfl
theorem ok__law_tells (c : Fx K mg) : FnOk P w K mg base (L2.CX P w) 5 (He.fAd K ("_law_tells", none)) c.d__law_tells ["_law_work", "_law_heads_here", "_law_lines_here"] (spD K (f__law_tells K)) :=
  dfn (db := tb__law_tells K) c.D__law_tells sc__law_tells (fun _ _ _ _ h => len__law_tells h) (fun cdv A outer s H E hr =>
    (dss_cons (ds_set (i := 3) sc__law_tells.nd rfl (by first | exact Or.inl rfl | exact Or.inr rfl) (de_meth0 (de_var (pv 0)) c.c_Listing c.m_Listing_rows (ok_Listing_rows c) (hr.mono (by decide)) (b_Listing_rows c) (takes_of rfl rfl rfl rfl)))
      (dss_cons (ds_if (dt_w (dw_or (dt_not (dt_tru (DE_b (de_isi (by rfl) c.n_isinstance (db_bov (pv 3)) (DE_b (de_tyn (by rfl) c.n_list (by decide +kernel))))))) (dw_or (dt_cmp (DD.op_ne hr.units) (db_bov (pv 3)) (db_bov (pv 2)) (nomark _)) (dw_or (dt_cmp (DD.op_ne hr.units) (DE_b (de_lenO (ok_Listing___len__ c) (hr.mono (by decide)) (b_Listing___len__ c) (takes_of rfl rfl rfl rfl) c.s_Listing___len__.1 c.s_Listing___len__.2 (by rfl) c.n_len (de_var (pv 0)))) (DE_b (de_callB call_lenD (by rfl) c.n_len (by decide +kernel) (dab_cons (db_bov (pv 2)) dab_nil))) (nomark _)) (dw_or1 (dt_cmp (DD.op_ne hr.units) (db_der (de_meth0 (de_var (pv 0)) c.c_Listing c.m_Listing_columns (ok_Listing_columns c) (hr.mono (by decide)) (b_Listing_columns c) (takes_of rfl rfl rfl rfl))) (db_bov (pv 1)) (nomark _)))))))
      (dss_one (ds_ret de_bl))
      dss_nil)
      (dss_cons (ds_for (passes_of rfl) rfl (di_rng1 (by rfl) c.n_range (da_cons (de_callB call_lenD (by rfl) c.n_len (by decide +kernel) (dab_cons (db_bov (pv 2)) dab_nil)) da_nil)) (dg_name (i := 4) sc__law_tells.nd rfl (by first | exact Or.inl rfl | exact Or.inr rfl))
      (dss_one (ds_if (dt_cmp (DD.op_ne hr.units) (db_der (de_ixO (ok_Listing___getitem__ c) (hr.mono (by decide)) (b_Listing___getitem__ c) (takes_of rfl rfl rfl rfl) c.s_Listing___getitem__.1 c.f_Listing___getitem__ c.s_Listing___getitem__.2 (de_var (pv 0)) (de_var (pv 4)))) (db_der (de_ix ix_any (db_bov (pv 2)) (db_bov (pv 4)) (fun _ _ => rfl))) (nomark _))
      (dss_one (ds_ret de_bl))
      dss_nil)))
      (dss_cons (ds_clear (dp_var (pv 3)))
      (dss_one (ds_ret (de_cmp (DD.op_eq hr.units) (db_der (de_meth0 (de_var (pv 0)) c.c_Listing c.m_Listing_rows (ok_Listing_rows c) (hr.mono (by decide)) (b_Listing_rows c) (takes_of rfl rfl rfl rfl))) (db_bov (pv 2)) (nomark _))))))))) (p__law_tells c)
theorem sc__law_right : FnScope N__law_right ["_law_jar_here", "_law_held"] (defScope s29) := ⟨rfl, rfl, rfl, by decide +kernel, rfl, by decide +kernel, by decide +kernel⟩
theorem b__law_right (c : Fx K mg) : Binds K c.d__law_right ["_law_jar_here", "_law_held"] [] := c.D__law_right.bindsN fun _ _ _ _ _ _ us hl => match us, hl with | [_, _], _ => rfl
theorem ok__law_right (c : Fx K mg) : FnOk P w K mg base (L2.CX P w) 6 (He.fAd K ("_law_right", none)) c.d__law_right ["_law_jar_here", "_law_held"] (spD K (f__law_right K)) :=
  dfn (db := tb__law_right K) c.D__law_right sc__law_right (fun _ _ _ _ h => len__law_right h) (fun cdv A outer s H E hr =>
    (dss_cons (ds_set (i := 2) sc__law_right.nd rfl (by first | exact Or.inl rfl | exact Or.inr rfl) (de_call (ok__law_heads c) (hr.mono (by decide)) (by rfl) c.g__law_heads c.D__law_heads.kp (b__law_heads c) (takes_of rfl rfl rfl rfl) (da_cons (de_var (pv 0)) (da_cons (de_binV DD.op_add de_int (db_der (de_call (ok__law_draw c) (hr.mono (by decide)) (by rfl) c.g__law_draw c.D__law_draw.kp (b__law_draw c) (takes_of rfl rfl rfl rfl) (da_cons (de_var (pv 0)) (da_cons de_int da_nil))))) da_nil))))
      (dss_cons (ds_set (i := 3) sc__law_right.nd rfl (by first | exact Or.inl rfl | exact Or.inr rfl) (de_call (ok__law_lines c) (hr.mono (by decide)) (by rfl) c.g__law_lines c.D__law_lines.kp (b__law_lines c) (takes_of rfl rfl rfl rfl) (da_cons (de_var (pv 0)) (da_cons (de_var (pv 2)) (da_cons (de_ixV ix_any (DF_e (df_lst (da_cons de_int (da_cons de_int (da_cons de_int (da_cons de_int (da_cons de_int (da_cons de_int da_nil)))))))) (db_der (de_call (ok__law_draw c) (hr.mono (by decide)) (by rfl) c.g__law_draw c.D__law_draw.kp (b__law_draw c) (takes_of rfl rfl rfl rfl) (da_cons (de_var (pv 0)) (da_cons de_int da_nil)))) (fun _ _ => rfl)) da_nil)))))
      (dss_cons (ds_set (i := 4) sc__law_right.nd rfl (by first | exact Or.inl rfl | exact Or.inr rfl) (DF_e (df_lst (da_cons (de_make c.mk_Listing (ok_Listing___init__ c) (hr.mono (by decide)) (by rfl) c.g_Listing (b_Listing___init__ c) .nil (fun _ _ => .nil) (takes_of rfl rfl rfl rfl) (da_cons (de_var (pv 2)) (da_cons (de_callTy call_tupleD (by rfl) c.n_tuple (by decide +kernel) (dab_cons (db_bov (pv 3)) dab_nil)) da_nil))) (da_cons (de_makeD c.mk_Listing (ok_Listing___init__ c) (hr.mono (by decide)) (by rfl) c.g_Listing (bd_Listing c) (hd_Listing c) (takes_of rfl rfl rfl rfl) (da_cons (de_var (pv 2)) da_nil)) (da_cons (de_makeKE (ks := ["rows", "columns"]) (gD := kg0_Listing) c.mk_Listing (ok_Listing___init__ c) (hr.mono (by decide)) (by rfl) c.g_Listing (kb0_Listing c) kh0_Listing (takes_of rfl rfl rfl rfl) (dk_cons (de_callTy call_tupleD (by rfl) c.n_tuple (by decide +kernel) (dab_cons (db_bov (pv 3)) dab_nil)) (dk_cons (de_var (pv 2)) dk_nil))) da_nil))))))
      (dss_cons (ds_set (i := 5) sc__law_right.nd rfl (by first | exact Or.inl rfl | exact Or.inr rfl) (DF_e (df_lst (da_cons (de_var (pv 3)) (da_cons (DF_e (df_lst da_nil)) (da_cons (de_var (pv 3)) da_nil))))))
      (dss_cons (ds_for (passes_of rfl) rfl (di_rng1 (by rfl) c.n_range (da_cons de_int da_nil)) (dg_name (i := 6) sc__law_right.nd rfl (by first | exact Or.inl rfl | exact Or.inr rfl))
      (dss_one (ds_append (dp_var (pv 1)) (de_tup (da_cons (de_ix ix_any (db_bov (pv 4)) (db_bov (pv 6)) (fun _ _ => rfl)) (da_cons (de_var (pv 2)) (da_cons (de_ix ix_any (db_bov (pv 5)) (db_bov (pv 6)) (fun _ _ => rfl)) da_nil)))))))
      (dss_cons (ds_forP (passes_of rfl) rfl (dp_var (pv 1)) (dg_tup rfl (dgs_cons (dg_name (i := 7) sc__law_right.nd rfl (by first | exact Or.inl rfl | exact Or.inr rfl)) (dgs_cons (dg_name (i := 8) sc__law_right.nd rfl (by first | exact Or.inl rfl | exact Or.inr rfl)) (dgs_cons (dg_name (i := 9) sc__law_right.nd rfl (by first | exact Or.inl rfl | exact Or.inr rfl)) dgs_nil))))
      (dss_one (ds_if (dt_not (dt_tru (db_der (de_call (ok__law_tells c) (hr.mono (by decide)) (by rfl) c.g__law_tells c.D__law_tells.kp (b__law_tells c) (takes_of rfl rfl rfl rfl) (da_cons (de_var (pv 7)) (da_cons (de_var (pv 8)) (da_cons (de_var (pv 9)) da_nil)))))))
      (dss_one (ds_ret de_bl))
      dss_nil)))
      (dss_one (ds_ret de_bl))))))))) (p__law_right c)
theorem sc__law_jar : FnScope N__law_jar ["_law_script", "_law_k"] (defScope s23) := ⟨rfl, rfl, rfl, by decide +kernel, rfl, by decide +kernel, by decide +kernel⟩
theorem b__law_jar (c : Fx K mg) : Binds K c.d__law_jar ["_law_script", "_law_k"] [] := c.D__law_jar.bindsN fun _ _ _ _ _ _ us hl => match us, hl with | [_, _], _ => rfl
theorem ok__law_jar (c : Fx K mg) : FnOk P w K mg base (L2.CX P w) 1 (He.fAd K ("_law_jar", none)) c.d__law_jar ["_law_script", "_law_k"] (spD K (f__law_jar K)) :=
  dfn (db := tb__law_jar K) c.D__law_jar sc__law_jar (fun _ _ _ _ h => len__law_jar h) (fun cdv A outer s H E hr =>
    (dss_cons (ds_set (i := 2) sc__law_jar.nd rfl (by first | exact Or.inl rfl | exact Or.inr rfl) (de_ifE (dt_cmp (DD.op_lt) (db_bov (pv 1)) (DE_b (de_callB call_lenD (by rfl) c.n_len (by decide +kernel) (dab_cons (db_bov (pv 0)) dab_nil))) (nomark _)) (de_callB call_absD (by rfl) c.n_abs (by decide +kernel) (dab_cons (DE_b (de_callTy call_intD (by rfl) c.n_int (by decide +kernel) (dab_cons (db_der (de_ix ix_any (db_bov (pv 0)) (db_bov (pv 1)) (fun _ _ => rfl))) dab_nil))) dab_nil)) de_int))
      (dss_one (ds_ret (de_newJ (df_lst (da_cons (de_callB (call_maxD rfl) (by rfl) c.n_max (by decide +kernel) (dab_cons (DE_b de_int) (dab_cons (DE_b (de_bin DD.op_sub (db_bov (pv 2)) (DE_b (de_bin DD.op_pow (DE_b de_int) (DE_b de_int))))) dab_nil))) (da_cons (de_bin DD.op_add (DE_b (de_bin DD.op_mod (DE_b (de_callTy call_intD (by rfl) c.n_int (by decide +kernel) (dab_cons (db_bov (pv 2)) dab_nil))) (DE_b (de_bin DD.op_add (DE_b (de_bin DD.op_pow (DE_b de_int) (DE_b de_int))) (DE_b de_int))))) (DE_b (de_bin DD.op_rep (DE_b de_int) (db_bov (pv 1))))) (da_cons de_int da_nil))))))))) (p__law_jar c)
theorem sc_law : FnScope N_law ["_law_script"] (defScope s30) := ⟨rfl, rfl, rfl, by decide +kernel, rfl, by decide +kernel, by decide +kernel⟩
theorem b_law (c : Fx K mg) : Binds K c.d_law ["_law_script"] [] := c.D_law.bindsN fun _ _ _ _ _ _ us hl => match us, hl with | [_], _ => rfl
theorem ok_law (c : Fx K mg) : FnOk P w K mg base (L2.CX P w) 7 (He.fAd K ("law", none)) c.d_law ["_law_script"] (spD K (f_law K)) :=
  dfn (db := tb_law K) c.D_law sc_law (fun _ _ _ _ h => len_law h) (fun cdv A outer s H E hr =>
    (dss_cons (ds_set (i := 1) sc_law.nd rfl (by first | exact Or.inl rfl | exact Or.inr rfl) (de_newM (df_lst da_nil)))
      (dss_cons (ds_for (passes_of rfl) rfl (di_rng1 (by rfl) c.n_range (da_cons (de_callB (call_maxD rfl) (by rfl) c.n_max (by decide +kernel) (dab_cons (DE_b de_int) (dab_cons (DE_b (de_callB (call_minD rfl) (by rfl) c.n_min (by decide +kernel) (dab_cons (DE_b de_int) (dab_cons (DE_b (de_callB call_lenD (by rfl) c.n_len (by decide +kernel) (dab_cons (db_bov (pv 0)) dab_nil))) dab_nil)))) dab_nil))) da_nil)) (dg_name (i := 2) sc_law.nd rfl (by first | exact Or.inl rfl | exact Or.inr rfl))
      (dss_one (ds_if (dt_not (dt_tru (db_der (de_call (ok__law_right c) (hr.mono (by decide)) (by rfl) c.g__law_right c.D__law_right.kp (b__law_right c) (takes_of rfl rfl rfl rfl) (da_cons (de_call (ok__law_jar c) (hr.mono (by decide)) (by rfl) c.g__law_jar c.D__law_jar.kp (b__law_jar c) (takes_of rfl rfl rfl rfl) (da_cons (de_var (pv 0)) (da_cons (de_var (pv 2)) da_nil))) (da_cons (de_var (pv 1)) da_nil))))))
      (dss_one (ds_ret de_bl))
      dss_nil)))
      (dss_one (ds_ret de_bl))))) (p_law c)
end
end Lk01

set_option Elab.async false
set_option linter.all false
set_option maxRecDepth 100000
set_option maxHeartbeats 0
open PySem PySem.W PySem.Calls PyProof.Rows
theorem PySem.Challenge.cw_labelsdown_k01_listings_made_holds : PySem.Challenge.rw_labelsdown_k01_listings_made.Holds := by
  w_on; o_law
  refine HandSHeadRun.head_any (r := OpenLaw.row PySem.Challenge.rw_labelsdown_k01_listings_made) (q := view (OpenLaw.row PySem.Challenge.rw_labelsdown_k01_listings_made).prog [28]) (H := Lk01.hk) (ob := Lk01.ob) (M := 4000) (loose := Lk01.names) (d := HandSHeadRun.topDef (OpenLaw.row PySem.Challenge.rw_labelsdown_k01_listings_made).prog 28) (kwd := []) Lk01.ob_eq
    (by kernel_rfl) (fun s => by kernel_rfl) Lk01.run (by kernel_rfl) (by kernel_rfl) (by kernel_rfl) (by rfl) (by first | assumption | decide +kernel) (by decide +kernel) ⟨rfl, rfl, rfl, rfl, rfl, by decide +kernel⟩ ?hw ?hc
  case hw => w_witness2
  case hc =>
    refine L2.walk_ofE (l := PySem.Challenge.rw_labelsdown_k01_listings_made) (n := 63) (k := 7) (x := "_law_script") (CX := L2.CX0) rfl (by decide) (by kernel_rfl) ⟨rfl, by decide, by decide⟩ ?F (fun _ _ _ _ z => z)
    case F =>
      intro w mg fa h Y G hmg0
      obtain ⟨K, KX, c⟩ := Y
      obtain ⟨c⟩ := Lk01.fx_of KX G c
      have hmg : mg ("law" : PySem.Str) = some (.ref fa) := by
        have e : (HandSHeadRun.topDef (OpenLaw.row PySem.Challenge.rw_labelsdown_k01_listings_made).prog 28).name = ("law" : PySem.Str) := by kernel_rfl
        rw [← e]
        exact hmg0
      have e := hmg.symm.trans c.g_law
      cases e
      exact ⟨K, c.d_law, fun vs H Q _ => DD.spD K (Lk01.f_law K) vs H Q fun _ _ _ => False, KX, fun s u => Lk01.bs_law c s u, fun H a ns hl _ hS => DD.law_sp hS (Lk01.law_law c ns hl), fun base _ _ => DD.calm_ok (Lk01.ok_law c)⟩
