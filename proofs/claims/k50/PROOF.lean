import PyProof.Rows.All
import Wide.All
import OpenK.AllK
import Wide.FinOn
import HandS.Base
import HandS.Call
import HandS.List
import HandS.Comp
import HandS.Dict
import HandS.Iter
import HandS.Text
import HandS.Exc
import HandS.TryOnly
import HandS.ExcOwn
import HandS.ExcInit
import HandS.Words
import HandS.WordsList
import HandS.WordsExc
import HandS.Flow
import HandS.Deep
import HandS.IsInst
import HandS.Defaults
import HandS.TupAny
import HandS.Zip
import HandS.OwnEq
import HandS.Strs
import HandS.NoneIn
import HandS.Wide
import HandS.TryMany
import KE.GoesMore
import KE.GoesEnum
import HandS.Rev
import PyProof.AutoIntOpsIf
import KE.LcSums
import PyProof.StrOps2
import HandS.Codes
import HandS.SlotsOwn
import KE.KOpsOwn
import HandS.Ends
import HandS.More
import HandS.Head0
import HandS.Head1
import HandS.Head2
import HandS.HeadEnd
import HandS.HeadHook1
import HandS.HeadHook2
import HandS.MakeKwOnly
import PyProof.Rows.SeqMore
import HandS.Style
import HandS.ExcField
import KE.KExcIs
import HandS.EndBits
import PyProof.InstNe
import HandS.Star
import HandS.FStr
import PySem.Challenge.RW_labelsdown_k50_listing_texts
set_option Elab.async false
set_option linter.all false
set_option maxRecDepth 100000
set_option maxHeartbeats 4000000
namespace DD
open PySem PySem.Spec L2

/-! ### deep values: tuples, finished lists, finished dicts and finished instances are values -/
inductive D where
  | non | bl (b : Bool) | int (i : Int) | str (x : Str) | ref (a : Addr) | ty (n : String)
  | tup (xs : List D) | lst (xs : List D) | dct (kvs : List (Key × D)) | obj (C : Addr) (fs : List (Str × D))

/-- who may change the object at an address: a slot of the running def, nobody but by its own address (obj), a field, a caller (other); none: nobody -/
inductive Own where
  | slot (i : Nat) | obj | fld (a : Addr) (f : Str) | other
  deriving DecidableEq
abbrev Gh := Addr → Option Own

structure Frame (H : Hp) (M : Gh) (H' : Hp) (M' : Gh) : Prop where
  keep : ∀ b o, H b = some o → (M b = none ∨ M b = some .other) → H' b = some o ∧ M' b = M b
  live : ∀ b, H b ≠ none → H' b ≠ none
instance {H H' : Hp} {M M' : Gh} : CoeFun (Frame H M H' M') (fun _ => ∀ b o, H b = some o → (M b = none ∨ M b = some .other) → H' b = some o ∧ M' b = M b) := ⟨Frame.keep⟩
theorem Frame.refl (H : Hp) (M : Gh) : Frame H M H M := ⟨fun _ _ h _ => ⟨h, rfl⟩, fun _ h => h⟩
/-- what nobody changes stays -/
def Stay (H : Hp) (M : Gh) (H' : Hp) (M' : Gh) : Prop := ∀ b o, H b = some o → M b = none → H' b = some o ∧ M' b = none
theorem Frame.stay {H H' : Hp} {M M' : Gh} (f : Frame H M H' M') : Stay H M H' M' := fun b o h m => let ⟨h1, m1⟩ := f b o h (.inl m); ⟨h1, m1.trans m⟩
theorem Frame.trans {H H1 H2 : Hp} {M M1 M2 : Gh} (a : Frame H M H1 M1) (b : Frame H1 M1 H2 M2) : Frame H M H2 M2 := ⟨fun x o h m => by
  obtain ⟨h1, m1⟩ := a x o h m
  obtain ⟨h2, m2⟩ := b x o h1 (by rw [m1]; exact m)
  exact ⟨h2, m2.trans m1⟩, fun x h => b.live x (a.live x h)⟩
theorem Frame.fresh {H H' : Hp} {M M' : Gh} (f : Frame H M H' M') {p : Addr} (n : H' p = none) : H p = none := by
  cases e : H p with
  | none => rfl
  | some o => exact absurd n (f.live p (by rw [e]; simp))
section
variable (K : PySem.W.Frag) (H : Hp) (M : Gh)
mutual
inductive Im : V → D → Prop
  | non : Im .non .non
  | bl {b : Bool} : Im (.bl b) (.bl b)
  | int {i : Int} : Im (.int i) (.int i)
  | str {x : Str} : PyData.strOk x = true → Im (.str x) (.str x)
  | ref {a : Addr} : Im (.ref a) (.ref a)
  | ty {n : String} : Im (.ty n) (.ty n)
  | tup {a : Addr} {xs : List V} {ds : List D} : M a = none → Rd H a (.tup xs) → ImL xs ds → Im (.ref a) (.tup ds)
  | tupK {a : Addr} {xs : List V} {ds : List D} : (∀ H', SqT K H' a xs) → ImL xs ds → Im (.ref a) (.tup ds)
  | lst {a : Addr} {xs : List V} {ds : List D} : M a = none → Rd H a (.lst xs) → ImL xs ds → Im (.ref a) (.lst ds)
  | lstK {a : Addr} {xs : List V} {ds : List D} : (∀ H', SqL K H' a xs) → ImL xs ds → Im (.ref a) (.lst ds)
  | dct {a : Addr} {ps : List (Key × V)} {ds : List (Key × D)} : M a = none → H a = some (.dK ps) → ImK ps ds → Im (.ref a) (.dct ds)
  | obj {a C dx : Addr} {ps : List (Str × V)} {fs : List (Str × D)} : M a = none → H a = some (.ins C dx ps) → ImF ps fs → Im (.ref a) (.obj C fs)
inductive ImL : List V → List D → Prop
  | nil : ImL [] []
  | cons {v : V} {d : D} {vs : List V} {ds : List D} : Im v d → ImL vs ds → ImL (v :: vs) (d :: ds)
inductive ImK : List (Key × V) → List (Key × D) → Prop
  | nil : ImK [] []
  | cons {k : Key} {v : V} {d : D} {vs : List (Key × V)} {ds : List (Key × D)} : Im v d → ImK vs ds → ImK ((k, v) :: vs) ((k, d) :: ds)
inductive ImF : List (Str × V) → List (Str × D) → Prop
  | nil : ImF [] []
  | cons {k : Str} {v : V} {d : D} {vs : List (Str × V)} {ds : List (Str × D)} : Im v d → ImF vs ds → ImF ((k, v) :: vs) ((k, d) :: ds)
end
end
section
variable {K : PySem.W.Frag} {H H' : Hp} {M M' : Gh}
theorem Stay.rd (f : Stay H M H' M') {a : Addr} {u : HO} (m : M a = none) (h : Rd H a u) : M' a = none ∧ Rd H' a u := by
  rcases h with h | ⟨o, h⟩
  · obtain ⟨h1, m1⟩ := f a _ h m
    exact ⟨m1, .inl h1⟩
  · obtain ⟨h1, m1⟩ := f a _ h m
    exact ⟨m1, .inr ⟨o, h1⟩⟩
mutual
theorem Im.mono (f : Stay H M H' M') : ∀ {v : V} {d : D}, Im K H M v d → Im K H' M' v d
  | _, _, .non => .non
  | _, _, .bl => .bl
  | _, _, .int => .int
  | _, _, .str h => .str h
  | _, _, .ref => .ref
  | _, _, .ty => .ty
  | _, _, .tup m h r => let ⟨m', h'⟩ := f.rd m h; .tup m' h' (ImL.mono f r)
  | _, _, .tupK h r => .tupK h (ImL.mono f r)
  | _, _, .lst m h r => let ⟨m', h'⟩ := f.rd m h; .lst m' h' (ImL.mono f r)
  | _, _, .lstK h r => .lstK h (ImL.mono f r)
  | _, _, .dct m h r => let ⟨h', m'⟩ := f _ _ h m; .dct m' h' (ImK.mono f r)
  | _, _, .obj m h r => let ⟨h', m'⟩ := f _ _ h m; .obj m' h' (ImF.mono f r)
theorem ImL.mono (f : Stay H M H' M') : ∀ {vs : List V} {ds : List D}, ImL K H M vs ds → ImL K H' M' vs ds
  | _, _, .nil => .nil
  | _, _, .cons r t => .cons (Im.mono f r) (ImL.mono f t)
theorem ImK.mono (f : Stay H M H' M') : ∀ {vs : List (Key × V)} {ds : List (Key × D)}, ImK K H M vs ds → ImK K H' M' vs ds
  | _, _, .nil => .nil
  | _, _, .cons r t => .cons (Im.mono f r) (ImK.mono f t)
theorem ImF.mono (f : Stay H M H' M') : ∀ {vs : List (Str × V)} {ds : List (Str × D)}, ImF K H M vs ds → ImF K H' M' vs ds
  | _, _, .nil => .nil
  | _, _, .cons r t => .cons (Im.mono f r) (ImF.mono f t)
end
theorem ImL.length : ∀ {vs : List V} {ds : List D}, ImL K H M vs ds → vs.length = ds.length
  | _, _, .nil => rfl
  | _, _, .cons _ t => congrArg (· + 1) (ImL.length t)
theorem ImL.get : ∀ {vs : List V} {ds : List D} {i : Nat} {d : D}, ImL K H M vs ds → ds[i]? = some d → ∃ v, vs[i]? = some v ∧ Im K H M v d
  | _, _, _, _, .nil, e => by simp at e
  | _, _, 0, _, .cons r _, e => by simp at e; subst e; exact ⟨_, rfl, r⟩
  | _, _, i + 1, _, .cons _ t, e => by
    obtain ⟨v, h1, h2⟩ := ImL.get (i := i) t (by simpa using e)
    exact ⟨v, by simpa using h1, h2⟩
theorem ImL.append : ∀ {vs ws : List V} {ds es : List D}, ImL K H M vs ds → ImL K H M ws es → ImL K H M (vs ++ ws) (ds ++ es)
  | _, _, _, _, .nil, s => s
  | _, _, _, _, .cons r t, s => .cons r (ImL.append t s)
theorem ImL.take : ∀ {vs : List V} {ds : List D} (n : Nat), ImL K H M vs ds → ImL K H M (vs.take n) (ds.take n)
  | _, _, 0, _ => by simp; exact .nil
  | _, _, _ + 1, .nil => .nil
  | _, _, n + 1, .cons r t => .cons r (ImL.take n t)
theorem ImL.drop : ∀ {vs : List V} {ds : List D} (n : Nat), ImL K H M vs ds → ImL K H M (vs.drop n) (ds.drop n)
  | _, _, 0, r => r
  | _, _, _ + 1, .nil => .nil
  | _, _, n + 1, .cons _ t => ImL.drop n t
theorem ImL.set {v : V} {d : D} (r : Im K H M v d) : ∀ {vs : List V} {ds : List D} (i : Nat), ImL K H M vs ds → ImL K H M (vs.set i v) (ds.set i d)
  | _, _, _, .nil => .nil
  | _, _, 0, .cons _ t => .cons r t
  | _, _, i + 1, .cons q t => .cons q (ImL.set r i t)
theorem ImF.lookup : ∀ {ps : List (Str × V)} {fs : List (Str × D)} {f : Str} {d : D}, ImF K H M ps fs → fs.lookup f = some d → ∃ v, ps.lookup f = some v ∧ Im K H M v d
  | _, _, _, _, .nil, e => by simp at e
  | (k, v) :: ps, (_, d') :: fs, f, d, .cons r t, e => by
    rw [List.lookup_cons] at e ⊢
    cases q : (f == k) with
    | true =>
      rw [q] at e
      cases e
      exact ⟨v, rfl, r⟩
    | false =>
      rw [q] at e
      exact ImF.lookup t e
theorem ImF.none : ∀ {ps : List (Str × V)} {fs : List (Str × D)} {f : Str}, ImF K H M ps fs → fs.lookup f = none → ps.lookup f = none
  | _, _, _, .nil, e => rfl
  | (k, v) :: ps, (_, d') :: fs, f, .cons r t, e => by
    rw [List.lookup_cons] at e ⊢
    cases q : (f == k) with
    | true =>
      rw [q] at e
      cases e
    | false =>
      rw [q] at e
      exact ImF.none t e
theorem ImF.length : ∀ {vs : List (Str × V)} {ds : List (Str × D)}, ImF K H M vs ds → vs.length = ds.length
  | _, _, .nil => rfl
  | _, _, .cons _ t => congrArg (· + 1) (ImF.length t)
end
end DD

set_option Elab.async false
set_option linter.all false
set_option maxRecDepth 100000
set_option maxHeartbeats 4000000
/-! a set made of a tuple or list of keys of any kind: what it holds, how many -/
namespace DDs
open PySem PySem.Spec PyProof.Rows
section
variable {κ : Type} [DecidableEq κ]
/-- one more key among those met -/
def met1 (acc : List κ) (k : κ) : List κ := if k ∈ acc then acc else acc ++ [k]
def metAll (ks : List κ) : List κ := ks.foldl met1 []
def hasK (acc : List κ) (k : κ) : Bool := decide (k ∈ acc)
theorem hasK_met1 (acc : List κ) (k j : κ) : (hasK acc j || decide (j = k)) = hasK (met1 acc k) j := by
  unfold hasK met1
  by_cases h : k ∈ acc
  · rw [if_pos h]
    by_cases e : j = k
    · subst e; simp [h]
    · simp [e]
  · rw [if_neg h]
    by_cases e : j = k
    · subst e; simp
    · simp [e]
theorem len_met1 (acc : List κ) (k : κ) : (if hasK acc k = true then acc.length else acc.length + 1) = (met1 acc k).length := by
  unfold hasK met1
  by_cases h : k ∈ acc
  · simp [h]
  · simp [h]
theorem met_take {ks : List κ} {i : Nat} {k : κ} (h : ks[i]? = some k) : metAll (ks.take (i + 1)) = met1 (metAll (ks.take i)) k := by
  obtain ⟨hi, rfl⟩ := List.getElem?_eq_some_iff.mp h
  unfold metAll
  rw [List.take_add_one, List.getElem?_eq_getElem hi, List.foldl_append]
  rfl
theorem met_le (ks : List κ) (acc : List κ) : (ks.foldl met1 acc).length ≤ acc.length + ks.length := by
  induction ks generalizing acc with
  | nil => simp
  | cons k r ih =>
    have h1 := ih (met1 acc k)
    have h2 : (met1 acc k).length ≤ acc.length + 1 := by
      rw [← len_met1]; split <;> omega
    simp only [List.foldl_cons, List.length_cons]
    omega
end
section
variable {κ : Type} [DecidableEq κ] [BEq κ] [LawfulBEq κ] {prog : Program} {w : World} (kd : KeyKind prog w κ)
variable {A : Around} {R : Result → Shared → Prop} {I : Addr} {fp wr : List Addr} {Gn : Array GenState → Array GenState → Prop} {n : Nat} {P : Nat → Value → Prop} {St : Nat → Shared → Prop}
theorem upd_loop (W : WalksS prog w A.in1 I fp wr Gn n P St) (Z : Addr) (hZ : Z ∉ fp) (ks : List κ) (hn : ks.length = n) (hb : n + 1 < scanBound)
    (hk : ∀ i v k, P i v → ks[i]? = some k → kd.is k v = true ∧ v.scannable = true) (left : Nat) :
    ∀ (i : Nat) (s : Shared), n = i + left → St i s → s.heap.SetOf kd Z (hasK (metAll (ks.take i))) (metAll (ks.take i)).length →
      (∀ s', Moved (Z :: wr) Gn s s' → s'.heap.SetOf kd Z (hasK (metAll ks)) (metAll ks).length → R (.ok (.ret .none)) s') →
      codeAny (model prog w) A (.builtin "set.update.loop" ⟨[.ref Z, .ref I], []⟩) R s := by
  have hZw : Z ∉ wr := fun h => hZ (W.sub _ h)
  have carry : ∀ {s s' : Shared} {S : κ → Bool} {m : Nat}, Moved wr Gn s s' → s.heap.SetOf kd Z S m → s'.heap.SetOf kd Z S m := fun hm ⟨o, es, ep, t, ho, r⟩ => ⟨o, es, ep, t, hm.heap Z _ hZw ho, r⟩
  have up : ∀ b ∈ wr, b ∈ Z :: wr := fun b h => List.mem_cons_of_mem _ h
  induction left with
  | zero =>
    intro i s e st hS fin
    have ei : i = n := by omega
    subst ei
    refine codeAny_builtin F.entry_set_update_loop ?_
    rw [Around.under_plainId F.plain_set_update_loop _]
    show wpAny _ A.in1 (pyNext (.ref I) >>= _) _ _ s
    refine wpAny_bind (W.done s _ _ st fun s' hm => wpAny_pure (fin s' (hm.mono up) ?_))
    have z := carry hm hS
    rw [List.take_of_length_le (by omega)] at z
    exact z
  | succ left ih =>
    intro i s e st hS fin
    have hlt : i < n := by omega
    obtain ⟨k, ek⟩ : ∃ k, ks[i]? = some k := ⟨ks[i]'(by omega), List.getElem?_eq_getElem (by omega)⟩
    refine codeAny_builtin F.entry_set_update_loop ?_
    rw [Around.under_plainId F.plain_set_update_loop _]
    show wpAny _ A.in1 (pyNext (.ref I) >>= _) _ _ s
    refine wpAny_bind (W.item i s _ _ hlt st fun v s' hP st' hm => ?_)
    obtain ⟨kis, ksc⟩ := hk i v k hP ek
    show wpAny _ A.in1 (holding [v] (setAdd Z v) >>= _) _ _ s'
    refine wpAny_bind (wpAny_holding ?_)
    unfold setAdd
    refine wpAny_holding (wpAny_bind (kd.pyHash kis ?_))
    have room : (metAll (ks.take i)).length + 1 < scanBound := by
      have h1 := met_le (ks.take i) ([] : List κ)
      have h2 : (ks.take i).length ≤ n := by rw [List.length_take]; omega
      show (List.foldl met1 [] (ks.take i)).length + 1 < scanBound
      simp only [List.length_nil] at h1
      omega
    have hS1 := carry hm hS
    refine wpAny_setAddHashed_of (knd := kd) (s := { s' with toks := s'.toks + 1 }) kis ksc hS1 room fun h2 sb hS2 => ?_
    have hS3 : h2.SetOf kd Z (hasK (metAll (ks.take (i + 1)))) (metAll (ks.take (i + 1))).length := by
      rw [met_take ek]
      exact SetOf_congr hS2 (fun j => hasK_met1 _ _ _) (len_met1 _ _)
    refine wpAny_pure ⟨plainId_quiet F.plain_set_update_loop _, ih (i + 1) _ (by omega) (W.frame _ s' _ _ st' (Nat.le_succ _) fun b hb o z => ?_) hS3 fun s2 hm2 z2 => fin s2 ?_ z2⟩
    · rw [sb.2 b (fun h : b = Z => hZ (h ▸ hb))]; exact z
    · refine Moved.trans W.gtrans ((hm.mono up).then_heap (Nat.le_succ _) fun b o hb z => ?_) hm2
      rw [sb.2 b (fun h : b = Z => hb (by rw [h]; exact List.mem_cons_self))]; exact z
end
section
variable {κ : Type} [DecidableEq κ] [BEq κ] [LawfulBEq κ] {prog : Program} {w : World} (kd : KeyKind prog w κ) {A : Around} {E : Value → Shared → Prop} {s : Shared}
set_option maxHeartbeats 3200000 in
/-- set(t), t a tuple of keys -/
theorem set_of_tup {l : Addr} {vals : Array Value} {ks : List κ} {Q : Value → Shared → Prop} (hh : A.handled = none) (hl : s.heap.IsTuple l vals) (hn : ks.length = vals.size) (hb : vals.size + 1 < scanBound)
    (hk : ∀ (i : Nat) v k, vals[i]? = some v → ks[i]? = some k → kd.is k v = true ∧ v.scannable = true)
    (h : ∀ (h' : Heap) (tk : Nat), h'.SetOf kd s.heap.objs.size (hasK (metAll ks)) (metAll ks).length → (∀ b o, b < s.heap.objs.size → s.heap.get? b = some o → h'.get? b = some o) → Q (.ref s.heap.objs.size) { s with heap := h', toks := tk }) :
    wpAny (model prog w) A (call (.type "set") [.ref l]) Q E s := by
  obtain ⟨c, tl, hmro⟩ := PySem.F.called_set.mro
  have m1 := PySem.F.called_set.made
  have m2 := PySem.F.called_set.sub
  refine wpAny_call (codeAny_of_tree ?_)
  show wpAny _ _ (callAny (.type "set") _) _ _ _
  refine wpAny_pure ⟨Code.quiet_builtin _ (by decide +kernel), codeAny_builtin PySem.F.entry_type_call ?_⟩
  rw [Around.under_plain (weight_type_call_type "set" [.ref l] []) rfl]
  have m3 := PySem.F.called_set.notType
  have m4 := PySem.F.called_set.canCreate
  have m5 := PySem.F.typeCall_set_1 (.ref l)
  repeat (any_goals (first | assumption | wp_step))
  refine codeAny_mono (code_set_new_1 (.ref l) (E := E) (Q₁ := fun ob t => ∃ fl : Bool, ob = .ref s.heap.objs.size ∧ t = { s with heap := s.heap.push { cls := .type "set", dict := none, data := .set #[] 0 (.fresh 0 0 fl) } }) fun fl => ⟨fl, rfl, rfl⟩) fun r t hr => ?_
  cases r with
  | error e => exact hr
  | ok fl =>
    cases fl with
    | ret ob =>
      obtain ⟨fl, rfl, rfl⟩ := hr
      have gS : (s.heap.push { cls := .type "set", dict := none, data := .set #[] 0 (.fresh 0 0 fl) }).get? s.heap.objs.size = some { cls := .type "set", dict := none, data := .set #[] 0 (.fresh 0 0 fl) } := Heap.get?_push_size _ rfl
      have tS : Shared.TypeIs { s with heap := s.heap.push { cls := .type "set", dict := none, data := .set #[] 0 (.fresh 0 0 fl) } } (.ref s.heap.objs.size) "set" := ⟨_, gS, rfl⟩
      have i1 := PySem.F.called_set.init.lookup
      have i2 := PySem.F.called_set.init.bind (.ref s.heap.objs.size)
      repeat (any_goals (first | assumption | wp_step))
      refine codeAny_mono (codeAny_call_builtin (R := wants (fun r t2 => r = .none ∧ ∃ h' tk, t2 = { s with heap := h', toks := tk } ∧ h'.SetOf kd s.heap.objs.size (hasK (metAll ks)) (metAll ks).length ∧
          (∀ b o, b < s.heap.objs.size → s.heap.get? b = some o → h'.get? b = some o)) E) PySem.F.called_set.init.plain PySem.F.entry_set_init (check_set_init_1 tS ?_)) fun r2 t2 hr2 => ?_
      · obtain ⟨⟨oc, od, ot, os⟩, ho, hc, nl, hd⟩ := hl
        simp only at hc hd
        subst hc; subst hd
        have ho' : (s.heap.push { cls := .type "set", dict := none, data := .set #[] 0 (.fresh 0 0 fl) }).get? l = some { cls := .type "tuple", dict := od, data := .seq vals nl, slots := os } := Heap.get?_push_of_some _ ho
        have n1 := PySem.F.sub_tuple_set
        have n2 := PySem.F.sub_tuple_frozenset
        have n3 : (Value.type "tuple" == Value.type "dict") = false := by decide
        have it1 : (s.heap.push { cls := .type "set", dict := none, data := .set #[] 0 (.fresh 0 0 fl) }).IsTuple l vals := ⟨_, ho', rfl, nl, rfl⟩
        unfold Builtin.«set.__init__» noKeywords Builtin.Frozenset.updateFrom
        generalize hpi : pyIter = PI0
        wp_walk
        subst hpi
        refine wpAny_pyIter_tuple it1 (wpAny_bind (wpAny_runValue ?_))
        have l1 : l < s.heap.objs.size := Heap.lt_size ho
        have h3 : A.in1.in1.in1.handled = none := by simp [hh]
        have l2 : l ≠ (s.heap.push { cls := .type "set", dict := none, data := .set #[] 0 (.fresh 0 0 fl) }).objs.size := by
          rw [Heap.size_push]; exact Nat.ne_of_lt (Nat.lt_succ_of_lt l1)
        have l3 : s.heap.objs.size ∉ [(s.heap.push { cls := .type "set", dict := none, data := .set #[] 0 (.fresh 0 0 fl) }).objs.size, l] := by
          rw [Heap.size_push]
          simp only [List.mem_cons, List.not_mem_nil, or_false, not_or]
          exact ⟨Nat.ne_of_lt (Nat.lt_succ_self _), Nat.ne_of_gt l1⟩
        refine upd_loop kd ((Walks.tuple h3 _ l l2 vals).toS) s.heap.objs.size l3 ks hn hb (fun i v k hv ek => hk i v k hv ek) vals.size 0 _ (by omega)
          ⟨⟨_, Heap.get?_push_size _ rfl, rfl, rfl⟩, (it1.push _)⟩ ?hS0 ?hR
        case hS0 =>
          have g2 : ((s.heap.push { cls := .type "set", dict := none, data := .set #[] 0 (.fresh 0 0 fl) }).push { cls := .type "tuple_iterator", data := .fields #[.ref l, .int 0 0] }).get? s.heap.objs.size
              = some { cls := .type "set", dict := none, data := .set #[] 0 (.fresh 0 0 fl) } := Heap.get?_push_of_some _ gS
          exact SetOf_congr ((setObjOf_fresh (knd := kd) fl).setOf g2 (by unfold scanBound; omega)) (fun _ => rfl) rfl
        case hR =>
          intro t3 hm z
          obtain ⟨h', g', d', tk', os'⟩ := t3
          obtain rfl : g' = s.gens := hm.gens
          obtain rfl : d' = s.drawn := hm.drawn
          obtain rfl : os' = s.os := hm.os
          refine wpAny_pure (wpAny_pure ⟨rfl, h', tk', rfl, z, fun b o hb e => ?_⟩)
          have b1 : b ≠ s.heap.objs.size := Nat.ne_of_lt hb
          have b2 : b ≠ (s.heap.push { cls := .type "set", dict := none, data := .set #[] 0 (.fresh 0 0 fl) }).objs.size := by
            rw [Heap.size_push]; exact Nat.ne_of_lt (Nat.lt_succ_of_lt hb)
          exact hm.heap b o (by simp only [List.mem_cons, List.not_mem_nil, or_false, not_or]; exact ⟨b1, b2⟩) (Heap.get?_push_of_some _ (Heap.get?_push_of_some _ e))
      · cases r2 with
        | error e => exact hr2
        | ok f2 =>
          cases f2 with
          | ret r =>
            obtain ⟨rfl, h', tk, rfl, z, zk⟩ := hr2
            repeat (any_goals (first | assumption | wp_step))
            exact h _ _ z zk
          | _ => exact hr2.elim
    | _ => exact hr.elim
end
end DDs

set_option Elab.async false
set_option linter.all false
set_option maxRecDepth 100000
set_option maxHeartbeats 4000000
namespace DD
open PySem PySem.Spec L2

/-- what a slot or a field holds: a value, a list of its own, a dict of its own -/
inductive SV where
  | v (d : D) | own (xs : List D) | ownd (kvs : List (Key × D))
abbrev DSt := List (Option SV)
/-- what a field holds: lists and dicts of its own with their address -/
inductive FV where
  | v (d : D) | own (l : Addr) (xs : List D) | ownd (l : Addr) (kvs : List (Key × D))
def FV.sv : FV → SV
  | .v d => .v d
  | .own _ xs => .own xs
  | .ownd _ kvs => .ownd kvs
def FV.at : FV → V → Prop
  | .v _, _ => True
  | .own l _, x => x = .ref l
  | .ownd l _, x => x = .ref l
/-- an object that is changed in place: an instance, a list, a law's jar of draws -/
inductive DO where
  | ins (C : Addr) (fs : List (Str × FV)) | mls (xs : List D) | jar (n : Nat) | mdc (kvs : List (Key × D))
abbrev DG := Addr → Option DO
def gset (G : DG) (a : Addr) (o : Option DO) : DG := fun b => if b = a then o else G b
theorem gset_same {G : DG} {a : Addr} {o : Option DO} : gset G a o a = o := if_pos rfl
theorem gset_ne {G : DG} {a b : Addr} {o : Option DO} (h : b ≠ a) : gset G a o b = G b := if_neg h
/-- an exception: its class, its fields -/
structure DX where
  C : Addr
  fs : Option (List (Str × D))

def JarOk (i j k : Int) : Prop := 0 ≤ i ∧ 0 ≤ j ∧ j < 10 ^ 36 + 67 + 1299709 * 64 ∧ 0 ≤ k

section
variable (K : PySem.W.Frag) (H : Hp) (M : Gh)
def SlotR (ow : Own) : V → SV → Prop
  | x, .v d => Im K H M x d
  | x, .own ds => ∃ l xs, x = .ref l ∧ M l = some ow ∧ H l = some (.lst xs) ∧ ImL K H M xs ds
  | x, .ownd kvs => ∃ l ps, x = .ref l ∧ M l = some ow ∧ H l = some (.dK ps) ∧ ImK K H M ps kvs
def FldR (a : Addr) : List (Str × V) → List (Str × FV) → Prop
  | [], [] => True
  | (f, x) :: r, (g, s) :: t => f = g ∧ SlotR K H M (.fld a f) x s.sv ∧ s.at x ∧ FldR a r t
  | _, _ => False
def ObjR (a : Addr) : DO → Prop
  | .ins C fs => ∃ dx ps, H a = some (.ins C dx ps) ∧ FldR K H M a ps fs
  | .mls ds => ∃ xs, H a = some (.lst xs) ∧ ImL K H M xs ds
  | .jar n => ∃ i j k, H a = some (.lst [.int i, .int j, .int k]) ∧ JarOk i j k ∧ k ≤ (n : Int)
  | .mdc kvs => ∃ ps, H a = some (.dK ps) ∧ ImK K H M ps kvs
structure RG (G : DG) : Prop where
  obj : ∀ a o, G a = some o → M a = some .obj ∧ ObjR K H M a o
  dom : ∀ a, M a ≠ none → H a ≠ none
structure RS (σ : St) (δ : DSt) (G : DG) : Prop where
  g : RG K H M G
  len : σ.length = δ.length
  slot : ∀ i s, δ[i]? = some (some s) → ∃ x, σ[i]? = some (some x) ∧ SlotR K H M (.slot i) x s
def RX (cls : Value) (d : Option Addr) : DX → Prop
  | ⟨C, none⟩ => cls = .ref C ∧ d = none
  | ⟨C, some fs⟩ => cls = .ref C ∧ ∃ dd ps, d = some dd ∧ M dd = none ∧ H dd = some (.xd ps) ∧ ImF K H M ps fs
end

/-- nothing that a slot or an object owns is touched -/
def Keep (H : Hp) (M : Gh) (H' : Hp) (M' : Gh) : Prop := ∀ b o, H b = some o → H' b = some o ∧ M' b = M b
theorem Keep.stay {H H' : Hp} {M M' : Gh} (k : Keep H M H' M') : Stay H M H' M' := fun b o h m => let ⟨h1, m1⟩ := k b o h; ⟨h1, m1.trans m⟩
theorem Keep.frame {H H' : Hp} {M M' : Gh} (k : Keep H M H' M') : Frame H M H' M' := ⟨fun b o h _ => k b o h, fun b h => by
  cases e : H b with
  | none => exact absurd e h
  | some o => rw [(k b o e).1]; simp⟩
section
variable {K : PySem.W.Frag} {H H' : Hp} {M M' : Gh} {σ : St} {δ : DSt} {G : DG}
theorem SlotR.keep (k : Keep H M H' M') {ow : Own} {x : V} : ∀ {s : SV}, SlotR K H M ow x s → SlotR K H' M' ow x s
  | .v d, h => Im.mono k.stay h
  | .own ds, ⟨l, xs, e, m, h, r⟩ => let ⟨h', m'⟩ := k l _ h; ⟨l, xs, e, m'.trans m, h', ImL.mono k.stay r⟩
  | .ownd ds, ⟨l, xs, e, m, h, r⟩ => let ⟨h', m'⟩ := k l _ h; ⟨l, xs, e, m'.trans m, h', ImK.mono k.stay r⟩
theorem FldR.keep (k : Keep H M H' M') {a : Addr} : ∀ {ps : List (Str × V)} {fs : List (Str × FV)}, FldR K H M a ps fs → FldR K H' M' a ps fs
  | [], [], _ => trivial
  | (f, x) :: r, (g, s) :: t, ⟨e, h, w, q⟩ => ⟨e, SlotR.keep k h, w, FldR.keep k q⟩
theorem ObjR.keep (k : Keep H M H' M') {a : Addr} : ∀ {o : DO}, ObjR K H M a o → ObjR K H' M' a o
  | .ins C fs, ⟨dx, ps, h, r⟩ => ⟨dx, ps, (k _ _ h).1, FldR.keep k r⟩
  | .mls ds, ⟨xs, h, r⟩ => ⟨xs, (k _ _ h).1, ImL.mono k.stay r⟩
  | .jar _, ⟨i, j, n, h, r⟩ => ⟨i, j, n, (k _ _ h).1, r⟩
  | .mdc _, ⟨ps, h, r⟩ => ⟨ps, (k _ _ h).1, ImK.mono k.stay r⟩
theorem ObjR.there {a : Addr} : ∀ {o : DO}, ObjR K H M a o → ∃ u, H a = some u
  | .ins C fs, ⟨dx, ps, h, r⟩ => ⟨_, h⟩
  | .mls ds, ⟨xs, h, r⟩ => ⟨_, h⟩
  | .jar _, ⟨i, j, n, h, r⟩ => ⟨_, h⟩
  | .mdc _, ⟨ps, h, r⟩ => ⟨_, h⟩
theorem RG.keep (k : Keep H M H' M') (d : ∀ a, H a = none → M' a ≠ none → H' a ≠ none) (r : RG K H M G) : RG K H' M' G :=
  ⟨fun a o h => let ⟨m, q⟩ := r.obj a o h; let ⟨u, hu⟩ := q.there; ⟨(k a u hu).2.trans m, q.keep k⟩, fun a h => by
    cases e : H a with
    | none => exact d a e h
    | some u => rw [(k a u e).1]; simp⟩
theorem RS.keep (k : Keep H M H' M') (d : ∀ a, H a = none → M' a ≠ none → H' a ≠ none) (r : RS K H M σ δ G) : RS K H' M' σ δ G :=
  ⟨r.g.keep k d, r.len, fun i s h => let ⟨x, h1, h2⟩ := r.slot i s h; ⟨x, h1, h2.keep k⟩⟩
theorem RG.mnone (r : RG K H M G) {a : Addr} (h : H a = none) : M a = none := by
  cases e : M a with
  | none => rfl
  | some o => exact absurd h (r.dom a (by rw [e]; simp))
/-- a new object that nobody changes -/
theorem Keep.new {p : Addr} {o : HO} (n : H p = none) : Keep H M (upd H p o) M := fun b u h => ⟨by rw [upd_ne (ne_of_none h n)]; exact h, rfl⟩
theorem RS.new {p : Addr} {o : HO} (r : RS K H M σ δ G) (n : H p = none) : RS K (upd H p o) M σ δ G :=
  r.keep (Keep.new n) fun a _ m => by
    by_cases e : a = p
    · subst e; rw [upd_same]; simp
    · rw [upd_ne e]; exact r.g.dom a m
theorem Same.keep (s : Same H H') : Keep H M H' M := fun b o h => ⟨s b o h, rfl⟩
theorem RS.same (r : RS K H M σ δ G) (s : Same H H') : RS K H' M σ δ G :=
  r.keep (Same.keep s) fun a n m => absurd n (r.g.dom a m)
end

/-! ### readings -/
abbrev DTE := DSt → DG → (D → DG → Prop) → (DX → DG → Prop) → Prop
abbrev DTT := DSt → DG → (Bool → DG → Prop) → (DX → DG → Prop) → Prop
abbrev DTA := DSt → DG → (List D → DG → Prop) → (DX → DG → Prop) → Prop
structure DEnds where
  nx : DSt → DG → Prop
  rt : D → DG → Prop
  bk : DSt → DG → Prop := fun _ _ => False
  ct : DSt → DG → Prop := fun _ _ => False
  ex : DX → DSt → DG → Prop
abbrev DTS := DEnds → DSt → DG → Prop
abbrev DTG := D → DSt → DG → (DSt → DG → Prop) → Prop

/-- a borrowed list or dict: it is so as long as the objects are the same -/
def Tm (K : PySem.W.Frag) (H : Hp) (M : Gh) : V → D → Prop := fun v d => Im K H M v d ∨ (∃ a xs ds, v = .ref a ∧ d = .lst ds ∧ H a = some (.lst xs) ∧ ImL K H M xs ds) ∨ (∃ a ps kvs, v = .ref a ∧ d = .dct kvs ∧ H a = some (.dK ps) ∧ ImK K H M ps kvs)
def Bo (K : PySem.W.Frag) (H : Hp) (M : Gh) (σ : St) (δ : DSt) (G : DG) (v : V) (d : D) : Prop := ∀ H' M', Frame H M H' M' → RS K H' M' σ δ G → Tm K H' M' v d

section
variable (K : PySem.W.Frag) (W : WX)
/-- what is wished of exceptions -/
def ExOk (H : Hp) (M : Gh) (σ : St) (δ : DSt) (QE : DX → DG → Prop) : Prop := ∀ x G' H' M' cls dd, Frame H M H' M' → RS K H' M' σ δ G' → RX K H' M' cls dd x → QE x G' → W cls dd σ H'
def rdE (d : DTE) : TE := fun σ H R => ∃ M δ G Q QE, RS K H M σ δ G ∧ d δ G Q QE ∧ ExOk K W H M σ δ QE ∧ ∀ v dv G' H' M', Frame H M H' M' → RS K H' M' σ δ G' → Im K H' M' v dv → Q dv G' → R v H'
def rdB (d : DTE) : TE := fun σ H R => ∃ M δ G Q QE, RS K H M σ δ G ∧ d δ G Q QE ∧ ExOk K W H M σ δ QE ∧ ∀ v dv G' H' M', Frame H M H' M' → RS K H' M' σ δ G' → Bo K H' M' σ δ G' v dv → Q dv G' → R v H'
/-- a new list -/
def rdF (d : DTA) : TE := fun σ H R => ∃ M δ G Q QE, RS K H M σ δ G ∧ d δ G Q QE ∧ ExOk K W H M σ δ QE ∧ ∀ a xs ds G' H' M', Frame H M H' M' → RS K H' M' σ δ G' → H a = none → M' a = some .other → H' a = some (.lst xs) → ImL K H' M' xs ds → Q ds G' → R (.ref a) H'
def rdT (d : DTT) : TT := fun σ H R => ∃ M δ G Q QE, RS K H M σ δ G ∧ d δ G Q QE ∧ ExOk K W H M σ δ QE ∧ ∀ b G' H' M', Frame H M H' M' → RS K H' M' σ δ G' → Q b G' → R b H'
def rdA (d : DTA) : TA := fun σ H R => ∃ M δ G Q QE, RS K H M σ δ G ∧ d δ G Q QE ∧ ExOk K W H M σ δ QE ∧ ∀ vs ds G' H' M', Frame H M H' M' → RS K H' M' σ δ G' → ImL K H' M' vs ds → Q ds G' → R vs H'
def rdG (d : DTG) : TG := fun v σ H R => ∃ M δ G dv Q, RS K H M σ δ G ∧ Im K H M v dv ∧ d dv δ G Q ∧ ∀ σ' δ' G' H' M', Frame H M H' M' → RS K H' M' σ' δ' G' → Q δ' G' → R σ' H'
/-- no slot's own -/
def NoSlot (M : Gh) : Prop := ∀ a i, M a ≠ some (.slot i)
structure EndsOk (H : Hp) (M : Gh) (DD : DEnds) (E : Ends) : Prop where
  nx : ∀ σ' δ' G' H' M', Frame H M H' M' → RS K H' M' σ' δ' G' → DD.nx δ' G' → E.nx σ' H'
  rt : ∀ v dv G' H' M', Frame H M H' M' → NoSlot M' → RG K H' M' G' → Im K H' M' v dv → DD.rt dv G' → E.rt v H'
  bk : ∀ σ' δ' G' H' M', Frame H M H' M' → RS K H' M' σ' δ' G' → DD.bk δ' G' → E.bk σ' H'
  ct : ∀ σ' δ' G' H' M', Frame H M H' M' → RS K H' M' σ' δ' G' → DD.ct δ' G' → E.ct σ' H'
  ex : ∀ x σ' δ' G' H' M' cls dd, Frame H M H' M' → RS K H' M' σ' δ' G' → RX K H' M' cls dd x → DD.ex x δ' G' → W cls dd σ' H'
def rdS (d : DTS) : TS := fun E σ H => ∃ M δ G DD, RS K H M σ δ G ∧ d DD δ G ∧ EndsOk K W H M DD E
end
theorem EndsOk.mono {K : PySem.W.Frag} {W : WX} {H H1 : Hp} {M M1 : Gh} {DD : DEnds} {E : Ends} (e : EndsOk K W H M DD E) (f : Frame H M H1 M1) : EndsOk K W H1 M1 DD E :=
  ⟨fun a b c d m g => e.nx a b c d m (f.trans g), fun a b c d m g => e.rt a b c d m (f.trans g), fun a b c d m g => e.bk a b c d m (f.trans g), fun a b c d m g => e.ct a b c d m (f.trans g), fun x a b c d m cl dd g => e.ex x a b c d m cl dd (f.trans g)⟩
theorem ExOk.mono {K : PySem.W.Frag} {W : WX} {H H1 : Hp} {M M1 : Gh} {σ : St} {δ : DSt} {QE : DX → DG → Prop} (e : ExOk K W H M σ δ QE) (f : Frame H M H1 M1) : ExOk K W H1 M1 σ δ QE :=
  fun x G' H' M' cls dd g => e x G' H' M' cls dd (f.trans g)

/-! ### judgements -/
abbrev DE (X : Cx) (W : WX) (e : Expr) (d : DTE) : Prop := PE X e (rdE X.K W d)
abbrev DB (X : Cx) (W : WX) (e : Expr) (d : DTE) : Prop := PE X e (rdB X.K W d)
abbrev DF (X : Cx) (W : WX) (e : Expr) (d : DTA) : Prop := PE X e (rdF X.K W d)
abbrev DT (X : Cx) (W : WX) (e : Expr) (d : DTT) : Prop := PT X e (rdT X.K W d)
abbrev DA (X : Cx) (W : WX) (es : List Expr) (d : DTA) : Prop := PA X es (rdA X.K W d)
abbrev DS (X : Cx) (W : WX) (s : Stmt) (d : DTS) : Prop := PS X s (rdS X.K W d)
abbrev DSs (X : Cx) (W : WX) (s : List Stmt) (d : DTS) : Prop := PSs X s (rdS X.K W d)
abbrev DGt (X : Cx) (tg : Expr) (d : DTG) : Prop := PG X tg (rdG X.K d)
theorem _root_.L2.PE.imp {X : Cx} {e : Expr} {t t' : TE} (h : PE X e t) (i : ∀ σ H R, t' σ H R → t σ H R) : PE X e t' := ⟨fun pins s σ H Q I q => h.run pins s σ H Q I (i _ _ _ q)⟩
theorem _root_.L2.PT.imp {X : Cx} {e : Expr} {t t' : TT} (h : PT X e t) (i : ∀ σ H R, t' σ H R → t σ H R) : PT X e t' := ⟨fun pins s σ H Q I q => h.run pins s σ H Q I (i _ _ _ q)⟩
theorem _root_.L2.PA.imp {X : Cx} {e : List Expr} {t t' : TA} (h : PA X e t) (i : ∀ σ H R, t' σ H R → t σ H R) : PA X e t' := ⟨fun p pins s σ H Q I q => h.run p pins s σ H Q I (i _ _ _ q)⟩
theorem _root_.L2.PS.imp {X : Cx} {e : Stmt} {t t' : TS} (h : PS X e t) (i : ∀ E σ H, t' E σ H → t E σ H) : PS X e t' := ⟨fun pins s σ H Q I q => h.run pins s σ H Q I (i _ _ _ q)⟩
theorem _root_.L2.PSs.imp {X : Cx} {e : List Stmt} {t t' : TS} (h : PSs X e t) (i : ∀ E σ H, t' E σ H → t E σ H) : PSs X e t' := ⟨fun pins s σ H Q I q => h.run pins s σ H Q I (i _ _ _ q)⟩
theorem _root_.L2.PG.imp {X : Cx} {e : Expr} {t t' : TG} (h : PG X e t) (i : ∀ v σ H R, t' v σ H R → t v σ H R) : PG X e t' := ⟨fun pins s σ H v u Q I r q => h.run pins s σ H v u Q I r (i _ _ _ _ q)⟩

/-! ### a def's promise -/
abbrev Fn := List D → DG → (D → DG → Prop) → (DX → DG → Prop) → Prop
def spD (K : PySem.W.Frag) (f : Fn) : Sp := fun vs H Q E => ∃ M ds G QD QE, NoSlot M ∧ RG K H M G ∧ ImL K H M vs ds ∧ f ds G QD QE ∧
  (∀ v dv G' H' M', Frame H M H' M' → NoSlot M' → RG K H' M' G' → Im K H' M' v dv → QD dv G' → Q v H') ∧
  ∀ x G' H' M' cls dd, Frame H M H' M' → NoSlot M' → RG K H' M' G' → RX K H' M' cls dd x → QE x G' → E cls dd H'
end DD

set_option Elab.async false
set_option linter.all false
set_option maxRecDepth 100000
set_option maxHeartbeats 4000000
namespace DD
open PySem PySem.Spec L2

/-! ### values without an address -/
def scV : D → Option V
  | .non => some .non
  | .bl b => some (.bl b)
  | .int i => some (.int i)
  | .str x => some (.str x)
  | .ref a => some (.ref a)
  | .ty n => some (.ty n)
  | _ => none
section
variable {K : PySem.W.Frag} {H H' : Hp} {M M' : Gh} {σ : St} {δ : DSt} {G : DG} {W : WX}
theorem Tm.of {v : V} {d : D} (h : Im K H M v d) : Tm K H M v d := .inl h
theorem Im.bo {v : V} {d : D} (h : Im K H M v d) : Bo K H M σ δ G v d := fun _ _ f _ => .inl (h.mono f.stay)
theorem Bo.now {v : V} {d : D} (h : Bo K H M σ δ G v d) (r : RS K H M σ δ G) : Tm K H M v d := h H M (Frame.refl H M) r
theorem Bo.mono {v : V} {d : D} (h : Bo K H M σ δ G v d) (f : Frame H M H' M') : Bo K H' M' σ δ G v d := fun H2 M2 f2 r => h H2 M2 (f.trans f2) r
theorem Tm.sc {v w : V} {d : D} (h : Tm K H M v d) (e : scV d = some w) : v = w := by
  rcases h with h | ⟨a, xs, ds, _, rfl, _⟩ | ⟨a, xs, ds, _, rfl, _⟩
  · cases h <;> first | (cases e; rfl) | cases e
  · cases e
  · cases e
theorem Tm.str {v : V} {x : Str} (h : Tm K H M v (.str x)) : PyData.strOk x = true := by
  rcases h with h | ⟨a, xs, ds, _, e, _⟩ | ⟨a, xs, ds, _, e, _⟩
  · cases h; assumption
  · cases e
  · cases e
theorem SqT.upd {a : Addr} {xs : List V} {p : Addr} {o : HO} (h : SqT K H a xs) (n : H p = none) : SqT K (upd H p o) a xs := by
  rcases h with (h | ⟨u, h⟩) | h
  · exact .inl (.inl (by rw [upd_ne (ne_of_none h n)]; exact h))
  · exact .inl (.inr ⟨u, by rw [upd_ne (ne_of_none h n)]; exact h⟩)
  · exact .inr h
theorem Tm.tup {v : V} {ds : List D} (h : Tm K H M v (.tup ds)) : ∃ a xs, v = .ref a ∧ SqT K H a xs ∧ ImL K H M xs ds := by
  rcases h with h | ⟨a, xs, ds, _, e, _⟩ | ⟨a, xs, ds, _, e, _⟩
  · cases h with
    | tup m h r => exact ⟨_, _, rfl, .inl h, r⟩
    | tupK h r => exact ⟨_, _, rfl, h H, r⟩
  · cases e
  · cases e
theorem Tm.lst {v : V} {ds : List D} (h : Tm K H M v (.lst ds)) : ∃ a xs, v = .ref a ∧ SqL K H a xs ∧ ImL K H M xs ds := by
  rcases h with h | ⟨a, xs, ds, h1, e, h2, h3⟩ | ⟨a, xs, ds, _, e, _⟩
  · cases h with
    | lst m h r => exact ⟨_, _, rfl, .inl h, r⟩
    | lstK h r => exact ⟨_, _, rfl, h H, r⟩
  · cases e; exact ⟨_, _, h1, .inl (.inl h2), h3⟩
  · cases e
theorem Tm.dct {v : V} {ds : List (Key × D)} (h : Tm K H M v (.dct ds)) : ∃ a ps, v = .ref a ∧ H a = some (.dK ps) ∧ ImK K H M ps ds := by
  rcases h with h | ⟨a, xs, ds, h1, e, h2, h3⟩ | ⟨a, xs, ds, h1, e, h2, h3⟩
  · cases h with
    | dct m h r => exact ⟨_, _, rfl, h, r⟩
  · cases e
  · cases e; exact ⟨_, _, h1, h2, h3⟩
end
/-- a new tuple, list: a value -/
theorem Im.newTup {K : PySem.W.Frag} {H : Hp} {M : Gh} {p : Addr} {xs : List V} {ds : List D} (dom : ∀ a, M a ≠ none → H a ≠ none) (n : H p = none) (r : ImL K H M xs ds) : Im K (upd H p (.tup xs)) M (.ref p) (.tup ds) := by
  have mp : M p = none := by
    cases e : M p with
    | none => rfl
    | some o => exact absurd n (dom p (by rw [e]; simp))
  exact .tup mp (.inl upd_same) (ImL.mono (Keep.new n).stay r)
theorem Im.newLst {K : PySem.W.Frag} {H : Hp} {M : Gh} {p : Addr} {xs : List V} {ds : List D} (dom : ∀ a, M a ≠ none → H a ≠ none) (n : H p = none) (r : ImL K H M xs ds) : Im K (upd H p (.lst xs)) M (.ref p) (.lst ds) := by
  have mp : M p = none := by
    cases e : M p with
    | none => rfl
    | some o => exact absurd n (dom p (by rw [e]; simp))
  exact .lst mp (.inl upd_same) (ImL.mono (Keep.new n).stay r)
theorem Same.new {H : Hp} {p : Addr} {o : HO} (n : H p = none) : Same H (upd H p o) := fun b u h => by rw [upd_ne (ne_of_none h n)]; exact h

/-! ### an address gets an owner, or loses it -/
def mset (M : Gh) (a : Addr) (o : Option Own) : Gh := fun b => if b = a then o else M b
theorem mset_same {M : Gh} {a : Addr} {o : Option Own} : mset M a o a = o := if_pos rfl
theorem mset_ne {M : Gh} {a b : Addr} {o : Option Own} (h : b ≠ a) : mset M a o b = M b := if_neg h
section
variable {K : PySem.W.Frag} {H H0 : Hp} {M M0 : Gh} {σ : St} {δ : DSt} {G : DG} {a : Addr} {o : Option Own}
theorem Stay.give {ow : Own} (m : M a = some ow) : Stay H M H (mset M a o) := fun b u h n => ⟨h, by rw [mset_ne (fun e => by rw [e, m] at n; cases n)]; exact n⟩
theorem Frame.give (f : Frame H0 M0 H M) (n : H0 a = none) : Frame H0 M0 H (mset M a o) := ⟨fun b u h m => by
  obtain ⟨h1, m1⟩ := f b u h m
  exact ⟨h1, by rw [mset_ne (ne_of_none h n)]; exact m1⟩, f.live⟩
theorem SlotR.give {ow ow' : Own} (m : M a = some ow) (ne : ow' ≠ ow) {x : V} : ∀ {s : SV}, SlotR K H M ow' x s → SlotR K H (mset M a o) ow' x s
  | .v d, h => Im.mono (Stay.give m) h
  | .own ds, ⟨l, xs, e, m', h, r⟩ => ⟨l, xs, e, by rw [mset_ne (fun z => by rw [z, m] at m'; cases m'; exact ne rfl)]; exact m', h, ImL.mono (Stay.give m) r⟩
  | .ownd ds, ⟨l, xs, e, m', h, r⟩ => ⟨l, xs, e, by rw [mset_ne (fun z => by rw [z, m] at m'; cases m'; exact ne rfl)]; exact m', h, ImK.mono (Stay.give m) r⟩
theorem FldR.give {ow : Own} (m : M a = some ow) {b : Addr} (ne : ∀ f, Own.fld b f ≠ ow) : ∀ {ps : List (Str × V)} {fs : List (Str × FV)}, FldR K H M b ps fs → FldR K H (mset M a o) b ps fs
  | [], [], _ => trivial
  | (f, x) :: r, (g, s) :: t, ⟨e, h, w, q⟩ => ⟨e, SlotR.give m (ne f) h, w, FldR.give m ne q⟩
theorem ObjR.give {ow : Own} (m : M a = some ow) {b : Addr} (ne : ∀ f, Own.fld b f ≠ ow) : ∀ {u : DO}, ObjR K H M b u → ObjR K H (mset M a o) b u
  | .ins C fs, ⟨dx, ps, h, r⟩ => ⟨dx, ps, h, FldR.give m ne r⟩
  | .mls ds, ⟨xs, h, r⟩ => ⟨xs, h, ImL.mono (Stay.give m) r⟩
  | .jar _, ⟨i, j, n, h, r⟩ => ⟨i, j, n, h, r⟩
  | .mdc _, ⟨ps, h, r⟩ => ⟨ps, h, ImK.mono (Stay.give m) r⟩
theorem RG.give {ow : Own} (r : RG K H M G) (m : M a = some ow) (no : ow ≠ .obj) (nf : ∀ b f, Own.fld b f ≠ ow) : RG K H (mset M a o) G :=
  ⟨fun b u h => by
    obtain ⟨mb, q⟩ := r.obj b u h
    exact ⟨by rw [mset_ne (fun z => by rw [z, m] at mb; cases mb; exact no rfl)]; exact mb, q.give m (nf b)⟩, fun b h => by
    by_cases e : b = a
    · exact r.dom b (by rw [e, m]; simp)
    · rw [mset_ne e] at h; exact r.dom b h⟩
theorem RS.give (r : RS K H M σ δ G) (m : M a = some .other) : RS K H (mset M a o) σ δ G :=
  ⟨r.g.give m (fun z => by cases z) (fun _ _ z => by cases z), r.len, fun i s h => let ⟨x, hx, q⟩ := r.slot i s h; ⟨x, hx, q.give m (fun z => by cases z)⟩⟩
/-- a new list that nobody knows yet -/
theorem RS.newOther {p : Addr} {u : HO} (r : RS K H M σ δ G) (n : H p = none) : Keep H M (upd H p u) (mset M p (some .other)) ∧ RS K (upd H p u) (mset M p (some .other)) σ δ G := by
  have k : Keep H M (upd H p u) (mset M p (some .other)) := fun b w h => by
    have e : b ≠ p := ne_of_none h n
    exact ⟨by rw [upd_ne e]; exact h, mset_ne e⟩
  exact ⟨k, r.keep k fun b hb hm => by
    by_cases e : b = p
    · rw [e, upd_same]; simp
    · rw [mset_ne e] at hm
      exact absurd hb (r.g.dom b hm)⟩
end

/-! ### operations on values -/
abbrev Dom (M : Gh) (H : Hp) : Prop := ∀ a, M a ≠ none → H a ≠ none
def OpD (K : PySem.W.Frag) (g : D → D → Option D) : R2 := fun x y H Q => ∃ M dx dy z, Dom M H ∧ Tm K H M x dx ∧ Tm K H M y dy ∧ g dx dy = some z ∧ ∀ v H', Same H H' → Im K H' M v z → Q v H'
def UnD (K : PySem.W.Frag) (g : D → Option D) : V → Hp → VK → Prop := fun x H Q => ∃ M dx z, Dom M H ∧ Tm K H M x dx ∧ g dx = some z ∧ ∀ v H', Same H H' → Im K H' M v z → Q v H'
inductive TmL (K : PySem.W.Frag) (H : Hp) (M : Gh) : List V → List D → Prop
  | nil : TmL K H M [] []
  | cons {v : V} {d : D} {vs : List V} {ds : List D} : Tm K H M v d → TmL K H M vs ds → TmL K H M (v :: vs) (d :: ds)
def CallD (K : PySem.W.Frag) (g : List D → Option D) : List V → Hp → VK → Prop := fun xs H Q => ∃ M ds z, Dom M H ∧ TmL K H M xs ds ∧ g ds = some z ∧ ∀ v H', Same H H' → Im K H' M v z → Q v H'
def MethD (K : PySem.W.Frag) (g : D → List D → Option D) : V → List V → Hp → VK → Prop := fun x xs H Q => ∃ M dx ds z, Dom M H ∧ Tm K H M x dx ∧ TmL K H M xs ds ∧ g dx ds = some z ∧ ∀ v H', Same H H' → Im K H' M v z → Q v H'

/-! ### expressions -/
def dVar (i : Nat) : DTE := fun δ G Q _ => ∃ d, δ[i]? = some (some (.v d)) ∧ Q d G
/-- the slot's own list or dict, borrowed -/
def dBor (i : Nat) : DTE := fun δ G Q _ => (∃ d, δ[i]? = some (some (.v d)) ∧ Q d G) ∨ (∃ ds, δ[i]? = some (some (.own ds)) ∧ Q (.lst ds) G) ∨ (∃ ds, δ[i]? = some (some (.ownd ds)) ∧ Q (.dct ds) G)
@[reducible] def dC (d : D) : DTE := fun _ G Q _ => Q d G
def dBin (g : D → D → Option D) (a b : DTE) : DTE := fun δ G Q E => a δ G (fun x G1 => b δ G1 (fun y G2 => G2 = G1 ∧ ∃ z, g x y = some z ∧ Q z G2) E) E
def dUn (g : D → Option D) (a : DTE) : DTE := fun δ G Q E => a δ G (fun x G1 => ∃ z, g x = some z ∧ Q z G1) E
/-- a value as a test: it is a bool -/
def dTst (a : DTE) : DTT := fun δ G Q E => a δ G (fun x G1 => ∃ b, x = .bl b ∧ Q b G1) E
@[reducible] def dNil : DTA := fun _ G Q _ => Q [] G
@[reducible] def dCons (a : DTE) (r : DTA) : DTA := fun δ G Q E => a δ G (fun x G1 => r δ G1 (fun xs G2 => Q (x :: xs) G2) E) E
/-- borrowed arguments -/
def dConsB (a : DTE) (r : DTA) : DTA := fun δ G Q E => a δ G (fun x G1 => r δ G1 (fun xs G2 => G2 = G1 ∧ Q (x :: xs) G2) E) E
def dCallB (g : List D → Option D) (a : DTA) : DTE := fun δ G Q E => a δ G (fun xs G1 => ∃ z, g xs = some z ∧ Q z G1) E
def dMethB (g : D → List D → Option D) (o : DTE) (a : DTA) : DTE := fun δ G Q E => o δ G (fun x G1 => a δ G1 (fun xs G2 => G2 = G1 ∧ ∃ z, g x xs = some z ∧ Q z G2) E) E
def dTup (a : DTA) : DTE := fun δ G Q E => a δ G (fun xs G1 => xs.length ≤ 1000000 ∧ Q (.tup xs) G1) E
def dLst (a : DTA) : DTA := fun δ G Q E => a δ G (fun xs G1 => xs.length ≤ 1000000 ∧ Q xs G1) E
@[reducible] def dFrz (a : DTA) : DTE := fun δ G Q E => a δ G (fun xs G1 => Q (.lst xs) G1) E
def dAndT (a b : DTT) : DTT := fun δ G Q E => a δ G (fun c G1 => if c = true then b δ G1 Q E else Q false G1) E
def dOrT (a b : DTT) : DTT := fun δ G Q E => a δ G (fun c G1 => if c = true then Q true G1 else b δ G1 Q E) E
@[reducible] def dNotT (a : DTT) : DTT := fun δ G Q E => a δ G (fun c G1 => Q (!c) G1) E
def dAndV (a b : DTE) : DTE := fun δ G Q E => a δ G (fun x G1 => ∃ c, x = .bl c ∧ if c = true then b δ G1 Q E else Q (.bl false) G1) E
def dOrV (a b : DTE) : DTE := fun δ G Q E => a δ G (fun x G1 => ∃ c, x = .bl c ∧ if c = true then Q (.bl true) G1 else b δ G1 Q E) E
def dNotV (a : DTE) : DTE := fun δ G Q E => a δ G (fun x G1 => ∃ c, x = .bl c ∧ Q (.bl (!c)) G1) E
def dIfE (t : DTT) (a b : DTE) : DTE := fun δ G Q E => t δ G (fun c G1 => if c = true then a δ G1 Q E else b δ G1 Q E) E

def rdAb (K : PySem.W.Frag) (W : WX) (d : DTA) : TA := fun σ H R => ∃ M δ G Q QE, RS K H M σ δ G ∧ d δ G Q QE ∧ ExOk K W H M σ δ QE ∧ ∀ vs ds G' H' M', Frame H M H' M' → RS K H' M' σ δ G' → (∀ H2 M2, Frame H' M' H2 M2 → RS K H2 M2 σ δ G' → TmL K H2 M2 vs ds) → Q ds G' → R vs H'
abbrev DAb (X : Cx) (W : WX) (es : List Expr) (d : DTA) : Prop := PA X es (rdAb X.K W d)

section
variable {X : Cx} {W : WX} {a b c : Expr} {da db dc : DTE} {pos : Pos} {es : List Expr} {ta : DTA} {ca cb : DTT}
theorem DE_b (h : DE X W a da) : DB X W a da := h.imp fun σ H R ⟨M, δ, G, Q, QE, rs, d, ex, k⟩ => ⟨M, δ, G, Q, QE, rs, d, ex, fun v dv G' H' M' f rs' im q => k v dv G' H' M' f rs' im.bo q⟩
theorem de_of {t : TE} (h : PE X a t) (i : ∀ σ H R, rdE X.K W da σ H R → t σ H R) : DE X W a da := h.imp i
theorem de_var {i : Nat} (h : PE X a (tVar i)) : DE X W a (dVar i) := h.imp fun σ H R ⟨M, δ, G, Q, QE, rs, ⟨d, hd, q⟩, ex, k⟩ => by
  obtain ⟨x, hx, im⟩ := rs.slot i _ hd
  exact ⟨x, hx, k x d G H M (Frame.refl H M) rs im q⟩
theorem db_var {i : Nat} (h : PE X a (tVar i)) : DB X W a (dBor i) := h.imp fun σ H R ⟨M, δ, G, Q, QE, rs, hh, ex, k⟩ => by
  rcases hh with ⟨d, hd, q⟩ | ⟨ds, hd, q⟩ | ⟨ds, hd, q⟩
  · obtain ⟨x, hx, im⟩ := rs.slot i _ hd
    exact ⟨x, hx, k x d G H M (Frame.refl H M) rs (Im.bo im) q⟩
  · obtain ⟨x, hx, l, xs, rfl, m, hl, r⟩ := rs.slot i _ hd
    refine ⟨_, hx, k _ _ G H M (Frame.refl H M) rs (fun H' M' f r' => ?_) q⟩
    obtain ⟨x', hx', l', xs', rfl, m', hl', r2⟩ := r'.slot i _ hd
    rw [hx] at hx'
    cases hx'
    exact .inr (.inl ⟨_, _, _, rfl, rfl, hl', r2⟩)
  · obtain ⟨x, hx, l, xs, rfl, m, hl, r⟩ := rs.slot i _ hd
    refine ⟨_, hx, k _ _ G H M (Frame.refl H M) rs (fun H' M' f r' => ?_) q⟩
    obtain ⟨x', hx', l', xs', rfl, m', hl', r2⟩ := r'.slot i _ hd
    rw [hx] at hx'
    cases hx'
    exact .inr (.inr ⟨_, _, _, rfl, rfl, hl', r2⟩)
theorem de_c {v : V} {d : D} (h : PE X a (tC v)) (i : ∀ H M, Im X.K H M v d) : DE X W a (dC d) := h.imp fun σ H R ⟨M, δ, G, Q, QE, rs, q, ex, k⟩ => k v d G H M (Frame.refl H M) rs (i H M) q
theorem de_bin {op : Operator} {g : D → D → Option D} (ho : OpR X (binaryOp op) (OpD X.K g)) (ha : DB X W a da) (hb : DB X W b db) : DE X W (.BinOp a op b pos) (dBin g da db) := (pe_op ho ha hb).imp fun σ H R ⟨M, δ, G, Q, QE, rs, d, ex, k⟩ => by
  refine ⟨M, δ, G, _, QE, rs, d, ex, fun v dv G' H' M' f rs' bo q => ?_⟩
  refine ⟨M', δ, G', _, QE, rs', q, ex.mono f, fun y dy G2 H2 M2 f2 rs2 bo2 q2 => ?_⟩
  obtain ⟨eG, z, hz, qz⟩ := q2
  subst eG
  exact ⟨M2, dv, dy, z, rs2.g.dom, bo H2 M2 f2 rs2, bo2.now rs2, hz, fun w H3 sm im => k w z _ H3 M2 ((f.trans f2).trans (Same.keep sm).frame) (rs2.same sm) im qz⟩
theorem de_cmp {op : CmpOp} {g : D → D → Option D} (ho : OpR X (compareOp op) (OpD X.K g)) (ha : DB X W a da) (hb : DB X W b db) (hm : behindInMarks op b = false) : DE X W (.Compare a [op] [b] pos) (dBin g da db) := (pe_cmpR ho ha hb hm).imp fun σ H R ⟨M, δ, G, Q, QE, rs, d, ex, k⟩ => by
  refine ⟨M, δ, G, _, QE, rs, d, ex, fun v dv G' H' M' f rs' bo q => ?_⟩
  refine ⟨M', δ, G', _, QE, rs', q, ex.mono f, fun y dy G2 H2 M2 f2 rs2 bo2 q2 => ?_⟩
  obtain ⟨eG, z, hz, qz⟩ := q2
  subst eG
  exact ⟨M2, dv, dy, z, rs2.g.dom, bo H2 M2 f2 rs2, bo2.now rs2, hz, fun w H3 sm im => k w z _ H3 M2 ((f.trans f2).trans (Same.keep sm).frame) (rs2.same sm) im qz⟩
theorem dt_cmp {op : CmpOp} {g : D → D → Option D} (ho : OpR X (compareOp op) (OpD X.K g)) (ha : DB X W a da) (hb : DB X W b db) (hm : behindInMarks op b = false) : DT X W (.Compare a [op] [b] pos) (dTst (dBin g da db)) := (pt_cmpR ho ha hb hm).imp fun σ H R ⟨M, δ, G, Q, QE, rs, d, ex, k⟩ => by
  refine ⟨M, δ, G, _, QE, rs, d, ex, fun v dv G' H' M' f rs' bo q => ?_⟩
  refine ⟨M', δ, G', _, QE, rs', q, ex.mono f, fun y dy G2 H2 M2 f2 rs2 bo2 q2 => ?_⟩
  obtain ⟨eG, z, hz, b, eb, qz⟩ := q2
  subst eG
  subst eb
  refine ⟨M2, dv, dy, .bl b, rs2.g.dom, bo H2 M2 f2 rs2, bo2.now rs2, hz, fun w H3 sm im => ?_⟩
  cases im
  exact ⟨b, rfl, k b _ H3 M2 ((f.trans f2).trans (Same.keep sm).frame) (rs2.same sm) qz⟩
theorem de_un {op : UnaryOp} {g : D → Option D} (ho : UnR X (unaryOp op) (UnD X.K g)) (ha : DB X W a da) : DE X W (.UnaryOp op a pos) (dUn g da) := (pe_un ho ha).imp fun σ H R ⟨M, δ, G, Q, QE, rs, d, ex, k⟩ => by
  refine ⟨M, δ, G, _, QE, rs, d, ex, fun v dv G' H' M' f rs' bo q => ?_⟩
  obtain ⟨z, hz, qz⟩ := q
  exact ⟨M', dv, z, rs'.g.dom, bo.now rs', hz, fun w H3 sm im => k w z _ H3 M' (f.trans (Same.keep sm).frame) (rs'.same sm) im qz⟩
theorem de_ix {g : D → D → Option D} (ho : IxR X (OpD X.K g)) (ha : DB X W a da) (hb : DB X W b db) (hs : PlainIx b) : DE X W (.Subscript a b pos) (dBin g da db) := (pe_ix ho ha hb hs).imp fun σ H R ⟨M, δ, G, Q, QE, rs, d, ex, k⟩ => by
  refine ⟨M, δ, G, _, QE, rs, d, ex, fun v dv G' H' M' f rs' bo q => ?_⟩
  refine ⟨M', δ, G', _, QE, rs', q, ex.mono f, fun y dy G2 H2 M2 f2 rs2 bo2 q2 => ?_⟩
  obtain ⟨eG, z, hz, qz⟩ := q2
  subst eG
  exact ⟨M2, dv, dy, z, rs2.g.dom, bo H2 M2 f2 rs2, bo2.now rs2, hz, fun w H3 sm im => k w z _ H3 M2 ((f.trans f2).trans (Same.keep sm).frame) (rs2.same sm) im qz⟩
/-! tests -/
theorem dt_val (ha : DE X W a da) (he : ∀ whole, isTrue a X.env whole = (do let v ← whole; standAt a.pos; holding [v] (truthy v)) := by intro _; rfl) : DT X W a (dTst da) := (pt_val ha he).imp fun σ H R ⟨M, δ, G, Q, QE, rs, d, ex, k⟩ => by
  refine ⟨M, δ, G, _, QE, rs, d, ex, fun v dv G' H' M' f rs' im q => ?_⟩
  obtain ⟨b, rfl, q⟩ := q
  cases im
  exact ⟨b, rfl, k b G' H' M' f rs' q⟩
theorem dt_not (ha : DT X W a ca) : DT X W (.UnaryOp .Not a pos) (dNotT ca) := (pt_not ha).imp fun σ H R ⟨M, δ, G, Q, QE, rs, d, ex, k⟩ =>
  ⟨M, δ, G, _, QE, rs, d, ex, fun b G' H' M' f rs' q => k (!b) G' H' M' f rs' q⟩
abbrev DW (X : Cx) (W : WX) (e : Expr) (d : DTT) : Prop := PW X e (rdT X.K W d)
theorem _root_.L2.PW.imp {X : Cx} {e : Expr} {t t' : TT} (h : PW X e t) (i : ∀ σ H R, t' σ H R → t σ H R) : PW X e t' := ⟨fun wh pins s σ H Q I q => h.run wh pins s σ H Q I (i _ _ _ q)⟩
theorem dw_and1 (ha : DT X W a ca) : DW X W (.BoolOp .And [a] pos) ca := pw_and1 ha
theorem dw_or1 (ha : DT X W a ca) : DW X W (.BoolOp .Or [a] pos) ca := pw_or1 ha
theorem dw_and (ha : DT X W a ca) (hb : DW X W (.BoolOp .And (b :: es) pos) cb) : DW X W (.BoolOp .And (a :: b :: es) pos) (dAndT ca cb) := L2.PW.imp (pw_and ha hb) fun σ H R ⟨M, δ, G, Q, QE, rs, d, ex, k⟩ => by
  refine ⟨M, δ, G, _, QE, rs, d, ex, fun b G' H' M' f rs' q => ?_⟩
  cases b with
  | true =>
    simp only [if_true] at q ⊢
    exact ⟨M', δ, G', Q, QE, rs', q, ex.mono f, fun b G2 H2 M2 f2 rs2 q2 => k b G2 H2 M2 (f.trans f2) rs2 q2⟩
  | false =>
    simp only [Bool.false_eq_true, if_false] at q ⊢
    exact k false G' H' M' f rs' q
theorem dw_or (ha : DT X W a ca) (hb : DW X W (.BoolOp .Or (b :: es) pos) cb) : DW X W (.BoolOp .Or (a :: b :: es) pos) (dOrT ca cb) := L2.PW.imp (pw_or ha hb) fun σ H R ⟨M, δ, G, Q, QE, rs, d, ex, k⟩ => by
  refine ⟨M, δ, G, _, QE, rs, d, ex, fun b G' H' M' f rs' q => ?_⟩
  cases b with
  | true =>
    simp only [if_true] at q ⊢
    exact k true G' H' M' f rs' q
  | false =>
    simp only [Bool.false_eq_true, if_false] at q ⊢
    exact ⟨M', δ, G', Q, QE, rs', q, ex.mono f, fun b G2 H2 M2 f2 rs2 q2 => k b G2 H2 M2 (f.trans f2) rs2 q2⟩
theorem dt_w (h : DW X W a ca) : DT X W a ca := PW.pt h
/-! bools as values -/
theorem de_one {op} (h : DE X W a da) : DE X W (.BoolOp op [a] pos) da := pe_one h
theorem de_and (ha : DE X W a da) (hb : DE X W (.BoolOp .And (b :: es) pos) db) : DE X W (.BoolOp .And (a :: b :: es) pos) (dAndV da db) := (pe_and ha hb).imp fun σ H R ⟨M, δ, G, Q, QE, rs, d, ex, k⟩ => by
  refine ⟨M, δ, G, _, QE, rs, d, ex, fun v dv G' H' M' f rs' im q => ?_⟩
  obtain ⟨b, rfl, q⟩ := q
  cases im
  refine ⟨b, rfl, ?_⟩
  cases b with
  | true =>
    simp only [if_true] at q ⊢
    exact ⟨M', δ, G', Q, QE, rs', q, ex.mono f, fun v dv G2 H2 M2 f2 rs2 im q2 => k v dv G2 H2 M2 (f.trans f2) rs2 im q2⟩
  | false =>
    simp only [Bool.false_eq_true, if_false] at q ⊢
    exact k _ _ G' H' M' f rs' .bl q
theorem de_or (ha : DE X W a da) (hb : DE X W (.BoolOp .Or (b :: es) pos) db) : DE X W (.BoolOp .Or (a :: b :: es) pos) (dOrV da db) := (pe_or ha hb).imp fun σ H R ⟨M, δ, G, Q, QE, rs, d, ex, k⟩ => by
  refine ⟨M, δ, G, _, QE, rs, d, ex, fun v dv G' H' M' f rs' im q => ?_⟩
  obtain ⟨b, rfl, q⟩ := q
  cases im
  refine ⟨b, rfl, ?_⟩
  cases b with
  | true =>
    simp only [if_true] at q ⊢
    exact k _ _ G' H' M' f rs' .bl q
  | false =>
    simp only [Bool.false_eq_true, if_false] at q ⊢
    exact ⟨M', δ, G', Q, QE, rs', q, ex.mono f, fun v dv G2 H2 M2 f2 rs2 im q2 => k v dv G2 H2 M2 (f.trans f2) rs2 im q2⟩
theorem de_not (ha : DE X W a da) : DE X W (.UnaryOp .Not a pos) (dNotV da) := (pe_not ha).imp fun σ H R ⟨M, δ, G, Q, QE, rs, d, ex, k⟩ => by
  refine ⟨M, δ, G, _, QE, rs, d, ex, fun v dv G' H' M' f rs' im q => ?_⟩
  obtain ⟨b, rfl, q⟩ := q
  cases im
  exact ⟨b, rfl, k _ _ G' H' M' f rs' .bl q⟩
theorem de_ifE (hc : DT X W c ca) (ha : DE X W a da) (hb : DE X W b db) : DE X W (.IfExp c a b pos) (dIfE ca da db) := (pe_ifExp hc ha hb).imp fun σ H R ⟨M, δ, G, Q, QE, rs, d, ex, k⟩ => by
  refine ⟨M, δ, G, _, QE, rs, d, ex, fun b G' H' M' f rs' q => ?_⟩
  cases b with
  | true =>
    simp only [if_true] at q ⊢
    exact ⟨M', δ, G', Q, QE, rs', q, ex.mono f, fun v dv G2 H2 M2 f2 rs2 im q2 => k v dv G2 H2 M2 (f.trans f2) rs2 im q2⟩
  | false =>
    simp only [Bool.false_eq_true, if_false] at q ⊢
    exact ⟨M', δ, G', Q, QE, rs', q, ex.mono f, fun v dv G2 H2 M2 f2 rs2 im q2 => k v dv G2 H2 M2 (f.trans f2) rs2 im q2⟩
/-! arguments -/
theorem da_nil : DA X W [] dNil := pa_nil.imp fun σ H R ⟨M, δ, G, Q, QE, rs, d, ex, k⟩ => k [] [] G H M (Frame.refl H M) rs .nil d
theorem da_cons (ha : DE X W a da) (hr : DA X W es ta) (hs : starEach (a :: es) X.env = (false, eval a X.env) :: starEach es X.env := by rfl) : DA X W (a :: es) (dCons da ta) := (pa_cons ha hr hs).imp fun σ H R ⟨M, δ, G, Q, QE, rs, d, ex, k⟩ => by
  refine ⟨M, δ, G, _, QE, rs, d, ex, fun v dv G' H' M' f rs' im q => ?_⟩
  exact ⟨M', δ, G', _, QE, rs', q, ex.mono f, fun vs ds G2 H2 M2 f2 rs2 iml q2 => k (v :: vs) (dv :: ds) G2 H2 M2 (f.trans f2) rs2 (.cons (im.mono f2.stay) iml) q2⟩
theorem dab_nil : DAb X W [] dNil := pa_nil.imp fun σ H R ⟨M, δ, G, Q, QE, rs, d, ex, k⟩ => k [] [] G H M (Frame.refl H M) rs (fun _ _ _ _ => .nil) d
theorem dab_cons (ha : DB X W a da) (hr : DAb X W es ta) (hs : starEach (a :: es) X.env = (false, eval a X.env) :: starEach es X.env := by rfl) : DAb X W (a :: es) (dConsB da ta) := (pa_cons ha hr hs).imp fun σ H R ⟨M, δ, G, Q, QE, rs, d, ex, k⟩ => by
  refine ⟨M, δ, G, _, QE, rs, d, ex, fun v dv G' H' M' f rs' bo q => ?_⟩
  refine ⟨M', δ, G', _, QE, rs', q, ex.mono f, fun vs ds G2 H2 M2 f2 rs2 bol q2 => ?_⟩
  obtain ⟨eG, q2⟩ := q2
  subst eG
  exact k (v :: vs) (dv :: ds) _ H2 M2 (f.trans f2) rs2 (fun H3 M3 f3 r3 => .cons (bo H3 M3 (f2.trans f3) r3) (bol H3 M3 f3 r3)) q2
theorem sz_million {n : Nat} (h : n ≤ 1000000) : n ≤ sizeLine := by rw [sizeLine_eq]; omega
theorem de_tup {x1} (h : DA X W es ta) : DE X W (.Tuple es x1 pos) (dTup ta) := (pe_tup h).imp fun σ H R ⟨M, δ, G, Q, QE, rs, d, ex, k⟩ => by
  refine ⟨M, δ, G, _, QE, rs, d, ex, fun vs ds G' H' M' f rs' iml q => ?_⟩
  obtain ⟨z, q⟩ := q
  refine ⟨by rw [iml.length]; exact sz_million z, fun p n => k _ _ G' _ M' (f.trans (Keep.new n).frame) (rs'.new n) (Im.newTup rs'.g.dom n iml) q⟩
theorem df_lst (h : DA X W es ta) : DF X W (.List es pos) (dLst ta) := (pe_lst h).imp fun σ H R ⟨M, δ, G, Q, QE, rs, d, ex, k⟩ => by
  refine ⟨M, δ, G, _, QE, rs, d, ex, fun vs ds G' H' M' f rs' iml q => ?_⟩
  obtain ⟨z, q⟩ := q
  refine ⟨by rw [iml.length]; exact sz_million z, fun p n => ?_⟩
  obtain ⟨kp, r2⟩ := rs'.newOther (u := .lst vs) n
  exact k p vs ds G' _ _ (f.trans kp.frame) r2 (f.fresh n) mset_same upd_same (ImL.mono kp.stay iml) q
theorem DF_e (h : DF X W a ta) : DE X W a (dFrz ta) := h.imp fun σ H R ⟨M, δ, G, Q, QE, rs, d, ex, k⟩ =>
  ⟨M, δ, G, _, QE, rs, d, ex, fun p xs ds G' H' M' f rs' n m hp iml q => k _ _ G' _ _ (f.give n) (rs'.give m) (.lst mset_same (.inl hp) (ImL.mono (Stay.give m) iml)) q⟩
/-! built-ins by name -/
variable {x : Str} {p : Pos} {id T : String} {g : List D → Option D}
theorem de_callB {e : Expr} (hc : CallR X (.builtin id) (CallD X.K g)) (hg : Gl X x) (hm : X.mg x = none) (hv : bootBuiltins x = some (.builtin id)) (ha : DAb X W (e :: es) ta) (hn : x ≠ "__name__" := by decide) (hdb : (x == ("__debug__" : Str)) = false := by decide)
    (he : starEach (e :: es) X.env = (false, eval e X.env) :: starEach es X.env := by rfl) (hpl : (backTo pos (starEach es X.env)).any (·.1) = false := by rfl) : DE X W (.Call (.Name x p) (e :: es) [] pos) (dCallB g ta) := (pe_callB hc hg hm hv ha hn hdb he hpl).imp fun σ H R ⟨M, δ, G, Q, QE, rs, d, ex, k⟩ => by
  refine ⟨M, δ, G, _, QE, rs, d, ex, fun vs ds G' H' M' f rs' bol q => ?_⟩
  obtain ⟨z, hz, q⟩ := q
  exact ⟨M', ds, z, rs'.g.dom, bol H' M' (Frame.refl _ _) rs', hz, fun w H3 sm im => k w z _ H3 M' (f.trans (Same.keep sm).frame) (rs'.same sm) im q⟩
theorem de_callTy {e : Expr} (hc : CallR X (.type T) (CallD X.K g)) (hg : Gl X x) (hm : X.mg x = none) (hv : bootBuiltins x = some (.type T)) (ha : DAb X W (e :: es) ta) (hn : x ≠ "__name__" := by decide) (hdb : (x == ("__debug__" : Str)) = false := by decide)
    (he : starEach (e :: es) X.env = (false, eval e X.env) :: starEach es X.env := by rfl) (hpl : (backTo pos (starEach es X.env)).any (·.1) = false := by rfl) : DE X W (.Call (.Name x p) (e :: es) [] pos) (dCallB g ta) := (pe_callTy hc hg hm hv ha hn hdb he hpl).imp fun σ H R ⟨M, δ, G, Q, QE, rs, d, ex, k⟩ => by
  refine ⟨M, δ, G, _, QE, rs, d, ex, fun vs ds G' H' M' f rs' bol q => ?_⟩
  obtain ⟨z, hz, q⟩ := q
  exact ⟨M', ds, z, rs'.g.dom, bol H' M' (Frame.refl _ _) rs', hz, fun w H3 sm im => k w z _ H3 M' (f.trans (Same.keep sm).frame) (rs'.same sm) im q⟩
end
end DD

set_option Elab.async false
set_option linter.all false
set_option maxRecDepth 100000
set_option maxHeartbeats 4000000
namespace DD
open PySem PySem.Spec L2

/-! ### a callee's view of who owns what -/
def hideS (M : Gh) : Gh := fun b => match M b with
  | some (.slot _) => some .other
  | x => x
theorem hideS_noslot (M : Gh) : NoSlot (hideS M) := fun a i e => by
  unfold hideS at e
  split at e
  · cases e
  · rename_i h; exact h i e
theorem hideS_of {M : Gh} {b : Addr} (h : ∀ i, M b ≠ some (.slot i)) : hideS M b = M b := by
  unfold hideS
  split
  · rename_i i e; exact absurd e (h i)
  · rfl
theorem hideS_slot {M : Gh} {b : Addr} {i : Nat} (h : M b = some (.slot i)) : hideS M b = some .other := by
  unfold hideS; rw [h]
theorem hideS_none {M : Gh} {b : Addr} (h : M b = none) : hideS M b = none := by unfold hideS; rw [h]
theorem hideS_other {M : Gh} {b : Addr} (h : M b = some .other) : hideS M b = some .other := by unfold hideS; rw [h]
theorem hideS_obj {M : Gh} {b : Addr} (h : M b = some .obj) : hideS M b = some .obj := by unfold hideS; rw [h]
theorem hideS_fld {M : Gh} {b a : Addr} {f : Str} (h : M b = some (.fld a f)) : hideS M b = some (.fld a f) := by unfold hideS; rw [h]
theorem Frame.hide {H : Hp} {M : Gh} : Frame H M H (hideS M) := ⟨fun b o h m => ⟨h, by
  rcases m with m | m
  · rw [hideS_none m, m]
  · rw [hideS_other m, m]⟩, fun _ h => h⟩
section
variable {K : PySem.W.Frag} {H H' : Hp} {M M' : Gh} {σ : St} {δ : DSt} {G G' : DG}
theorem SlotR.hide {a : Addr} {f : Str} {x : V} : ∀ {s : SV}, SlotR K H M (.fld a f) x s → SlotR K H (hideS M) (.fld a f) x s
  | .v d, h => Im.mono Frame.hide.stay h
  | .own ds, ⟨l, xs, e, m, h, r⟩ => ⟨l, xs, e, hideS_fld m, h, ImL.mono Frame.hide.stay r⟩
  | .ownd ds, ⟨l, xs, e, m, h, r⟩ => ⟨l, xs, e, hideS_fld m, h, ImK.mono Frame.hide.stay r⟩
theorem FldR.hide {a : Addr} : ∀ {ps : List (Str × V)} {fs : List (Str × FV)}, FldR K H M a ps fs → FldR K H (hideS M) a ps fs
  | [], [], _ => trivial
  | (f, x) :: r, (g, s) :: t, ⟨e, h, w, q⟩ => ⟨e, SlotR.hide h, w, FldR.hide q⟩
theorem ObjR.hide {a : Addr} : ∀ {o : DO}, ObjR K H M a o → ObjR K H (hideS M) a o
  | .ins C fs, ⟨dx, ps, h, r⟩ => ⟨dx, ps, h, FldR.hide r⟩
  | .mls ds, ⟨xs, h, r⟩ => ⟨xs, h, ImL.mono Frame.hide.stay r⟩
  | .jar _, ⟨i, j, n, h, r⟩ => ⟨i, j, n, h, r⟩
  | .mdc _, ⟨ps, h, r⟩ => ⟨ps, h, ImK.mono Frame.hide.stay r⟩
theorem RG.hide (r : RG K H M G) : RG K H (hideS M) G := ⟨fun a o h => let ⟨m, q⟩ := r.obj a o h; ⟨hideS_obj m, q.hide⟩, fun a h => r.dom a fun e => h (hideS_none e)⟩
/-- behind a call: the slots' own again -/
def back (M M' : Gh) : Gh := fun b => match M b with
  | some (.slot i) => some (.slot i)
  | _ => M' b
theorem back_slot {b : Addr} {i : Nat} (h : M b = some (.slot i)) : back M M' b = some (.slot i) := by unfold back; rw [h]
theorem back_of {b : Addr} (h : ∀ i, M b ≠ some (.slot i)) : back M M' b = M' b := by
  unfold back
  split
  · rename_i i e; exact absurd e (h i)
  · rfl
theorem slot_or (M : Gh) (b : Addr) : (∃ i, M b = some (.slot i)) ∨ ∀ i, M b ≠ some (.slot i) := by
  by_cases h : ∃ i, M b = some (.slot i)
  · exact .inl h
  · exact .inr fun i e => h ⟨i, e⟩
structure Backs (K : PySem.W.Frag) (H : Hp) (M : Gh) (H' : Hp) (M' : Gh) (G' : DG) : Prop where
  dom : Dom M H
  f : Frame H (hideS M) H' M'
  g : RG K H' M' G'
theorem Backs.other (b : Backs K H M H' M' G') {a : Addr} {i : Nat} (h : M a = some (.slot i)) : M' a = some .other ∧ ∃ o, H a = some o ∧ H' a = some o := by
  cases e : H a with
  | none => exact absurd e (b.dom a (by rw [h]; simp))
  | some o =>
    obtain ⟨h1, m1⟩ := b.f a o e (.inr (hideS_slot h))
    exact ⟨m1.trans (hideS_slot h), o, rfl, h1⟩
theorem Backs.stay (b : Backs K H M H' M' G') : Stay H' M' H' (back M M') := fun a o h m => ⟨h, by
  rcases slot_or M a with ⟨i, e⟩ | e
  · have z := (b.other e).1
    rw [m] at z; cases z
  · rw [back_of e]; exact m⟩
theorem Backs.frame (b : Backs K H M H' M' G') : Frame H M H' (back M M') := ⟨fun a o h m => by
  have ns : ∀ i, M a ≠ some (.slot i) := fun i e => by
    rcases m with m | m <;> (rw [e] at m; cases m)
  have hm : hideS M a = M a := hideS_of ns
  obtain ⟨h1, m1⟩ := b.f a o h (by rw [hm]; exact m)
  exact ⟨h1, by rw [back_of ns]; exact m1.trans hm⟩, b.f.live⟩
theorem SlotR.back (b : Backs K H M H' M' G') {a : Addr} {f : Str} {x : V} : ∀ {s : SV}, SlotR K H' M' (.fld a f) x s → SlotR K H' (back M M') (.fld a f) x s
  | .v d, h => Im.mono b.stay h
  | .own ds, ⟨l, xs, e, m, h, r⟩ => ⟨l, xs, e, by
      rw [back_of fun i e => by rw [(b.other e).1] at m; cases m]; exact m, h, ImL.mono b.stay r⟩
  | .ownd ds, ⟨l, xs, e, m, h, r⟩ => ⟨l, xs, e, by
      rw [back_of fun i e => by rw [(b.other e).1] at m; cases m]; exact m, h, ImK.mono b.stay r⟩
theorem FldR.back (b : Backs K H M H' M' G') {a : Addr} : ∀ {ps : List (Str × V)} {fs : List (Str × FV)}, FldR K H' M' a ps fs → FldR K H' (back M M') a ps fs
  | [], [], _ => trivial
  | (f, x) :: r, (g, s) :: t, ⟨e, h, w, q⟩ => ⟨e, SlotR.back b h, w, FldR.back b q⟩
theorem ObjR.back (b : Backs K H M H' M' G') {a : Addr} : ∀ {o : DO}, ObjR K H' M' a o → ObjR K H' (back M M') a o
  | .ins C fs, ⟨dx, ps, h, r⟩ => ⟨dx, ps, h, FldR.back b r⟩
  | .mls ds, ⟨xs, h, r⟩ => ⟨xs, h, ImL.mono b.stay r⟩
  | .jar _, ⟨i, j, n, h, r⟩ => ⟨i, j, n, h, r⟩
  | .mdc _, ⟨ps, h, r⟩ => ⟨ps, h, ImK.mono b.stay r⟩
theorem Backs.rg (b : Backs K H M H' M' G') : RG K H' (back M M') G' :=
  ⟨fun a o h => let ⟨m, q⟩ := b.g.obj a o h; ⟨by rw [back_of fun i e => by rw [(b.other e).1] at m; cases m]; exact m, q.back b⟩, fun a h => by
    rcases slot_or M a with ⟨i, e⟩ | e
    · obtain ⟨_, o, _, z⟩ := b.other e
      rw [z]; simp
    · rw [back_of e] at h
      exact b.g.dom a h⟩
theorem Backs.rs (b : Backs K H M H' M' G') (r : RS K H M σ δ G) : RS K H' (back M M') σ δ G' :=
  ⟨b.rg, r.len, fun i s h => by
    obtain ⟨x, hx, q⟩ := r.slot i s h
    refine ⟨x, hx, ?_⟩
    cases s with
    | v d => exact Im.mono b.frame.stay q
    | own ds =>
      obtain ⟨l, xs, e, m, hl, r⟩ := q
      obtain ⟨_, o, h1, h2⟩ := b.other m
      rw [hl] at h1; cases h1
      exact ⟨l, xs, e, back_slot m, h2, ImL.mono b.frame.stay r⟩
    | ownd ds =>
      obtain ⟨l, xs, e, m, hl, r⟩ := q
      obtain ⟨_, o, h1, h2⟩ := b.other m
      rw [hl] at h1; cases h1
      exact ⟨l, xs, e, back_slot m, h2, ImK.mono b.frame.stay r⟩⟩
theorem RX.stay (s : Stay H M H' M') {cls : Value} {d : Option Addr} : ∀ {x : DX}, RX K H M cls d x → RX K H' M' cls d x
  | ⟨C, none⟩, h => h
  | ⟨C, some fs⟩, ⟨e, dd, ps, e2, m, h, r⟩ => let ⟨h', m'⟩ := s _ _ h m; ⟨e, dd, ps, e2, m', h', ImF.mono s r⟩
end

/-! ### calls -/
@[reducible] def dCall (f : Fn) (a : DTA) : DTE := fun δ G Q E => a δ G (fun ds G1 => f ds G1 Q E) E
/-- from a body to a callee's promise -/
theorem spD_of {K : PySem.W.Frag} {W : WX} {f : Fn} {H : Hp} {M : Gh} {σ : St} {δ : DSt} {G : DG} {Q : D → DG → Prop} {QE : DX → DG → Prop} {vs : List V} {ds : List D} {R : VK} (rs : RS K H M σ δ G) (iml : ImL K H M vs ds) (q : f ds G Q QE) (ex : ExOk K W H M σ δ QE)
    (k : ∀ v dv G' H' M', Frame H M H' M' → RS K H' M' σ δ G' → Im K H' M' v dv → Q dv G' → R v H') : spD K f vs H R (WE W σ) := by
  refine ⟨hideS M, ds, G, Q, QE, hideS_noslot M, rs.g.hide, ImL.mono Frame.hide.stay iml, q, fun v dv G' H' M' fr ns rg im qd => ?_, fun x G' H' M' cls dd fr ns rg rx qe => ?_⟩
  · have b : Backs K H M H' M' G' := ⟨rs.g.dom, fr, rg⟩
    exact k v dv G' H' _ b.frame (b.rs rs) (im.mono b.stay) qd
  · have b : Backs K H M H' M' G' := ⟨rs.g.dom, fr, rg⟩
    exact ex x G' H' _ cls dd b.frame (b.rs rs) (rx.stay b.stay) qe
section
variable {X : Cx} {W : WX} {k : Nat} {fa C : Addr} {fd : FuncData} {ps : List Str} {f : Fn} {x m : Str} {p pos apos : Pos} {e o : Expr} {es : List Expr} {ta : DTA} {da : DTE}
theorem de_call (F : FnOk X.prog X.w X.K X.mg X.base (L2.CX X.prog X.w) k fa fd ps (spD X.K f)) (hr : Room k X.A) (hg : Gl X x) (hm : X.mg x = some (.ref fa)) (hk : PySem.W.keepIn X.K (.ref fa) = true) (hb : Binds X.K fd ps []) (tk : Takes X W)
    (ha : DA X W (e :: es) ta) (hdb : (x == ("__debug__" : Str)) = false := by decide) (he : starEach (e :: es) X.env = (false, eval e X.env) :: starEach es X.env := by rfl) (hpl : (backTo pos (starEach es X.env)).any (·.1) = false := by rfl) :
    DE X W (.Call (.Name x p) (e :: es) [] pos) (dCall f ta) := (pe_callS F hr hg hm hk hb (fun σ => passAt tk σ) ha hdb he hpl).imp fun σ H R ⟨M, δ, G, Q, QE, rs, d, ex, k⟩ =>
  ⟨M, δ, G, _, QE, rs, d, ex, fun vs ds G1 H1 M1 f1 rs1 iml q => spD_of rs1 iml q (ex.mono f1) fun v dv G' H' M' f2 rs2 im qd => k v dv G' H' M' (f1.trans f2) rs2 im qd⟩

/-- an instance of the class at C, where the attribute m is none of its own -/
def IsIns (C : Addr) (m : Str) (G : DG) : D → Prop
  | .obj C' fs => C' = C ∧ fs.lookup m = none
  | .ref a => ∃ fs, G a = some (.ins C fs) ∧ fs.lookup m = none
  | _ => False
def dMeth (C : Addr) (m : Str) (f : Fn) (o : DTE) (a : DTA) : DTE := fun δ G Q E => o δ G (fun x G1 => IsIns C m G1 x ∧ a δ G1 (fun ds G2 => f (x :: ds) G2 Q E) E) E
theorem FldR.none {K : PySem.W.Frag} {H : Hp} {M : Gh} {a : Addr} {m : Str} : ∀ {ps : List (Str × V)} {fs : List (Str × FV)}, FldR K H M a ps fs → fs.lookup m = none → ps.lookup m = none
  | [], [], _, _ => rfl
  | (f, x) :: r, (g, s) :: t, ⟨e, h, w, q⟩, hl => by
    subst e
    rw [List.lookup_cons] at hl ⊢
    cases z : (m == f) with
    | true => rw [z] at hl; cases hl
    | false => rw [z] at hl; exact FldR.none q hl
theorem isIns_of {K : PySem.W.Frag} {H : Hp} {M : Gh} {G : DG} {v : V} {d : D} (g : RG K H M G) (im : Im K H M v d) (h : IsIns C m G d) : ∃ a dx fs, v = .ref a ∧ H a = some (.ins C dx fs) ∧ fs.lookup m = none := by
  cases im with
  | obj mm ha r =>
    obtain ⟨rfl, hl⟩ := h
    exact ⟨_, _, _, rfl, ha, r.none hl⟩
  | ref =>
    obtain ⟨fs, hG, hl⟩ := h
    obtain ⟨_, dx, ps, ha, r⟩ := g.obj _ _ hG
    exact ⟨_, dx, ps, rfl, ha, r.none hl⟩
  | _ => exact h.elim
theorem de_meth {pl : Sem Bool} (he : DE X W o da) (c : Cls X.K C) (hm : Meth X.K C m fa) (F : FnOk X.prog X.w X.K X.mg X.base (L2.CX X.prog X.w) k fa fd ps (spD X.K f)) (hr : Room k X.A) (hb : Binds X.K fd ps []) (tk : Takes X W) (ha : DA X W (e :: es) ta)
    (hst : starEach (e :: es) X.env = (false, eval e X.env) :: starEach es X.env := by rfl) (hpl : (backTo pos (starEach es X.env)).any (·.1) = false := by rfl)
    (ht : eval (.Call (.Attribute o m apos) (e :: es) [] pos) X.env = (do
      let ov ← eval o X.env
      standAt apos.atName
      let (f, first) ← holding [ov] (getMethod ov m pl)
      callWith pos f first (backTo pos (starEach (e :: es) X.env)) (backToKw pos (keywordEach [] X.env))) := by rfl) :
    DE X W (.Call (.Attribute o m apos) (e :: es) [] pos) (dMeth C m f da ta) := by
  refine ⟨fun pins s σ H R I h => ?_⟩
  obtain ⟨M, δ, G, Q, QE, rs, d, ex, k⟩ := h
  refine PySem.W.methodCall_KW (pl := pl) (thn (he.run pins s σ H (fun v H1 => ∃ dv G1 M1, Frame H M H1 M1 ∧ RS X.K H1 M1 σ δ G1 ∧ Im X.K H1 M1 v dv ∧ IsIns C m G1 dv ∧ ta δ G1 (fun ds G2 => f (dv :: ds) G2 Q QE) QE) I ⟨M, δ, G, _, QE, rs, d, ex, fun v dv G1 H1 M1 f1 rs1 im q => ⟨dv, G1, M1, f1, rs1, im, q.1, q.2⟩⟩) fun u s1 ⟨x, H1, I1, rx, dv, G1, M1, f1, rs1, im, ii, q⟩ => ?_) ht
  obtain ⟨a, dx, fs, ex1, ea, l⟩ := isIns_of rs1.g im ii
  subst ex1
  obtain rfl : u = Value.ref a := rx
  refine getmeth_ok I1 ea c hm l ?_
  refine PySem.W.callWith_K (first := [.ref a]) (h₀ := X.base) I.ok.mod.kin hm.kp (thn (ha.run pos pins s1 σ H1 (fun vs H2 => ∃ ds G2 M2, Frame H1 M1 H2 M2 ∧ RS X.K H2 M2 σ δ G2 ∧ ImL X.K H2 M2 vs ds ∧ f (dv :: ds) G2 Q QE) I1 ⟨M1, δ, G1, _, QE, rs1, q, ex.mono f1, fun vs ds G2 H2 M2 f2 rs2 iml q2 => ⟨ds, G2, M2, f2, rs2, iml, q2⟩⟩) fun us s2 ⟨vs, H2, I2, r, ds, G2, M2, f2, rs2, iml, q2⟩ => ⟨I2.kIn, ?_⟩) hst hpl
  exact run_fnS (E := WE W) (us := .ref a :: us) (vs := .ref a :: vs) F hr hb (passAt tk σ) I2 (.cons rfl r) (spD_of rs2 (.cons (im.mono f2.stay) iml) q2 (ex.mono (f1.trans f2)) fun v dv G' H' M' f3 rs3 im3 qd => k v dv G' H' M' ((f1.trans f2).trans f3) rs3 im3 qd)
theorem de_meth0 {pl : Sem Bool} (he : DE X W o da) (c : Cls X.K C) (hm : Meth X.K C m fa) (F : FnOk X.prog X.w X.K X.mg X.base (L2.CX X.prog X.w) k fa fd ps (spD X.K f)) (hr : Room k X.A) (hb : Binds X.K fd ps []) (tk : Takes X W)
    (ht : eval (.Call (.Attribute o m apos) [] [] pos) X.env = (do
      let ov ← eval o X.env
      standAt apos.atName
      let (f, first) ← holding [ov] (getMethod ov m pl)
      callWith pos f first (backTo pos (starEach [] X.env)) (backToKw pos (keywordEach [] X.env))) := by rfl) :
    DE X W (.Call (.Attribute o m apos) [] [] pos) (dMeth C m f da dNil) := by
  refine ⟨fun pins s σ H R I h => ?_⟩
  obtain ⟨M, δ, G, Q, QE, rs, d, ex, k⟩ := h
  refine PySem.W.methodCall_KW (pl := pl) (thn (he.run pins s σ H (fun v H1 => ∃ dv G1 M1, Frame H M H1 M1 ∧ RS X.K H1 M1 σ δ G1 ∧ Im X.K H1 M1 v dv ∧ IsIns C m G1 dv ∧ f [dv] G1 Q QE) I ⟨M, δ, G, _, QE, rs, d, ex, fun v dv G1 H1 M1 f1 rs1 im q => ⟨dv, G1, M1, f1, rs1, im, q.1, q.2⟩⟩) fun u s1 ⟨x, H1, I1, rx, dv, G1, M1, f1, rs1, im, ii, q⟩ => ?_) ht
  obtain ⟨a, dx, fs, ex1, ea, l⟩ := isIns_of rs1.g im ii
  subst ex1
  obtain rfl : u = Value.ref a := rx
  refine getmeth_ok I1 ea c hm l ?_
  exact PySem.W.callWith_K0 (first := [.ref a]) I1.kIn hm.kp (run_fnS (E := WE W) (us := [.ref a]) (vs := [.ref a]) F hr hb (passAt tk σ) I1 (.cons rfl .nil) (spD_of rs1 (.cons im .nil) q (ex.mono f1) fun v dv G' H' M' f3 rs3 im3 qd => k v dv G' H' M' (f1.trans f3) rs3 im3 qd))
end

/-! ### a def by its body -/
def dstart (N : List Str) (ds : List D) : DSt := ds.map (fun d => some (.v d)) ++ List.replicate (N.length - ds.length) none
theorem ImL.slot {K : PySem.W.Frag} {H : Hp} {M : Gh} {vs : List V} {ds : List D} (r : ImL K H M vs ds) (n : Nat) (i : Nat) (s : SV) (h : (ds.map (fun d => some (SV.v d)) ++ List.replicate n (none : Option SV))[i]? = some (some s)) :
    ∃ x, (vs.map some ++ List.replicate n (none : Option V))[i]? = some (some x) ∧ SlotR K H M (.slot i) x s := by
  have hl := r.length
  by_cases hi : i < ds.length
  · rw [List.getElem?_append_left (by simpa using hi), List.getElem?_map] at h
    rw [List.getElem?_append_left (by simpa using (show i < vs.length by omega)), List.getElem?_map]
    cases e : ds[i]? with
    | none => rw [e] at h; cases h
    | some d =>
      rw [e] at h
      cases h
      obtain ⟨v, hv, im⟩ := r.get e
      exact ⟨v, by rw [hv]; rfl, im⟩
  · rw [List.getElem?_append_right (by simpa using (show ds.length ≤ i by omega)), List.getElem?_replicate] at h
    split at h <;> cases h
theorem rs_start {K : PySem.W.Frag} {H : Hp} {M : Gh} {G : DG} {N : List Str} {vs : List V} {ds : List D} (g : RG K H M G) (r : ImL K H M vs ds) : RS K H M (L2.start N vs) (dstart N ds) G := by
  refine ⟨g, ?_, fun i s h => ?_⟩
  · unfold L2.start dstart
    rw [List.length_append, List.length_append, List.length_map, List.length_map, List.length_replicate, List.length_replicate, r.length]
  · unfold L2.start
    rw [r.length]
    exact r.slot _ i s h
abbrev fnEnds (Q : D → DG → Prop) (QE : DX → DG → Prop) : DEnds := { nx := fun _ G => Q .non G, rt := Q, ex := fun x _ G => QE x G }
section
variable {P : Program} {w : World} {K : PySem.W.Frag} {mg : Str → Option Value} {base : Heap}
theorem body_ok {f : Fn} {db : DTS} {N : List Str} (h : ∀ ds G Q QE, f ds G Q QE → db (fnEnds Q QE) (dstart N ds) G) (vs : List V) (H : Hp) (Q : VK) (E : XK) (sp : spD K f vs H Q E) :
    rdS K (fun cls d _ H' => E cls d H') db { nx := fun _ H' => Q .non H', rt := Q } (L2.start N vs) H := by
  obtain ⟨M, ds, G, QD, QE, ns, g, r, q, k, ke⟩ := sp
  refine ⟨M, dstart N ds, G, fnEnds QD QE, rs_start g r, h ds G QD QE q, ⟨fun σ' δ' G' H' M' f rs q => ?_, fun v dv G' H' M' f ns' rg im q => k v dv G' H' M' f ns' rg im q, fun _ _ _ _ _ _ _ q => q.elim, fun _ _ _ _ _ _ _ q => q.elim, fun x σ' δ' G' H' M' cls dd f rs rx q => ?_⟩⟩
  · have f2 : Frame H M H' (hideS M') := f.trans Frame.hide
    exact k .non .non G' H' (hideS M') f2 (hideS_noslot _) rs.g.hide .non q
  · have f2 : Frame H M H' (hideS M') := f.trans Frame.hide
    exact ke x G' H' (hideS M') cls dd f2 (hideS_noslot _) rs.g.hide (rx.stay Frame.hide.stay) q
/-- THE RULE for a def -/
theorem dfn {x qual : Str} {st : Stmt} {dvs : List V} {fa : Addr} {fd : FuncData} {N ps : List Str} {k : Nat} {f : Fn} {db : DTS} (F : FunD K x qual (defArgs st) (defBody st) (defScope st) dvs [] fa fd) (S : FnScope N ps (defScope st))
    (len : ∀ ds G Q E, f ds G Q E → ds.length = ps.length)
    (hb : ∀ (cdv : Value) (A : Around) (outer : List Env) (s : Shared) (H : Hp) (E : XK), Room k (A.deeper (PyProof.Rows.envOfC qual (defScope st) s.heap.objs.size fa cdv)) →
      DSs (cxOf (L2.CX P w) P w K mg base N qual (defScope st) fa cdv A outer s H E) (fun cls d _ H' => E cls d H') (defBody st) db)
    (h : ∀ ds G Q QE, f ds G Q QE → db (fnEnds Q QE) (dstart N ds) G) : FnOk P w K mg base (L2.CX P w) (k + 1) fa fd ps (spD K f) := by
  refine F.ok S (fun vs H Q E sp => ?_) (fun cdv A outer s H vs Q E hr sp => ⟨_, hb cdv A outer s H E hr, body_ok h vs H Q E sp⟩)
  obtain ⟨M, ds, G, QD, QE, ns, g, r, q, _⟩ := sp
  rw [r.length]
  exact len _ _ _ _ q
theorem FnOk.weak {fa : Addr} {fd : FuncData} {ps : List Str} {k : Nat} {f f' : Fn} (F : FnOk P w K mg base (L2.CX P w) k fa fd ps (spD K f)) (h : ∀ ds G Q E, f' ds G Q E → f ds G Q E) : FnOk P w K mg base (L2.CX P w) k fa fd ps (spD K f') :=
  F.imp fun vs H Q E ⟨M, ds, G, QD, QE, ns, g, r, q, k⟩ => ⟨M, ds, G, QD, QE, ns, g, r, h _ _ _ _ q, k⟩
end
end DD

set_option Elab.async false
set_option linter.all false
set_option maxRecDepth 100000
set_option maxHeartbeats 4000000
namespace DD
open PySem PySem.Spec L2

/-! ### one address changes, its owner keeps it -/
section
variable {K : PySem.W.Frag} {H : Hp} {M : Gh} {σ : St} {δ : DSt} {G : DG} {l : Addr} {ow ow' : Own} {o : HO}
theorem Stay.at (m : M l = some ow) : Stay H M (upd H l o) M := fun b u h n => ⟨by
  rw [upd_ne (fun e => by rw [e, m] at n; cases n)]; exact h, n⟩
theorem Frame.at (m : M l = some ow) (no : ow ≠ .other) : Frame H M (upd H l o) M := ⟨fun b u h n => ⟨by
  rw [upd_ne (fun e => by
    rw [e, m] at n
    rcases n with n | n
    · cases n
    · cases n; exact no rfl)]; exact h, rfl⟩, fun b h => by
    by_cases e : b = l
    · rw [e, upd_same]; simp
    · rw [upd_ne e]; exact h⟩
theorem SlotR.at (m : M l = some ow) (ne : ow' ≠ ow) {x : V} : ∀ {s : SV}, SlotR K H M ow' x s → SlotR K (upd H l o) M ow' x s
  | .v d, h => Im.mono (Stay.at m) h
  | .own ds, ⟨l', xs, e, m', h, r⟩ => ⟨l', xs, e, m', by
      rw [upd_ne (fun z => by rw [z, m] at m'; cases m'; exact ne rfl)]; exact h, ImL.mono (Stay.at m) r⟩
  | .ownd ds, ⟨l', xs, e, m', h, r⟩ => ⟨l', xs, e, m', by
      rw [upd_ne (fun z => by rw [z, m] at m'; cases m'; exact ne rfl)]; exact h, ImK.mono (Stay.at m) r⟩
theorem FldR.at {a : Addr} (m : M l = some ow) (ne : ∀ f, Own.fld a f ≠ ow) : ∀ {ps : List (Str × V)} {fs : List (Str × FV)}, FldR K H M a ps fs → FldR K (upd H l o) M a ps fs
  | [], [], _ => trivial
  | (f, x) :: r, (g, s) :: t, ⟨e, h, w, q⟩ => ⟨e, SlotR.at m (ne f) h, w, FldR.at m ne q⟩
theorem ObjR.at {a : Addr} (m : M l = some ow) (na : a ≠ l) (ne : ∀ f, Own.fld a f ≠ ow) : ∀ {u : DO}, ObjR K H M a u → ObjR K (upd H l o) M a u
  | .ins C fs, ⟨dx, ps, h, r⟩ => ⟨dx, ps, by rw [upd_ne na]; exact h, FldR.at m ne r⟩
  | .mls ds, ⟨xs, h, r⟩ => ⟨xs, by rw [upd_ne na]; exact h, ImL.mono (Stay.at m) r⟩
  | .jar _, ⟨i, j, n, h, r⟩ => ⟨i, j, n, by rw [upd_ne na]; exact h, r⟩
  | .mdc _, ⟨ps, h, r⟩ => ⟨ps, by rw [upd_ne na]; exact h, ImK.mono (Stay.at m) r⟩
theorem dom_at {m : Gh} (d : Dom m H) : Dom m (upd H l o) := fun a h => by
  by_cases e : a = l
  · rw [e, upd_same]; simp
  · rw [upd_ne e]; exact d a h
/-- a slot's own list is changed -/
theorem RS.setOwn {i : Nat} {xs' : List V} {ds' : List D} (r : RS K H M σ δ G) (m : M l = some (.slot i)) (hσ : σ[i]? = some (some (.ref l))) (iml : ImL K H M xs' ds') : RS K (upd H l (.lst xs')) M σ (δ.set i (some (.own ds'))) G := by
  refine ⟨⟨fun a u h => ?_, dom_at r.g.dom⟩, by rw [List.length_set]; exact r.len, fun j s h => ?_⟩
  · obtain ⟨ma, q⟩ := r.g.obj a u h
    exact ⟨ma, q.at m (fun e => by rw [e, m] at ma; cases ma) fun f e => by cases e⟩
  · by_cases hj : j = i
    · subst hj
      have hlt : j < δ.length := by
        rw [← r.len]; exact (List.getElem?_eq_some_iff.mp hσ).1
      rw [List.getElem?_set_self hlt] at h
      cases h
      exact ⟨_, hσ, l, xs', rfl, m, upd_same, ImL.mono (Stay.at m) iml⟩
    · rw [List.getElem?_set_ne (Ne.symm hj)] at h
      obtain ⟨x, hx, q⟩ := r.slot j s h
      exact ⟨x, hx, q.at m fun e => by cases e; exact hj rfl⟩
theorem RS.setV {i : Nat} {v : V} {d : D} (r : RS K H M σ δ G) (im : Im K H M v d) : RS K H M (σ.set i (some v)) (δ.set i (some (.v d))) G := by
  refine ⟨r.g, by rw [List.length_set, List.length_set]; exact r.len, fun j s h => ?_⟩
  by_cases hj : j = i
  · subst hj
    by_cases hlt : j < δ.length
    · rw [List.getElem?_set_self hlt] at h
      cases h
      exact ⟨v, List.getElem?_set_self (by rw [r.len]; exact hlt), im⟩
    · rw [List.getElem?_eq_none (by simpa using hlt)] at h; cases h
  · rw [List.getElem?_set_ne (Ne.symm hj)] at h
    rw [List.getElem?_set_ne (Ne.symm hj)]
    exact r.slot j s h
theorem RS.setN {i : Nat} (r : RS K H M σ δ G) : RS K H M (σ.set i none) (δ.set i none) G := by
  refine ⟨r.g, by rw [List.length_set, List.length_set]; exact r.len, fun j s h => ?_⟩
  by_cases hj : j = i
  · subst hj
    by_cases hlt : j < δ.length
    · rw [List.getElem?_set_self hlt] at h; cases h
    · rw [List.getElem?_eq_none (by simpa using hlt)] at h; cases h
  · rw [List.getElem?_set_ne (Ne.symm hj)] at h
    rw [List.getElem?_set_ne (Ne.symm hj)]
    exact r.slot j s h
/-- a list that nobody knows yet becomes slot i's own -/
theorem RS.takeOwn {i : Nat} {p : Addr} {xs : List V} {ds : List D} (r : RS K H M σ δ G) (m : M p = some .other) (h : H p = some (.lst xs)) (iml : ImL K H M xs ds) :
    RS K H (mset M p (some (.slot i))) (σ.set i (some (.ref p))) (δ.set i (some (.own ds))) G := by
  have r2 := r.give (o := some (.slot i)) m
  refine ⟨r2.g, by rw [List.length_set, List.length_set]; exact r.len, fun j s hj => ?_⟩
  by_cases e : j = i
  · subst e
    by_cases hlt : j < δ.length
    · rw [List.getElem?_set_self hlt] at hj
      cases hj
      exact ⟨_, List.getElem?_set_self (by rw [r.len]; exact hlt), p, xs, rfl, mset_same, h, ImL.mono (Stay.give m) iml⟩
    · rw [List.getElem?_eq_none (by simpa using hlt)] at hj; cases hj
  · rw [List.getElem?_set_ne (Ne.symm e)] at hj
    rw [List.getElem?_set_ne (Ne.symm e)]
    exact r2.slot j s hj
/-- slot i's own list is finished: a value from now on -/
theorem RS.freeze {i : Nat} {ds : List D} (r : RS K H M σ δ G) (h : δ[i]? = some (some (.own ds))) : ∃ M', Frame H M H M' ∧ Stay H M H M' ∧ RS K H M' σ (δ.set i (some (.v (.lst ds)))) G := by
  obtain ⟨x, hx, l, xs, rfl, m, hl, iml⟩ := r.slot i _ h
  have st : Stay H M H (mset M l none) := fun b o hb mb => ⟨hb, by
    by_cases e : b = l
    · rw [e, mset_same]
    · rw [mset_ne e]; exact mb⟩
  have keep : ∀ {b : Addr} {ow : Own}, M b = some ow → ow ≠ .slot i → mset M l none b = some ow := fun {b ow} mb ne => by
    rw [mset_ne (fun e => by rw [e, m] at mb; cases mb; exact ne rfl)]; exact mb
  have sl : ∀ {ow : Own} {x : V} {s : SV}, ow ≠ .slot i → SlotR K H M ow x s → SlotR K H (mset M l none) ow x s := fun {ow x s} ne q => by
    cases s with
    | v d => exact Im.mono st q
    | own ds => obtain ⟨l', xs, e, m', h, r⟩ := q; exact ⟨l', xs, e, keep m' ne, h, ImL.mono st r⟩
    | ownd ds => obtain ⟨l', xs, e, m', h, r⟩ := q; exact ⟨l', xs, e, keep m' ne, h, ImK.mono st r⟩
  have fl : ∀ {a : Addr} {ps : List (Str × V)} {fs : List (Str × FV)}, FldR K H M a ps fs → FldR K H (mset M l none) a ps fs := fun {a ps} => by
    induction ps with
    | nil => intro fs q; cases fs with
      | nil => trivial
      | cons _ _ => exact q
    | cons p ps ih => intro fs q; cases fs with
      | nil => exact q
      | cons g fs => obtain ⟨e, h, w, q⟩ := q; exact ⟨e, sl (fun z => by cases z) h, w, ih q⟩
  refine ⟨mset M l none, ⟨fun b o hb mb => ⟨hb, ?_⟩, fun _ z => z⟩, st, ⟨⟨fun a u ha => ?_, fun a ha => ?_⟩, by rw [List.length_set]; exact r.len, fun j s hj => ?_⟩⟩
  · by_cases e : b = l
    · rw [e, m] at mb
      rcases mb with mb | mb <;> cases mb
    · rw [mset_ne e]
  · obtain ⟨ma, q⟩ := r.g.obj a u ha
    refine ⟨keep ma (fun z => by cases z), ?_⟩
    cases u with
    | ins C fs => obtain ⟨dx, ps, h1, h2⟩ := q; exact ⟨dx, ps, h1, fl h2⟩
    | mls ds => obtain ⟨xs, h1, h2⟩ := q; exact ⟨xs, h1, ImL.mono st h2⟩
    | jar _ => exact q
    | mdc _ => obtain ⟨ps, h1, h2⟩ := q; exact ⟨ps, h1, ImK.mono st h2⟩
  · refine r.g.dom a fun e => ha ?_
    by_cases z : a = l
    · rw [z, mset_same]
    · rw [mset_ne z]; exact e
  · by_cases e : j = i
    · subst e
      have hlt : j < δ.length := (List.getElem?_eq_some_iff.mp h).1
      rw [List.getElem?_set_self hlt] at hj
      cases hj
      exact ⟨_, hx, .lst mset_same (.inl hl) (ImL.mono st iml)⟩
    · rw [List.getElem?_set_ne (Ne.symm e)] at hj
      obtain ⟨y, hy, q⟩ := r.slot j s hj
      exact ⟨y, hy, sl (fun z => by cases z; exact e rfl) q⟩
end

/-! ### statements -/
@[reducible] def exOf (D : DEnds) (δ : DSt) : DX → DG → Prop := fun x G => D.ex x δ G
@[reducible] def sNext : DTS := fun D δ G => D.nx δ G
def sSeq (t u : DTS) : DTS := fun D δ G => t { D with nx := u D } δ G
@[reducible] def sSet (i : Nat) (d : DTE) : DTS := fun D δ G => d δ G (fun x G1 => D.nx (δ.set i (some (.v x))) G1) (exOf D δ)
@[reducible] def sSetF (i : Nat) (d : DTA) : DTS := fun D δ G => d δ G (fun xs G1 => D.nx (δ.set i (some (.own xs))) G1) (exOf D δ)
@[reducible] def sExpr (d : DTE) : DTS := fun D δ G => d δ G (fun _ G1 => D.nx δ G1) (exOf D δ)
@[reducible] def sRet (d : DTE) : DTS := fun D δ G => d δ G (fun x G1 => D.rt x G1) (exOf D δ)
@[reducible] def sRetN : DTS := fun D _ G => D.rt .non G
@[reducible] def sIf (c : DTT) (t u : DTS) : DTS := fun D δ G => c δ G (fun b G1 => if b = true then t D δ G1 else u D δ G1) (exOf D δ)
@[reducible] def sBreak : DTS := fun D δ G => D.bk δ G
@[reducible] def sCont : DTS := fun D δ G => D.ct δ G
def sNever : DTS := fun _ _ _ => False
/-- slot i is finished ahead of the statement -/
def sFrz (i : Nat) (t : DTS) : DTS := fun D δ G => ∃ ds, δ[i]? = some (some (.own ds)) ∧ t D (δ.set i (some (.v (.lst ds)))) G
def sApp (i : Nat) (d : DTE) : DTS := fun D δ G => ∃ ds, δ[i]? = some (some (.own ds)) ∧ d δ G (fun x G1 => ds.length < 1000000 ∧ D.nx (δ.set i (some (.own (ds ++ [x])))) G1) (exOf D δ)
def forL (g : DTG) (tb : DTS) (N : DEnds) : List D → DSt → DG → Prop
  | [], δ, G => N.nx δ G
  | x :: r, δ, G => g x δ G (fun δ' G' => tb { N with nx := forL g tb N r, ct := forL g tb N r, bk := N.nx } δ' G')
@[reducible] def sFor (it : DTA) (g : DTG) (tb : DTS) : DTS := fun D δ G => it δ G (fun xs G1 => forL g tb D xs δ G1) (exOf D δ)
@[reducible] def gN (i : Nat) : DTG := fun x δ G Q => Q (δ.set i (some (.v x))) G
def gT (n : Nat) (g : List D → DSt → DG → (DSt → DG → Prop) → Prop) : DTG := fun x δ G Q => ∃ xs, x = .tup xs ∧ xs.length = n ∧ g xs δ G Q
def gsNil : List D → DSt → DG → (DSt → DG → Prop) → Prop := fun xs δ G Q => xs = [] ∧ Q δ G
def gsCons (g : DTG) (r : List D → DSt → DG → (DSt → DG → Prop) → Prop) : List D → DSt → DG → (DSt → DG → Prop) → Prop := fun xs δ G Q => ∃ y ys, xs = y :: ys ∧ g y δ G (fun δ' G' => r ys δ' G' Q)

section
variable {K : PySem.W.Frag} {W : WX} {H : Hp} {M : Gh} {σ : St} {δ : DSt} {DD : DEnds} {E : Ends}
theorem EndsOk.exOf (e : EndsOk K W H M DD E) : ExOk K W H M σ δ (exOf DD δ) := fun x G' H' M' cls dd f rs rx q => e.ex x σ δ G' H' M' cls dd f rs rx q
end
section
variable {X : Cx} {W : WX} {st : Stmt} {rest sts sts' : List Stmt} {t u : DTS} {e c : Expr} {d : DTE} {da : DTA} {tc : DTT} {pos pos' : Pos} {i : Nat} {x : Str}
theorem dss_nil : DSs X W [] sNext := pss_nil.imp fun E σ H ⟨M, δ, G, DD, rs, d, ok⟩ => ok.nx σ δ G H M (Frame.refl H M) rs d
theorem dss_cons (h1 : DS X W st t) (h2 : DSs X W rest u) : DSs X W (st :: rest) (sSeq t u) := (pss_cons h1 h2).imp fun E σ H ⟨M, δ, G, DD, rs, d, ok⟩ =>
  ⟨M, δ, G, _, rs, d, ⟨fun σ' δ' G' H' M' f rs' q => ⟨M', δ', G', DD, rs', q, ok.mono f⟩, ok.rt, ok.bk, ok.ct, ok.ex⟩⟩
theorem dss_one (h1 : DS X W st t) : DSs X W [st] t := pss_one h1
theorem ds_pass : DS X W (.Pass pos) sNext := ps_pass.imp fun E σ H ⟨M, δ, G, DD, rs, d, ok⟩ => ok.nx σ δ G H M (Frame.refl H M) rs d
theorem ds_break : DS X W (.Break pos) sBreak := ps_break.imp fun E σ H ⟨M, δ, G, DD, rs, d, ok⟩ => ok.bk σ δ G H M (Frame.refl H M) rs d
theorem ds_cont : DS X W (.Continue pos) sCont := ps_continue.imp fun E σ H ⟨M, δ, G, DD, rs, d, ok⟩ => ok.ct σ δ G H M (Frame.refl H M) rs d
theorem ds_never : DS X W st sNever := ps_never.imp fun E σ H ⟨M, δ, G, DD, rs, d, ok⟩ => d
theorem dss_never : DSs X W sts sNever := pss_never.imp fun E σ H ⟨M, δ, G, DD, rs, d, ok⟩ => d
theorem ds_set (hN : X.N.Nodup) (hi : X.N[i]? = some x) (hx : Loc X.env.scope x) (he : DE X W e d) (hs : swapsWith e (some (.Name x pos')) pos.line X.env = pure false := by rfl) (hf : X.fn x = true ∨ X.env.scope.names.lookup x = some .local := by first | exact .inl rfl | exact .inr rfl | assumption) :
    DS X W (.Assign [.Name x pos'] e pos) (sSet i d) := (ps_set (pos := pos) (pos' := pos') hN hi hx he hs hf).imp fun E σ H ⟨M, δ, G, DD, rs, d, ok⟩ =>
  ⟨M, δ, G, _, _, rs, d, ok.exOf, fun v dv G' H' M' f rs' im q => ok.nx _ _ G' H' M' f (rs'.setV im) q⟩
theorem ds_setF (hN : X.N.Nodup) (hi : X.N[i]? = some x) (hx : Loc X.env.scope x) (he : DF X W e da) (hs : swapsWith e (some (.Name x pos')) pos.line X.env = pure false := by rfl) (hf : X.fn x = true ∨ X.env.scope.names.lookup x = some .local := by first | exact .inl rfl | exact .inr rfl | assumption) :
    DS X W (.Assign [.Name x pos'] e pos) (sSetF i da) := (ps_set (pos := pos) (pos' := pos') hN hi hx he hs hf).imp fun E σ H ⟨M, δ, G, DD, rs, d, ok⟩ =>
  ⟨M, δ, G, _, _, rs, d, ok.exOf, fun p xs ds G' H' M' f rs' n m hp iml q => ok.nx _ _ G' _ _ (f.give n) (rs'.takeOwn (i := i) m hp iml) q⟩
theorem ds_expr (he : DE X W e d) (hs : swapsWith e none pos.line X.env = pure false := by rfl) : DS X W (.Expr e pos) (sExpr d) := (ps_expr he hs).imp fun E σ H ⟨M, δ, G, DD, rs, d, ok⟩ =>
  ⟨M, δ, G, _, _, rs, d, ok.exOf, fun v dv G' H' M' f rs' im q => ok.nx _ _ G' H' M' f rs' q⟩
theorem EndsOk.ret {K : PySem.W.Frag} {H : Hp} {M : Gh} {DD : DEnds} {E : Ends} (ok : EndsOk K W H M DD E) {v : V} {dv : D} {G' : DG} {H' : Hp} {M' : Gh} {σ : St} {δ : DSt} (f : Frame H M H' M') (rs : RS K H' M' σ δ G') (im : Im K H' M' v dv) (q : DD.rt dv G') : E.rt v H' := by
  exact ok.rt v dv G' H' (hideS M') (f.trans Frame.hide) (hideS_noslot _) rs.g.hide (im.mono Frame.hide.stay) q
theorem ds_ret (he : DE X W e d) : DS X W (.Return (some e) pos) (sRet d) := (ps_ret he).imp fun E σ H ⟨M, δ, G, DD, rs, d, ok⟩ =>
  ⟨M, δ, G, _, _, rs, d, ok.exOf, fun v dv G' H' M' f rs' im q => ok.ret f rs' im q⟩
theorem ds_retN : DS X W (.Return none pos) sRetN := ps_retN.imp fun E σ H ⟨M, δ, G, DD, rs, d, ok⟩ => ok.ret (Frame.refl H M) rs .non d
theorem ds_if (hc : DT X W c tc) (ha : DSs X W sts t) (hb : DSs X W sts' u) : DS X W (.If c sts sts' pos) (sIf tc t u) := (ps_if hc ha hb).imp fun E σ H ⟨M, δ, G, DD, rs, d, ok⟩ => by
  refine ⟨M, δ, G, _, _, rs, d, ok.exOf, fun b G' H' M' f rs' q => ?_⟩
  cases b with
  | true =>
    simp only [if_true] at q ⊢
    exact ⟨M', δ, G', DD, rs', q, ok.mono f⟩
  | false =>
    simp only [Bool.false_eq_true, if_false] at q ⊢
    exact ⟨M', δ, G', DD, rs', q, ok.mono f⟩
theorem ds_frz (i : Nat) (h : DS X W st t) : DS X W st (sFrz i t) := h.imp fun E σ H ⟨M, δ, G, DD, rs, ⟨ds, hd, q⟩, ok⟩ => by
  obtain ⟨M', f, _, r2⟩ := rs.freeze hd
  exact ⟨M', _, G, DD, r2, q, ok.mono f⟩
theorem dss_frz (i : Nat) (h : DSs X W sts t) : DSs X W sts (sFrz i t) := h.imp fun E σ H ⟨M, δ, G, DD, rs, ⟨ds, hd, q⟩, ok⟩ => by
  obtain ⟨M', f, _, r2⟩ := rs.freeze hd
  exact ⟨M', _, G, DD, r2, q, ok.mono f⟩
/-- xs.append(e), xs slot i's own -/
theorem ds_app {a : Expr} {apos : Pos} (h0 : PE X a (tVar i)) (he : DE X W e d) (hp : PE X (.Call (.Attribute a "append" apos) [e] [] pos) (tBM X.K "list" rAppend (tVar i) (tCons (rdE X.K W d) tNil))) (hs : swapsWith (.Call (.Attribute a "append" apos) [e] [] pos) none pos'.line X.env = pure false := by rfl) :
    DS X W (.Expr (.Call (.Attribute a "append" apos) [e] [] pos) pos') (sApp i d) := (ps_expr hp hs).imp fun E σ H ⟨M, δ, G, DD, rs, ⟨ds, hd, q⟩, ok⟩ => by
  obtain ⟨x, hx, l, xs, rfl, m, hl, iml⟩ := rs.slot i _ hd
  refine ⟨_, hx, .inl ⟨rfl, _, SqL.of hl⟩, M, δ, G, _, _, rs, q, ok.exOf, fun y dy G1 H1 M1 f1 rs1 im q1 => ?_⟩
  obtain ⟨x2, hx2, l2, xs2, rfl, m2, hl2, iml2⟩ := rs1.slot i _ hd
  rw [hx] at hx2
  cases hx2
  refine ⟨l, xs2, y, rfl, rfl, hl2, by rw [iml2.length, sizeLine_eq]; have := q1.1; omega, ?_⟩
  exact ok.nx _ _ G1 _ M1 (f1.trans (Frame.at m2 (by intro z; cases z))) (rs1.setOwn m2 hx (iml2.append (.cons im .nil))) q1.2
end

/-! ### what a loop walks -/
def Iterates (K : PySem.W.Frag) (J : It) (xs : List D) (H : Hp) (M : Gh) : Prop := ∀ H2 M2, Frame H M H2 M2 → Dom M2 H2 → ∀ i, (i < xs.length → J.go i H2 ∧ ∀ x H3, J.yld i H2 x H3 → ∃ d, xs[i]? = some d ∧ Same H2 H3 ∧ Im K H3 M2 x d) ∧ (xs.length ≤ i → J.stop i H2)
theorem Iterates.mono {K : PySem.W.Frag} {J : It} {xs : List D} {H H' : Hp} {M M' : Gh} (h : Iterates K J xs H M) (f : Frame H M H' M') : Iterates K J xs H' M' := fun H2 M2 f2 d i => h H2 M2 (f.trans f2) d i
def rdI (K : PySem.W.Frag) (W : WX) (d : DTA) : TI := fun σ H R => ∃ M δ G Q QE, RS K H M σ δ G ∧ d δ G Q QE ∧ ExOk K W H M σ δ QE ∧ ∀ J xs G' H' M', Frame H M H' M' → RS K H' M' σ δ G' → Iterates K J xs H' M' → Q xs G' → R J H'
abbrev DI (X : Cx) (W : WX) (tg e : Expr) (d : DTA) : Prop := PI X tg e (rdI X.K W d)
theorem ds_for {X : Cx} {W : WX} {tg iter : Expr} {body : List Stmt} {it : DTA} {g : DTG} {tb : DTS} {pos : Pos} (hp : PassesOwn (model X.prog X.w) X.A X.env X.xe) (hc : X.calm = true) (hi : DI X W tg iter it) (hg : DGt X tg g) (hb : DSs X W body tb)
    (hs : ∀ x, foldedSetIterable iter X.env x = pure x := by intro _; rfl) : DS X W (.For tg iter body [] pos) (sFor it g tb) := (ps_for hp hc hi hg hb hs).imp fun E σ H ⟨M, δ, G, DD, rs, d, ok⟩ => by
  refine ⟨M, δ, G, _, _, rs, d, ok.exOf, fun J xs G1 H1 M1 f1 rs1 itr q => ?_⟩
  refine ⟨fun i m σ' H' => ∃ δ' G' M', Frame H1 M1 H' M' ∧ RS X.K H' M' σ' δ' G' ∧ forL g tb DD (xs.drop i) δ' G' ∧ m = xs.length - i ∧ i ≤ xs.length, ⟨xs.length, δ, G1, M1, Frame.refl _ _, rs1, by simpa using q, by simp, Nat.zero_le _⟩, ?_⟩
  rintro i m σ' H' ⟨δ', G', M', f, rs', q, rfl, hi⟩
  obtain ⟨hgo, hstop⟩ := itr H' M' f rs'.g.dom i
  by_cases hlt : i < xs.length
  · obtain ⟨go, yld⟩ := hgo hlt
    refine .inr ⟨go, fun σ2 H2 => ∃ δ2 G2 M2, Frame H1 M1 H2 M2 ∧ RS X.K H2 M2 σ2 δ2 G2 ∧ forL g tb DD (xs.drop (i + 1)) δ2 G2, fun σ2 H2 ⟨δ2, G2, M2, f2, rs2, q2⟩ => ⟨xs.length - (i + 1), by omega, δ2, G2, M2, f2, rs2, q2, rfl, hlt⟩, fun x H3 y => ?_⟩
    obtain ⟨dx, hdx, sm, im⟩ := yld x H3 y
    have e : xs.drop i = dx :: xs.drop (i + 1) := by
      rw [List.drop_eq_getElem_cons hlt]
      have : xs[i] = dx := by
        rw [List.getElem?_eq_getElem hlt] at hdx
        exact Option.some.inj hdx
      rw [this]
    rw [e] at q
    have f3 : Frame H1 M1 H3 M' := f.trans (Same.keep sm).frame
    refine ⟨M', δ', G', dx, _, rs'.same sm, im, q, fun σ2 δ2 G2 H2 M2 f2 rs2 q2 => ?_⟩
    refine ⟨M2, δ2, G2, _, rs2, q2, ⟨fun σ4 δ4 G4 H4 M4 f4 rs4 q4 => ⟨δ4, G4, M4, (f3.trans f2).trans f4, rs4, q4⟩, fun v dv G4 H4 M4 f4 ns rg im q4 => ok.rt v dv G4 H4 M4 (f1.trans ((f3.trans f2).trans f4)) ns rg im q4,
      fun σ4 δ4 G4 H4 M4 f4 rs4 q4 => ok.nx σ4 δ4 G4 H4 M4 (f1.trans ((f3.trans f2).trans f4)) rs4 q4, fun σ4 δ4 G4 H4 M4 f4 rs4 q4 => ⟨δ4, G4, M4, (f3.trans f2).trans f4, rs4, q4⟩,
      fun x4 σ4 δ4 G4 H4 M4 cls dd f4 rs4 rx q4 => ok.ex x4 σ4 δ4 G4 H4 M4 cls dd (f1.trans ((f3.trans f2).trans f4)) rs4 rx q4⟩⟩
  · have e : xs.drop i = [] := List.drop_eq_nil_of_le (by omega)
    rw [e] at q
    exact .inl ⟨hstop (by omega), ok.nx σ' δ' G' H' M' (f1.trans f) rs' q⟩
/-! targets -/
theorem dg_name {X : Cx} {i : Nat} {x : Str} {pos : Pos} (hN : X.N.Nodup) (hi : X.N[i]? = some x) (hx : Loc X.env.scope x) (hf : X.fn x = true ∨ X.env.scope.names.lookup x = some .local := by first | exact .inl rfl | exact .inr rfl | assumption) : DGt X (.Name x pos) (gN i) :=
  (pg_name (pos := pos) hN hi hx hf).imp fun v σ H R ⟨M, δ, G, dv, Q, rs, im, q, k⟩ => k _ _ G H M (Frame.refl H M) (rs.setV im) q
abbrev DTGs := List D → DSt → DG → (DSt → DG → Prop) → Prop
def rdGs (K : PySem.W.Frag) (d : DTGs) : TGs := fun vs σ H R => ∃ M δ G ds Q, RS K H M σ δ G ∧ ImL K H M vs ds ∧ d ds δ G Q ∧ ∀ σ' δ' G' H' M', Frame H M H' M' → RS K H' M' σ' δ' G' → Q δ' G' → R σ' H'
abbrev DGts (X : Cx) (es : List Expr) (d : DTGs) : Prop := PGs X es (rdGs X.K d)
theorem _root_.L2.PGs.imp {X : Cx} {e : List Expr} {t t' : TGs} (h : PGs X e t) (i : ∀ v σ H R, t' v σ H R → t v σ H R) : PGs X e t' := ⟨fun pins s σ H v u Q I r q => h.run pins s σ H v u Q I r (i _ _ _ _ q)⟩
theorem dgs_nil {X : Cx} : DGts X [] gsNil := pgs_nil.imp fun vs σ H R ⟨M, δ, G, ds, Q, rs, im, ⟨e, q⟩, k⟩ => by
  subst e
  cases im
  exact ⟨rfl, k σ δ G H M (Frame.refl H M) rs q⟩
theorem dgs_cons {X : Cx} {e : Expr} {es : List Expr} {t : DTG} {u : DTGs} (h1 : DGt X e t) (h2 : DGts X es u)
    (hs : (assignEach (e :: es) X.env).map (·.2) = assign e X.env :: (assignEach es X.env).map (·.2) := by rfl) : DGts X (e :: es) (gsCons t u) := (pgs_cons h1 h2 hs).imp fun vs σ H R ⟨M, δ, G, ds, Q, rs, im, ⟨y, ys, e, q⟩, k⟩ => by
  subst e
  cases im with
  | cons im iml =>
    refine ⟨_, _, rfl, M, δ, G, y, _, rs, im, q, fun σ' δ' G' H' M' f rs' q' => ?_⟩
    exact ⟨M', δ', G', ys, Q, rs', ImL.mono f.stay iml, q', fun σ2 δ2 G2 H2 M2 f2 rs2 q2 => k σ2 δ2 G2 H2 M2 (f.trans f2) rs2 q2⟩
theorem dg_tup {X : Cx} {es : List Expr} {k0 : Nat} {t : DTGs} {n : Nat} {pos : Pos} (hc : X.calm = true) (h : DGts X es t)
    (hn : (assignEach es X.env).length = n := by rfl) (hst : (assignEach es X.env).findIdx? (·.1) = none := by rfl) : DGt X (.Tuple es k0 pos) (gT n t) := (pg_tup (pos := pos) (k := k0) hc h hn hst).imp fun v σ H R ⟨M, δ, G, dv, Q, rs, im, ⟨xs, e, hl, q⟩, k⟩ => by
  subst e
  obtain ⟨a, vs, rfl, hs, iml⟩ := (Tm.of im).tup
  exact ⟨a, vs, rfl, hs, by rw [iml.length]; exact hl, M, δ, G, xs, Q, rs, iml, q, k⟩
@[reducible] def sAsg (d : DTE) (g : DTG) : DTS := fun D δ G => d δ G (fun x G1 => g x δ G1 D.nx) (exOf D δ)
theorem ds_asg {X : Cx} {W : WX} {tg e : Expr} {d : DTE} {g : DTG} {pos : Pos} (he : DE X W e d) (hg : DGt X tg g) (hs : swapsWithSole [tg] e pos.line X.env = pure false := by rfl) (hw : swappedStores [tg] e X.env = pure none := by rfl)
    (h1 : (assignEach [tg] X.env).map (·.2) = [assign tg X.env] := by rfl) : DS X W (.Assign [tg] e pos) (sAsg d g) := (ps_asg (pos := pos) he hg hs hw h1).imp fun E σ H ⟨M, δ, G, DD, rs, d, ok⟩ =>
  ⟨M, δ, G, _, _, rs, d, ok.exOf, fun v dv G' H' M' f rs' im q => ⟨M', δ, G', dv, _, rs', im, q, fun σ2 δ2 G2 H2 M2 f2 rs2 q2 => ok.nx σ2 δ2 G2 H2 M2 (f.trans f2) rs2 q2⟩⟩
end DD

set_option Elab.async false
set_option linter.all false
set_option maxRecDepth 100000
set_option maxHeartbeats 4000000
/-! enumerate over a tuple -/
namespace PySem
open AutoSeq1 (wpAny_loadPart')
theorem dd_enum_newT (l : Addr) (its : Array Value) :
    Meets (Builtin.«enumerate.__new__» ⟨[.type "enumerate", .ref l], []⟩) (fun _ R s => s.heap.IsTuple l its ∧
      R (.ok (.ret (.ref (s.heap.push { cls := .type "tuple_iterator", data := .fields #[.ref l, .int 0 0] }).objs.size)))
        { s with heap := (s.heap.push { cls := .type "tuple_iterator", data := .fields #[.ref l, .int 0 0] }).push { cls := .type "enumerate", data := .fields #[.none, .bool false, .ref s.heap.objs.size, rawInt 0, .none, .none] } }) :=
  .of_wp fun prog w A R s hh => by
    obtain ⟨hp, g, d, tk, os⟩ := s; obtain ⟨ht, h⟩ := hh
    have hs := sub_enumerate
    have q1 : ∀ {A' : Around} {E : Value → Shared → Prop} {Q : Value → Shared → Prop}, Q (.ref hp.objs.size) ⟨hp.push { cls := .type "tuple_iterator", data := .fields #[.ref l, .int 0 0] }, g, d, tk, os⟩ → wpAny (model prog w) A' (pyIter (.ref l)) Q E ⟨hp, g, d, tk, os⟩ :=
      fun q => wpAny_pyIter_tuple ht q
    wp_walk using q1
    refine wpAny_stack_any fun st => wpAny_pure ?_
    split
    · rename_i c _ _ _ _ _
      cases (c == Value.type "enumerate") <;> (wp_walk using q1; exact ⟨_, rfl, h⟩)
    · wp_walk using q1; exact ⟨_, rfl, h⟩
section
variable {prog : Program} {w : World} {A : Around} {E : Value → Shared → Prop} {s : Shared}
theorem dd_call_enumT {l : Addr} {its : Array Value} {Q : Value → Shared → Prop} (ht : s.heap.IsTuple l its)
    (h : ∀ h', IsEnum h' (s.heap.objs.size + 1) s.heap.objs.size 0 .none → h'.IsTupleIter s.heap.objs.size l 0 → h'.objs.size = s.heap.objs.size + 2 →
      (∀ b o, s.heap.get? b = some o → h'.get? b = some o) → Q (.ref (s.heap.objs.size + 1)) { s with heap := h' }) :
    wpAny (model prog w) A (call (.type "enumerate") [.ref l]) Q E s := by
  refine callType_new F.called_enumerate (by decide) (F.typeCall_enumerate_1 _) (F.newCall_enumerate_1 _) (fun obj => F.args_object_init_2 obj _) F.entry_enumerate_new (dd_enum_newT l its) ⟨ht, ?_⟩
  have hz : (s.heap.push { cls := .type "tuple_iterator", data := .fields #[.ref l, .int 0 0] }).objs.size = s.heap.objs.size + 1 := Heap.size_push ..
  show _ ∧ _
  rw [hz]
  have he : IsEnum ((s.heap.push { cls := .type "tuple_iterator", data := .fields #[.ref l, .int 0 0] }).push
      { cls := .type "enumerate", data := .fields #[.none, .bool false, .ref s.heap.objs.size, rawInt 0, .none, .none] }) (s.heap.objs.size + 1) s.heap.objs.size 0 .none := by
    have := Heap.get?_push_size (s.heap.push { cls := .type "tuple_iterator", data := .fields #[.ref l, .int 0 0] })
      (o := { cls := .type "enumerate", data := .fields #[.none, .bool false, .ref s.heap.objs.size, rawInt 0, .none, .none] }) rfl
    rw [hz] at this; exact this
  exact ⟨⟨_, he, rfl⟩, h _ he ⟨_, Heap.get?_push_of_some _ (Heap.get?_push_size _ rfl), rfl, rfl⟩ (by rw [Heap.size_push, hz]) fun b o x => Heap.get?_push_of_some _ (Heap.get?_push_of_some _ x)⟩
end
end PySem
namespace L2
open PySem PySem.Spec PyProof.Rows
/-- the tuple at a, its items numbered, each in a new pair -/
def IteT (K : PySem.W.Frag) (a : Addr) : It :=
  ⟨fun i H => ∃ (xs : List V) (x : V), SqT K H a xs ∧ xs[i]? = some x, fun i H v H' => ∃ T x, v = .ref T ∧ H T = none ∧ H' = upd H T (.tup [.int (i : Nat), x]) ∧ ∀ xs, SqT K H a xs → xs[i]? = some x, fun i H => ∃ xs : List V, SqT K H a xs ∧ xs.length ≤ i⟩
theorem dd_turn_enumT {P : Program} {w : World} {K : PySem.W.Frag} {elts : List Expr} {kk : Nat} {tpos : Pos} (a e it : Addr) (hai : a ≠ it) (hae : a ≠ e) (its : Array Value) :
    Turn P w K (.Tuple elts kk tpos) (IteT K a) [e, it] e (fun i h => (∃ old, IsEnum h e it ((i : Nat) : Int) old) ∧ h.IsTupleIter it a i ∧ e ≠ it) where
  mem := by simp
  obj := fun i h st b hb => by
    obtain ⟨⟨old, he⟩, ⟨o, ho, hc, hd⟩, _⟩ := st
    rcases (show b = e ∨ b = it by simpa using hb) with z | z
    · rw [z]; exact ⟨_, he, fun v q => nomatch q⟩
    · rw [z]; exact ⟨o, ho, fun v q => by rw [hd] at q; cases q⟩
  keep := fun i h h' ⟨⟨old, he⟩, hi, hne⟩ k => ⟨⟨old, k e (by simp) _ he⟩, hi.at fun o q => k it (by simp) o q, hne⟩
  item := by
    intro X hP hw hK hc i pins s σ H E I hf st hg
    subst hP hw hK
    obtain ⟨⟨old, he⟩, hit, hne⟩ := st
    obtain ⟨xs, x, hq, hx⟩ := hg
    obtain ⟨its, rv, p, hz⟩ := I.tuple hq
    obtain ⟨u, hu, ru⟩ := rv.get hx
    have hel : e < s.heap.objs.size := Heap.lt_size he
    have hil : it < s.heap.objs.size := by obtain ⟨_, q, _⟩ := hit; exact Heap.lt_size q
    have hlt : i < its.toArray.size := by
      have := (List.getElem?_eq_some_iff.mp hu).1
      simpa using this
    refine wpAny_pyNext_enum_itemD (Draws.tuple (prog := X.prog) (w := X.w) (A := X.A.in1) (I.ok.hd hc) it a hai its.toArray) he ⟨hit, p⟩ hlt hne (by simp; exact ⟨hne, fun z => hae z.symm⟩) fun y h' tk hy ho hst hT hsz hk => ?_
    have ey : y = u := by
      have e1 : its.toArray[i]? = some y := hy
      have e2 : its.toArray[i]? = some u := by simpa using hu
      rw [e1] at e2; exact Option.some.inj e2
    subst ey
    refine ⟨_, rfl, wpAny_letOwnedTupleGo_enum (s := { s with heap := h', toks := tk + 1 }) ho fun h'' he' sb => ?_⟩
    have hT2 : h''.get? s.heap.objs.size = some { cls := .type "tuple", data := .seq #[.int i tk, y] } := (sb.2 _ (Nat.ne_of_gt hel)).trans hT
    have new : ObjOk X.prog X.w (upd H s.heap.objs.size (.tup [.int (i : Nat), x])) h'' s.heap.objs.size (.tup [.int (i : Nat), x]) :=
      ⟨by show 2 ≤ sizeLine; decide, [.int i tk, y], .cons ⟨_, rfl⟩ (.cons ru .nil), ⟨_, hT2, rfl, _, rfl⟩⟩
    have I1 : Inv X pins σ (upd H s.heap.objs.size (.tup [.int (i : Nat), x])) { s with heap := h'', toks := tk + 1 } :=
      I.turnedNew (ch := [e, it]) (fun b ob hb q => (sb.2 b (fun z => hb (by simp [z]))).trans (hk b ob (fun z => hb (by simp [z])) (fun z => hb (by simp [z])) q)) hf (Nat.le_refl _) new
    refine ⟨.ref s.heap.objs.size, _, I1, rfl, ⟨_, x, rfl, I.hok.fresh (Nat.le_refl _), rfl, fun ys hy => by rw [I.tuple_inj hy hq]; exact hx⟩, ⟨⟨y, ?_⟩, hst.1.at fun o q => (sb.2 it (Ne.symm hne)).trans q, hne⟩, fun b hb => ?_⟩
    · have e1 : ((i + 1 : Nat) : Int) = (i : Int) + 1 := by omega
      rw [e1]; exact he'
    · have hb' : b < s.heap.objs.size := by
        rcases (show b = e ∨ b = it by simpa using hb) with z | z
        · rw [z]; exact hel
        · rw [z]; exact hil
      rw [upd_ne (Nat.ne_of_lt hb')]
      exact (hf b hb).1
  done := by
    intro X hP hw hK hc i pins s σ H E I hf st hg
    subst hP hw hK
    obtain ⟨⟨old, he⟩, hit, hne⟩ := st
    obtain ⟨xs, hq, hx⟩ := hg
    obtain ⟨its, rv, p, hz⟩ := I.tuple hq
    obtain ⟨f0, f1, f2, f3, f4, f5⟩ := hf it (by simp)
    have hl := rv.length
    have hend : its.toArray[i]? = none := by simp; omega
    refine wpAny_bind (m := (callSpecial? (.ref e) (Str.ofString "__next__")).attempt) ?_
    have hT : s.TypeIs (.ref e) "enumerate" := ⟨_, he, rfl⟩
    refine wpAny_attempt (wpAny_callSpecial?_slot (name := Str.ofString "__next__") hT F.slot_enumerate_next
      (wpAny_call_entry F.slot_enumerate_next hT F.entry_enumerate_next ?_ (F.args_enumerate_next_1 _)))
    show wpAny _ _ (field (.ref e) 2 >>= _) _ _ _
    refine wpAny_bind (wpAny_field he rfl (x := .ref it) rfl ?_)
    refine wpAny_bind (wpAny_nextOf_tuple_end (show (X.A.in1).handled = none from I.ok.hd hc) hit p hend fun h' x he' hx' => ?_)
    obtain ⟨o, ho, hc'⟩ := hx'
    refine wpAny_bind (wpAny_isInstance (T := "StopIteration") (b := true) ⟨o, ho, hc'⟩ isSubtype_stop ?_)
    exact wpAny_pure ⟨rfl, I.turned (t' := s.toks) (fun b o hb q => he' b o hb q) f0 f1 f3 f4 f5⟩
  self := fun A i s Q E st h => let ⟨⟨_, he⟩, _⟩ := st; wpAny_pyIter_enum he h
end L2

set_option Elab.async false
set_option linter.all false
set_option maxRecDepth 100000
set_option maxHeartbeats 4000000
namespace DD
open PySem PySem.Spec L2

/-! ### what is walked -/
def iterD : D → Option (List D)
  | .lst ds => some ds
  | .tup ds => some ds
  | .str x => some (x.cps.toList.map fun c => .str ⟨#[c]⟩)
  | _ => none
def iSeq (a : DTE) : DTA := fun δ G Q E => a δ G (fun x G1 => ∃ xs, iterD x = some xs ∧ Q xs G1) E
def iRg1 (a : DTA) : DTA := fun δ G Q E => a δ G (fun vs G1 => ∃ j : Int, vs = [.int j] ∧ j < 2 ^ 62 ∧ -(2 ^ 62) ≤ j ∧ Q ((List.range j.toNat).map fun k : Nat => D.int (k : Int)) G1) E
def iRg2 (a : DTA) : DTA := fun δ G Q E => a δ G (fun vs G1 => ∃ i j : Int, vs = [.int i, .int j] ∧ (-(2 ^ 62) ≤ i ∧ i < 2 ^ 62 ∧ -(2 ^ 62) ≤ j ∧ j < 2 ^ 62) ∧ Q ((List.range (j - i).toNat).map fun k : Nat => D.int (i + (k : Int))) G1) E
/-- numbered from n on -/
def numD : Nat → List D → List D
  | _, [] => []
  | n, x :: r => .tup [.int (n : Int), x] :: numD (n + 1) r
def iEn (a : DTE) : DTA := fun δ G Q E => a δ G (fun x G1 => ∃ xs, (x = .lst xs ∨ x = .tup xs) ∧ Q (numD 0 xs) G1) E
def zipD : List D → List D → List D
  | x :: r, y :: s => .tup [x, y] :: zipD r s
  | _, _ => []
def iZp (a : DTA) : DTA := fun δ G Q E => a δ G (fun vs G1 => ∃ xs ys, (vs = [.lst xs, .lst ys] ∨ vs = [.tup xs, .tup ys]) ∧ Q (zipD xs ys) G1) E
def iRv (a : DTE) : DTA := fun δ G Q E => a δ G (fun x G1 => ∃ xs, (x = .lst xs ∨ x = .tup xs) ∧ Q xs.reverse G1) E
theorem numD_length : ∀ (n : Nat) (xs : List D), (numD n xs).length = xs.length
  | _, [] => rfl
  | n, x :: r => congrArg (· + 1) (numD_length (n + 1) r)
theorem numD_get : ∀ (n : Nat) (xs : List D) (i : Nat), (numD n xs)[i]? = (xs[i]?).map fun x => D.tup [.int ((n + i : Nat) : Int), x]
  | _, [], i => by simp [numD]
  | n, x :: r, 0 => by simp [numD]
  | n, x :: r, i + 1 => by
    have h := numD_get (n + 1) r i
    simp only [numD, List.getElem?_cons_succ]
    rw [h]
    have e : n + 1 + i = n + (i + 1) := by omega
    rw [e]
theorem zipD_length : ∀ (xs ys : List D), (zipD xs ys).length = min xs.length ys.length
  | [], _ => by simp [zipD]
  | _ :: _, [] => by simp [zipD]
  | x :: r, y :: s => by simp [zipD, zipD_length r s]
theorem zipD_get : ∀ (xs ys : List D) (i : Nat) (x y : D), xs[i]? = some x → ys[i]? = some y → (zipD xs ys)[i]? = some (.tup [x, y])
  | [], _, i, x, y, h, _ => by simp at h
  | _ :: _, [], i, x, y, _, h => by simp at h
  | a :: r, b :: s, 0, x, y, h1, h2 => by simp at h1 h2; subst h1 h2; rfl
  | a :: r, b :: s, i + 1, x, y, h1, h2 => by simp [zipD]; exact zipD_get r s i x y (by simpa using h1) (by simpa using h2)
section
variable {K : PySem.W.Frag} {H : Hp} {M : Gh}
theorem SqL.rd {a : Addr} {xs : List V} (h : Rd H a (.lst xs)) : SqL K H a xs := .inl h
theorem Im.lstS {a : Addr} {ds : List D} (im : Im K H M (.ref a) (.lst ds)) : ∃ xs, SqL K H a xs ∧ ImL K H M xs ds := by
  cases im with
  | lst m h r => exact ⟨_, .inl h, r⟩
  | lstK h r => exact ⟨_, h H, r⟩
theorem Im.tupS {a : Addr} {ds : List D} (im : Im K H M (.ref a) (.tup ds)) : ∃ xs, SqT K H a xs ∧ ImL K H M xs ds := by
  cases im with
  | tup m h r => exact ⟨_, .inl h, r⟩
  | tupK h r => exact ⟨_, h H, r⟩
theorem at_some {xs : List V} {ds : List D} {i : Nat} (r : ImL K H M xs ds) (h : i < ds.length) : ∃ x d, xs[i]? = some x ∧ ds[i]? = some d ∧ Im K H M x d := by
  have e : ds[i]? = some ds[i] := List.getElem?_eq_getElem h
  obtain ⟨x, hx, im⟩ := r.get e
  exact ⟨x, _, hx, e, im⟩
theorem it_lst {a : Addr} {ds : List D} (im : Im K H M (.ref a) (.lst ds)) : Iterates K (Itl K a) ds H M := fun H2 M2 f dom i => by
  obtain ⟨xs, hs, r⟩ := (im.mono f.stay).lstS
  refine ⟨fun hi => ?_, fun hi => ⟨xs, hs, by rw [r.length]; exact hi⟩⟩
  obtain ⟨x, d, hx, hd, imx⟩ := at_some r hi
  refine ⟨⟨xs, x, hs, hx⟩, fun y H3 ⟨e, hy⟩ => ?_⟩
  subst e
  have e2 := hy xs hs
  rw [hx] at e2
  cases e2
  exact ⟨d, hd, Same.refl _, imx⟩
theorem it_tup {a : Addr} {ds : List D} (im : Im K H M (.ref a) (.tup ds)) : Iterates K (Itt K a) ds H M := fun H2 M2 f dom i => by
  obtain ⟨xs, hs, r⟩ := (im.mono f.stay).tupS
  refine ⟨fun hi => ?_, fun hi => ⟨xs, hs, by rw [r.length]; exact hi⟩⟩
  obtain ⟨x, d, hx, hd, imx⟩ := at_some r hi
  refine ⟨⟨xs, x, hs, hx⟩, fun y H3 ⟨e, hy⟩ => ?_⟩
  subst e
  have e2 := hy xs hs
  rw [hx] at e2
  cases e2
  exact ⟨d, hd, Same.refl _, imx⟩
theorem strOk_one {x : Str} {c : Nat} {i : Nat} (h : PyData.strOk x = true) (e : x.cps[i]? = some c) : PyData.strOk ⟨#[c]⟩ = true := by
  have h1 : x.cps.all (· < 0x110000) = true := h
  rw [Array.all_eq_true] at h1
  obtain ⟨hi, rfl⟩ := Array.getElem?_eq_some_iff.mp e
  have := h1 i hi
  show (#[x.cps[i]] : Array Nat).all (· < 0x110000) = true
  simpa using this
theorem it_str {x : Str} (ok : PyData.strOk x = true) : Iterates K (Its x) (x.cps.toList.map fun c => .str ⟨#[c]⟩) H M := fun H2 M2 f dom i => by
  refine ⟨fun hi => ⟨(by simpa using hi : i < x.cps.size), fun y H3 ⟨e, c, hc, ey⟩ => ?_⟩, fun hi => (by simpa using hi : x.cps.size ≤ i)⟩
  subst e ey
  refine ⟨.str ⟨#[c]⟩, ?_, Same.refl _, .str (strOk_one ok hc)⟩
  rw [List.getElem?_map, Array.getElem?_toList, hc]
  rfl
theorem it_rng {lo : Int} {n : Nat} : Iterates K (Itr lo n) ((List.range n).map fun k : Nat => .int (lo + (k : Int))) H M := fun H2 M2 f dom i => by
  refine ⟨fun hi => ⟨(by simpa using hi : i < n), fun y H3 ⟨e, ey⟩ => ?_⟩, fun hi => (by simpa using hi : n ≤ i)⟩
  subst e ey
  have hi' : i < n := by simpa using hi
  exact ⟨.int (lo + (i : Int)), by simp [hi'], Same.refl _, .int⟩
theorem it_rng0 {n : Nat} : Iterates K (Itr 0 n) ((List.range n).map fun k : Nat => .int (k : Int)) H M := by
  have h := it_rng (K := K) (H := H) (M := M) (lo := 0) (n := n)
  have e : ((List.range n).map fun k : Nat => D.int (0 + (k : Int))) = (List.range n).map fun k : Nat => D.int (k : Int) := by simp
  rw [e] at h
  exact h
theorem Keep.same {H' : Hp} (s : Same H H') : Keep H M H' M := fun b o h => ⟨s b o h, rfl⟩
theorem it_enL {a : Addr} {ds : List D} (im : Im K H M (.ref a) (.lst ds)) : Iterates K (Ite K a) (numD 0 ds) H M := fun H2 M2 f dom i => by
  obtain ⟨xs, hs, r⟩ := (im.mono f.stay).lstS
  rw [numD_length]
  refine ⟨fun hi => ?_, fun hi => ⟨xs, hs, by rw [r.length]; exact hi⟩⟩
  obtain ⟨x, d, hx, hd, imx⟩ := at_some r hi
  refine ⟨⟨xs, x, hs, hx⟩, fun y H3 ⟨T, x', ey, hT, e, hy⟩ => ?_⟩
  subst e ey
  have e2 := hy xs hs
  rw [hx] at e2
  cases e2
  refine ⟨.tup [.int (i : Nat), d], ?_, Same.new hT, Im.newTup dom hT (.cons .int (.cons imx .nil))⟩
  rw [numD_get, hd]; simp
theorem it_enT {a : Addr} {ds : List D} (im : Im K H M (.ref a) (.tup ds)) : Iterates K (IteT K a) (numD 0 ds) H M := fun H2 M2 f dom i => by
  obtain ⟨xs, hs, r⟩ := (im.mono f.stay).tupS
  rw [numD_length]
  refine ⟨fun hi => ?_, fun hi => ⟨xs, hs, by rw [r.length]; exact hi⟩⟩
  obtain ⟨x, d, hx, hd, imx⟩ := at_some r hi
  refine ⟨⟨xs, x, hs, hx⟩, fun y H3 ⟨T, x', ey, hT, e, hy⟩ => ?_⟩
  subst e ey
  have e2 := hy xs hs
  rw [hx] at e2
  cases e2
  refine ⟨.tup [.int (i : Nat), d], ?_, Same.new hT, Im.newTup dom hT (.cons .int (.cons imx .nil))⟩
  rw [numD_get, hd]; simp
theorem it_zpL {a b : Addr} {ds es : List D} (im : Im K H M (.ref a) (.lst ds)) (im2 : Im K H M (.ref b) (.lst es)) : Iterates K (Itz K a b) (zipD ds es) H M := fun H2 M2 f dom i => by
  obtain ⟨xs, hs, r⟩ := (im.mono f.stay).lstS
  obtain ⟨ys, hs2, r2⟩ := (im2.mono f.stay).lstS
  rw [zipD_length]
  refine ⟨fun hi => ?_, fun hi => ⟨xs, ys, hs, hs2, by rw [r.length, r2.length]; omega⟩⟩
  obtain ⟨x, d, hx, hd, imx⟩ := at_some r (show i < ds.length by omega)
  obtain ⟨y, e, hy, he, imy⟩ := at_some r2 (show i < es.length by omega)
  refine ⟨⟨xs, ys, x, y, hs, hs2, hx, hy⟩, fun v H3 ⟨T, x', y', ev, hT, eH, h1, h2⟩ => ?_⟩
  subst eH ev
  have e1 := h1 xs hs
  rw [hx] at e1
  cases e1
  have e2 := h2 ys hs2
  rw [hy] at e2
  cases e2
  exact ⟨.tup [d, e], zipD_get ds es i d e hd he, Same.new hT, Im.newTup dom hT (.cons imx (.cons imy .nil))⟩
theorem it_zpT {a b : Addr} {ds es : List D} (im : Im K H M (.ref a) (.tup ds)) (im2 : Im K H M (.ref b) (.tup es)) : Iterates K (RZ.ItzT K a b) (zipD ds es) H M := fun H2 M2 f dom i => by
  obtain ⟨xs, hs, r⟩ := (im.mono f.stay).tupS
  obtain ⟨ys, hs2, r2⟩ := (im2.mono f.stay).tupS
  rw [zipD_length]
  refine ⟨fun hi => ?_, fun hi => ⟨xs, ys, hs, hs2, by rw [r.length, r2.length]; omega⟩⟩
  obtain ⟨x, d, hx, hd, imx⟩ := at_some r (show i < ds.length by omega)
  obtain ⟨y, e, hy, he, imy⟩ := at_some r2 (show i < es.length by omega)
  refine ⟨⟨xs, ys, x, y, hs, hs2, hx, hy⟩, fun v H3 ⟨T, x', y', ev, hT, eH, h1, h2⟩ => ?_⟩
  subst eH ev
  have e1 := h1 xs hs
  rw [hx] at e1
  cases e1
  have e2 := h2 ys hs2
  rw [hy] at e2
  cases e2
  exact ⟨.tup [d, e], zipD_get ds es i d e hd he, Same.new hT, Im.newTup dom hT (.cons imx (.cons imy .nil))⟩
end
section
variable {X : Cx} {W : WX} {tg e a b : Expr} {d : DTE} {da : DTA} {p pos tpos : Pos} {elts : List Expr} {kk : Nat}
theorem di_seq (he : DE X W e d) : DI X W tg e (iSeq d) := by
  refine ⟨fun pins s σ H R I h => ?_⟩
  obtain ⟨M, δ, G, Q, QE, rs, d, ex, k⟩ := h
  refine thn (he.run pins s σ H (fun v H1 => ∃ dv G1 M1, Frame H M H1 M1 ∧ RS X.K H1 M1 σ δ G1 ∧ Im X.K H1 M1 v dv ∧ ∃ xs, iterD dv = some xs ∧ Q xs G1) I ⟨M, δ, G, _, QE, rs, d, ex, fun v dv G1 H1 M1 f1 rs1 im q => ⟨dv, G1, M1, f1, rs1, im, q⟩⟩) fun v s1 ⟨x, H1, I1, r1, dv, G1, M1, f1, rs1, im, xs, hx, q⟩ => ?_
  have fin : ∀ {b : Addr}, s1.heap.objs.size ≤ b → FpOk X pins H1 b := fun {b} hb => I1.fpOk hb (I1.hok.fresh hb)
  cases dv with
  | lst ds =>
    cases hx
    have hh : ∃ (a0 : Addr) (vs0 : List V), x = .ref a0 ∧ SqL X.K H1 a0 vs0 := by
      obtain ⟨a0, vs0, ex, hs, _⟩ := (Tm.of im).lst
      exact ⟨a0, vs0, ex, hs⟩
    obtain ⟨a0, vs0, ex, hs⟩ := hh
    subst ex
    cases r1
    obtain ⟨its, rv, pl, hz⟩ := I1.list hs
    refine wpAny_pyIter_list pl.isList ⟨s1.heap.objs.size, [s1.heap.objs.size], _, _, H1, rfl, I1.kept (t' := s1.toks) fun b o e => Heap.get?_push_of_some _ e, turn_list a0 _, ⟨_, Heap.get?_push_size _ rfl, rfl, rfl⟩, fun b hb => ?_, k (Itl X.K a0) _ G1 H1 M1 f1 rs1 (it_lst im) q⟩
    rw [show b = s1.heap.objs.size by simpa using hb]
    exact fin (Nat.le_refl _)
  | tup ds =>
    cases hx
    have hh : ∃ (a0 : Addr) (vs0 : List V), x = .ref a0 ∧ SqT X.K H1 a0 vs0 := by
      obtain ⟨a0, vs0, ex, hs, _⟩ := (Tm.of im).tup
      exact ⟨a0, vs0, ex, hs⟩
    obtain ⟨a0, vs0, ex, hs⟩ := hh
    subst ex
    cases r1
    obtain ⟨its, rv, pl, hz⟩ := I1.tuple hs
    refine wpAny_pyIter_tuple (show s1.heap.IsTuple a0 its.toArray from pl) ⟨s1.heap.objs.size, [s1.heap.objs.size], _, _, H1, rfl, I1.kept (t' := s1.toks) fun b o e => Heap.get?_push_of_some _ e, turn_tuple a0 _, ⟨_, Heap.get?_push_size _ rfl, rfl, rfl⟩, fun b hb => ?_, k (Itt X.K a0) _ G1 H1 M1 f1 rs1 (it_tup im) q⟩
    rw [show b = s1.heap.objs.size by simpa using hb]
    exact fin (Nat.le_refl _)
  | str z =>
    cases hx
    have ok := (Tm.of im).str
    cases im
    obtain ⟨t, rfl⟩ := r1
    have q2 := k (Its z) _ G1 H1 M1 f1 rs1 (it_str ok) q
    cases ha : z.cps.all (· < 128)
    · exact wpAny_pyIter_wide ha (pi_one (tk := s1.toks) I1 _ (turn_str _ z t "str_iterator" (.inr rfl)) ⟨_, Heap.get?_push_size _ rfl, rfl, rfl⟩ q2)
    · exact wpAny_pyIter_ascii ha (pi_one (tk := s1.toks) I1 _ (turn_str _ z t "str_ascii_iterator" (.inl rfl)) ⟨_, Heap.get?_push_size _ rfl, rfl, rfl⟩ q2)
  | _ => cases hx
theorem _root_.L2.PI.imp {X : Cx} {tg e : Expr} {t t' : TI} (h : PI X tg e t) (i : ∀ σ H R, t' σ H R → t σ H R) : PI X tg e t' := ⟨fun pins s σ H Q I q => h.run pins s σ H Q I (i _ _ _ q)⟩
theorem di_rng1 (hg : Gl X "range") (hm : X.mg "range" = none) (ha : DA X W [a] da) (hs : starEach [a] X.env = [(false, eval a X.env)] := by rfl) : DI X W tg (.Call (.Name "range" p) [a] [] pos) (iRg1 da) := (pi_range1 (p := p) (pos := pos) hg hm ha hs).imp fun σ H R ⟨M, δ, G, Q, QE, rs, d, ex, k⟩ => by
  refine ⟨M, δ, G, _, QE, rs, d, ex, fun vs ds G1 H1 M1 f1 rs1 iml ⟨j, e, h1, h2, q⟩ => ?_⟩
  subst e
  cases iml with
  | cons im iml =>
    cases iml
    cases im
    exact ⟨j, rfl, h2, h1, k _ _ G1 H1 M1 f1 rs1 it_rng0 q⟩
theorem di_rng2 (hg : Gl X "range") (hm : X.mg "range" = none) (ha : DA X W [a, b] da) (hs : starEach [a, b] X.env = [(false, eval a X.env), (false, eval b X.env)] := by rfl) (hs2 : starEach [b] X.env = [(false, eval b X.env)] := by rfl) : DI X W tg (.Call (.Name "range" p) [a, b] [] pos) (iRg2 da) := (pi_range2 (p := p) (pos := pos) hg hm ha hs hs2).imp fun σ H R ⟨M, δ, G, Q, QE, rs, d, ex, k⟩ => by
  refine ⟨M, δ, G, _, QE, rs, d, ex, fun vs ds G1 H1 M1 f1 rs1 iml ⟨i, j, e, h1, q⟩ => ?_⟩
  subst e
  cases iml with
  | cons im iml =>
    cases iml with
    | cons im2 iml =>
      cases iml
      cases im
      cases im2
      exact ⟨i, j, rfl, h1, k _ _ G1 H1 M1 f1 rs1 it_rng q⟩
theorem di_enum (hg : Gl X "enumerate") (hm : X.mg "enumerate" = none) (he : DE X W a d) (hs : starEach [a] X.env = (false, eval a X.env) :: starEach [] X.env := by rfl) : DI X W (.Tuple elts kk tpos) (.Call (.Name "enumerate" p) [a] [] pos) (iEn d) := by
  refine ⟨fun pins s σ H R I h => ?_⟩
  obtain ⟨M, δ, G, Q, QE, rs, d, ex, k⟩ := h
  refine PyProof.Rows.Call_ (ld_blt I hg hm PyProof.Rows.boot_enumerate (PyProof.Rows.callWith_type1 (thn ((pa_cons he pa_nil hs).run pos pins s σ H (fun vs H1 => ∃ v dv G1 M1, vs = [v] ∧ Frame H M H1 M1 ∧ RS X.K H1 M1 σ δ G1 ∧ Im X.K H1 M1 v dv ∧ ∃ xs, (dv = .lst xs ∨ dv = .tup xs) ∧ Q (numD 0 xs) G1) I ⟨M, δ, G, _, QE, rs, d, ex, fun v dv G1 H1 M1 f1 rs1 im q => ⟨v, dv, G1, M1, rfl, f1, rs1, im, q⟩⟩) fun us s1 ⟨vs, H1, I1, r1, v, dv, G1, M1, ev, f1, rs1, im, xs, hx, q⟩ => ?_) (by rw [hs]) rfl))
  subst ev
  cases r1 with
  | cons r rr =>
    cases rr
    have fp2 : ∀ b, b ∈ [s1.heap.objs.size + 1, s1.heap.objs.size] → FpOk X pins H1 b := fun b hb => by
      have hle : s1.heap.objs.size ≤ b := by
        rcases (show b = s1.heap.objs.size + 1 ∨ b = s1.heap.objs.size by simpa using hb) with z | z
        · rw [z]; exact Nat.le_add_right _ _
        · rw [z]; exact Nat.le_refl _
      exact I1.fpOk hle (I1.hok.fresh hle)
    rcases hx with rfl | rfl
    · obtain ⟨a0, vs0, ex0, hs0, _⟩ := (Tm.of im).lst
      subst ex0
      cases r
      obtain ⟨its, rv, pl, hz⟩ := I1.list hs0
      refine call_enumerate_list pl.isList fun h' he hit hsz hk => wpAny_pyIter_enum he ?_
      have I2 : Inv X pins σ H1 { s1 with heap := h' } := I1.kept (t' := s1.toks) hk
      exact ⟨s1.heap.objs.size + 1, [s1.heap.objs.size + 1, s1.heap.objs.size], _, _, H1, rfl, I2, turn_enum a0 (s1.heap.objs.size + 1) s1.heap.objs.size, ⟨⟨.none, he⟩, hit, Nat.succ_ne_self _⟩, fp2, k _ _ G1 H1 M1 f1 rs1 (it_enL im) q⟩
    · obtain ⟨a0, vs0, ex0, hs0, _⟩ := (Tm.of im).tup
      subst ex0
      cases r
      obtain ⟨its, rv, pl, hz⟩ := I1.tuple hs0
      have hlt : a0 < s1.heap.objs.size := by
        obtain ⟨o, ho, _⟩ := id pl
        exact Heap.lt_size ho
      refine dd_call_enumT (show s1.heap.IsTuple a0 its.toArray from pl) fun h' he hit hsz hk => wpAny_pyIter_enum he ?_
      have I2 : Inv X pins σ H1 { s1 with heap := h' } := I1.kept (t' := s1.toks) hk
      exact ⟨s1.heap.objs.size + 1, [s1.heap.objs.size + 1, s1.heap.objs.size], _, _, H1, rfl, I2, dd_turn_enumT a0 (s1.heap.objs.size + 1) s1.heap.objs.size (Nat.ne_of_lt hlt) (Nat.ne_of_lt (Nat.lt_succ_of_lt hlt)) #[], ⟨⟨.none, he⟩, hit, Nat.succ_ne_self _⟩, fp2, k _ _ G1 H1 M1 f1 rs1 (it_enT im) q⟩
theorem di_zip (hg : Gl X "zip") (hm : X.mg "zip" = none) (ha : DA X W [a, b] da) (hs : starEach [a, b] X.env = (false, eval a X.env) :: starEach [b] X.env := by rfl) (hpl : (backTo pos (starEach [b] X.env)).any (·.1) = false := by rfl) : DI X W (.Tuple elts kk tpos) (.Call (.Name "zip" p) [a, b] [] pos) (iZp da) := (RZ.pi_zipA (p := p) hg hm ha hs hpl).imp fun σ H R ⟨M, δ, G, Q, QE, rs, d, ex, k⟩ => by
  refine ⟨M, δ, G, _, QE, rs, d, ex, fun vs ds G1 H1 M1 f1 rs1 iml ⟨xs, ys, e, q⟩ => ?_⟩
  rcases e with rfl | rfl
  · cases iml with
    | cons im iml =>
      cases iml with
      | cons im2 iml =>
        cases iml
        obtain ⟨a0, us, rfl, h1, _⟩ := (Tm.of im).lst
        obtain ⟨b0, ws, rfl, h2, _⟩ := (Tm.of im2).lst
        exact ⟨a0, b0, us, ws, rfl, .inl ⟨h1, h2, k _ _ G1 H1 M1 f1 rs1 (it_zpL im im2) q⟩⟩
  · cases iml with
    | cons im iml =>
      cases iml with
      | cons im2 iml =>
        cases iml
        obtain ⟨a0, us, rfl, h1, _⟩ := (Tm.of im).tup
        obtain ⟨b0, ws, rfl, h2, _⟩ := (Tm.of im2).tup
        exact ⟨a0, b0, us, ws, rfl, .inr ⟨h1, h2, k _ _ G1 H1 M1 f1 rs1 (it_zpT im im2) q⟩⟩
end

/-! ### comprehensions -/
def dwipe (δ : DSt) : List Nat → DSt
  | [] => δ
  | v :: vs => (dwipe δ vs).set v none
theorem RS.wipe {K : PySem.W.Frag} {H : Hp} {M : Gh} {σ : St} {δ : DSt} {G : DG} (r : RS K H M σ δ G) : ∀ vs : List Nat, RS K H M (wipe σ vs) (dwipe δ vs) G
  | [] => r
  | v :: vs => (RS.wipe r vs).setN
/-- what the elements make of the items -/
def lcL (g : DTG) (tt : DTT) (te : DTE) (δ : DSt) (Q : List D → DG → Prop) : List D → List D → DG → Prop
  | [], acc, G => Q acc G
  | x :: r, acc, G => g x δ G (fun δ' G' => tt δ' G' (fun b G2 => if b = true then te δ' G2 (fun y G3 => acc.length < 1000000 ∧ lcL g tt te δ Q r (acc ++ [y]) G3) (fun _ _ => False) else lcL g tt te δ Q r acc G2) (fun _ _ => False))
def dLc (it : DTA) (g : DTG) (tt : DTT) (te : DTE) (vs : List Nat) : DTA := fun δ G Q E => it δ G (fun xs G1 => lcL g tt te (dwipe δ vs) Q xs [] G1) E
def ttYes : DTT := fun _ G Q _ => Q true G
def W0 : WX := fun _ _ _ _ => False
abbrev DTs (X : Cx) (ifs : List Expr) (d : DTT) : Prop := PTs X ifs (rdT X.K W0 d)
theorem _root_.L2.PTs.imp {X : Cx} {e : List Expr} {t t' : TT} (h : PTs X e t) (i : ∀ σ H R, t' σ H R → t σ H R) : PTs X e t' := ⟨fun pins s σ H Q I q => h.run pins s σ H Q I (i _ _ _ q)⟩
theorem dts_nil {X : Cx} : DTs X [] ttYes := pts_nil.imp fun σ H R ⟨M, δ, G, Q, QE, rs, d, ex, k⟩ => k true G H M (Frame.refl H M) rs d
theorem dts_one {X : Cx} {c : Expr} {d : DTT} (h : DT X W0 c d) : DTs X [c] d := pts_one h
end DD

set_option Elab.async false
set_option linter.all false
set_option maxRecDepth 100000
set_option maxHeartbeats 4000000
namespace DD
open PySem PySem.Spec L2

/-! ### comprehensions: their targets -/
def rdGc (K : PySem.W.Frag) (vs : List Nat) (d : DTG) : TG := fun v σ H R => ∃ M δ G dv Q, RS K H M σ δ G ∧ Im K H M v dv ∧ d dv δ G Q ∧ ∀ σ' δ' G' H' M', Frame H M H' M' → RS K H' M' σ' δ' G' → wipe σ' vs = wipe σ vs → dwipe δ' vs = dwipe δ vs → Q δ' G' → R σ' H'
abbrev DGc (X : Cx) (vs : List Nat) (tg : Expr) (d : DTG) : Prop := PG X tg (rdGc X.K vs d)
theorem wipe_get {σ : St} {j : Nat} : ∀ vs : List Nat, (wipe σ vs)[j]? = if j ∈ vs ∧ j < σ.length then some none else σ[j]?
  | [] => by simp [wipe]
  | v :: vs => by
    show ((wipe σ vs).set v none)[j]? = _
    by_cases hj : v = j
    · subst hj
      by_cases hl : v < σ.length
      · rw [List.getElem?_set_self (by rw [wipe_length]; exact hl), if_pos ⟨by simp, hl⟩]
      · rw [if_neg (fun z => hl z.2), List.getElem?_eq_none (by rw [List.length_set, wipe_length]; omega), List.getElem?_eq_none (by omega)]
    · rw [List.getElem?_set_ne hj, wipe_get vs]
      by_cases hm : j ∈ vs
      · by_cases hl : j < σ.length
        · rw [if_pos ⟨hm, hl⟩, if_pos ⟨by simp [hm], hl⟩]
        · rw [if_neg (fun z => hl z.2), if_neg (fun z => hl z.2)]
      · rw [if_neg (fun z => hm z.1), if_neg (fun z => by
          rcases List.mem_cons.mp z.1 with e | e
          · exact hj e.symm
          · exact hm e)]
theorem dwipe_length (δ : DSt) : ∀ vs : List Nat, (dwipe δ vs).length = δ.length
  | [] => rfl
  | v :: vs => by unfold dwipe; rw [List.length_set, dwipe_length δ vs]
theorem dwipe_get {δ : DSt} {j : Nat} : ∀ vs : List Nat, (dwipe δ vs)[j]? = if j ∈ vs ∧ j < δ.length then some none else δ[j]?
  | [] => by simp [dwipe]
  | v :: vs => by
    show ((dwipe δ vs).set v none)[j]? = _
    by_cases hj : v = j
    · subst hj
      by_cases hl : v < δ.length
      · rw [List.getElem?_set_self (by rw [dwipe_length]; exact hl), if_pos ⟨by simp, hl⟩]
      · rw [if_neg (fun z => hl z.2), List.getElem?_eq_none (by rw [List.length_set, dwipe_length]; omega), List.getElem?_eq_none (by omega)]
    · rw [List.getElem?_set_ne hj, dwipe_get vs]
      by_cases hm : j ∈ vs
      · by_cases hl : j < δ.length
        · rw [if_pos ⟨hm, hl⟩, if_pos ⟨by simp [hm], hl⟩]
        · rw [if_neg (fun z => hl z.2), if_neg (fun z => hl z.2)]
      · rw [if_neg (fun z => hm z.1), if_neg (fun z => by
          rcases List.mem_cons.mp z.1 with e | e
          · exact hj e.symm
          · exact hm e)]
theorem wipe_set {σ : St} {i : Nat} {x : Option V} {vs : List Nat} (h : i ∈ vs) : wipe (σ.set i x) vs = wipe σ vs := by
  apply List.ext_getElem?
  intro j
  rw [wipe_get, wipe_get, List.length_set]
  by_cases hj : j ∈ vs ∧ j < σ.length
  · rw [if_pos hj, if_pos hj]
  · rw [if_neg hj, if_neg hj]
    by_cases e : i = j
    · subst e
      have hl : ¬ i < σ.length := fun z => hj ⟨h, z⟩
      rw [List.getElem?_eq_none (by rw [List.length_set]; omega), List.getElem?_eq_none (by omega)]
    · rw [List.getElem?_set_ne e]
theorem dwipe_set {δ : DSt} {i : Nat} {x : Option SV} {vs : List Nat} (h : i ∈ vs) : dwipe (δ.set i x) vs = dwipe δ vs := by
  apply List.ext_getElem?
  intro j
  rw [dwipe_get, dwipe_get, List.length_set]
  by_cases hj : j ∈ vs ∧ j < δ.length
  · rw [if_pos hj, if_pos hj]
  · rw [if_neg hj, if_neg hj]
    by_cases e : i = j
    · subst e
      have hl : ¬ i < δ.length := fun z => hj ⟨h, z⟩
      rw [List.getElem?_eq_none (by rw [List.length_set]; omega), List.getElem?_eq_none (by omega)]
    · rw [List.getElem?_set_ne e]
theorem dgc_name {X : Cx} {vs : List Nat} {i : Nat} {x : Str} {pos : Pos} (hv : i ∈ vs) (hN : X.N.Nodup) (hi : X.N[i]? = some x) (hx : Loc X.env.scope x) (hf : X.fn x = true ∨ X.env.scope.names.lookup x = some .local := by first | exact .inl rfl | exact .inr rfl | assumption) : DGc X vs (.Name x pos) (gN i) :=
  (pg_name (pos := pos) hN hi hx hf).imp fun v σ H R ⟨M, δ, G, dv, Q, rs, im, q, k⟩ => k _ _ G H M (Frame.refl H M) (rs.setV im) (wipe_set hv) (dwipe_set hv) q
def rdGcs (K : PySem.W.Frag) (vs : List Nat) (d : DTGs) : TGs := fun us σ H R => ∃ M δ G ds Q, RS K H M σ δ G ∧ ImL K H M us ds ∧ d ds δ G Q ∧ ∀ σ' δ' G' H' M', Frame H M H' M' → RS K H' M' σ' δ' G' → wipe σ' vs = wipe σ vs → dwipe δ' vs = dwipe δ vs → Q δ' G' → R σ' H'
abbrev DGcs (X : Cx) (vs : List Nat) (es : List Expr) (d : DTGs) : Prop := PGs X es (rdGcs X.K vs d)
theorem dgcs_nil {X : Cx} {vs : List Nat} : DGcs X vs [] gsNil := pgs_nil.imp fun us σ H R ⟨M, δ, G, ds, Q, rs, im, ⟨e, q⟩, k⟩ => by
  subst e
  cases im
  exact ⟨rfl, k σ δ G H M (Frame.refl H M) rs rfl rfl q⟩
theorem dgcs_cons {X : Cx} {vs : List Nat} {e : Expr} {es : List Expr} {t : DTG} {u : DTGs} (h1 : DGc X vs e t) (h2 : DGcs X vs es u)
    (hs : (assignEach (e :: es) X.env).map (·.2) = assign e X.env :: (assignEach es X.env).map (·.2) := by rfl) : DGcs X vs (e :: es) (gsCons t u) := (pgs_cons h1 h2 hs).imp fun us σ H R ⟨M, δ, G, ds, Q, rs, im, ⟨y, ys, e, q⟩, k⟩ => by
  subst e
  cases im with
  | cons im iml =>
    refine ⟨_, _, rfl, M, δ, G, y, _, rs, im, q, fun σ' δ' G' H' M' f rs' w1 w2 q' => ?_⟩
    exact ⟨M', δ', G', ys, Q, rs', ImL.mono f.stay iml, q', fun σ2 δ2 G2 H2 M2 f2 rs2 w3 w4 q2 => k σ2 δ2 G2 H2 M2 (f.trans f2) rs2 (w3.trans w1) (w4.trans w2) q2⟩
theorem dgc_tup {X : Cx} {vs : List Nat} {es : List Expr} {k0 : Nat} {t : DTGs} {n : Nat} {pos : Pos} (hc : X.calm = true) (h : DGcs X vs es t)
    (hn : (assignEach es X.env).length = n := by rfl) (hst : (assignEach es X.env).findIdx? (·.1) = none := by rfl) : DGc X vs (.Tuple es k0 pos) (gT n t) := (pg_tup (pos := pos) (k := k0) hc h hn hst).imp fun v σ H R ⟨M, δ, G, dv, Q, rs, im, ⟨xs, e, hl, q⟩, k⟩ => by
  subst e
  obtain ⟨a, us, rfl, hs, iml⟩ := (Tm.of im).tup
  exact ⟨a, us, rfl, hs, by rw [iml.length]; exact hl, M, δ, G, xs, Q, rs, iml, q, k⟩
/-- from within the block to the def around -/
theorem RS.unwipe {K : PySem.W.Frag} {H : Hp} {M : Gh} {σ σ2 : St} {δ δ2 : DSt} {G : DG} {vs : List Nat} (r : RS K H M σ2 δ2 G) (l : σ.length = δ.length) (w : L2.wipe σ2 vs = L2.wipe σ vs) (dw : dwipe δ2 vs = dwipe δ vs) (own : dwipe δ vs = δ) : RS K H M σ δ G := by
  refine ⟨r.g, l, fun i s h => ?_⟩
  have hi : ¬ (i ∈ vs ∧ i < δ.length) := fun z => by
    have e := dwipe_get (δ := δ) (j := i) vs
    rw [own, if_pos z, h] at e
    cases e
  have hlt : i < δ.length := (List.getElem?_eq_some_iff.mp h).1
  have hv : i ∉ vs := fun z => hi ⟨z, hlt⟩
  have e2 : δ2[i]? = some (some s) := by
    have e := dwipe_get (δ := δ2) (j := i) vs
    rw [dw, own, if_neg (fun z => hv z.1)] at e
    rw [← e]; exact h
  obtain ⟨x, hx, q⟩ := r.slot i s e2
  refine ⟨x, ?_, q⟩
  have e3 := wipe_get (σ := σ) (j := i) vs
  have e4 := wipe_get (σ := σ2) (j := i) vs
  rw [if_neg (fun z => hv z.1)] at e3 e4
  rw [← e3, ← w, e4]; exact hx
theorem ImL.snoc {K : PySem.W.Frag} {H : Hp} {M : Gh} {vs : List V} {ds : List D} {v : V} {d : D} (r : ImL K H M vs ds) (im : Im K H M v d) : ImL K H M (vs ++ [v]) (ds ++ [d]) := r.append (.cons im .nil)
/-- a list of nobody's is changed -/
theorem RS.atOther {K : PySem.W.Frag} {H : Hp} {M : Gh} {σ : St} {δ : DSt} {G : DG} {l : Addr} {o : HO} (r : RS K H M σ δ G) (m : M l = some .other) : RS K (upd H l o) M σ δ G :=
  ⟨⟨fun a u h => by
    obtain ⟨ma, q⟩ := r.g.obj a u h
    exact ⟨ma, q.at m (fun e => by rw [e, m] at ma; cases ma) fun f e => by cases e⟩, dom_at r.g.dom⟩, r.len, fun i s h => let ⟨x, hx, q⟩ := r.slot i s h; ⟨x, hx, q.at m fun e => by cases e⟩⟩
theorem lc_run {X : Cx} {W : WX} {own : List (Str × Nat)} {it : DTA} {g : DTG} {tt : DTT} {te : DTE} {σ : St} {H : Hp} {R : VK} (h : rdF X.K W (fun δ G Q E => dwipe δ (own.map (·.2)) = δ ∧ dLc it g tt te (own.map (·.2)) δ G Q E) σ H R) :
    tLc (rdI X.K W it) (rdGc X.K (own.map (·.2)) g) (rdT X.K W0 tt) (rdE X.K W0 te) (own.map (·.2)) σ H R := by
  obtain ⟨M, δ, G, Q, QE, rs, ⟨dw, d⟩, ex, k⟩ := h
  refine ⟨M, δ, G, _, QE, rs, d, ex, fun J xs G1 H1 M1 f1 rs1 itr q => ?_⟩
  intro A hA
  have hA0 : H A = none := f1.fresh hA
  obtain ⟨kA, rsA⟩ := rs1.newOther (u := .lst []) hA
  refine ⟨fun i m H' => ∃ M' G' acc ds, Frame H1 M1 H' M' ∧ RS X.K H' M' σ δ G' ∧ M' A = some .other ∧ H' A = some (.lst acc) ∧ ImL X.K H' M' acc ds ∧ lcL g tt te (dwipe δ (own.map (·.2))) Q (xs.drop i) ds G' ∧ m = xs.length - i ∧ i ≤ xs.length,
    ⟨xs.length, mset M1 A (some .other), G1, [], [], kA.frame, rsA, mset_same, upd_same, .nil, by simpa using q, by simp, Nat.zero_le _⟩, ?_⟩
  rintro i m H' ⟨M', G', acc, ds, f, rs', mA, hAc, iml, q, rfl, hi'⟩
  obtain ⟨hgo, hstop⟩ := itr H' M' f rs'.g.dom i
  by_cases hlt : i < xs.length
  · obtain ⟨go, yld⟩ := hgo hlt
    refine .inr ⟨go, fun H2 => ∃ M2 G2 acc2 ds2, Frame H1 M1 H2 M2 ∧ RS X.K H2 M2 σ δ G2 ∧ M2 A = some .other ∧ H2 A = some (.lst acc2) ∧ ImL X.K H2 M2 acc2 ds2 ∧ lcL g tt te (dwipe δ (own.map (·.2))) Q (xs.drop (i + 1)) ds2 G2,
      fun H2 ⟨M2, G2, acc2, ds2, f2, rs2, m2, h2, iml2, q2⟩ => ⟨xs.length - (i + 1), by omega, M2, G2, acc2, ds2, f2, rs2, m2, h2, iml2, q2, rfl, hlt⟩, fun x H3 y => ?_⟩
    obtain ⟨dx, hdx, sm, im⟩ := yld x H3 y
    have e : xs.drop i = dx :: xs.drop (i + 1) := by
      rw [List.drop_eq_getElem_cons hlt]
      have : xs[i] = dx := by
        rw [List.getElem?_eq_getElem hlt] at hdx
        exact Option.some.inj hdx
      rw [this]
    rw [e, lcL] at q
    have k3 : Keep H' M' H3 M' := Keep.same sm
    have f3 : Frame H1 M1 H3 M' := f.trans k3.frame
    have rs3 := rs'.same sm
    refine ⟨M', dwipe δ (own.map (·.2)), G', dx, _, rs3.wipe _, im, q, fun σ2 δ2 G2 H2 M2 f2 rs2 w2 dw2 q2 => ?_⟩
    have wd : dwipe (dwipe δ (own.map (·.2))) (own.map (·.2)) = dwipe δ (own.map (·.2)) := by rw [dw, dw]
    have ww : wipe (wipe σ (own.map (·.2))) (own.map (·.2)) = wipe σ (own.map (·.2)) := by
      apply List.ext_getElem?
      intro j
      rw [wipe_get, wipe_length]
      by_cases hj : j ∈ (own.map (·.2)) ∧ j < σ.length
      · rw [if_pos hj, wipe_get, if_pos hj]
      · rw [if_neg hj]
    refine ⟨w2.trans ww, M2, δ2, G2, _, _, rs2, q2, fun x4 G4 H4 M4 cls dd f4 rs4 rx q4 => q4.elim, fun b G4 H4 M4 f4 rs4 q4 => ?_⟩
    have back : ∀ {H5 : Hp} {M5 : Gh} {G5 : DG}, RS X.K H5 M5 σ2 δ2 G5 → RS X.K H5 M5 σ δ G5 := fun r => r.unwipe rs.len (w2.trans ww) (dw2.trans wd) dw
    have fA : Frame H' M' H4 M4 := (k3.frame.trans f2).trans f4
    obtain ⟨hA4, mA4⟩ := fA A _ hAc (.inr mA)
    cases b with
    | true =>
      simp only [if_true] at q4 ⊢
      refine ⟨M4, δ2, G4, _, _, rs4, q4, fun x5 G5 H5 M5 cls dd f5 rs5 rx q5 => q5.elim, fun v dv G5 H5 M5 f5 rs5 im5 q5 => ?_⟩
      have fA5 := fA.trans f5
      obtain ⟨hA5, mA5⟩ := fA5 A _ hAc (.inr mA)
      have mA5' : M5 A = some .other := mA5.trans mA
      refine ⟨acc, hA5, by rw [iml.length, sizeLine_eq]; have := q5.1; omega, M5, G5, acc ++ [v], ds ++ [dv], ?_, (back rs5).atOther mA5', mA5', upd_same, ImL.mono (Stay.at mA5') ((ImL.mono fA5.stay iml).snoc im5), q5.2⟩
      have ff := f.trans fA5
      exact ⟨fun b o hb mb => by
        obtain ⟨z1, z2⟩ := ff b o hb mb
        exact ⟨by rw [upd_ne (ne_of_none hb hA)]; exact z1, z2⟩, fun b hb => by
        by_cases eb : b = A
        · rw [eb, upd_same]; simp
        · rw [upd_ne eb]; exact ff.live b hb⟩
    | false =>
      simp only [Bool.false_eq_true, if_false] at q4 ⊢
      exact ⟨M4, G4, acc, ds, f.trans fA, back rs4, mA4.trans mA, hA4, ImL.mono fA.stay iml, q4⟩
  · have e : xs.drop i = [] := List.drop_eq_nil_of_le (by omega)
    rw [e, lcL] at q
    exact .inl ⟨hstop (by omega), k A acc ds G' H' M' (f1.trans f) rs' hA0 mA hAc iml q⟩
theorem df_lc {X : Cx} {W : WX} {elt tg iter : Expr} {ifs : List Expr} {scope : Scope} {own : List (Str × Nat)} {pos : Pos} {it : DTA} {g : DTG} {tt : DTT} {te : DTE} (hc : X.calm = true) (hN : X.N.Nodup) (hi : DI X W tg iter it) (ok : BlkOk X.N X.env.scope scope own)
    (hg : ∀ (s : Shared) (H : Hp) (C : Addr) (cl : List (Str × Addr)) (fp : List Addr), DGc (X.blk s H scope (PySem.compEnvC scope cl C X.env) fp) (own.map (·.2)) tg g) (ht : ∀ (s : Shared) (H : Hp) (C : Addr) (cl : List (Str × Addr)) (fp : List Addr), DTs (X.blk s H scope (PySem.compEnvC scope cl C X.env) fp) ifs tt)
    (he : ∀ (s : Shared) (H : Hp) (C : Addr) (cl : List (Str × Addr)) (fp : List Addr), DE (X.blk s H scope (PySem.compEnvC scope cl C X.env) fp) W0 elt te) (hs : ∀ x, foldedSetIterable iter X.env x = pure x := by intro _; rfl) :
    DF X W (.ListComp elt [⟨tg, iter, ifs, 0⟩] scope pos) (fun δ G Q E => dwipe δ (own.map (·.2)) = δ ∧ dLc it g tt te (own.map (·.2)) δ G Q E) :=
  (pe_lc (pos := pos) (g := rdGc X.K (own.map (·.2)) g) (tt := rdT X.K W0 tt) (te := rdE X.K W0 te) hc hN hi ok hg ht he hs).imp fun σ H R h => lc_run h
/-- name = [..], the name a local -/
theorem ds_setLc {X : Cx} {W : WX} {i : Nat} {y : Str} {py spos : Pos} {elt tg iter : Expr} {ifs : List Expr} {scope : Scope} {own : List (Str × Nat)} {pos : Pos} {it : DTA} {g : DTG} {tt : DTT} {te : DTE} (hc : X.calm = true) (hN : X.N.Nodup) (hy : X.N[i]? = some y) (hyl : X.env.scope.names.lookup y = some .local)
    (hsw : swapsWith (.ListComp elt [⟨tg, iter, ifs, 0⟩] scope pos) (some (.Name y py)) spos.line X.env = pure true) (hi : DI X W tg iter it) (ok : BlkOk X.N X.env.scope scope own)
    (hg : ∀ (s : Shared) (H : Hp) (C : Addr) (cl : List (Str × Addr)) (fp : List Addr), DGc (X.blk s H scope (PySem.compEnvC scope cl C X.env) fp) (own.map (·.2)) tg g) (ht : ∀ (s : Shared) (H : Hp) (C : Addr) (cl : List (Str × Addr)) (fp : List Addr), DTs (X.blk s H scope (PySem.compEnvC scope cl C X.env) fp) ifs tt)
    (he : ∀ (s : Shared) (H : Hp) (C : Addr) (cl : List (Str × Addr)) (fp : List Addr), DE (X.blk s H scope (PySem.compEnvC scope cl C X.env) fp) W0 elt te) (hs : ∀ x, foldedSetIterable iter X.env x = pure x := by intro _; rfl) :
    DS X W (.Assign [.Name y py] (.ListComp elt [⟨tg, iter, ifs, 0⟩] scope pos) spos) (sSetF i (fun δ G Q E => dwipe δ (own.map (·.2)) = δ ∧ dLc it g tt te (own.map (·.2)) δ G Q E)) :=
  (ps_setLc (own := own) (pos := pos) (g := rdGc X.K (own.map (fun p : Str × Nat => p.2)) g) (tt := rdT X.K W0 tt) (te := rdE X.K W0 te) hc hN hy hyl hsw hi ok hg ht he hs).imp fun E σ H ⟨M, δ, G, DD, rs, d, ok⟩ =>
    lc_run (W := W) (X := X) (own := own) (R := fun x H1 => gName i x σ H1 E.nx) ⟨M, δ, G, _, _, rs, d, ok.exOf, fun p xs ds G' H' M' f rs' n m hp iml q => ok.nx _ _ G' _ _ (f.give n) (rs'.takeOwn (i := i) m hp iml) q⟩
/-- .. as a finished list -/
theorem ds_setLcV {X : Cx} {W : WX} {i : Nat} {y : Str} {py spos : Pos} {elt tg iter : Expr} {ifs : List Expr} {scope : Scope} {own : List (Str × Nat)} {pos : Pos} {it : DTA} {g : DTG} {tt : DTT} {te : DTE} (hc : X.calm = true) (hN : X.N.Nodup) (hy : X.N[i]? = some y) (hyl : X.env.scope.names.lookup y = some .local)
    (hsw : swapsWith (.ListComp elt [⟨tg, iter, ifs, 0⟩] scope pos) (some (.Name y py)) spos.line X.env = pure true) (hi : DI X W tg iter it) (ok : BlkOk X.N X.env.scope scope own)
    (hg : ∀ (s : Shared) (H : Hp) (C : Addr) (cl : List (Str × Addr)) (fp : List Addr), DGc (X.blk s H scope (PySem.compEnvC scope cl C X.env) fp) (own.map (·.2)) tg g) (ht : ∀ (s : Shared) (H : Hp) (C : Addr) (cl : List (Str × Addr)) (fp : List Addr), DTs (X.blk s H scope (PySem.compEnvC scope cl C X.env) fp) ifs tt)
    (he : ∀ (s : Shared) (H : Hp) (C : Addr) (cl : List (Str × Addr)) (fp : List Addr), DE (X.blk s H scope (PySem.compEnvC scope cl C X.env) fp) W0 elt te) (hs : ∀ x, foldedSetIterable iter X.env x = pure x := by intro _; rfl) :
    DS X W (.Assign [.Name y py] (.ListComp elt [⟨tg, iter, ifs, 0⟩] scope pos) spos) (sSet i (dFrz (fun δ G Q E => dwipe δ (own.map (·.2)) = δ ∧ dLc it g tt te (own.map (·.2)) δ G Q E))) :=
  (ps_setLc (own := own) (pos := pos) (g := rdGc X.K (own.map (fun p : Str × Nat => p.2)) g) (tt := rdT X.K W0 tt) (te := rdE X.K W0 te) hc hN hy hyl hsw hi ok hg ht he hs).imp fun E σ H ⟨M, δ, G, DD, rs, d, ok⟩ =>
    lc_run (W := W) (X := X) (own := own) (R := fun x H1 => gName i x σ H1 E.nx) ⟨M, δ, G, _, _, rs, d, ok.exOf, fun p xs ds G' H' M' f rs' n m hp iml q => ok.nx _ _ G' _ _ (f.give n) ((rs'.give m).setV (.lst mset_same (.inl hp) (ImL.mono (Stay.give m) iml))) q⟩
end DD

set_option Elab.async false
set_option linter.all false
set_option maxRecDepth 100000
set_option maxHeartbeats 4000000
namespace DD
open PySem PySem.Spec L2

/-! ### attributes -/
def FV.d : FV → D
  | .v d => d
  | .own _ xs => .lst xs
  | .ownd _ kvs => .dct kvs
/-- the attribute f of x, an instance of the class at C, is d -/
def FldB (C : Addr) (f : Str) (G : DG) : D → D → Prop
  | .obj C' fs, d => C' = C ∧ fs.lookup f = some d
  | .ref a, d => ∃ fs s, G a = some (.ins C fs) ∧ fs.lookup f = some s ∧ s.d = d
  | _, _ => False
def FldV (C : Addr) (f : Str) (G : DG) : D → D → Prop
  | .obj C' fs, d => C' = C ∧ fs.lookup f = some d
  | .ref a, d => ∃ fs, G a = some (.ins C fs) ∧ fs.lookup f = some (.v d)
  | _, _ => False
def dFld (C : Addr) (f : Str) (o : DTE) : DTE := fun δ G Q E => o δ G (fun x G1 => ∃ d, FldV C f G1 x d ∧ Q d G1) E
def dFldB (C : Addr) (f : Str) (o : DTE) : DTE := fun δ G Q E => o δ G (fun x G1 => ∃ d, FldB C f G1 x d ∧ Q d G1) E
section
variable {K : PySem.W.Frag} {H : Hp} {M : Gh} {σ : St} {δ : DSt} {G : DG}
theorem FldR.get {a : Addr} {f : Str} {s : FV} : ∀ {ps : List (Str × V)} {fs : List (Str × FV)}, FldR K H M a ps fs → fs.lookup f = some s → ∃ x, ps.lookup f = some x ∧ SlotR K H M (.fld a f) x s.sv ∧ s.at x
  | [], [], _, h => by cases h
  | (g, x) :: r, (g', s') :: t, ⟨e, h, w, q⟩, hl => by
    subst e
    rw [List.lookup_cons] at hl ⊢
    cases z : (f == g) with
    | true =>
      rw [z] at hl
      cases hl
      have e : f = g := beq_iff_eq.mp z
      subst e
      exact ⟨x, rfl, h, w⟩
    | false => rw [z] at hl; exact FldR.get q hl
def putV (f : Str) (s : FV) : List (Str × FV) → List (Str × FV)
  | [] => [(f, s)]
  | (g, x) :: r => if g = f then (g, s) :: r else (g, x) :: putV f s r
theorem FldR.put {a : Addr} {f : Str} {x : V} {s : FV} (h : SlotR K H M (.fld a f) x s.sv) (w : s.at x) : ∀ {ps : List (Str × V)} {fs : List (Str × FV)}, FldR K H M a ps fs → FldR K H M a (putF f x ps) (putV f s fs)
  | [], [], _ => ⟨rfl, h, w, trivial⟩
  | (g, y) :: r, (g', s') :: t, ⟨e, h', w', q⟩ => by
    subst e
    unfold putF putV
    by_cases z : g = f
    · subst z
      rw [if_pos rfl, if_pos rfl]
      exact ⟨rfl, h, w, q⟩
    · rw [if_neg z, if_neg z]
      exact ⟨rfl, h', w', FldR.put h w q⟩
theorem FldR.length {a : Addr} : ∀ {ps : List (Str × V)} {fs : List (Str × FV)}, FldR K H M a ps fs → ps.length = fs.length
  | [], [], _ => rfl
  | (g, x) :: r, (g', s') :: t, ⟨e, h, w, q⟩ => congrArg (· + 1) (FldR.length q)
/-- an object is changed at its own address -/
theorem RS.setObj {a : Addr} {o : HO} {u : DO} (r : RS K H M σ δ G) (m : M a = some .obj) (h : ObjR K (upd H a o) M a u) : RS K (upd H a o) M σ δ (gset G a (some u)) := by
  refine ⟨⟨fun b v hb => ?_, dom_at r.g.dom⟩, r.len, fun i s hs => let ⟨x, hx, q⟩ := r.slot i s hs; ⟨x, hx, q.at m fun e => by cases e⟩⟩
  by_cases e : b = a
  · subst e
    rw [gset_same] at hb
    cases hb
    exact ⟨m, h⟩
  · rw [gset_ne e] at hb
    obtain ⟨mb, q⟩ := r.g.obj b v hb
    exact ⟨mb, q.at m e fun f z => by cases z⟩
theorem Frame.obj {a : Addr} {o : HO} (m : M a = some .obj) : Frame H M (upd H a o) M := Frame.at m (by intro z; cases z)
/-- a list of nobody's becomes a field's own -/
theorem RS.takeFld {a p C : Addr} {f : Str} {xs : List V} {ds : List D} {fs : List (Str × FV)} (r : RS K H M σ δ G) (m : M p = some .other) (h : H p = some (.lst xs)) (iml : ImL K H M xs ds) (ga : G a = some (.ins C fs)) :
    ∃ dx ps, H a = some (.ins C dx ps) ∧ RS K (upd H a (.ins C dx (putF f (.ref p) ps))) (mset M p (some (.fld a f))) σ δ (gset G a (some (.ins C (putV f (.own p ds) fs)))) := by
  obtain ⟨ma, dx, ps, ha, fr⟩ := r.g.obj a _ ga
  have nap : p ≠ a := fun e => by rw [e, ma] at m; cases m
  have r2 := r.give (o := some (.fld a f)) m
  have m2 : mset M p (some (.fld a f)) a = some .obj := by rw [mset_ne nap.symm]; exact ma
  refine ⟨dx, ps, ha, r2.setObj m2 ⟨dx, _, upd_same, ?_⟩⟩
  obtain ⟨_, dx2, ps2, ha2, fr2⟩ := r2.g.obj a _ ga
  rw [ha] at ha2
  cases ha2
  refine FldR.put (s := .own p ds) ⟨p, xs, rfl, mset_same, by rw [upd_ne nap]; exact h, ImL.mono (Stay.at m2) (ImL.mono (Stay.give m) iml)⟩ rfl (fr2.at m2 fun f z => by cases z)
theorem RS.setFld {a C : Addr} {f : Str} {v : V} {d : D} {fs : List (Str × FV)} (r : RS K H M σ δ G) (im : Im K H M v d) (ga : G a = some (.ins C fs)) :
    ∃ dx ps, H a = some (.ins C dx ps) ∧ M a = some .obj ∧ RS K (upd H a (.ins C dx (putF f v ps))) M σ δ (gset G a (some (.ins C (putV f (.v d) fs)))) := by
  obtain ⟨ma, dx, ps, ha, fr⟩ := r.g.obj a _ ga
  exact ⟨dx, ps, ha, ma, r.setObj ma ⟨dx, _, upd_same, FldR.put (s := .v d) (Im.mono (Stay.at ma) im) trivial (fr.at ma fun f z => by cases z)⟩⟩
/-- a field's own list is changed -/
theorem FldR.write {a l : Addr} {f : Str} {xs' : List V} {ds ds' : List D} (m : M l = some (.fld a f)) (iml : ImL K H M xs' ds') : ∀ {ps : List (Str × V)} {fs : List (Str × FV)}, (fs.map (·.1)).Nodup → FldR K H M a ps fs → fs.lookup f = some (.own l ds) →
    FldR K (upd H l (.lst xs')) M a ps (putV f (.own l ds') fs)
  | [], [], _, _, h => by cases h
  | (g, x) :: r, (g', s') :: t, nd, ⟨e, h, w, q⟩, hl => by
    subst e
    rw [List.lookup_cons] at hl
    unfold putV
    have ndt := List.nodup_cons.mp nd
    cases z : (f == g) with
    | true =>
      have e : f = g := beq_iff_eq.mp z
      subst e
      rw [z] at hl
      cases hl
      rw [if_pos rfl]
      have ex : x = .ref l := w
      refine ⟨rfl, ⟨l, xs', ex, m, upd_same, ImL.mono (Stay.at m) iml⟩, ex, ?_⟩
      have rest : ∀ {ps : List (Str × V)} {fs : List (Str × FV)}, f ∉ fs.map (·.1) → FldR K H M a ps fs → FldR K (upd H l (.lst xs')) M a ps fs := fun {ps} => by
        induction ps with
        | nil => intro fs _ q; cases fs with
          | nil => trivial
          | cons _ _ => exact q
        | cons p ps ih => intro fs nf q; cases fs with
          | nil => exact q
          | cons g fs =>
            obtain ⟨e, h, w, q⟩ := q
            refine ⟨e, h.at m (fun z => ?_), w, ih (fun z => nf (List.mem_cons_of_mem _ z)) q⟩
            injection z with _ z2
            exact nf (by rw [← z2, e]; exact List.mem_cons_self)
      exact rest ndt.1 q
    | false =>
      have ne : ¬ g = f := fun e => by rw [e] at z; simp at z
      rw [z] at hl
      rw [if_neg ne]
      refine ⟨rfl, h.at m (fun z => ?_), w, FldR.write m iml ndt.2 q hl⟩
      injection z with _ z2
      exact ne z2
end
section
variable {X : Cx} {W : WX} {e o value : Expr} {d dv : DTE} {da : DTA} {f : Str} {C : Addr} {pos pos' apos : Pos}
theorem FldV.ok {K : PySem.W.Frag} {H : Hp} {M : Gh} {G : DG} {x : V} {dx d : D} (g : RG K H M G) (im : Im K H M x dx) (h : FldV C f G dx d) : ∃ a du ps v, x = .ref a ∧ H a = some (.ins C du ps) ∧ ps.lookup f = some v ∧ Im K H M v d := by
  cases im with
  | obj m ha r =>
    obtain ⟨rfl, hl⟩ := h
    obtain ⟨v, hv, im⟩ := r.lookup hl
    exact ⟨_, _, _, v, rfl, ha, hv, im⟩
  | ref =>
    obtain ⟨fs, hG, hl⟩ := h
    obtain ⟨_, du, ps, ha, r⟩ := g.obj _ _ hG
    obtain ⟨v, hv, im, _⟩ := r.get hl
    exact ⟨_, du, ps, v, rfl, ha, hv, im⟩
  | _ => exact h.elim
theorem de_fld (he : DE X W e d) (c : Cls X.K C) (n : NoAttr X.K C f) (hb : attributeBase e f X.env (eval e X.env) = eval e X.env := by rfl) : DE X W (.Attribute e f pos) (dFld C f d) := (pe_fld (pos := pos) he hb).imp fun σ H R ⟨M, δ, G, Q, QE, rs, d, ex, k⟩ => by
  refine ⟨M, δ, G, _, QE, rs, d, ex, fun v dv G1 H1 M1 f1 rs1 im ⟨dd, hf, q⟩ => ?_⟩
  obtain ⟨a, du, ps, w, rfl, ha, hl, imw⟩ := hf.ok rs1.g im
  exact ⟨a, C, du, ps, w, rfl, ha, c, n, hl, k w dd G1 H1 M1 f1 rs1 imw q⟩
theorem db_fld (he : DE X W e d) (c : Cls X.K C) (n : NoAttr X.K C f) (hb : attributeBase e f X.env (eval e X.env) = eval e X.env := by rfl) : DB X W (.Attribute e f pos) (dFldB C f d) := (pe_fld (pos := pos) he hb).imp fun σ H R ⟨M, δ, G, Q, QE, rs, d, ex, k⟩ => by
  refine ⟨M, δ, G, _, QE, rs, d, ex, fun v dv G1 H1 M1 f1 rs1 im ⟨dd, hf, q⟩ => ?_⟩
  cases im with
  | obj m ha r =>
    obtain ⟨rfl, hl⟩ := hf
    obtain ⟨w, hv, imw⟩ := r.lookup hl
    exact ⟨_, _, _, _, w, rfl, ha, c, n, hv, k w dd G1 H1 M1 f1 rs1 imw.bo q⟩
  | @ref a =>
    obtain ⟨fs, s, hG, hl, hd⟩ := hf
    subst hd
    obtain ⟨_, du, ps, ha, r⟩ := rs1.g.obj _ _ hG
    obtain ⟨w, hv, sr, sa⟩ := r.get hl
    refine ⟨_, C, du, ps, w, rfl, ha, c, n, hv, k w s.d G1 H1 M1 f1 rs1 (fun H2 M2 f2 rs2 => ?_) q⟩
    cases s with
    | v d => exact .inl (Im.mono f2.stay sr)
    | own l ds =>
      have ew : w = .ref l := sa
      obtain ⟨_, du2, ps2, ha2, r2⟩ := rs2.g.obj _ _ hG
      obtain ⟨w2, hv2, ⟨l2, xs, e2, m2, h2, iml⟩, sa2⟩ := r2.get hl
      have ew2 : w2 = .ref l := sa2
      rw [ew2] at e2
      cases e2
      exact .inr (.inl ⟨l, xs, ds, ew, rfl, h2, iml⟩)
    | ownd l ds =>
      have ew : w = .ref l := sa
      obtain ⟨_, du2, ps2, ha2, r2⟩ := rs2.g.obj _ _ hG
      obtain ⟨w2, hv2, ⟨l2, xs, e2, m2, h2, iml⟩, sa2⟩ := r2.get hl
      have ew2 : w2 = .ref l := sa2
      rw [ew2] at e2
      cases e2
      exact .inr (.inr ⟨l, xs, ds, ew, rfl, h2, iml⟩)
  | _ => exact hf.elim
/-- o.f = e -/
def sFldS (C : Addr) (f : Str) (v o : DTE) : DTS := fun N δ G => v δ G (fun y G1 => o δ G1 (fun x G2 => ∃ a fs, x = .ref a ∧ G2 a = some (.ins C fs) ∧ fs.length < 900 ∧ N.nx δ (gset G2 a (some (.ins C (putV f (.v y) fs))))) (exOf N δ)) (exOf N δ)
/-- o.f = a new list, its own from now on (o a name) -/
def sFldF (C : Addr) (f : Str) (v : DTA) (i : Nat) : DTS := fun N δ G => v δ G (fun ys G1 => ∃ a fs, δ[i]? = some (some (.v (.ref a))) ∧ G1 a = some (.ins C fs) ∧ fs.length < 900 ∧ ∀ l, N.nx δ (gset G1 a (some (.ins C (putV f (.own l ys) fs))))) (exOf N δ)
theorem ds_fld (ho : DE X W o d) (hv : DE X W value dv) (c : Cls X.K C) (n : NoAttr X.K C f) (hs : swapsWith value (some (.Attribute o f pos')) pos.line X.env = pure false := by rfl) : DS X W (.Assign [.Attribute o f pos'] value pos) (sFldS C f dv d) := (ps_fld (pos := pos) (pos' := pos') ho hv hs).imp fun E σ H ⟨M, δ, G, DD, rs, d, ok⟩ => by
  refine ⟨M, δ, G, _, _, rs, d, ok.exOf, fun v dv G1 H1 M1 f1 rs1 im q => ?_⟩
  refine ⟨M1, δ, G1, _, _, rs1, q, (ok.mono f1).exOf, fun w dw G2 H2 M2 f2 rs2 im2 ⟨a, fs, ea, ga, hl, q2⟩ => ?_⟩
  subst ea
  cases im2
  obtain ⟨dx, ps, ha, ma, r3⟩ := rs2.setFld (f := f) (im.mono f2.stay) ga
  obtain ⟨_, dx2, ps2, ha2, fr⟩ := rs2.g.obj a _ ga
  rw [ha] at ha2; cases ha2
  exact ⟨a, C, dx, ps, rfl, ha, c, n, by rw [fr.length]; omega, ok.nx _ _ _ _ M2 ((f1.trans f2).trans (Frame.obj ma)) r3 q2⟩
theorem ds_fldF {i : Nat} (ho : PE X o (tVar i)) (hv : DF X W value da) (c : Cls X.K C) (n : NoAttr X.K C f) (hs : swapsWith value (some (.Attribute o f pos')) pos.line X.env = pure false := by rfl) : DS X W (.Assign [.Attribute o f pos'] value pos) (sFldF C f da i) := (ps_fld (pos := pos) (pos' := pos') ho hv hs).imp fun E σ H ⟨M, δ, G, DD, rs, d, ok⟩ => by
  refine ⟨M, δ, G, _, _, rs, d, ok.exOf, fun p xs ds G1 H1 M1 f1 rs1 n0 mp hp iml ⟨a, fs, ea, ga, hl, q2⟩ => ?_⟩
  obtain ⟨x, hx, im⟩ := rs1.slot i _ ea
  cases im
  obtain ⟨dx, ps, ha, r3⟩ := rs1.takeFld (f := f) mp hp iml ga
  obtain ⟨ma, dx2, ps2, ha2, fr⟩ := rs1.g.obj a _ ga
  rw [ha] at ha2; cases ha2
  refine ⟨_, hx, a, C, dx, ps, rfl, ha, c, n, by rw [fr.length]; omega, ok.nx _ _ _ _ _ ?_ r3 (q2 p)⟩
  have nap : a ≠ p := fun e => by rw [← e, ma] at mp; cases mp
  exact (f1.give n0).trans (Frame.obj (by rw [mset_ne nap]; exact ma))
end
end DD

set_option Elab.async false
set_option linter.all false
set_option maxRecDepth 100000
set_option maxHeartbeats 4000000
namespace DD
open PySem PySem.Spec L2

/-! ### an object is finished, or let go -/
/-- nobody changes a or what its fields own any more -/
def thaw (M : Gh) (a : Addr) : Gh := fun b => if b = a then none else match M b with
  | some (.fld c f) => if c = a then none else some (.fld c f)
  | x => x
section
variable {K : PySem.W.Frag} {H H0 H1 : Hp} {M M0 M1 : Gh} {σ : St} {δ : DSt} {G : DG} {a C : Addr} {fs : List (Str × FV)}
theorem thaw_none {b : Addr} (h : M b = none) : thaw M a b = none := by
  unfold thaw
  by_cases e : b = a
  · rw [if_pos e]
  · rw [if_neg e, h]
theorem thaw_self : thaw M a a = none := if_pos rfl
theorem thaw_fld {b : Addr} {f : Str} (h : M b = some (.fld a f)) : thaw M a b = none := by
  unfold thaw
  by_cases e : b = a
  · rw [if_pos e]
  · rw [if_neg e, h]; exact if_pos rfl
theorem thaw_keep {b : Addr} {ow : Own} (h : M b = some ow) (nb : b ≠ a) (nf : ∀ f, ow ≠ .fld a f) : thaw M a b = some ow := by
  unfold thaw
  rw [if_neg nb, h]
  cases ow with
  | fld c f => exact if_neg fun e => nf f (by rw [e])
  | _ => rfl
theorem Stay.thaw : Stay H M H (DD.thaw M a) := fun b o h n => ⟨h, thaw_none n⟩
theorem Frame.thaw (m : M a = some .obj) : Frame H M H (DD.thaw M a) := ⟨fun b o h n => ⟨h, by
  rcases n with n | n
  · rw [thaw_none n, n]
  · rw [thaw_keep n (fun e => by rw [e, m] at n; cases n) (fun f z => by cases z), n]⟩, fun _ h => h⟩
theorem SlotR.thaw {b : Addr} (m : M a = some .obj) {ow : Own} (nf : ∀ f, ow ≠ .fld a f) (no : ow ≠ .obj) {x : V} : ∀ {s : SV}, SlotR K H M ow x s → SlotR K H (DD.thaw M a) ow x s
  | .v d, h => Im.mono Stay.thaw h
  | .own ds, ⟨l, xs, e, m', h, r⟩ => ⟨l, xs, e, thaw_keep m' (fun z => by rw [z, m] at m'; cases m'; exact no rfl) nf, h, ImL.mono Stay.thaw r⟩
  | .ownd ds, ⟨l, xs, e, m', h, r⟩ => ⟨l, xs, e, thaw_keep m' (fun z => by rw [z, m] at m'; cases m'; exact no rfl) nf, h, ImK.mono Stay.thaw r⟩
theorem FldR.thaw {b : Addr} (m : M a = some .obj) (ne : b ≠ a) : ∀ {ps : List (Str × V)} {fs : List (Str × FV)}, FldR K H M b ps fs → FldR K H (DD.thaw M a) b ps fs
  | [], [], _ => trivial
  | (f, x) :: r, (g, s) :: t, ⟨e, h, w, q⟩ => ⟨e, SlotR.thaw (b := b) m (fun f' z => by cases z; exact ne rfl) (fun z => by cases z) h, w, FldR.thaw m ne q⟩
theorem FldR.dF (m : M a = some .obj) : ∀ {ps : List (Str × V)} {fs : List (Str × FV)}, FldR K H M a ps fs → ImF K H (DD.thaw M a) ps (fs.map fun p => (p.1, p.2.d))
  | [], [], _ => .nil
  | (f, x) :: r, (g, s) :: t, ⟨e, h, w, q⟩ => by
    subst e
    refine .cons ?_ (FldR.dF m q)
    cases s with
    | v d => exact Im.mono Stay.thaw h
    | own l ds =>
      obtain ⟨l', xs, rfl, m', hl, r⟩ := h
      exact .lst (thaw_fld m') (.inl hl) (ImL.mono Stay.thaw r)
    | ownd l ds =>
      obtain ⟨l', xs, rfl, m', hl, r⟩ := h
      exact .dct (thaw_fld m') hl (ImK.mono Stay.thaw r)
theorem gset_drop {b : Addr} {u : DO} (h : gset G a none b = some u) : b ≠ a ∧ G b = some u := by
  by_cases e : b = a
  · rw [e, gset_same] at h; cases h
  · rw [gset_ne e] at h; exact ⟨e, h⟩
theorem RS.thaw (r : RS K H M σ δ G) (ga : G a = some (.ins C fs)) : RS K H (DD.thaw M a) σ δ (gset G a none) ∧ Im K H (DD.thaw M a) (.ref a) (.obj C (fs.map fun p => (p.1, p.2.d))) := by
  obtain ⟨m, dx, ps, ha, fr⟩ := r.g.obj a _ ga
  refine ⟨⟨⟨fun b u hb => ?_, fun b hb => r.g.dom b fun e => hb (thaw_none e)⟩, r.len, fun i s hs => let ⟨x, hx, q⟩ := r.slot i s hs; ⟨x, hx, q.thaw (b := a) m (fun f z => by cases z) fun z => by cases z⟩⟩, .obj thaw_self ha (fr.dF m)⟩
  obtain ⟨nb, hb⟩ := gset_drop hb
  obtain ⟨mb, q⟩ := r.g.obj b u hb
  refine ⟨thaw_keep mb nb (fun f z => by cases z), ?_⟩
  cases u with
  | ins C fs => obtain ⟨dx, ps, h1, h2⟩ := q; exact ⟨dx, ps, h1, h2.thaw m nb⟩
  | mls ds => obtain ⟨xs, h1, h2⟩ := q; exact ⟨xs, h1, ImL.mono Stay.thaw h2⟩
  | jar _ => exact q
  | mdc _ => obtain ⟨ps, h1, h2⟩ := q; exact ⟨ps, h1, ImK.mono Stay.thaw h2⟩
theorem RS.drop (r : RS K H M σ δ G) : RS K H M σ δ (gset G a none) := ⟨⟨fun b u hb => r.g.obj b u (gset_drop hb).2, r.g.dom⟩, r.len, r.slot⟩
/-- a new instance -/
theorem RS.newIns {x dx : Addr} (r : RS K H M σ δ G) (nx : H x = none) (ndx : H dx = none) (ne : dx ≠ x) :
    Keep H M (upd (upd H dx (.own x)) x (.ins C dx [])) (mset M x (some .obj)) ∧ RS K (upd (upd H dx (.own x)) x (.ins C dx [])) (mset M x (some .obj)) σ δ (gset G x (some (.ins C []))) ∧ G x = none := by
  have k : Keep H M (upd (upd H dx (.own x)) x (.ins C dx [])) (mset M x (some .obj)) := fun b w h => by
    have e1 : b ≠ x := ne_of_none h nx
    have e2 : b ≠ dx := ne_of_none h ndx
    exact ⟨by rw [upd_ne e1, upd_ne e2]; exact h, mset_ne e1⟩
  have gx : G x = none := by
    cases e : G x with
    | none => rfl
    | some u =>
      obtain ⟨_, q⟩ := r.g.obj x u e
      obtain ⟨w, hw⟩ := q.there
      rw [nx] at hw; cases hw
  have r2 := r.keep k fun b hb hm => by
    by_cases e : b = x
    · rw [e, upd_same]; simp
    · rw [mset_ne e] at hm
      exact absurd hb (r.g.dom b hm)
  refine ⟨k, ⟨⟨fun b u hb => ?_, r2.g.dom⟩, r2.len, r2.slot⟩, gx⟩
  by_cases e : b = x
  · subst e
    rw [gset_same] at hb
    cases hb
    exact ⟨mset_same, dx, [], upd_same, trivial⟩
  · rw [gset_ne e] at hb
    exact r2.g.obj b u hb
end

/-! ### C(..) -/
section
variable {X : Cx} {CX : CXT} {k : Nat} {fa C : Addr} {fd : FuncData} {ps : List Str} {sp : Sp} {dvs : List V} {ds : List Value} {E : XK}
theorem dd_run_make {pins : List (Addr × Obj)} {σ : St} {H : Hp} {s : Shared} {Q : VK} {us : List Value} {vs : List V} (M : Mk X.K C fa) (F : FnOk X.prog X.w X.K X.mg X.base CX k fa fd ps sp) (hr : Room (k + 1) X.A) (hb : Binds X.K fd ps ds) (hd : Vals dvs ds)
    (hx : PassesAt CX X σ E) (I : Inv X pins σ H s) (r : Vals vs us)
    (h : ∀ x dx, H x = none → H dx = none → dx ≠ x → sp (.ref x :: (vs ++ dvs)) (upd (upd H dx (.own x)) x (.ins C dx [])) (fun v H2 => v = .non ∧ Q (.ref x) H2) E) :
    wpAny (model X.prog X.w) X.A (call (.ref C) us) (EP X pins σ Q) X.xe s := by
  have hq := h (s.heap.objs.size + 1) s.heap.objs.size (I.hok.fresh (Nat.le_succ _)) (I.hok.fresh (Nat.le_refl _)) (Nat.ne_of_lt (Nat.lt_succ_self _))
  have I2 := Inv.made (C := C) I
  have r2 : Vals (V.ref (s.heap.objs.size + 1) :: (vs ++ dvs)) (Value.ref (s.heap.objs.size + 1) :: (us ++ ds)) := .cons rfl (r.append hd)
  have hl : (Value.ref (s.heap.objs.size + 1) :: us ++ ds).length = ps.length := (r2.length.symm.trans (F.len _ _ _ _ hq))
  refine wpAny_call (make_map (f := fa) I.kIn M.makes M.init (beq_iff_eq.mp M.fn) (codeAny_mono (F.run _ X.stack _ _ ⟨Value.ref (s.heap.objs.size + 1) :: us, []⟩ (Value.ref (s.heap.objs.size + 1) :: (us ++ ds)) _ _ E (hr.make C us [])
    (I2.env0.make C us []) (hb _ (Value.ref (s.heap.objs.size + 1) :: us) I2.kIn hl) r2 hq) fun r s' hq' => ?_))
  cases r with
  | error e => exact hx pins _ _ e s' I2 hq'
  | ok fl =>
    cases fl with
    | ret u =>
      obtain ⟨v, H', I3, rv, ev, q3⟩ := I2.after hq'
      subst ev
      exact ⟨rv, ⟨V.ref (s.heap.objs.size + 1), H', I3, rfl, q3⟩⟩
    | next => exact False.elim hq'
    | brk => exact False.elim hq'
    | cont => exact False.elim hq'
end
/-- an instance that is changed later -/
def dMake (C : Addr) (f : Fn) (dds : List D) (a : DTA) : DTE := fun δ G Q E => a δ G (fun ds G1 => ∀ x, G1 x = none → f (.ref x :: (ds ++ dds)) (gset G1 x (some (.ins C []))) (fun v G2 => v = .non ∧ Q (.ref x) G2) (fun ex G2 => E ex (gset G2 x none))) E
/-- an instance that is finished -/
def dMakeZ (C : Addr) (f : Fn) (dds : List D) (a : DTA) : DTE := fun δ G Q E => a δ G (fun ds G1 => ∀ x, G1 x = none → f (.ref x :: (ds ++ dds)) (gset G1 x (some (.ins C []))) (fun v G2 => v = .non ∧ ∃ fs, G2 x = some (.ins C fs) ∧ Q (.obj C (fs.map fun p => (p.1, p.2.d))) (gset G2 x none)) (fun ex G2 => E ex (gset G2 x none))) E
section
variable {X : Cx} {W : WX} {k : Nat} {fa C : Addr} {fd : FuncData} {ps : List Str} {f : Fn} {x : Str} {p pos : Pos} {e : Expr} {es : List Expr} {ta : DTA} {dvs : List V} {dds : List D} {ds0 : List Value}
theorem de_make (MK : Mk X.K C fa) (F : FnOk X.prog X.w X.K X.mg X.base (L2.CX X.prog X.w) k fa fd ps (spD X.K f)) (hr : Room (k + 1) X.A) (hg : Gl X x) (hm : X.mg x = some (.ref C)) (hb : Binds X.K fd ps ds0) (hd : Vals dvs ds0) (hi : ∀ H M, ImL X.K H M dvs dds) (tk : Takes X W)
    (ha : DA X W (e :: es) ta) (hdb : (x == ("__debug__" : Str)) = false := by decide) (he : starEach (e :: es) X.env = (false, eval e X.env) :: starEach es X.env := by rfl) (hpl : (backTo pos (starEach es X.env)).any (·.1) = false := by rfl) :
    DE X W (.Call (.Name x p) (e :: es) [] pos) (dMake C f dds ta) := by
  refine ⟨fun pins s σ H R I h => ?_⟩
  obtain ⟨M, δ, G, Q, QE, rs, d, ex, k⟩ := h
  refine wpAny_Call_Name_kw (ld_glob I hg hm ?_ hdb)
  refine PySem.W.callWith_K (h₀ := X.base) I.ok.mod.kin MK.kp (thn (ha.run pos pins s σ H (fun vs H1 => ∃ ds G1 M1, Frame H M H1 M1 ∧ RS X.K H1 M1 σ δ G1 ∧ ImL X.K H1 M1 vs ds ∧ ∀ x, G1 x = none → f (.ref x :: (ds ++ dds)) (gset G1 x (some (.ins C []))) (fun v G2 => v = .non ∧ Q (.ref x) G2) (fun ex G2 => QE ex (gset G2 x none))) I ⟨M, δ, G, _, QE, rs, d, ex, fun vs ds G1 H1 M1 f1 rs1 iml q => ⟨ds, G1, M1, f1, rs1, iml, q⟩⟩) fun us s1 ⟨vs, H1, I1, r, ds, G1, M1, f1, rs1, iml, q⟩ => ⟨I1.kIn, ?_⟩) he hpl
  refine dd_run_make MK F hr hb hd (passAt tk σ) I1 r fun z dz nz ndz ne => ?_
  obtain ⟨kp, rs2, gz⟩ := rs1.newIns (C := C) nz ndz ne
  refine spD_of rs2 (.cons .ref ((ImL.mono kp.stay iml).append (hi _ _))) (q z gz) (fun ex' G' H' M' cls dd f3 rs3 rx qe => ex _ _ _ _ cls dd ((f1.trans kp.frame).trans f3) rs3.drop rx qe) fun v dv G' H' M' f3 rs3 im qd => ?_
  obtain ⟨ev, qd⟩ := qd
  subst ev
  cases im
  exact ⟨rfl, k _ _ G' H' M' ((f1.trans kp.frame).trans f3) rs3 .ref qd⟩
theorem de_makeZ (MK : Mk X.K C fa) (F : FnOk X.prog X.w X.K X.mg X.base (L2.CX X.prog X.w) k fa fd ps (spD X.K f)) (hr : Room (k + 1) X.A) (hg : Gl X x) (hm : X.mg x = some (.ref C)) (hb : Binds X.K fd ps ds0) (hd : Vals dvs ds0) (hi : ∀ H M, ImL X.K H M dvs dds) (tk : Takes X W)
    (ha : DA X W (e :: es) ta) (hdb : (x == ("__debug__" : Str)) = false := by decide) (he : starEach (e :: es) X.env = (false, eval e X.env) :: starEach es X.env := by rfl) (hpl : (backTo pos (starEach es X.env)).any (·.1) = false := by rfl) :
    DE X W (.Call (.Name x p) (e :: es) [] pos) (dMakeZ C f dds ta) := by
  refine ⟨fun pins s σ H R I h => ?_⟩
  obtain ⟨M, δ, G, Q, QE, rs, d, ex, k⟩ := h
  refine wpAny_Call_Name_kw (ld_glob I hg hm ?_ hdb)
  refine PySem.W.callWith_K (h₀ := X.base) I.ok.mod.kin MK.kp (thn (ha.run pos pins s σ H (fun vs H1 => ∃ ds G1 M1, Frame H M H1 M1 ∧ RS X.K H1 M1 σ δ G1 ∧ ImL X.K H1 M1 vs ds ∧ ∀ x, G1 x = none → f (.ref x :: (ds ++ dds)) (gset G1 x (some (.ins C []))) (fun v G2 => v = .non ∧ ∃ fs, G2 x = some (.ins C fs) ∧ Q (.obj C (fs.map fun p => (p.1, p.2.d))) (gset G2 x none)) (fun ex G2 => QE ex (gset G2 x none))) I ⟨M, δ, G, _, QE, rs, d, ex, fun vs ds G1 H1 M1 f1 rs1 iml q => ⟨ds, G1, M1, f1, rs1, iml, q⟩⟩) fun us s1 ⟨vs, H1, I1, r, ds, G1, M1, f1, rs1, iml, q⟩ => ⟨I1.kIn, ?_⟩) he hpl
  refine dd_run_make MK F hr hb hd (passAt tk σ) I1 r fun z dz nz ndz ne => ?_
  obtain ⟨kp, rs2, gz⟩ := rs1.newIns (C := C) nz ndz ne
  refine spD_of rs2 (.cons .ref ((ImL.mono kp.stay iml).append (hi _ _))) (q z gz) (fun ex' G' H' M' cls dd f3 rs3 rx qe => ex _ _ _ _ cls dd ((f1.trans kp.frame).trans f3) rs3.drop rx qe) fun v dv G' H' M' f3 rs3 im qd => ?_
  obtain ⟨ev, fs, gf, qd⟩ := qd
  subst ev
  cases im
  obtain ⟨r4, im4⟩ := rs3.thaw gf
  obtain ⟨mz, _⟩ := rs3.g.obj z _ gf
  exact ⟨rfl, k _ _ _ H' _ (((f1.trans kp.frame).trans f3).trans (Frame.thaw mz)) r4 im4 qd⟩
end

/-! ### raise -/
def sRaise (C : Addr) : DTS := fun N δ G => N.ex ⟨C, none⟩ δ G
def sRaiseF (C : Addr) (f : Str) (d : DTE) : DTS := fun N δ G => d δ G (fun y G1 => N.ex ⟨C, some [(f, y)]⟩ δ G1) (exOf N δ)
theorem ds_raise {X : Cx} {W : WX} {C : Addr} {e : Expr} {pos : Pos} (hc : X.calm = true) (tk : Takes X W) (h : PMk X e (fun _ H Q => Q (.ref C) none H)) : DS X W (.Raise (some e) none pos) (sRaise C) := (ps_raise (pos := pos) hc tk h).imp fun E σ H ⟨M, δ, G, DD, rs, d, ok⟩ =>
  ok.ex ⟨C, none⟩ σ δ G H M (.ref C) none (Frame.refl H M) rs ⟨rfl, rfl⟩ d
/-- the __init__ of an error with one field -/
def spLow (C : Addr) (f : Str) : Sp := fun vs H Q _ => ∃ a y, vs = [.ref a, y] ∧ H a = some (exo a C none) ∧ ∀ dx, H dx = none → dx ≠ a → Q .non (upd (upd H dx (exd dx [(f, y)])) a (exo a C (some dx)))
theorem ds_raiseF {X : Cx} {W : WX} {C : Addr} {f : Str} {e : Expr} {d : DTE} {pos : Pos} (hc : X.calm = true) (tk : Takes X W) {a : Expr} (h : PMk X e (tMkO C (spLow C f) [] (tCons (rdE X.K W d) tNil))) : DS X W (.Raise (some e) none pos) (sRaiseF C f d) := (ps_raise (pos := pos) hc tk h).imp fun E σ H ⟨M, δ, G, DD, rs, d, ok⟩ => by
  refine ⟨M, δ, G, _, _, rs, d, ok.exOf, fun y dy G1 H1 M1 f1 rs1 im q => ?_⟩
  refine ⟨by show 1 ≤ 1000; decide, fun b nb => ⟨b, y, rfl, upd_same, fun dx ndx ne => ⟨rfl, dx, [(f, y)], upd_same, ?_, ?_, ?_⟩⟩⟩
  · rw [upd_ne ne, upd_same]
  · rw [upd_ne ne] at ndx; exact ndx
  · rw [upd_ne ne] at ndx
    have eH : upd (del (upd (upd (upd H1 b (exo b C none)) dx (exd dx [(f, y)])) b (exo b C (some dx))) b) dx (.xd [(f, y)]) = upd H1 dx (.xd [(f, y)]) := by
      funext c
      by_cases hc : c = dx
      · rw [hc, upd_same, upd_same]
      · rw [upd_ne hc, upd_ne hc]
        by_cases hb : c = b
        · rw [hb, del_same]; exact nb.symm
        · rw [del_ne hb, upd_ne hb, upd_ne hc, upd_ne hb]
    rw [eH]
    have kp : Keep H1 M1 (upd H1 dx (.xd [(f, y)])) M1 := Keep.new ndx
    exact ok.ex ⟨C, some [(f, dy)]⟩ σ δ G1 _ M1 (.ref C) (some dx) (f1.trans kp.frame) (rs1.new ndx) ⟨rfl, dx, _, rfl, rs1.g.mnone ndx, upd_same, .cons (im.mono kp.stay) .nil⟩ q
/-! ### lists of objects -/
/-- o.f.append(e): o's attribute f is a list of its own -/
def sFldApp (C : Addr) (f : Str) (o d : DTE) : DTS := fun N δ G => o δ G (fun x G1 => ∃ a fs l ds, x = .ref a ∧ G1 a = some (.ins C fs) ∧ fs.lookup f = some (.own l ds) ∧ d δ G1 (fun y G2 => ∃ fs2 ds2, G2 a = some (.ins C fs2) ∧ fs2.lookup f = some (.own l ds2) ∧ (fs2.map (·.1)).Nodup ∧ ds2.length < 1000000 ∧ N.nx δ (gset G2 a (some (.ins C (putV f (.own l (ds2 ++ [y])) fs2))))) (exOf N δ)) (exOf N δ)
/-- x.append(e), x a list that is reached by its address -/
def sMlsApp (o d : DTE) : DTS := fun N δ G => o δ G (fun x G1 => ∃ a ds, x = .ref a ∧ G1 a = some (.mls ds) ∧ d δ G1 (fun y G2 => ∃ ds2, G2 a = some (.mls ds2) ∧ ds2.length < 1000000 ∧ N.nx δ (gset G2 a (some (.mls (ds2 ++ [y]))))) (exOf N δ)) (exOf N δ)
theorem RS.writeFld {K : PySem.W.Frag} {H : Hp} {M : Gh} {σ : St} {δ : DSt} {G : DG} {a l C : Addr} {f : Str} {fs : List (Str × FV)} {ds ds' : List D} {xs' : List V} (r : RS K H M σ δ G) (ga : G a = some (.ins C fs)) (hl : fs.lookup f = some (.own l ds)) (nd : (fs.map (·.1)).Nodup) (iml : ImL K H M xs' ds') :
    M l = some (.fld a f) ∧ RS K (upd H l (.lst xs')) M σ δ (gset G a (some (.ins C (putV f (.own l ds') fs)))) := by
  obtain ⟨ma, dx, ps, ha, fr⟩ := r.g.obj a _ ga
  obtain ⟨x, hx, ⟨l2, xs, e, m, h, _⟩, sa⟩ := fr.get hl
  have e2 : x = .ref l := sa
  rw [e2] at e; cases e
  have nal : a ≠ l := fun e => by rw [← e, ma] at m; cases m
  refine ⟨m, ⟨⟨fun b u hb => ?_, dom_at r.g.dom⟩, r.len, fun i s hs => let ⟨x, hx, q⟩ := r.slot i s hs; ⟨x, hx, q.at m fun e => by cases e⟩⟩⟩
  by_cases e : b = a
  · subst e
    rw [gset_same] at hb
    cases hb
    exact ⟨ma, dx, ps, by rw [upd_ne nal]; exact ha, fr.write m iml nd hl⟩
  · rw [gset_ne e] at hb
    obtain ⟨mb, q⟩ := r.g.obj b u hb
    exact ⟨mb, q.at m (fun z => by rw [z, m] at mb; cases mb) fun g z => by cases z; exact e rfl⟩
section
variable {X : Cx} {W : WX} {C : Addr} {f : Str} {o e : Expr} {d dv : DTE} {pos pos' apos fpos : Pos}
theorem ds_fldApp (ho : DE X W o d) (he : DE X W e dv) (c : Cls X.K C) (n : NoAttr X.K C f) (hp : PE X (.Call (.Attribute (.Attribute o f fpos) "append" apos) [e] [] pos) (tBM X.K "list" rAppend (tFld X.K (rdE X.K W d) f) (tCons (rdE X.K W dv) tNil)))
    (hs : swapsWith (.Call (.Attribute (.Attribute o f fpos) "append" apos) [e] [] pos) none pos'.line X.env = pure false := by rfl) : DS X W (.Expr (.Call (.Attribute (.Attribute o f fpos) "append" apos) [e] [] pos) pos') (sFldApp C f d dv) := (ps_expr hp hs).imp fun E σ H ⟨M, δ, G, DD, rs, d, ok⟩ => by
  refine ⟨M, δ, G, _, _, rs, d, ok.exOf, fun x dx G1 H1 M1 f1 rs1 im ⟨a, fs, l, ds, ea, ga, hl, q⟩ => ?_⟩
  subst ea
  cases im
  obtain ⟨_, du, ps, ha, fr⟩ := rs1.g.obj a _ ga
  obtain ⟨w, hw, ⟨l', xs, e1, ml, hxs, _⟩, sa⟩ := fr.get hl
  have e2 : w = .ref l := sa
  rw [e2] at e1 hw
  cases e1
  refine ⟨a, C, du, ps, .ref l, rfl, ha, c, n, hw, .inl ⟨rfl, _, SqL.of hxs⟩, M1, δ, G1, _, _, rs1, q, (ok.mono f1).exOf, fun y dy G2 H2 M2 f2 rs2 imy ⟨fs2, ds2, ga2, hl2, nd, hz, q2⟩ => ?_⟩
  obtain ⟨_, du2, ps2, ha2, fr2⟩ := rs2.g.obj a _ ga2
  obtain ⟨w2, hw2, ⟨l2, xs2, e3, ml2, hxs2, iml2⟩, sa2⟩ := fr2.get hl2
  have e4 : w2 = .ref l := sa2
  rw [e4] at e3
  cases e3
  obtain ⟨m3, r3⟩ := rs2.writeFld ga2 hl2 nd (iml2.snoc imy)
  exact ⟨l, xs2, y, rfl, rfl, hxs2, by rw [iml2.length, sizeLine_eq]; omega, ok.nx _ _ _ _ M2 ((f1.trans f2).trans (Frame.at m3 (by intro z; cases z))) r3 q2⟩
theorem ds_mlsApp (ho : DE X W o d) (he : DE X W e dv) (hp : PE X (.Call (.Attribute o "append" apos) [e] [] pos) (tBM X.K "list" rAppend (rdE X.K W d) (tCons (rdE X.K W dv) tNil)))
    (hs : swapsWith (.Call (.Attribute o "append" apos) [e] [] pos) none pos'.line X.env = pure false := by rfl) : DS X W (.Expr (.Call (.Attribute o "append" apos) [e] [] pos) pos') (sMlsApp d dv) := (ps_expr hp hs).imp fun E σ H ⟨M, δ, G, DD, rs, d, ok⟩ => by
  refine ⟨M, δ, G, _, _, rs, d, ok.exOf, fun x dx G1 H1 M1 f1 rs1 im ⟨a, ds, ea, ga, q⟩ => ?_⟩
  subst ea
  cases im
  obtain ⟨_, xs, ha, _⟩ := rs1.g.obj a _ ga
  refine ⟨.inl ⟨rfl, _, SqL.of ha⟩, M1, δ, G1, _, _, rs1, q, (ok.mono f1).exOf, fun y dy G2 H2 M2 f2 rs2 imy ⟨ds2, ga2, hz, q2⟩ => ?_⟩
  obtain ⟨m2, xs2, ha2, iml2⟩ := rs2.g.obj a _ ga2
  exact ⟨a, xs2, y, rfl, rfl, ha2, by rw [iml2.length, sizeLine_eq]; omega, ok.nx _ _ _ _ M2 ((f1.trans f2).trans (Frame.obj m2)) (rs2.setObj (u := .mls (ds2 ++ [dy])) m2 ⟨_, upd_same, ImL.mono (Stay.at m2) (iml2.snoc imy)⟩) q2⟩
end
/-- a slot's own list becomes an object that is reached by its address -/
def sRef (i : Nat) (t : DTS) : DTS := fun N δ G => ∃ ds, δ[i]? = some (some (.own ds)) ∧ ∀ a, G a = none → t N (δ.set i (some (.v (.ref a)))) (gset G a (some (.mls ds)))
end DD

set_option Elab.async false
set_option linter.all false
set_option maxRecDepth 100000
set_option maxHeartbeats 4000000
namespace DD
open PySem PySem.Spec L2

/-! ### plain data -/
def pl : Nat → D → Bool
  | _, .non => true
  | _, .bl _ => true
  | _, .int _ => true
  | _, .str _ => true
  | n + 1, .tup xs => xs.all (pl n)
  | n + 1, .lst xs => xs.all (pl n)
  | _, _ => false
def beqL (f : D → D → Bool) : List D → List D → Bool
  | [], [] => true
  | x :: r, y :: s => f x y && beqL f r s
  | _, _ => false
/-- Python's == of plain data -/
def beq : Nat → D → D → Bool
  | _, .non, .non => true
  | _, .bl a, .bl b => a == b
  | _, .bl a, .int j => (if a then 1 else 0) == j
  | _, .int i, .bl b => i == (if b then 1 else 0)
  | _, .int i, .int j => i == j
  | _, .str x, .str y => x == y
  | n + 1, .tup xs, .tup ys => beqL (beq n) xs ys
  | n + 1, .lst xs, .lst ys => beqL (beq n) xs ys
  | _, _, _ => false
def eqD (x y : D) : Option D := if pl 50 x = true ∧ pl 50 y = true then some (.bl (beq 50 x y)) else none
def neD (x y : D) : Option D := if pl 50 x = true ∧ pl 50 y = true then some (.bl (!beq 50 x y)) else none
def pyD : Nat → D → PyData
  | _, .non => .none
  | _, .bl b => .bool b
  | _, .int i => .int i
  | _, .str x => .str x
  | n + 1, .tup xs => .tuple (xs.map (pyD n))
  | n + 1, .lst xs => .list (xs.map (pyD n))
  | _, _ => .none
section
variable {K : PySem.W.Frag} {H H' : Hp} {M M' : Gh}
theorem dpAll_of {n : Nat} (ih : ∀ (v : V) (d : D), Im K H M v d → pl n d = true → Dp K H v (pyD n d) ∧ (pyD n d).canLay0 = true ∧ (pyD n d).depth ≤ n) : ∀ {vs : List V} {ds : List D}, ImL K H M vs ds → ds.all (pl n) = true →
    DpAll K H vs (ds.map (pyD n)) ∧ PyData.canLayAll0 (ds.map (pyD n)) = true ∧ PyData.depthAll (ds.map (pyD n)) ≤ n
  | _, _, .nil, _ => ⟨.nil, by simp [PyData.canLayAll0], by simp [PyData.depthAll]⟩
  | _, _, .cons (v := v) (d := d) im t, h => by
    rw [List.all_cons, Bool.and_eq_true] at h
    obtain ⟨a1, a2, a3⟩ := ih v d im h.1
    obtain ⟨b1, b2, b3⟩ := dpAll_of ih t h.2
    refine ⟨.cons a1 b1, ?_, ?_⟩
    · simp only [List.map_cons, PyData.canLayAll0, a2, b2, Bool.and_self]
    · simp only [List.map_cons, PyData.depthAll]
      omega
theorem im_rd {a : Addr} {xs : List V} (h : SqL K H a xs) : SqL K H a xs := h
theorem dp_of : ∀ (n : Nat) (v : V) (d : D), Im K H M v d → pl n d = true → Dp K H v (pyD n d) ∧ (pyD n d).canLay0 = true ∧ (pyD n d).depth ≤ n
  | n, _, .non, h, _ => by cases h; cases n <;> exact ⟨.non, by simp [pyD, PyData.canLay0], by simp [pyD, PyData.depth]⟩
  | n, _, .bl b, h, _ => by cases h; cases n <;> exact ⟨.bl b, by simp [pyD, PyData.canLay0], by simp [pyD, PyData.depth]⟩
  | n, _, .int i, h, _ => by cases h; cases n <;> exact ⟨.int i, by simp [pyD, PyData.canLay0], by simp [pyD, PyData.depth]⟩
  | n, _, .str x, h, _ => by
    have ok := (Tm.of h).str
    cases h
    cases n <;> exact ⟨.str x, by simp [pyD, PyData.canLay0, ok], by simp [pyD, PyData.depth]⟩
  | 0, _, .tup xs, _, h => by simp [pl] at h
  | 0, _, .lst xs, _, h => by simp [pl] at h
  | n + 1, v, .tup ds, h, hp => by
    obtain ⟨a, xs, rfl, hs, r⟩ := (Tm.of h).tup
    have hp' : ds.all (pl n) = true := by simpa [pl] using hp
    obtain ⟨b1, b2, b3⟩ := dpAll_of (dp_of n) r hp'
    exact ⟨.tup hs b1, by simp only [pyD, PyData.canLay0]; exact b2, by simp only [pyD, PyData.depth]; omega⟩
  | n + 1, v, .lst ds, h, hp => by
    obtain ⟨a, xs, rfl, hs, r⟩ := (Tm.of h).lst
    have hp' : ds.all (pl n) = true := by simpa [pl] using hp
    obtain ⟨b1, b2, b3⟩ := dpAll_of (dp_of n) r hp'
    exact ⟨.lst (im_rd hs) b1, by simp only [pyD, PyData.canLay0]; exact b2, by simp only [pyD, PyData.depth]; omega⟩
  | n, _, .ref _, _, h => by cases n <;> simp [pl] at h
  | n, _, .ty _, _, h => by cases n <;> simp [pl] at h
  | n, _, .dct _, _, h => by cases n <;> simp [pl] at h
  | n, _, .obj _ _, _, h => by cases n <;> simp [pl] at h
theorem dp_tm {n : Nat} {v : V} {d : D} (h : Tm K H M v d) (hp : pl n d = true) : Dp K H v (pyD n d) ∧ (pyD n d).canLay0 = true ∧ (pyD n d).depth ≤ n := by
  rcases h with h | ⟨a, xs, ds, rfl, rfl, ha, r⟩ | ⟨a, xs, ds, rfl, rfl, ha, r⟩
  · exact dp_of n v d h hp
  · cases n with
    | zero => simp [pl] at hp
    | succ n =>
      have hp' : ds.all (pl n) = true := by simpa [pl] using hp
      obtain ⟨b1, b2, b3⟩ := dpAll_of (dp_of n) r hp'
      exact ⟨.lst (SqL.of ha) b1, by simp only [pyD, PyData.canLay0]; exact b2, by simp only [pyD, PyData.depth]; omega⟩
  · cases n <;> simp [pl] at hp
theorem shaped_of {n : Nat} {d : D} (hn : n ≤ 64) (h : (pyD n d).canLay0 = true ∧ (pyD n d).depth ≤ n) : SeqAt.shaped (pyD n d) = true := by
  show ((pyD n d).canLay0 && decide ((pyD n d).depth ≤ 64)) = true
  rw [Bool.and_eq_true]
  exact ⟨h.1, decide_eq_true (by omega)⟩
theorem beqL_eqv {f : D → D → Bool} {g : D → PyData} : ∀ xs ys : List D, (∀ x ∈ xs, ∀ y ∈ ys, PyData.eqv (g x) (g y) = f x y) → PyData.eqvAll (xs.map g) (ys.map g) = beqL f xs ys
  | [], [], _ => by simp [PyData.eqvAll, beqL]
  | [], _ :: _, _ => by simp [PyData.eqvAll, beqL]
  | _ :: _, [], _ => by simp [PyData.eqvAll, beqL]
  | x :: r, y :: s, h => by
    simp only [List.map_cons, PyData.eqvAll, beqL]
    rw [h x (by simp) y (by simp), beqL_eqv r s fun a ha b hb => h a (by simp [ha]) b (by simp [hb])]
theorem eqv_beq : ∀ (n : Nat) (x y : D), pl n x = true → pl n y = true → PyData.eqv (pyD n x) (pyD n y) = beq n x y
  | 0, x, y, hx, hy => by cases x <;> cases y <;> first | (simp [pl] at hx; done) | (simp [pl] at hy; done) | simp [pyD, PyData.eqv, beq]
  | n + 1, x, y, hx, hy => by
    cases x <;> cases y
    case tup.tup xs ys =>
      simp only [pyD, PyData.eqv, beq]
      refine beqL_eqv _ _ fun a ha b hb => eqv_beq n a b ?_ ?_
      · have h : List.all xs (pl n) = true := by simpa only [pl] using hx
        exact List.all_eq_true.mp h a ha
      · have h : List.all ys (pl n) = true := by simpa only [pl] using hy
        exact List.all_eq_true.mp h b hb
    case lst.lst xs ys =>
      simp only [pyD, PyData.eqv, beq]
      refine beqL_eqv _ _ fun a ha b hb => eqv_beq n a b ?_ ?_
      · have h : List.all xs (pl n) = true := by simpa only [pl] using hx
        exact List.all_eq_true.mp h a ha
      · have h : List.all ys (pl n) = true := by simpa only [pl] using hy
        exact List.all_eq_true.mp h b hb
    all_goals first
      | (simp [pl] at hx; done)
      | (simp [pl] at hy; done)
      | simp [pyD, PyData.eqv, beq]
end
section
variable {X : Cx}
theorem op_eq (hu : X.A.units + 64 < cLine) : OpR X (compareOp .Eq) (OpD X.K eqD) := by
  intro pins s σ H x y v u Q I rx ry ⟨M, dx, dy, z, dom, tx, ty, hz, q⟩
  unfold eqD at hz
  split at hz
  · rename_i hp
    cases hz
    obtain ⟨a1, a2⟩ := dp_tm tx hp.1
    obtain ⟨b1, b2⟩ := dp_tm ty hp.2
    refine op_eqD hu pins s σ H x y v u Q I rx ry ⟨_, _, a1, b1, shaped_of (by decide) a2, shaped_of (by decide) b2, ?_⟩
    rw [eqv_beq 50 dx dy hp.1 hp.2]
    exact q _ H (Same.refl H) .bl
  · cases hz
theorem op_ne (hu : X.A.units + 64 < cLine) : OpR X (compareOp .NotEq) (OpD X.K neD) := by
  intro pins s σ H x y v u Q I rx ry ⟨M, dx, dy, z, dom, tx, ty, hz, q⟩
  unfold neD at hz
  split at hz
  · rename_i hp
    cases hz
    obtain ⟨a1, a2⟩ := dp_tm tx hp.1
    obtain ⟨b1, b2⟩ := dp_tm ty hp.2
    refine op_neD hu pins s σ H x y v u Q I rx ry ⟨_, _, a1, b1, shaped_of (by decide) a2, shaped_of (by decide) b2, ?_⟩
    rw [eqv_beq 50 dx dy hp.1 hp.2]
    exact q _ H (Same.refl H) .bl
  · cases hz

/-! ### numbers -/
def subD : D → D → Option D
  | .int i, .int j => some (.int (i - j))
  | _, _ => none
def mulI : D → D → Option D
  | .int i, .int j => if i.natAbs.log2 + j.natAbs.log2 < 100000000 then some (.int (i * j)) else none
  | _, _ => none
def fdivD : D → D → Option D
  | .int i, .int j => if 0 < j ∧ j.natAbs.log2 < 9000 then some (.int (i / j)) else none
  | _, _ => none
def modD : D → D → Option D
  | .int i, .int j => if 0 < j then some (.int (i % j)) else none
  | _, _ => none
def powD : D → D → Option D
  | .int i, .int j => if 1 ≤ j ∧ j ≤ 1000 ∧ i.natAbs.log2 < 10000 ∧ 2 ≤ i then some (.int (i ^ j.toNat)) else none
  | _, _ => none
def ltD : D → D → Option D
  | .int i, .int j => some (.bl (decide (i < j)))
  | _, _ => none
def leD : D → D → Option D
  | .int i, .int j => some (.bl (decide (i ≤ j)))
  | _, _ => none
def gtD : D → D → Option D
  | .int i, .int j => some (.bl (decide (j < i)))
  | _, _ => none
def geD : D → D → Option D
  | .int i, .int j => some (.bl (decide (j ≤ i)))
  | _, _ => none
/-- the second operand is None -/
def nonB : D → Bool
  | .non => true
  | _ => false
def isND (x : D) : D → Option D
  | .non => some (.bl (nonB x))
  | _ => none
def notND (x : D) : D → Option D
  | .non => some (.bl (!nonB x))
  | _ => none
def negD : D → Option D
  | .int i => some (.int (-i))
  | _ => none
theorem opd_int {f : Value → Value → Sem Value} {g : D → D → Option D} {r : R2} (ho : OpR X f r) (h : ∀ (x y z : D), g x y = some z → ∃ i j, x = .int i ∧ y = .int j ∧ ((∃ k, z = .int k ∧ ∀ (H : Hp) (Q : VK), Q (.int k) H → r (.int i) (.int j) H Q) ∨ (∃ k, z = .bl k ∧ ∀ (H : Hp) (Q : VK), Q (.bl k) H → r (.int i) (.int j) H Q))) : OpR X f (OpD X.K g) := by
  intro pins s σ H x y v u Q I rx ry ⟨M, dx, dy, z, dom, tx, ty, hz, q⟩
  obtain ⟨i, j, rfl, rfl, k⟩ := h dx dy z hz
  have e1 := tx.sc (w := .int i) rfl
  have e2 := ty.sc (w := .int j) rfl
  subst e1 e2
  rcases k with ⟨k, rfl, k⟩ | ⟨k, rfl, k⟩
  · exact ho pins s σ H _ _ v u Q I rx ry (k H Q (q _ H (Same.refl H) .int))
  · exact ho pins s σ H _ _ v u Q I rx ry (k H Q (q _ H (Same.refl H) .bl))
theorem op_sub : OpR X (binaryOp .Sub) (OpD X.K subD) := opd_int L2.op_sub fun x y z h => by
  cases x <;> cases y <;> simp only [subD, Option.some.injEq, reduceCtorEq] at h
  exact ⟨_, _, rfl, rfl, .inl ⟨_, h.symm, fun H Q q => ⟨_, _, rfl, rfl, q⟩⟩⟩
def BigMul (i j : Int) : Prop := i.natAbs.log2 + j.natAbs.log2 < 100000000
theorem BigMul.fits {i j : Int} (h : BigMul i j) : IntMulOk i j := by
  have bd : ∀ z : Int, Builtin.Int.intBits z ≤ z.natAbs.log2 + 1 := by
    intro z; unfold Builtin.Int.intBits; split <;> omega
  have hi := bd i
  have hj := bd j
  have hs : i.natAbs.log2 + j.natAbs.log2 < 100000000 := h
  have line : bitsLine = 134217728 := by decide
  unfold IntMulOk
  intro z
  rw [Bool.and_eq_true] at z
  have big := z.2
  unfold Builtin.Int.intTooBig at big
  have over := of_decide_eq_true big
  rw [line] at over
  omega
theorem op_mulBig {X : Cx} : OpR X (binaryOp .Mult) (rI BigMul fun i j => .int (i * j)) := opI fun _ _ _ _ _ _ _ hc q => PySem.P.mul_int q hc.fits
theorem op_mulI : OpR X (binaryOp .Mult) (OpD X.K mulI) := opd_int op_mulBig fun x y z h => by
  cases x <;> cases y <;> simp only [mulI, reduceCtorEq] at h
  split at h
  · rename_i hc
    cases h
    exact ⟨_, _, rfl, rfl, .inl ⟨_, rfl, fun H Q q => ⟨_, _, rfl, rfl, hc, q⟩⟩⟩
  · cases h
theorem op_fdiv : OpR X (binaryOp .FloorDiv) (OpD X.K fdivD) := opd_int op_fdivW fun x y z h => by
  cases x <;> cases y <;> simp only [fdivD, reduceCtorEq] at h
  split at h
  · rename_i hc
    cases h
    exact ⟨_, _, rfl, rfl, .inl ⟨_, rfl, fun H Q q => ⟨_, _, rfl, rfl, hc, q⟩⟩⟩
  · cases h
theorem op_mod : OpR X (binaryOp .Mod) (OpD X.K modD) := opd_int L2.op_mod fun x y z h => by
  cases x <;> cases y <;> simp only [modD, reduceCtorEq] at h
  split at h
  · rename_i hc
    cases h
    exact ⟨_, _, rfl, rfl, .inl ⟨_, rfl, fun H Q q => ⟨_, _, rfl, rfl, hc, q⟩⟩⟩
  · cases h
theorem op_powG : OpR X (binaryOp .Pow) (rI (fun i j => 1 ≤ j ∧ j ≤ 1000 ∧ i.natAbs.log2 < 10000 ∧ 2 ≤ i) fun i j => .int (i ^ j.toNat)) := opI fun i j t u s Q E hc q => by
  obtain ⟨h1, h2, h3, h4⟩ := hc
  refine PySem.AutoIntOps.pow_4 (by omega) (by simp; omega) (by simp; omega) (by simp; omega) ?_ q
  have b : Builtin.Int.intBits i ≤ i.natAbs.log2 + 1 := by
    unfold Builtin.Int.intBits
    split <;> omega
  have e : bitsLine = 134217728 := by decide
  unfold Builtin.Int.intTooBig
  intro z
  have z2 := of_decide_eq_true z
  rw [e] at z2
  have h5 : ((Builtin.Int.intBits i : Nat) : Int) * j ≤ 10001 * 1000 := by
    have l1 : ((Builtin.Int.intBits i : Nat) : Int) ≤ 10001 := by omega
    have l0 : (0 : Int) ≤ ((Builtin.Int.intBits i : Nat) : Int) := Int.natCast_nonneg _
    exact Int.mul_le_mul l1 h2 (by omega) (by omega)
  omega
theorem op_pow : OpR X (binaryOp .Pow) (OpD X.K powD) := opd_int op_powG fun x y z h => by
  cases x <;> cases y <;> simp only [powD, reduceCtorEq] at h
  split at h
  · rename_i hc
    cases h
    exact ⟨_, _, rfl, rfl, .inl ⟨_, rfl, fun H Q q => ⟨_, _, rfl, rfl, hc, q⟩⟩⟩
  · cases h
theorem op_lt : OpR X (compareOp .Lt) (OpD X.K ltD) := opd_int L2.op_lt fun x y z h => by
  cases x <;> cases y <;> simp only [ltD, Option.some.injEq, reduceCtorEq] at h
  exact ⟨_, _, rfl, rfl, .inr ⟨_, h.symm, fun H Q q => ⟨_, _, rfl, rfl, q⟩⟩⟩
theorem op_le : OpR X (compareOp .LtE) (OpD X.K leD) := opd_int L2.op_le fun x y z h => by
  cases x <;> cases y <;> simp only [leD, Option.some.injEq, reduceCtorEq] at h
  exact ⟨_, _, rfl, rfl, .inr ⟨_, h.symm, fun H Q q => ⟨_, _, rfl, rfl, q⟩⟩⟩
theorem op_gt : OpR X (compareOp .Gt) (OpD X.K gtD) := opd_int L2.op_gt fun x y z h => by
  cases x <;> cases y <;> simp only [gtD, Option.some.injEq, reduceCtorEq] at h
  exact ⟨_, _, rfl, rfl, .inr ⟨_, h.symm, fun H Q q => ⟨_, _, rfl, rfl, q⟩⟩⟩
theorem op_ge : OpR X (compareOp .GtE) (OpD X.K geD) := opd_int L2.op_ge fun x y z h => by
  cases x <;> cases y <;> simp only [geD, Option.some.injEq, reduceCtorEq] at h
  exact ⟨_, _, rfl, rfl, .inr ⟨_, h.symm, fun H Q q => ⟨_, _, rfl, rfl, q⟩⟩⟩
theorem Tm.ref' {K : PySem.W.Frag} {H : Hp} {M : Gh} {v : V} {d : D} (h : Tm K H M v d) (hd : scV d = none) : ∃ a, v = .ref a := by
  rcases h with h | ⟨a, xs, ds, h, _⟩ | ⟨a, xs, ds, h, _⟩
  · cases h <;> first | exact ⟨_, rfl⟩ | cases hd
  · exact ⟨a, h⟩
  · exact ⟨a, h⟩
theorem op_is : OpR X (compareOp .Is) (OpD X.K isND) := by
  intro pins s σ H x y v u Q I rx ry ⟨M, dx, dy, z, dom, tx, ty, hz, q⟩
  cases dy <;> simp only [isND, Option.some.injEq, reduceCtorEq] at hz
  have e2 := ty.sc (w := .non) rfl
  subst e2
  subst hz
  refine op_isN pins s σ H x _ v u Q I rx ry ⟨rfl, ?_⟩
  have e : nonB dx = decide (x = V.non) := by
    cases hd : scV dx with
    | some w =>
      have e3 := tx.sc hd
      subst e3
      cases dx <;> first | (cases hd; rfl) | cases hd
    | none =>
      obtain ⟨a, rfl⟩ := tx.ref' hd
      cases dx <;> first | rfl | cases hd
  rw [← e]
  exact q _ H (Same.refl H) .bl
theorem op_isnot : OpR X (compareOp .IsNot) (OpD X.K notND) := by
  intro pins s σ H x y v u Q I rx ry ⟨M, dx, dy, z, dom, tx, ty, hz, q⟩
  cases dy <;> simp only [notND, Option.some.injEq, reduceCtorEq] at hz
  have e2 := ty.sc (w := .non) rfl
  subst e2
  subst hz
  refine op_notN pins s σ H x _ v u Q I rx ry ⟨rfl, ?_⟩
  have e : (!nonB dx) = !decide (x = V.non) := by
    cases hd : scV dx with
    | some w =>
      have e3 := tx.sc hd
      subst e3
      cases dx <;> first | (cases hd; rfl) | cases hd
    | none =>
      obtain ⟨a, rfl⟩ := tx.ref' hd
      cases dx <;> first | rfl | cases hd
  rw [← e]
  exact q _ H (Same.refl H) .bl
theorem un_neg' : UnR X (unaryOp .USub) (UnD X.K negD) := by
  intro pins s σ H x v Q I rx ⟨M, dx, z, dom, tx, hz, q⟩
  cases dx <;> simp only [negD, Option.some.injEq, reduceCtorEq] at hz
  have e := tx.sc (w := .int _) rfl
  subst e
  subst hz
  exact un_neg pins s σ H _ v Q I rx ⟨_, rfl, q _ H (Same.refl H) .int⟩
end
end DD

set_option Elab.async false
set_option linter.all false
set_option maxRecDepth 100000
set_option maxHeartbeats 4000000
namespace DD
open PySem PySem.Spec L2

section
variable {K : PySem.W.Frag} {H H' : Hp} {M M' : Gh}
theorem TmL.one {xs : List V} {d : D} (h : TmL K H M xs [d]) : ∃ v, xs = [v] ∧ Tm K H M v d := by
  cases h with
  | cons r t => cases t; exact ⟨_, rfl, r⟩
theorem TmL.two {xs : List V} {d e : D} (h : TmL K H M xs [d, e]) : ∃ v w, xs = [v, w] ∧ Tm K H M v d ∧ Tm K H M w e := by
  cases h with
  | cons r t => cases t with
    | cons r2 t => cases t; exact ⟨_, _, rfl, r, r2⟩
theorem rd_lst {a : Addr} {xs : List V} (h : SqL K H a xs) : SqL K H a xs := h
end

/-! ### + -/
def addD : D → D → Option D
  | .int i, .int j => some (.int (i + j))
  | .str x, .str y => if x.length + y.length ≤ 16777216 then some (.str (x ++ y)) else none
  | .tup xs, .tup ys => if xs.length + ys.length ≤ 1000000 then some (.tup (xs ++ ys)) else none
  | _, _ => none
theorem strOk_app {x y : Str} (h : PyData.strOk x = true) (k : PyData.strOk y = true) : PyData.strOk (x ++ y) = true := by
  have h1 : x.cps.all (· < 0x110000) = true := h
  have h2 : y.cps.all (· < 0x110000) = true := k
  show (x.cps ++ y.cps).all (· < 0x110000) = true
  rw [Array.all_append, h1, h2]; rfl
section
variable {X : Cx}
theorem op_add : OpR X (binaryOp .Add) (OpD X.K addD) := by
  intro pins s σ H x y v u Q I rx ry ⟨M, dx, dy, z, dom, tx, ty, hz, q⟩
  cases dx <;> cases dy <;> simp only [addD, reduceCtorEq] at hz
  · have e1 := tx.sc (w := .int _) rfl
    have e2 := ty.sc (w := .int _) rfl
    subst e1 e2
    cases hz
    exact L2.op_add pins s σ H _ _ v u Q I rx ry ⟨_, _, rfl, rfl, q _ H (Same.refl H) .int⟩
  · have o1 := tx.str
    have o2 := ty.str
    have e1 := tx.sc (w := .str _) rfl
    have e2 := ty.sc (w := .str _) rfl
    subst e1 e2
    split at hz
    · rename_i hc
      cases hz
      exact op_add_str pins s σ H _ _ v u Q I rx ry ⟨_, _, rfl, rfl, by rw [sizeLine_eq]; exact hc, q _ H (Same.refl H) (.str (strOk_app o1 o2))⟩
    · cases hz
  · obtain ⟨a, xs, rfl, ha, r1⟩ := tx.tup
    obtain ⟨b, ys, rfl, hb, r2⟩ := ty.tup
    split at hz
    · rename_i hc
      cases hz
      refine op_catA pins s σ H _ _ v u Q I rx ry ⟨a, b, xs, ys, rfl, rfl, ha, hb, by rw [r1.length, r2.length]; exact sz_million hc, fun e => ?_, fun _ e => ?_, fun _ _ p n => ?_⟩
      · subst e
        cases r1
        refine q _ H (Same.refl H) ?_
        rcases ty with ty | ⟨_, _, _, _, e, _⟩ | ⟨_, _, _, _, e, _⟩
        · exact ty
        · cases e
        · cases e
      · subst e
        cases r2
        rw [List.append_nil] at q
        refine q _ H (Same.refl H) ?_
        rcases tx with tx | ⟨_, _, _, _, e, _⟩ | ⟨_, _, _, _, e, _⟩
        · exact tx
        · cases e
        · cases e
      · exact q _ _ (Same.new n) (Im.newTup dom n (r1.append r2))
    · cases hz

/-! ### * of a text, of a list -/
def repD : D → D → Option D
  | .int i, .int j => mulI (.int i) (.int j)
  | .str x, .int n => if 2 ≤ n ∧ n ≤ 1000 ∧ 1 ≤ x.length ∧ x.length ≤ 1000 then some (.str ⟨(List.replicate n.toNat x.cps).foldl (· ++ ·) #[]⟩) else if n = 1 then some (.str x) else none
  | _, _ => none
theorem strOk_rep {x : Str} (h : PyData.strOk x = true) (n : Nat) : PyData.strOk ⟨(List.replicate n x.cps).foldl (· ++ ·) #[]⟩ = true := by
  have h1 : x.cps.all (· < 0x110000) = true := h
  have key : ∀ (n : Nat) (acc : Array Nat), acc.all (· < 0x110000) = true → ((List.replicate n x.cps).foldl (· ++ ·) acc).all (· < 0x110000) = true := by
    intro n
    induction n with
    | zero => intro acc ha; exact ha
    | succ n ih => intro acc ha; exact ih _ (by rw [Array.all_append, ha, h1]; rfl)
  exact key n #[] (by simp)

/-! ### len -/
def lenD : List D → Option D
  | [.str x] => if x.length ≤ 16777216 then some (.int x.length) else none
  | [.lst xs] => some (.int xs.length)
  | [.tup xs] => some (.int xs.length)
  | _ => none
theorem call_lenD : CallR X (.builtin "len") (CallD X.K lenD) := by
  intro pins s σ H xs us Q I r ⟨M, ds, z, dom, t, hz, q⟩
  unfold lenD at hz
  split at hz
  · obtain ⟨v, rfl, t1⟩ := t.one
    have e1 := t1.sc (w := .str _) rfl
    subst e1
    split at hz
    · rename_i hc
      cases hz
      exact call_len_str pins s σ H _ us Q I r ⟨_, rfl, by rw [sizeLine_eq]; exact hc, q _ H (Same.refl H) .int⟩
    · cases hz
  · obtain ⟨v, rfl, t1⟩ := t.one
    obtain ⟨a, xs, rfl, ha, r1⟩ := t1.lst
    cases hz
    refine call_len_seq pins s σ H _ us Q I r ⟨a, xs, rfl, .inl (rd_lst ha), ?_⟩
    rw [r1.length]
    exact q _ H (Same.refl H) .int
  · obtain ⟨v, rfl, t1⟩ := t.one
    obtain ⟨a, xs, rfl, ha, r1⟩ := t1.tup
    cases hz
    refine call_len_seq pins s σ H _ us Q I r ⟨a, xs, rfl, .inr ha, ?_⟩
    rw [r1.length]
    exact q _ H (Same.refl H) .int
  · cases hz

/-! ### subscripts -/
def ixD : D → D → Option D
  | .lst xs, .int i => atI xs i
  | .tup xs, .int i => atI xs i
  | .str z, .int i => if z.length ≤ 16777216 then (atI z.cps.toList i).map fun c => .str ⟨#[c]⟩ else none
  | _, _ => none
theorem at_im {K : PySem.W.Frag} {H : Hp} {M : Gh} {xs : List V} {ds : List D} {i : Int} {d : D} (r : ImL K H M xs ds) (h : atI ds i = some d) : ∃ v, atI xs i = some v ∧ Im K H M v d := by
  unfold atI at h ⊢
  rw [r.length]
  cases e : ixN ds.length i with
  | none => rw [e] at h; cases h
  | some j =>
    rw [e] at h
    exact r.get h
theorem ix_any : IxR X (OpD X.K ixD) := by
  intro value slice pins s σ H x y v u Q I rx ry ⟨M, dx, dy, z, dom, tx, ty, hz, q⟩ hs
  cases dx <;> cases dy <;> simp only [ixD, reduceCtorEq] at hz
  · have o1 := tx.str
    have e1 := tx.sc (w := .str _) rfl
    have e2 := ty.sc (w := .int _) rfl
    subst e1 e2
    split at hz
    · rename_i hc
      cases e : atI (Array.toList (Str.cps _)) _ with
      | none => rw [e] at hz; cases hz
      | some c =>
        rw [e] at hz
        cases hz
        refine ix_str value slice pins s σ H _ _ v u Q I rx ry ⟨_, _, c, rfl, rfl, by rw [sizeLine_eq]; exact hc, e, q _ H (Same.refl H) (.str ?_)⟩ hs
        unfold atI at e
        cases e2 : ixN (Array.toList (Str.cps _)).length _ with
        | none => rw [e2] at e; cases e
        | some j =>
          rw [e2] at e
          have e3 : (Array.toList (Str.cps _))[j]? = some c := e
          rw [Array.getElem?_toList] at e3
          exact strOk_one o1 e3
    · cases hz
  · obtain ⟨a, xs, rfl, ha, r1⟩ := tx.tup
    have e2 := ty.sc (w := .int _) rfl
    subst e2
    obtain ⟨w, hw, im⟩ := at_im r1 hz
    exact ix_tup value slice pins s σ H _ _ v u Q I rx ry ⟨a, xs, _, w, rfl, rfl, ha, hw, q _ H (Same.refl H) im⟩ hs
  · obtain ⟨a, xs, rfl, ha, r1⟩ := tx.lst
    have e2 := ty.sc (w := .int _) rfl
    subst e2
    obtain ⟨w, hw, im⟩ := at_im r1 hz
    exact ix_list value slice pins s σ H _ _ v u Q I rx ry ⟨a, xs, _, w, rfl, rfl, rd_lst ha, hw, q _ H (Same.refl H) im⟩ hs

/-! ### in, not in -/
def inS (x : Str) (z : Str) : Option Bool := match x.cps.toList with
  | [c] => some (decide (c ∈ z.cps.toList))
  | _ => none
def flatD : D → Bool
  | .non => true
  | .bl _ => true
  | .int _ => true
  | .str _ => true
  | _ => false
def inD : D → D → Option D
  | .str x, .str z => (inS x z).map .bl
  | x, .lst ys => if pl 49 x = true ∧ pl 50 (.lst ys) = true then some (.bl (ys.any fun y => beq 49 y x)) else none
  | x, .tup ys => if flatD x = true ∧ ys.all flatD = true then some (.bl (ys.any fun y => beq 49 y x)) else none
  | _, _ => none
def notInD (x y : D) : Option D := match inD x y with
  | some (.bl b) => some (.bl (!b))
  | _ => none
theorem any_eqv {ys : List D} {x : D} (h : ys.all (pl 49) = true) (hx : pl 49 x = true) : ((ys.map (pyD 49)).any fun z => PyData.eqv z (pyD 49 x)) = ys.any fun y => beq 49 y x := by
  induction ys with
  | nil => rfl
  | cons y r ih =>
    rw [List.all_cons, Bool.and_eq_true] at h
    rw [List.map_cons, List.any_cons, List.any_cons, ih h.2, eqv_beq 49 y x h.1 hx]
theorem one_str {x : Str} {c : Nat} (h : x.cps.toList = [c]) : x = ⟨#[c]⟩ := by
  obtain ⟨a⟩ := x
  congr 1
  exact Array.toList_inj.mp h
theorem flat_v {K : PySem.W.Frag} {H : Hp} {M : Gh} {v : V} {d : D} (im : Im K H M v d) (h : flatD d = true) : flatV v = true := by
  cases im <;> first | rfl | cases h
theorem flat_eq {K : PySem.W.Frag} {H : Hp} {M : Gh} {v w : V} {d e : D} (i1 : Im K H M v d) (i2 : Im K H M w e) (h1 : flatD d = true) (h2 : flatD e = true) : eqV v w = beq 49 d e := by
  cases i1 <;> first | (cases h1; done) | skip
  all_goals cases i2 <;> first | (cases h2; done) | skip
  all_goals first | rfl | (simp [eqV, beq]; done) | skip

theorem inV_of {K : PySem.W.Frag} {H : Hp} {M : Gh} {v : V} {d : D} (i1 : Im K H M v d) (h1 : flatD d = true) : ∀ {xs : List V} {ds : List D}, ImL K H M xs ds → ds.all flatD = true → xs.all flatV = true ∧ inV v xs = ds.any fun y => beq 49 y d
  | _, _, .nil, _ => ⟨rfl, rfl⟩
  | _, _, .cons im r, h => by
    rw [List.all_cons, Bool.and_eq_true] at h
    obtain ⟨a, b⟩ := inV_of i1 h1 r h.2
    refine ⟨by rw [List.all_cons, flat_v im h.1, a]; rfl, ?_⟩
    unfold inV at b ⊢
    rw [List.any_cons, List.any_cons, b, flat_eq im i1 h.1 h1]
theorem Tm.im {K : PySem.W.Frag} {H : Hp} {M : Gh} {v : V} {d : D} (t : Tm K H M v d) (h : flatD d = true) : Im K H M v d := by
  rcases t with t | ⟨_, _, _, _, e, _⟩ | ⟨_, _, _, _, e, _⟩
  · exact t
  · subst e; cases h
  · subst e; cases h
/-- in, and its contrary, by what it answers -/
theorem in_ops (hu : X.A.units + 65 < cLine) {pins : List (Addr × Obj)} {s : Shared} {σ : St} {H : Hp} {x y : V} {v u : Value} {b : Bool} {M : Gh} {dx dy : D} (I : Inv X pins σ H s) (rx : RelV x v) (ry : RelV y u) (tx : Tm X.K H M x dx) (ty : Tm X.K H M y dy) (hz : inD dx dy = some (.bl b)) :
    (∀ Q : VK, Q (.bl b) H → wpAny (model X.prog X.w) X.A (compareOp .In v u) (EP X pins σ Q) X.xe s) ∧ (∀ Q : VK, Q (.bl (!b)) H → wpAny (model X.prog X.w) X.A (compareOp .NotIn v u) (EP X pins σ Q) X.xe s) := by
  have lst : ∀ {x : V} {dx : D} {ys : List D} {v : Value}, RelV x v → Tm X.K H M x dx → Tm X.K H M y (.lst ys) → (if pl 49 dx = true ∧ pl 50 (.lst ys) = true then some (D.bl (ys.any fun y => beq 49 y dx)) else none) = some (.bl b) →
      (∀ Q : VK, Q (.bl b) H → wpAny (model X.prog X.w) X.A (compareOp .In v u) (EP X pins σ Q) X.xe s) ∧ (∀ Q : VK, Q (.bl (!b)) H → wpAny (model X.prog X.w) X.A (compareOp .NotIn v u) (EP X pins σ Q) X.xe s) := by
    intro x dx ys v rx tx ty hz
    split at hz
    · rename_i hp
      cases hz
      obtain ⟨a1, a2⟩ := dp_tm tx hp.1
      obtain ⟨b1, b2⟩ := dp_tm ty hp.2
      have hall : ys.all (pl 49) = true := by simpa only [pl] using hp.2
      have e := any_eqv hall hp.1
      have s1 := shaped_of (by decide) a2
      have s2 := shaped_of (by decide) b2
      refine ⟨fun Q q => op_inD hu pins s σ H x y v u Q I rx ry ⟨_, _, a1, b1, s1, s2, ?_⟩, fun Q q => op_notInD hu pins s σ H x y v u Q I rx ry ⟨_, _, a1, b1, s1, s2, ?_⟩⟩
      · rw [e]; exact q
      · rw [e]; exact q
    · cases hz
  have tup : ∀ {x : V} {dx : D} {ys : List D} {v : Value}, RelV x v → Tm X.K H M x dx → Tm X.K H M y (.tup ys) → (if flatD dx = true ∧ ys.all flatD = true then some (D.bl (ys.any fun y => beq 49 y dx)) else none) = some (.bl b) →
      (∀ Q : VK, Q (.bl b) H → wpAny (model X.prog X.w) X.A (compareOp .In v u) (EP X pins σ Q) X.xe s) ∧ (∀ Q : VK, Q (.bl (!b)) H → wpAny (model X.prog X.w) X.A (compareOp .NotIn v u) (EP X pins σ Q) X.xe s) := by
    intro x dx ys v rx tx ty hz
    split at hz
    · rename_i hp
      cases hz
      obtain ⟨a, xs, rfl, ha, r1⟩ := ty.tup
      have im := tx.im hp.1
      obtain ⟨e1, e2⟩ := inV_of im hp.1 r1 hp.2
      refine ⟨fun Q q => op_in_seq pins s σ H x _ v u Q I rx ry ⟨a, xs, rfl, .inr ha, flat_v im hp.1, e1, ?_⟩, fun Q q => op_notIn_seq pins s σ H x _ v u Q I rx ry ⟨a, xs, rfl, .inr ha, flat_v im hp.1, e1, ?_⟩⟩
      · rw [e2]; exact q
      · rw [e2]; exact q
    · cases hz
  cases dy with
  | lst ys => cases dx <;> exact lst rx tx ty hz
  | tup ys => cases dx <;> exact tup rx tx ty hz
  | str z =>
    cases dx <;> simp only [inD, reduceCtorEq] at hz
    rename_i x0
    have e1 := tx.sc (w := .str _) rfl
    have e2 := ty.sc (w := .str _) rfl
    subst e1 e2
    cases e : inS x0 z with
    | none => rw [e] at hz; cases hz
    | some bb =>
      rw [e] at hz
      cases hz
      unfold inS at e
      split at e
      · rename_i c hc
        have ex := one_str hc
        subst ex
        cases e
        refine ⟨fun Q q => op_in_sign pins s σ H _ _ v u Q I rx ry ⟨_, _, rfl, rfl, q⟩, fun Q q => op_notIn_str pins s σ H _ _ v u Q I rx ry ⟨_, _, rfl, rfl, ?_⟩⟩
        have e3 := (PySem.StrLaws.found_one z c).symm
        rw [e3] at q
        exact q
      · cases e
  | _ => cases dx <;> simp only [inD, reduceCtorEq] at hz
theorem in_bl {x y z : D} (h : inD x y = some z) : ∃ b, z = .bl b := by
  cases y with
  | lst ys => cases x <;> (simp only [inD] at h; split at h <;> cases h; exact ⟨_, rfl⟩)
  | tup ys => cases x <;> (simp only [inD] at h; split at h <;> cases h; exact ⟨_, rfl⟩)
  | str z =>
    cases x <;> simp only [inD, reduceCtorEq] at h
    rename_i x0
    cases e : inS x0 z with
    | none => rw [e] at h; cases h
    | some bb => rw [e] at h; cases h; exact ⟨_, rfl⟩
  | _ => cases x <;> simp only [inD, reduceCtorEq] at h
theorem op_in (hu : X.A.units + 65 < cLine) : OpR X (compareOp .In) (OpD X.K inD) := by
  intro pins s σ H x y v u Q I rx ry ⟨M, dx, dy, z, dom, tx, ty, hz, q⟩
  obtain ⟨b, rfl⟩ := in_bl hz
  exact (in_ops hu I rx ry tx ty hz).1 Q (q _ H (Same.refl H) .bl)
theorem op_notin (hu : X.A.units + 65 < cLine) : OpR X (compareOp .NotIn) (OpD X.K notInD) := by
  intro pins s σ H x y v u Q I rx ry ⟨M, dx, dy, z, dom, tx, ty, hz, q⟩
  unfold notInD at hz
  split at hz
  · rename_i b hb
    cases hz
    exact (in_ops hu I rx ry tx ty hb).2 Q (q _ H (Same.refl H) .bl)
  · cases hz

/-! ### slices -/
def cutD {α : Type} (xs : List α) (lo hi : Option Int) : List α := (xs.drop (HT.sIx xs.length 0 lo)).take (HT.sIx xs.length xs.length hi - HT.sIx xs.length 0 lo)
def slD : D → Option Int → Option Int → Option D
  | .lst xs, lo, hi => some (.lst (cutD xs lo hi))
  | .tup xs, lo, hi => some (.tup (cutD xs lo hi))
  | .str z, lo, hi => if z.length ≤ 16777216 then some (.str (cutS z lo hi)) else none
  | _, _, _ => none
def SlD (K : PySem.W.Frag) (g : D → Option Int → Option Int → Option D) : V → Option Int → Option Int → Hp → VK → Prop := fun x lo hi H Q => ∃ M dx z, Dom M H ∧ Tm K H M x dx ∧ g dx lo hi = some z ∧ ∀ v H', Same H H' → Im K H' M v z → Q v H'
theorem cut_im {K : PySem.W.Frag} {H : Hp} {M : Gh} {xs : List V} {ds : List D} (lo hi : Option Int) (r : ImL K H M xs ds) : ImL K H M (cutV xs lo hi) (cutD ds lo hi) := by
  unfold cutV cutD
  rw [r.length]
  exact (r.drop _).take _
theorem cut_all {K : PySem.W.Frag} {H : Hp} {M : Gh} {xs : List V} {ds : List D} (lo hi : Option Int) (r : ImL K H M xs ds) (h : HT.sIx xs.length 0 lo = 0 ∧ HT.sIx xs.length xs.length hi = xs.length) : cutD ds lo hi = ds := by
  unfold cutD
  rw [← r.length, h.1, h.2, List.drop_zero, Nat.sub_zero, List.take_of_length_le (by rw [r.length]; exact Nat.le_refl _)]
theorem strOk_cut {z : Str} (h : PyData.strOk z = true) (lo hi : Option Int) : PyData.strOk (cutS z lo hi) = true := by
  have h1 : z.cps.all (· < 0x110000) = true := h
  rw [Array.all_eq_true'] at h1
  show (((z.cps.toList.drop _).take _).toArray).all (· < 0x110000) = true
  rw [Array.all_eq_true']
  intro c hc
  have h2 : c ∈ (z.cps.toList.drop (HT.sIx z.length 0 lo)).take (HT.sIx z.length z.length hi - HT.sIx z.length 0 lo) := by simpa using hc
  have h3 := List.mem_of_mem_drop (List.mem_of_mem_take h2)
  exact h1 c (by simpa using h3)
theorem sl_any : SlR X (SlD X.K slD) := by
  intro pins s σ H x v vl vu lo hi sl Q I rx hs pl pu ⟨M, dx, z, dom, tx, hz, q⟩
  cases dx <;> simp only [slD, reduceCtorEq] at hz
  · have o1 := tx.str
    have e1 := tx.sc (w := .str _) rfl
    subst e1
    split at hz
    · rename_i hc
      cases hz
      exact sl_str pins s σ H _ v vl vu lo hi sl Q I rx hs pl pu ⟨_, rfl, by rw [sizeLine_eq]; exact hc, q _ H (Same.refl H) (.str (strOk_cut o1 lo hi))⟩
    · cases hz
  · obtain ⟨a, xs, rfl, ha, r1⟩ := tx.tup
    cases hz
    refine sl_tupA pins s σ H _ v vl vu lo hi sl Q I rx hs pl pu ⟨a, xs, rfl, ha, fun h => ?_, fun _ p n => q _ _ (Same.new n) (Im.newTup dom n (cut_im lo hi r1))⟩
    rw [cut_all lo hi r1 h] at q
    refine q _ H (Same.refl H) ?_
    rcases tx with tx | ⟨_, _, _, _, e, _⟩ | ⟨_, _, _, _, e, _⟩
    · exact tx
    · cases e
    · cases e
  · obtain ⟨a, xs, rfl, ha, r1⟩ := tx.lst
    cases hz
    exact sl_list pins s σ H _ v vl vu lo hi sl Q I rx hs pl pu ⟨a, xs, rfl, rd_lst ha, fun p n => q _ _ (Same.new n) (Im.newLst dom n (cut_im lo hi r1))⟩

/-! ### list(x), tuple(x), int(x), abs, max, min -/
def listD : List D → Option D
  | [.lst xs] => some (.lst xs)
  | [.tup xs] => some (.lst xs)
  | _ => none
def tupleD : List D → Option D
  | [.lst xs] => some (.tup xs)
  | [.tup xs] => some (.tup xs)
  | _ => none
theorem call_tupleD : CallR X (.type "tuple") (CallD X.K tupleD) := by
  intro pins s σ H xs us Q I r ⟨M, ds, z, dom, t, hz, q⟩
  unfold tupleD at hz
  split at hz
  · obtain ⟨v, rfl, t1⟩ := t.one
    obtain ⟨a, xs, rfl, ha, r1⟩ := t1.lst
    cases hz
    exact call_tuple_of pins s σ H _ us Q I r ⟨a, xs, rfl, .inl ⟨rd_lst ha, fun l n => q _ _ (Same.new n) (Im.newTup dom n r1)⟩⟩
  · obtain ⟨v, rfl, t1⟩ := t.one
    obtain ⟨a, xs, rfl, ha, r1⟩ := t1.tup
    cases hz
    refine call_tuple_of pins s σ H _ us Q I r ⟨a, xs, rfl, .inr ⟨ha, q _ H (Same.refl H) ?_⟩⟩
    rcases t1 with t1 | ⟨_, _, _, _, e, _⟩ | ⟨_, _, _, _, e, _⟩
    · exact t1
    · cases e
    · cases e
  · cases hz
theorem call_listD : CallR X (.type "list") (CallD X.K listD) := by
  intro pins s σ H xs us Q I r ⟨M, ds, z, dom, t, hz, q⟩
  unfold listD at hz
  split at hz
  · obtain ⟨v, rfl, t1⟩ := t.one
    obtain ⟨a, xs, rfl, ha, r1⟩ := t1.lst
    cases hz
    exact call_list_of pins s σ H _ us Q I r ⟨a, xs, rfl, .inl (rd_lst ha), fun l n => q _ _ (Same.new n) (Im.newLst dom n r1)⟩
  · obtain ⟨v, rfl, t1⟩ := t.one
    obtain ⟨a, xs, rfl, ha, r1⟩ := t1.tup
    cases hz
    exact call_list_of pins s σ H _ us Q I r ⟨a, xs, rfl, .inr ha, fun l n => q _ _ (Same.new n) (Im.newLst dom n r1)⟩
  · cases hz
def intD : List D → Option D
  | [.int i] => some (.int i)
  | [.bl b] => some (.int (if b then 1 else 0))
  | _ => none
theorem call_intD : CallR X (.type "int") (CallD X.K intD) := by
  intro pins s σ H xs us Q I r ⟨M, ds, z, dom, t, hz, q⟩
  unfold intD at hz
  split at hz
  · obtain ⟨v, rfl, t1⟩ := t.one
    have e1 := t1.sc (w := .int _) rfl
    subst e1
    cases hz
    exact call_int1 pins s σ H _ us Q I r (.inl ⟨_, rfl, q _ H (Same.refl H) .int⟩)
  · obtain ⟨v, rfl, t1⟩ := t.one
    have e1 := t1.sc (w := .bl _) rfl
    subst e1
    cases hz
    exact call_int1 pins s σ H _ us Q I r (.inr ⟨_, rfl, q _ H (Same.refl H) .int⟩)
  · cases hz
def absD : List D → Option D
  | [.int i] => some (.int (if i < 0 then -i else i))
  | _ => none
theorem call_absD : CallR X (.builtin "abs") (CallD X.K absD) := by
  intro pins s σ H xs us Q I r ⟨M, ds, z, dom, t, hz, q⟩
  unfold absD at hz
  split at hz
  · obtain ⟨v, rfl, t1⟩ := t.one
    have e1 := t1.sc (w := .int _) rfl
    subst e1
    cases hz
    exact call_abs pins s σ H _ us Q I r ⟨_, rfl, q _ H (Same.refl H) .int⟩
  · cases hz
def maxD : List D → Option D
  | [.int i, .int j] => some (.int (if j > i then j else i))
  | _ => none
def minD : List D → Option D
  | [.int i, .int j] => some (.int (if j < i then j else i))
  | _ => none
theorem call_maxD (hc : X.calm = true) : CallR X (.builtin "max") (CallD X.K maxD) := by
  intro pins s σ H xs us Q I r ⟨M, ds, z, dom, t, hz, q⟩
  unfold maxD at hz
  split at hz
  · obtain ⟨v, w, rfl, t1, t2⟩ := t.two
    have e1 := t1.sc (w := .int _) rfl
    have e2 := t2.sc (w := .int _) rfl
    subst e1 e2
    cases hz
    exact call_max2 hc pins s σ H _ us Q I r ⟨_, _, rfl, q _ H (Same.refl H) .int⟩
  · cases hz
theorem call_minD (hc : X.calm = true) : CallR X (.builtin "min") (CallD X.K minD) := by
  intro pins s σ H xs us Q I r ⟨M, ds, z, dom, t, hz, q⟩
  unfold minD at hz
  split at hz
  · obtain ⟨v, w, rfl, t1, t2⟩ := t.two
    have e1 := t1.sc (w := .int _) rfl
    have e2 := t2.sc (w := .int _) rfl
    subst e1 e2
    cases hz
    exact call_min2 hc pins s σ H _ us Q I r ⟨_, _, rfl, q _ H (Same.refl H) .int⟩
  · cases hz

/-! ### all, any of bools -/
def blsD : List D → Option (List Bool)
  | [] => some []
  | .bl b :: r => (blsD r).map (b :: ·)
  | _ => none
def allD : List D → Option D
  | [.lst xs] => (blsD xs).map fun bs => .bl (bs.all id)
  | _ => none
def anyD : List D → Option D
  | [.lst xs] => (blsD xs).map fun bs => .bl (bs.any id)
  | _ => none
theorem bls_of {K : PySem.W.Frag} {H : Hp} {M : Gh} : ∀ {xs : List V} {ds : List D} {us : List Value} {bs : List Bool}, ImL K H M xs ds → Vals xs us → blsD ds = some bs → PyProof.Rows.LSm.BoolsAre us bs
  | _, _, _, _, .nil, .nil, h => by simp [blsD] at h; subst h; exact .nil
  | _, _, _, bs, .cons (d := d) im t, .cons r rr, h => by
    cases d <;> simp only [blsD, reduceCtorEq, Option.map_eq_some_iff] at h
    obtain ⟨b2, h1, h2⟩ := h
    subst h2
    have e := bls_of t rr h1
    cases im
    have e2 : _ = _ := r
    subst e2
    exact .cons _ e
theorem call_allD (hc : X.calm = true) : CallR X (.builtin "all") (CallD X.K allD) := by
  intro pins s σ H xs us Q I r ⟨M, ds, z, dom, t, hz, q⟩
  unfold allD at hz
  split at hz
  · obtain ⟨v, rfl, t1⟩ := t.one
    obtain ⟨l, vs, rfl, ha, r1⟩ := t1.lst
    obtain ⟨u, rfl, rx⟩ := vals1 r
    cases rx
    obtain ⟨its, rv, pl, hz2⟩ := I.list (rd_lst ha)
    rw [Option.map_eq_some_iff] at hz
    obtain ⟨bs, hb, e⟩ := hz
    subst e
    have ei := bls_of r1 rv hb
    have hl := pl.isList
    have hlt : l < s.heap.objs.size := by obtain ⟨_, e, _⟩ := hl; exact Heap.lt_size e
    refine call_all_walk (wpAny_pyIter_list hl ?_)
    refine ⟨s.heap.objs.size, [s.heap.objs.size, l], [s.heap.objs.size], its.toArray.size, _, _, fun i => (bs[i]?).getD true, rfl, Walks.list (A := X.A.in1) (I.ok.hd hc) _ l (Nat.ne_of_lt hlt) its.toArray,
      ⟨⟨_, Heap.get?_push_size _ rfl, rfl, rfl⟩, hl.push _⟩, fun i v s' Q' E' hP hQ => ?_, fun h' tk hk => ?_⟩
    · obtain ⟨b, e, rfl⟩ := ei.get i v (by simpa using hP)
      simp only [e, Option.getD_some] at hQ
      exact wpAny_truthy_bool hQ
    · have e : ((List.range its.toArray.size).all fun i => (bs[i]?).getD true) = bs.all id := by
        rw [List.size_toArray, ei.length]; exact PyProof.Rows.LSm.range_all bs
      rw [e]
      exact ⟨.bl _, H, I.kept (t' := tk) (PyProof.Rows.LSm.kept_iter hk), rfl, q _ H (Same.refl H) .bl⟩
  · cases hz
theorem call_anyD (hc : X.calm = true) : CallR X (.builtin "any") (CallD X.K anyD) := by
  intro pins s σ H xs us Q I r ⟨M, ds, z, dom, t, hz, q⟩
  unfold anyD at hz
  split at hz
  · obtain ⟨v, rfl, t1⟩ := t.one
    obtain ⟨l, vs, rfl, ha, r1⟩ := t1.lst
    obtain ⟨u, rfl, rx⟩ := vals1 r
    cases rx
    obtain ⟨its, rv, pl, hz2⟩ := I.list (rd_lst ha)
    rw [Option.map_eq_some_iff] at hz
    obtain ⟨bs, hb, e⟩ := hz
    subst e
    have ei := bls_of r1 rv hb
    have hl := pl.isList
    have hlt : l < s.heap.objs.size := by obtain ⟨_, e, _⟩ := hl; exact Heap.lt_size e
    refine call_any_walk (wpAny_pyIter_list hl ?_)
    refine ⟨s.heap.objs.size, [s.heap.objs.size, l], [s.heap.objs.size], its.toArray.size, _, _, fun i => (bs[i]?).getD false, rfl, Walks.list (A := X.A.in1) (I.ok.hd hc) _ l (Nat.ne_of_lt hlt) its.toArray,
      ⟨⟨_, Heap.get?_push_size _ rfl, rfl, rfl⟩, hl.push _⟩, fun i v s' Q' E' hP hQ => ?_, fun h' tk hk => ?_⟩
    · obtain ⟨b, e, rfl⟩ := ei.get i v (by simpa using hP)
      simp only [e, Option.getD_some] at hQ
      exact wpAny_truthy_bool hQ
    · have e : ((List.range its.toArray.size).any fun i => (bs[i]?).getD false) = bs.any id := by
        rw [List.size_toArray, ei.length]; exact PyProof.Rows.LSm.range_any bs
      rw [e]
      exact ⟨.bl _, H, I.kept (t' := tk) (PyProof.Rows.LSm.kept_iter hk), rfl, q _ H (Same.refl H) .bl⟩
  · cases hz
/-! ### text * int -/
theorem op_rep : OpR X (binaryOp .Mult) (OpD X.K repD) := by
  intro pins s σ H x y v u Q I rx ry ⟨M, dx, dy, z, dom, tx, ty, hz, q⟩
  cases dx <;> cases dy <;> simp only [repD, reduceCtorEq] at hz
  · exact op_mulI pins s σ H x y v u Q I rx ry ⟨M, _, _, z, dom, tx, ty, hz, q⟩
  · have o1 := tx.str
    have e1 := tx.sc (w := .str _) rfl
    have e2 := ty.sc (w := .int _) rfl
    subst e1 e2
    obtain ⟨t, rfl⟩ := rx
    obtain ⟨t', rfl⟩ := ry
    split at hz
    · rename_i x n hc
      cases hz
      obtain ⟨h1, h2, h3, h4⟩ := hc
      have n1 : ¬ n < 1 := by omega
      have b1 : (n == 1 || x.length == 0) = false := by
        rw [Bool.or_eq_false_iff]
        exact ⟨by simp; omega, by simp; omega⟩
      refine PySem.P.mul_str ?_ (fun _ _ => ?_) (fun _ _ => ?_) ?_
      · rw [Bool.or_eq_false_iff]; exact ⟨by simp; omega, by simp; omega⟩
      · have e : (1000 : Int) ≤ (2 ^ 63 - 1) / n := by
          rw [Int.le_ediv_iff_mul_le (by omega)]
          omega
        omega
      · have e : x.length * n.toNat ≤ 1000 * 1000 := Nat.mul_le_mul h4 (by omega)
        show decide (x.length * n.toNat > sizeLine) = false
        rw [sizeLine_eq]
        exact decide_eq_false (by omega)
      · rw [if_neg n1, if_neg (by rw [b1]; simp)]
        have e : ((List.replicate n.toNat x.cps).foldl (· ++ ·) #[]).size ≤ 1000000 := by
          have key : ∀ (k : Nat) (acc : Array Nat), ((List.replicate k x.cps).foldl (· ++ ·) acc).size = acc.size + k * x.cps.size := by
            intro k
            induction k with
            | zero => intro acc; simp
            | succ k ih =>
              intro acc
              show ((List.replicate k x.cps).foldl (· ++ ·) (acc ++ x.cps)).size = _
              rw [ih, Array.size_append, Nat.succ_mul]; omega
          rw [key]
          have e2 : n.toNat * x.cps.size ≤ 1000 * 1000 := Nat.mul_le_mul (by omega) h4
          simpa using e2
        refine ⟨?_, ⟨.str _, H, I.tok _, ⟨_, rfl⟩, q _ H (Same.refl H) (.str (strOk_rep o1 _))⟩⟩
        rw [sizeLine_eq]
        exact Nat.le_trans e (by omega)
    · split at hz
      · rename_i x n _ hn
        cases hz
        subst hn
        refine PySem.P.mul_str (by decide) (fun _ z => by simp at z) (fun _ z => by simp at z) ?_
        rw [if_neg (by decide), if_pos (by simp)]
        exact ⟨.str _, H, I.tok _, ⟨_, rfl⟩, q _ H (Same.refl H) (.str o1)⟩
      · cases hz
end
end DD

set_option Elab.async false
set_option linter.all false
set_option maxRecDepth 100000
set_option maxHeartbeats 4000000
namespace DD
open PySem PySem.Spec L2

/-! ### places of lists that are changed -/
inductive Pl where
  | slot (i : Nat) | fld (a : Addr) (f : Str) (l : Addr) | mls (a : Addr)
def Pl.ow : Pl → Own
  | .slot i => .slot i
  | .fld a f _ => .fld a f
  | .mls _ => .obj
def Pl.isAt : Pl → St → Addr → Prop
  | .slot i, σ, l => σ[i]? = some (some (.ref l))
  | .fld _ _ l0, _, l => l = l0
  | .mls a, _, l => l = a
/-- what stands there -/
def Pl.rd : Pl → DSt → DG → List D → Prop
  | .slot i, δ, _, ds => δ[i]? = some (some (.own ds))
  | .fld a f l, _, G, ds => ∃ C fs, G a = some (.ins C fs) ∧ fs.lookup f = some (.own l ds) ∧ (fs.map (·.1)).Nodup
  | .mls a, _, G, ds => G a = some (.mls ds)
/-- behind a change to ds -/
def Pl.wr : Pl → List D → DSt → DG → DSt → DG → Prop
  | .slot i, ds, δ, G, δ', G' => δ' = δ.set i (some (.own ds)) ∧ G' = G
  | .fld a f l, ds, δ, G, δ', G' => δ' = δ ∧ ∃ C fs, G a = some (.ins C fs) ∧ G' = gset G a (some (.ins C (putV f (.own l ds) fs)))
  | .mls a, ds, δ, G, δ', G' => δ' = δ ∧ G' = gset G a (some (.mls ds))
section
variable {K : PySem.W.Frag} {H : Hp} {M : Gh} {σ : St} {δ : DSt} {G : DG} {p : Pl}
theorem Pl.inj {l l' : Addr} : ∀ {p : Pl}, p.isAt σ l → p.isAt σ l' → l = l'
  | .slot i, h, h' => by
    have e : _ = _ := h
    have e' : _ = _ := h'
    rw [e] at e'
    cases e'; rfl
  | .fld _ _ _, h, h' => h.trans h'.symm
  | .mls _, h, h' => h.trans h'.symm
theorem Pl.ow_ne (p : Pl) : p.ow ≠ .other := by cases p <;> intro h <;> cases h
theorem Pl.has {ds : List D} (rs : RS K H M σ δ G) : ∀ {p : Pl}, p.rd δ G ds → ∃ l xs, p.isAt σ l ∧ M l = some p.ow ∧ H l = some (.lst xs) ∧ ImL K H M xs ds
  | .slot i, h => by
    obtain ⟨x, hx, l, xs, rfl, m, hl, r⟩ := rs.slot i _ h
    exact ⟨l, xs, hx, m, hl, r⟩
  | .fld a f l, ⟨C, fs, ga, hl, nd⟩ => by
    obtain ⟨ma, dx, ps, ha, fr⟩ := rs.g.obj a _ ga
    obtain ⟨x, hx, ⟨l2, xs, e, m, h, r⟩, sa⟩ := fr.get hl
    have e2 : x = .ref l := sa
    rw [e2] at e; cases e
    exact ⟨l, xs, rfl, m, h, r⟩
  | .mls a, h => by
    obtain ⟨ma, xs, ha, r⟩ := rs.g.obj a _ h
    exact ⟨a, xs, rfl, ma, ha, r⟩
theorem Pl.put {ds ds' : List D} {δ' : DSt} {G' : DG} {l : Addr} {xs' : List V} (rs : RS K H M σ δ G) : ∀ {p : Pl}, p.rd δ G ds → p.isAt σ l → ImL K H M xs' ds' → p.wr ds' δ G δ' G' → RS K (upd H l (.lst xs')) M σ δ' G'
  | .slot i, h, ha, r, ⟨e1, e2⟩ => by
    obtain ⟨l2, xs, ha2, m, hl, _⟩ := Pl.has rs (p := .slot i) h
    cases Pl.inj (p := .slot i) ha ha2
    subst e1 e2
    exact rs.setOwn m ha r
  | .fld a f l0, ⟨C, fs, ga, hl, nd⟩, ha, r, ⟨e1, C', fs', ga', e2⟩ => by
    rw [ga] at ga'; cases ga'
    subst e1 e2
    cases (show l = l0 from ha)
    exact (rs.writeFld ga hl nd r).2
  | .mls a, h, ha, r, ⟨e1, e2⟩ => by
    cases (show l = a from ha)
    subst e1 e2
    obtain ⟨ma, _⟩ := rs.g.obj _ _ h
    exact rs.setObj (u := .mls ds') ma ⟨xs', upd_same, ImL.mono (Stay.at ma) r⟩
end
abbrev DTP := DSt → DG → (Pl → DG → Prop) → (DX → DG → Prop) → Prop
def rdP (K : PySem.W.Frag) (W : WX) (d : DTP) : TE := fun σ H R => ∃ M δ G Q QE, RS K H M σ δ G ∧ d δ G Q QE ∧ ExOk K W H M σ δ QE ∧ ∀ p l G' H' M', Frame H M H' M' → RS K H' M' σ δ G' → p.isAt σ l → Q p G' → R (.ref l) H'
abbrev DPl (X : Cx) (W : WX) (e : Expr) (d : DTP) : Prop := PE X e (rdP X.K W d)
def pVar (i : Nat) : DTP := fun δ G Q _ => (∃ ds, δ[i]? = some (some (.own ds)) ∧ Q (.slot i) G) ∨ (∃ a ds, δ[i]? = some (some (.v (.ref a))) ∧ G a = some (.mls ds) ∧ Q (.mls a) G)
def pRef (d : DTE) : DTP := fun δ G Q E => d δ G (fun x G1 => ∃ a ds, x = .ref a ∧ G1 a = some (.mls ds) ∧ Q (.mls a) G1) E
def pFld (C : Addr) (f : Str) (d : DTE) : DTP := fun δ G Q E => d δ G (fun x G1 => ∃ a fs l ds, x = .ref a ∧ G1 a = some (.ins C fs) ∧ fs.lookup f = some (.own l ds) ∧ Q (.fld a f l) G1) E
/-- its items, borrowed -/
def dPl (p : DTP) : DTE := fun δ G Q E => p δ G (fun pl G1 => ∃ ds, pl.rd δ G1 ds ∧ Q (.lst ds) G1) E
section
variable {X : Cx} {W : WX} {e : Expr} {d : DTE} {p : DTP} {i : Nat}
theorem dp_var (h : PE X e (tVar i)) : DPl X W e (pVar i) := h.imp fun σ H R ⟨M, δ, G, Q, QE, rs, hh, ex, k⟩ => by
  rcases hh with ⟨ds, hd, q⟩ | ⟨a, ds, hd, ga, q⟩
  · obtain ⟨x, hx, l, xs, rfl, m, hl, r⟩ := rs.slot i _ hd
    exact ⟨_, hx, k (.slot i) l G H M (Frame.refl H M) rs hx q⟩
  · obtain ⟨x, hx, im⟩ := rs.slot i _ hd
    cases im
    exact ⟨_, hx, k (.mls a) a G H M (Frame.refl H M) rs rfl q⟩
theorem dp_ref (h : DE X W e d) : DPl X W e (pRef d) := h.imp fun σ H R ⟨M, δ, G, Q, QE, rs, hh, ex, k⟩ =>
  ⟨M, δ, G, _, QE, rs, hh, ex, fun v dv G' H' M' f rs' im ⟨a, ds, e, ga, q⟩ => by
    subst e
    cases im
    exact k (.mls a) a G' H' M' f rs' rfl q⟩
theorem dp_fld {f : Str} {o : Expr} {pos : Pos} {C : Addr} (ho : DE X W o d) (c : Cls X.K C) (n : NoAttr X.K C f) (hp : PE X (.Attribute o f pos) (tFld X.K (rdE X.K W d) f)) : DPl X W (.Attribute o f pos) (pFld C f d) := hp.imp fun σ H R ⟨M, δ, G, Q, QE, rs, hh, ex, k⟩ =>
  ⟨M, δ, G, _, QE, rs, hh, ex, fun v dv G' H' M' f' rs' im ⟨a, fs, l, ds, e, ga, hl, q⟩ => by
    subst e
    cases im
    obtain ⟨ma, dx, ps, ha, fr⟩ := rs'.g.obj a _ ga
    obtain ⟨x, hx, _, sa⟩ := fr.get hl
    have e2 : x = .ref l := sa
    subst e2
    exact ⟨a, C, dx, ps, _, rfl, ha, c, n, hx, k (.fld a f l) l G' H' M' f' rs' rfl q⟩⟩
theorem db_pl (h : DPl X W e p) : DB X W e (dPl p) := h.imp fun σ H R ⟨M, δ, G, Q, QE, rs, hh, ex, k⟩ =>
  ⟨M, δ, G, _, QE, rs, hh, ex, fun pl l G' H' M' f rs' ha ⟨ds, hr, q⟩ => by
    refine k _ _ G' H' M' f rs' (fun H2 M2 f2 rs2 => ?_) q
    obtain ⟨l2, xs, ha2, m, hl, r⟩ := Pl.has rs2 hr
    cases Pl.inj ha ha2
    exact .inr (.inl ⟨_, _, _, rfl, rfl, hl, r⟩)⟩
/-- a reference to a list, or any value, borrowed -/
def dDer (d : DTE) : DTE := fun δ G Q E => d δ G (fun x G1 => (∃ a ds, x = .ref a ∧ G1 a = some (.mls ds) ∧ Q (.lst ds) G1) ∨ ((∀ a ds, x = .ref a → G1 a ≠ some (.mls ds)) ∧ Q x G1)) E
theorem db_der (h : DE X W e d) : DB X W e (dDer d) := h.imp fun σ H R ⟨M, δ, G, Q, QE, rs, hh, ex, k⟩ =>
  ⟨M, δ, G, _, QE, rs, hh, ex, fun v dv G' H' M' f rs' im q => by
    rcases q with ⟨a, ds, e, ga, q⟩ | ⟨_, q⟩
    · subst e
      cases im
      refine k _ _ G' H' M' f rs' (fun H2 M2 f2 rs2 => ?_) q
      obtain ⟨_, xs, hl, r⟩ := rs2.g.obj a _ ga
      exact .inr (.inl ⟨_, _, _, rfl, rfl, hl, r⟩)
    · exact k _ _ G' H' M' f rs' im.bo q⟩
/-- a name, borrowed: a value, a list of its own, a list that is reached by its address -/
def dBov (i : Nat) : DTE := fun δ G Q E => (∃ ds, δ[i]? = some (some (.own ds)) ∧ Q (.lst ds) G) ∨ (∃ ds, δ[i]? = some (some (.ownd ds)) ∧ Q (.dct ds) G) ∨ dDer (dVar i) δ G Q E
theorem db_bov (h : PE X e (tVar i)) : DB X W e (dBov i) := ⟨fun pins s σ H R I h' => by
  obtain ⟨M, δ, G, Q, QE, rs, hh, ex, k⟩ := h'
  rcases hh with ⟨ds, hd, q⟩ | ⟨ds, hd, q⟩ | q
  · exact (db_var h).run pins s σ H R I ⟨M, δ, G, Q, QE, rs, .inr (.inl ⟨ds, hd, q⟩), ex, k⟩
  · exact (db_var h).run pins s σ H R I ⟨M, δ, G, Q, QE, rs, .inr (.inr ⟨ds, hd, q⟩), ex, k⟩
  · exact (db_der (de_var (W := W) h)).run pins s σ H R I ⟨M, δ, G, Q, QE, rs, q, ex, k⟩⟩
end

/-! ### methods that change a list -/
def MutD (X : Cx) (r : V → List V → Hp → VK → Prop) (g : List D → List D → Option (List D × D)) : Prop :=
  ∀ (H : Hp) (M : Gh) (l : Addr) (xs : List V) (ds : List D) (vs : List V) (dvs ds' : List D) (z : D) (Q : VK), H l = some (.lst xs) → ImL X.K H M xs ds → ImL X.K H M vs dvs → g ds dvs = some (ds', z) →
    (∀ xs' v, ImL X.K H M xs' ds' → Im X.K H M v z → Q v (upd H l (.lst xs'))) → r (.ref l) vs H Q
def gApp (ds vs : List D) : Option (List D × D) := match vs with
  | [y] => if ds.length < 1000000 then some (ds ++ [y], .non) else none
  | _ => none
def gClear (_ vs : List D) : Option (List D × D) := match vs with
  | [] => some ([], .non)
  | _ => none
def gPop (ds vs : List D) : Option (List D × D) := match vs with
  | [] => (ds[ds.length - 1]?).map fun y => (ds.dropLast, y)
  | _ => none
def gPopAt (ds vs : List D) : Option (List D × D) := match vs with
  | [.int i] => if 0 ≤ i ∧ i < 1000000 then (ds[i.toNat]?).map fun y => (ds.eraseIdx i.toNat, y) else none
  | _ => none
def gIns (ds vs : List D) : Option (List D × D) := match vs with
  | [.int i, y] => if 0 ≤ i ∧ i < 1000000 ∧ ds.length < 1000000 then some (ds.take i.toNat ++ [y] ++ ds.drop i.toNat, .non) else none
  | _ => none
section
variable {X : Cx}
theorem ImL.one {K : PySem.W.Frag} {H : Hp} {M : Gh} {vs : List V} {d : D} (h : ImL K H M vs [d]) : ∃ v, vs = [v] ∧ Im K H M v d := by
  cases h with
  | cons r t => cases t; exact ⟨_, rfl, r⟩
theorem ImL.two {K : PySem.W.Frag} {H : Hp} {M : Gh} {vs : List V} {d e : D} (h : ImL K H M vs [d, e]) : ∃ v w, vs = [v, w] ∧ Im K H M v d ∧ Im K H M w e := by
  cases h with
  | cons r t => cases t with
    | cons r2 t => cases t; exact ⟨_, _, rfl, r, r2⟩
theorem ImL.nil' {K : PySem.W.Frag} {H : Hp} {M : Gh} {vs : List V} (h : ImL K H M vs []) : vs = [] := by cases h; rfl
theorem ImL.dropLast' {K : PySem.W.Frag} {H : Hp} {M : Gh} {vs : List V} {ds : List D} (h : ImL K H M vs ds) : ImL K H M vs.dropLast ds.dropLast := by
  rw [List.dropLast_eq_take, List.dropLast_eq_take, h.length]
  exact h.take _
theorem ImL.erase {K : PySem.W.Frag} {H : Hp} {M : Gh} : ∀ {vs : List V} {ds : List D} (i : Nat), ImL K H M vs ds → ImL K H M (vs.eraseIdx i) (ds.eraseIdx i)
  | _, _, _, .nil => .nil
  | _, _, 0, .cons _ t => t
  | _, _, i + 1, .cons r t => .cons r (ImL.erase i t)
theorem mut_app : MutD X rAppend gApp := fun H M l xs ds vs dvs ds' z Q hl r rv hg k => by
  unfold gApp at hg
  split at hg
  · split at hg
    · rename_i hc
      cases hg
      obtain ⟨v, rfl, im⟩ := rv.one
      exact ⟨l, xs, v, rfl, rfl, hl, by rw [r.length, sizeLine_eq]; omega, k _ _ (r.append (.cons im .nil)) .non⟩
    · cases hg
  · cases hg
theorem mut_clear : MutD X rClear gClear := fun H M l xs ds vs dvs ds' z Q hl r rv hg k => by
  unfold gClear at hg
  split at hg
  · cases hg
    cases rv.nil'
    exact ⟨l, xs, rfl, rfl, hl, k _ _ .nil .non⟩
  · cases hg
theorem mut_pop : MutD X rPop gPop := fun H M l xs ds vs dvs ds' z Q hl r rv hg k => by
  unfold gPop at hg
  split at hg
  · rw [Option.map_eq_some_iff] at hg
    obtain ⟨y, hy, e⟩ := hg
    cases e
    cases rv.nil'
    obtain ⟨v, hv, im⟩ := r.get hy
    exact ⟨l, xs, v, rfl, rfl, hl, by rw [r.length]; exact hv, k _ _ r.dropLast' im⟩
  · cases hg
theorem mut_popAt : MutD X rPopAt gPopAt := fun H M l xs ds vs dvs ds' z Q hl r rv hg k => by
  unfold gPopAt at hg
  split at hg
  · split at hg
    · rename_i i hc
      rw [Option.map_eq_some_iff] at hg
      obtain ⟨y, hy, e⟩ := hg
      cases e
      obtain ⟨v, rfl, im⟩ := rv.one
      cases im
      obtain ⟨v, hv, im⟩ := r.get hy
      refine ⟨l, xs, i, i.toNat, v, rfl, rfl, hl, by omega, by omega, ?_, hv, k _ _ (r.erase _) im⟩
      have hlt : i.toNat < xs.length := (List.getElem?_eq_some_iff.mp hv).1
      exact seqIndex_of hc.1 (by omega)
    · cases hg
  · cases hg
abbrev rInsert : V → List V → Hp → VK → Prop := fun x vs H Q => ∃ (l : Addr) (xs : List V) (i : Int) (y : V), x = .ref l ∧ vs = [.int i, y] ∧ H l = some (.lst xs) ∧ xs.length < sizeLine ∧ 0 ≤ i ∧ i < 2 ^ 63 ∧
    Q .non (upd H l (.lst (xs.take i.toNat ++ [y] ++ xs.drop i.toNat)))
theorem mut_ins : MutD X rInsert gIns := fun H M l xs ds vs dvs ds' z Q hl r rv hg k => by
  unfold gIns at hg
  split at hg
  · split at hg
    · rename_i i y hc
      cases hg
      obtain ⟨v, w, rfl, im, im2⟩ := rv.two
      cases im
      exact ⟨l, xs, i, w, rfl, rfl, hl, by rw [r.length, sizeLine_eq]; omega, hc.1, by omega, k _ _ (((r.take _).append (.cons im2 .nil)).append (r.drop _)) .non⟩
    · cases hg
  · cases hg
end
/-- p.name(a), p a place, as a statement -/
def sMut (g : List D → List D → Option (List D × D)) (p : DTP) (a : DTA) : DTS := fun N δ G => p δ G (fun pl G1 => (∃ ds, pl.rd δ G1 ds) ∧ a δ G1 (fun vs G2 => ∃ ds ds' z, pl.rd δ G2 ds ∧ g ds vs = some (ds', z) ∧ ∀ δ' G', pl.wr ds' δ G2 δ' G' → N.nx δ' G') (exOf N δ)) (exOf N δ)
/-- x = p.name(a) -/
def sMutSet (i : Nat) (g : List D → List D → Option (List D × D)) (p : DTP) (a : DTA) : DTS := fun N δ G => p δ G (fun pl G1 => (∃ ds, pl.rd δ G1 ds) ∧ a δ G1 (fun vs G2 => ∃ ds ds' z, pl.rd δ G2 ds ∧ g ds vs = some (ds', z) ∧ ∀ δ' G', pl.wr ds' δ G2 δ' G' → N.nx (δ'.set i (some (.v z))) G') (exOf N δ)) (exOf N δ)
section
variable {X : Cx} {W : WX} {e o : Expr} {es : List Expr} {p : DTP} {a : DTA} {i : Nat} {x : Str} {pos pos' apos : Pos} {g : List D → List D → Option (List D × D)} {r : V → List V → Hp → VK → Prop} {name : Str}
theorem Pl.wr_ex {δ : DSt} {G : DG} {ds ds' : List D} : ∀ {p : Pl}, p.rd δ G ds → ∃ δ' G', p.wr ds' δ G δ' G'
  | .slot i, _ => ⟨_, _, rfl, rfl⟩
  | .fld a f l, ⟨C, fs, ga, _⟩ => ⟨_, _, rfl, C, fs, ga, rfl⟩
  | .mls a, _ => ⟨_, _, rfl, rfl⟩
theorem ds_mut (hm : MutD X r g) (hp : PE X (.Call (.Attribute o name apos) (e :: es) [] pos) (tBM X.K "list" r (rdP X.K W p) (rdA X.K W a))) (hs : swapsWith (.Call (.Attribute o name apos) (e :: es) [] pos) none pos'.line X.env = pure false := by rfl) :
    DS X W (.Expr (.Call (.Attribute o name apos) (e :: es) [] pos) pos') (sMut g p a) := (ps_expr hp hs).imp fun E σ H ⟨M, δ, G, DD, rs, d, ok⟩ => by
  refine ⟨M, δ, G, _, _, rs, d, ok.exOf, fun pl l G1 H1 M1 f1 rs1 ha ⟨⟨ds, hr⟩, q⟩ => ?_⟩
  obtain ⟨l2, xs, ha2, m, hl, rr⟩ := Pl.has rs1 hr
  cases Pl.inj ha ha2
  refine ⟨.inl ⟨rfl, _, SqL.of hl⟩, M1, δ, G1, _, _, rs1, q, (ok.mono f1).exOf, fun vs dvs G2 H2 M2 f2 rs2 iml ⟨ds2, ds3, z, hr2, hg, q2⟩ => ?_⟩
  obtain ⟨l3, xs2, ha3, m2, hl2, rr2⟩ := Pl.has rs2 hr2
  cases Pl.inj ha ha3
  refine hm H2 M2 l xs2 ds2 vs dvs ds3 z _ hl2 rr2 iml hg fun xs' v r3 im => ?_
  obtain ⟨δ', G', hw⟩ := Pl.wr_ex (ds' := ds3) hr2
  exact ok.nx _ _ G' _ M2 ((f1.trans f2).trans (Frame.at m2 pl.ow_ne)) (Pl.put rs2 hr2 ha r3 hw) (q2 δ' G' hw)
theorem ds_mut0 (hm : MutD X r g) (hp : PE X (.Call (.Attribute o name apos) [] [] pos) (tBM0 X.K "list" r (rdP X.K W p))) (hs : swapsWith (.Call (.Attribute o name apos) [] [] pos) none pos'.line X.env = pure false := by rfl) :
    DS X W (.Expr (.Call (.Attribute o name apos) [] [] pos) pos') (sMut g p dNil) := (ps_expr hp hs).imp fun E σ H ⟨M, δ, G, DD, rs, d, ok⟩ => by
  refine ⟨M, δ, G, _, _, rs, d, ok.exOf, fun pl l G1 H1 M1 f1 rs1 ha ⟨⟨ds, hr⟩, q⟩ => ?_⟩
  obtain ⟨l2, xs, ha2, m, hl, rr⟩ := Pl.has rs1 hr
  cases Pl.inj ha ha2
  refine ⟨.inl ⟨rfl, _, SqL.of hl⟩, ?_⟩
  obtain ⟨ds2, ds3, z, hr2, hg, q2⟩ := q
  obtain ⟨l3, xs2, ha3, m2, hl2, rr2⟩ := Pl.has rs1 hr2
  cases Pl.inj ha ha3
  refine hm H1 M1 l xs2 ds2 [] [] ds3 z _ hl2 rr2 .nil hg fun xs' v r3 im => ?_
  obtain ⟨δ', G', hw⟩ := Pl.wr_ex (ds' := ds3) hr2
  exact ok.nx _ _ G' _ M1 (f1.trans (Frame.at m2 pl.ow_ne)) (Pl.put rs1 hr2 ha r3 hw) (q2 δ' G' hw)
theorem ds_mutSet (hN : X.N.Nodup) (hi : X.N[i]? = some x) (hx : Loc X.env.scope x) (hm : MutD X r g) (hp : PE X (.Call (.Attribute o name apos) (e :: es) [] pos) (tBM X.K "list" r (rdP X.K W p) (rdA X.K W a))) (hs : swapsWith (.Call (.Attribute o name apos) (e :: es) [] pos) (some (.Name x pos')) apos.line X.env = pure false := by rfl) {pos2 : Pos} 
    (hs2 : swapsWith (.Call (.Attribute o name apos) (e :: es) [] pos) (some (.Name x pos')) pos2.line X.env = pure false := by rfl) (hf : X.fn x = true ∨ X.env.scope.names.lookup x = some .local := by first | exact .inl rfl | exact .inr rfl | assumption) :
    DS X W (.Assign [.Name x pos'] (.Call (.Attribute o name apos) (e :: es) [] pos) pos2) (sMutSet i g p a) := (ps_set (pos := pos2) (pos' := pos') hN hi hx hp hs2 hf).imp fun E σ H ⟨M, δ, G, DD, rs, d, ok⟩ => by
  refine ⟨M, δ, G, _, _, rs, d, ok.exOf, fun pl l G1 H1 M1 f1 rs1 ha ⟨⟨ds, hr⟩, q⟩ => ?_⟩
  obtain ⟨l2, xs, ha2, m, hl, rr⟩ := Pl.has rs1 hr
  cases Pl.inj ha ha2
  refine ⟨.inl ⟨rfl, _, SqL.of hl⟩, M1, δ, G1, _, _, rs1, q, (ok.mono f1).exOf, fun vs dvs G2 H2 M2 f2 rs2 iml ⟨ds2, ds3, z, hr2, hg, q2⟩ => ?_⟩
  obtain ⟨l3, xs2, ha3, m2, hl2, rr2⟩ := Pl.has rs2 hr2
  cases Pl.inj ha ha3
  refine hm H2 M2 l xs2 ds2 vs dvs ds3 z _ hl2 rr2 iml hg fun xs' v r3 im => ?_
  obtain ⟨δ', G', hw⟩ := Pl.wr_ex (ds' := ds3) hr2
  have rs3 := Pl.put rs2 hr2 ha r3 hw
  exact ok.nx _ _ G' _ M2 ((f1.trans f2).trans (Frame.at m2 pl.ow_ne)) (rs3.setV (im.mono (Stay.at m2))) (q2 δ' G' hw)
/-! p[i] = v -/
def sSetAt (d : DTE) (p : DTP) (ix : DTE) : DTS := fun N δ G => d δ G (fun y G0 => p δ G0 (fun pl G1 => ix δ G1 (fun k G2 => ∃ i ds j, k = .int i ∧ pl.rd δ G2 ds ∧ ixN ds.length i = some j ∧ ∀ δ' G', pl.wr (ds.set j y) δ G2 δ' G' → N.nx δ' G') (exOf N δ)) (exOf N δ)) (exOf N δ)
theorem ds_setAt {v ix : Expr} {d di : DTE} {tpos : Pos} (hv : DE X W v d) (ho : DPl X W o p) (hix : DE X W ix di)
    (ha : ∀ v, assign (.Subscript o ix tpos) X.env v = (do
      let ov ← holding [v] (eval o X.env)
      let iv ← holding [v, ov] (eval ix X.env)
      standAt tpos
      holding [v, ov, iv] (setItem ov iv v)
      release [v, ov, iv] []) := by intro _; rfl)
    (hs : swapsWithSole [.Subscript o ix tpos] v pos.line X.env = pure false := by rfl) (hw : swappedStores [.Subscript o ix tpos] v X.env = pure none := by rfl)
    (h1 : (assignEach [.Subscript o ix tpos] X.env).map (·.2) = [assign (.Subscript o ix tpos) X.env] := by rfl) :
    DS X W (.Assign [.Subscript o ix tpos] v pos) (sSetAt d p di) := (ps_asg (pos := pos) hv (pg_sub ho hix set_list ha) hs hw h1).imp fun E σ H ⟨M, δ, G, DD, rs, q0, ok⟩ => by
  refine ⟨M, δ, G, _, _, rs, q0, ok.exOf, fun y dy G0 H0 M0 f0 rs0 imy q => ?_⟩
  refine ⟨M0, δ, G0, _, _, rs0, q, (ok.mono f0).exOf, fun pl l G1 H1 M1 f1 rs1 ha q1 => ?_⟩
  refine ⟨M1, δ, G1, _, _, rs1, q1, (ok.mono (f0.trans f1)).exOf, fun k dk G2 H2 M2 f2 rs2 imk ⟨i, ds, j, ek, hr, hj, q2⟩ => ?_⟩
  subst ek
  cases imk
  obtain ⟨l3, xs2, ha3, m2, hl2, rr2⟩ := Pl.has rs2 hr
  cases Pl.inj ha ha3
  refine ⟨l, xs2, i, j, rfl, rfl, hl2, by rw [rr2.length]; exact hj, ?_⟩
  obtain ⟨δ', G', hw⟩ := Pl.wr_ex (ds' := ds.set j dy) hr
  exact ok.nx _ _ G' _ M2 (((f0.trans f1).trans f2).trans (Frame.at m2 pl.ow_ne)) (Pl.put rs2 hr ha (rr2.set ((imy.mono f1.stay).mono f2.stay) j) hw) (q2 δ' G' hw)
end
end DD

set_option Elab.async false
set_option linter.all false
set_option maxRecDepth 100000
set_option maxHeartbeats 4000000
namespace DD
open PySem PySem.Spec L2

/-! ### slices -/
abbrev DTO := DSt → DG → (Option Int → DG → Prop) → (DX → DG → Prop) → Prop
def oNone : DTO := fun _ G Q _ => Q none G
def oSome (d : DTE) : DTO := fun δ G Q E => d δ G (fun x G1 => ∃ i, x = .int i ∧ Q (some i) G1) E
def rdO (K : PySem.W.Frag) (W : WX) (d : DTO) : TO := fun σ H R => ∃ M δ G Q QE, RS K H M σ δ G ∧ d δ G Q QE ∧ ExOk K W H M σ δ QE ∧ ∀ o G' H' M', Frame H M H' M' → RS K H' M' σ δ G' → Q o G' → R o H'
abbrev DO_ (X : Cx) (W : WX) (e : Option Expr) (d : DTO) : Prop := PO X e (rdO X.K W d)
def dSl (g : D → Option Int → Option Int → Option D) (a : DTE) (lo hi : DTO) : DTE := fun δ G Q E => a δ G (fun x G1 => lo δ G1 (fun l G2 => hi δ G2 (fun u G3 => G3 = G1 ∧ ∃ z, g x l u = some z ∧ Q z G3) E) E) E
section
variable {X : Cx} {W : WX} {a b c : Expr} {da db dc d : DTE} {lo hi : Option Expr} {ol oh : DTO} {pos p2 : Pos}
theorem _root_.L2.PO.imp {e : Option Expr} {t t' : TO} (h : PO X e t) (i : ∀ σ H R, t' σ H R → t σ H R) : PO X e t' := ⟨fun pins s σ H Q I q => h.run pins s σ H Q I (i _ _ _ q)⟩
theorem do_none : DO_ X W none oNone := po_none.imp fun σ H R ⟨M, δ, G, Q, QE, rs, q, ex, k⟩ => k none G H M (Frame.refl H M) rs q
theorem do_some (h : DE X W a da) : DO_ X W (some a) (oSome da) := (po_some h).imp fun σ H R ⟨M, δ, G, Q, QE, rs, q, ex, k⟩ =>
  ⟨M, δ, G, _, QE, rs, q, ex, fun v dv G' H' M' f rs' im ⟨i, e, q⟩ => by
    subst e
    cases im
    exact ⟨i, rfl, k _ G' H' M' f rs' q⟩⟩
theorem de_slice {g : D → Option Int → Option Int → Option D} (hr : SlR X (SlD X.K g)) (ha : DB X W a da) (hl : DO_ X W lo ol) (hh : DO_ X W hi oh) : DE X W (.Subscript a (.Slice lo hi none p2) pos) (dSl g da ol oh) := (pe_slice hr ha hl hh).imp fun σ H R ⟨M, δ, G, Q, QE, rs, d, ex, k⟩ => by
  refine ⟨M, δ, G, _, QE, rs, d, ex, fun v dv G1 H1 M1 f1 rs1 bo q => ?_⟩
  refine ⟨M1, δ, G1, _, QE, rs1, q, ex.mono f1, fun l G2 H2 M2 f2 rs2 q2 => ?_⟩
  refine ⟨M2, δ, G2, _, QE, rs2, q2, (ex.mono f1).mono f2, fun u G3 H3 M3 f3 rs3 q3 => ?_⟩
  obtain ⟨eG, z, hz, qz⟩ := q3
  subst eG
  exact ⟨M3, dv, z, rs3.g.dom, bo H3 M3 (f2.trans f3) rs3, hz, fun w H4 sm im => k w z _ H4 M3 (((f1.trans f2).trans f3).trans (Same.keep sm).frame) (rs3.same sm) im qz⟩

/-! ### a op b op c -/
def dChain (g g' : D → D → Option D) (a b c : DTE) : DTE := fun δ G Q E => a δ G (fun x G1 => b δ G1 (fun y G2 => G2 = G1 ∧ ∃ k, g x y = some (.bl k) ∧ if k = true then c δ G2 (fun z G3 => G3 = G2 ∧ ∃ r, g' y z = some r ∧ Q r G3) E else Q (.bl false) G2) E) E
theorem chain_run {g g' : D → D → Option D} {ta tb tc : DTE} {σ : St} {H : Hp} {R : VK} : rdE X.K W (dChain g g' ta tb tc) σ H R → tChain (OpD X.K g) (OpD X.K g') (rdB X.K W ta) (rdB X.K W tb) (rdB X.K W tc) σ H R := fun ⟨M, δ, G, Q, QE, rs, d, ex, k⟩ => by
  refine ⟨M, δ, G, _, QE, rs, d, ex, fun v dv G1 H1 M1 f1 rs1 bo q => ?_⟩
  refine ⟨M1, δ, G1, _, QE, rs1, q, ex.mono f1, fun y dy G2 H2 M2 f2 rs2 bo2 q2 => ?_⟩
  obtain ⟨eG, kk, hk, q2⟩ := q2
  subst eG
  refine ⟨M2, dv, dy, .bl kk, rs2.g.dom, bo H2 M2 f2 rs2, bo2.now rs2, hk, fun w H3 sm im => ?_⟩
  cases im
  refine ⟨kk, rfl, ?_⟩
  have f3 : Frame H2 M2 H3 M2 := (Same.keep sm).frame
  have rs3 := rs2.same sm
  cases kk with
  | true =>
    simp only [if_true] at q2 ⊢
    refine ⟨M2, δ, _, _, QE, rs3, q2, ((ex.mono f1).mono f2).mono f3, fun z dz G4 H4 M4 f4 rs4 bo4 q4 => ?_⟩
    obtain ⟨eG, r, hr, qr⟩ := q4
    subst eG
    exact ⟨M4, dy, dz, r, rs4.g.dom, bo2 H4 M4 (f3.trans f4) rs4, bo4.now rs4, hr, fun w H5 sm5 im => k w r _ H5 M4 ((((f1.trans f2).trans f3).trans f4).trans (Same.keep sm5).frame) (rs4.same sm5) im qr⟩
  | false =>
    simp only [Bool.false_eq_true, if_false] at q2 ⊢
    exact k _ _ _ H3 M2 ((f1.trans f2).trans f3) rs3 .bl q2
theorem de_chain {op op' : CmpOp} {g g' : D → D → Option D} (ho : OpR X (compareOp op) (OpD X.K g)) (ho' : OpR X (compareOp op') (OpD X.K g')) (ha : DB X W a da) (hb : DB X W b db) (hc : DB X W c dc)
    (hm : lastMarks [op, op'] [b, c] = false := by with_unfolding_all rfl) : DE X W (.Compare a [op, op'] [b, c] pos) (dChain g g' da db dc) := (pe_chain ho ho' ha hb hc hm).imp fun σ H R h => chain_run h
theorem dt_chain {op op' : CmpOp} {g g' : D → D → Option D} (ho : OpR X (compareOp op) (OpD X.K g)) (ho' : OpR X (compareOp op') (OpD X.K g')) (ha : DB X W a da) (hb : DB X W b db) (hc : DB X W c dc)
    (hm : lastMarks [op, op'] [b, c] = false := by with_unfolding_all rfl) : DT X W (.Compare a [op, op'] [b, c] pos) (dTst (dChain g g' da db dc)) := (pt_chain ho ho' ha hb hc hm).imp fun σ H R ⟨M, δ, G, Q, QE, rs, d, ex, k⟩ => by
  refine chain_run (W := W) (X := X) (g := g) (g' := g') ⟨M, δ, G, _, QE, rs, d, ex, fun v dv G' H' M' f rs' im q => ?_⟩
  obtain ⟨b, rfl, q⟩ := q
  cases im
  exact ⟨b, rfl, k b G' H' M' f rs' q⟩

/-! ### a value's truth -/
def truD : D → Option Bool
  | .non => some false
  | .bl b => some b
  | .int i => some (i != 0)
  | .str x => if x.length ≤ 16777216 then some (x.length != 0) else none
  | .lst xs => some (!xs.isEmpty)
  | .tup xs => some (!xs.isEmpty)
  | .dct kvs => some (!kvs.isEmpty)
  | _ => none
def dTru (a : DTE) : DTT := fun δ G Q E => a δ G (fun x G1 => ∃ b, truD x = some b ∧ Q b G1) E
theorem ImL.empty {K : PySem.W.Frag} {H : Hp} {M : Gh} {vs : List V} {ds : List D} (r : ImL K H M vs ds) : vs.isEmpty = ds.isEmpty := by cases r <;> rfl
theorem ImK.empty {K : PySem.W.Frag} {H : Hp} {M : Gh} {vs : List (Key × V)} {ds : List (Key × D)} (r : ImK K H M vs ds) : vs.isEmpty = ds.isEmpty := by cases r <;> rfl
theorem tru_of {K : PySem.W.Frag} {H : Hp} {M : Gh} {v : V} {d : D} {b : Bool} (t : Tm K H M v d) (h : truD d = some b) : TruV K v H b := by
  cases d <;> simp only [truD, reduceCtorEq, Option.some.injEq] at h
  · have e := t.sc (w := .non) rfl; subst e h; exact rfl
  · have e := t.sc (w := .bl _) rfl; subst e h; exact rfl
  · have e := t.sc (w := .int _) rfl; subst e h; exact rfl
  · have e := t.sc (w := .str _) rfl
    subst e
    split at h
    · rename_i x hx
      cases h
      refine ⟨by rw [sizeLine_eq]; exact hx, ?_⟩
      cases e : x.length with
      | zero => rfl
      | succ n => simp; omega
    · cases h
  · obtain ⟨a, xs, rfl, ha, r⟩ := t.tup
    subst h
    exact .inr (.inl ⟨xs, ha, by rw [r.empty]⟩)
  · obtain ⟨a, xs, rfl, ha, r⟩ := t.lst
    subst h
    exact .inl ⟨xs, rd_lst ha, by rw [r.empty]⟩
  · obtain ⟨a, xs, rfl, ha, r⟩ := t.dct
    subst h
    exact .inr (.inr ⟨xs, ha, by rw [r.empty]⟩)
theorem dt_tru (ha : DB X W a da) (he : ∀ whole, isTrue a X.env whole = (do let v ← whole; standAt a.pos; holding [v] (truthy v)) := by intro _; rfl) : DT X W a (dTru da) := (pt_truth ha he).imp fun σ H R ⟨M, δ, G, Q, QE, rs, d, ex, k⟩ =>
  ⟨M, δ, G, _, QE, rs, d, ex, fun v dv G' H' M' f rs' bo ⟨b, hb, q⟩ => ⟨b, tru_of (bo.now rs') hb, k b G' H' M' f rs' q⟩⟩

/-! ### isinstance -/
def TyD (K : PySem.W.Frag) (G : DG) : D → Value → Prop
  | .non, t => t = .type "NoneType"
  | .bl _, t => t = .type "bool"
  | .int _, t => t = .type "int"
  | .str _, t => t = .type "str"
  | .tup _, t => t = .type "tuple"
  | .lst _, t => t = .type "list"
  | .dct _, t => t = .type "dict"
  | .obj C _, t => t = .ref C ∧ C8.InsC K C
  | .ref a, t => (∃ C fs, G a = some (.ins C fs) ∧ t = .ref C ∧ C8.InsC K C) ∨ (∃ ds, G a = some (.mls ds) ∧ t = .type "list") ∨ (∃ n, G a = some (.jar n) ∧ t = .type "list")
  | .ty _, _ => False
def ClD : D → Value → Prop
  | .ty n, u => u = .type n
  | .ref C, u => u = .ref C
  | _, _ => False
def dIsi (K : PySem.W.Frag) (a c : DTE) : DTE := fun δ G Q E => a δ G (fun x G1 => c δ G1 (fun y G2 => G2 = G1 ∧ ∃ t u b, TyD K G2 x t ∧ ClD y u ∧ PySem.W.kitOne K t u = some b ∧ Q (.bl b) G2) E) E
theorem tyx_of {K : PySem.W.Frag} {H : Hp} {M : Gh} {G : DG} {v : V} {d : D} {t : Value} (g : RG K H M G) (tm : Tm K H M v d) (h : TyD K G d t) : TyX K H v t := by
  cases d with
  | non => have e := tm.sc (w := .non) rfl; subst e; cases h; exact .base .non
  | bl b => have e := tm.sc (w := .bl _) rfl; subst e; cases h; exact .base (.bl b)
  | int b => have e := tm.sc (w := .int _) rfl; subst e; cases h; exact .base (.int b)
  | str b => have e := tm.sc (w := .str _) rfl; subst e; cases h; exact .base (.str b)
  | tup ds =>
    cases h
    rcases tm with tm | ⟨_, _, _, _, e, _⟩ | ⟨_, _, _, _, e, _⟩
    · cases tm with
      | tup m h r =>
        rcases h with h | ⟨o, h⟩
        · exact .base (.tup h)
        · exact .fTuple h
      | tupK h r =>
        rcases h (fun _ => none) with h | ⟨o, its, n, e, c, _⟩
        · rcases h with h | ⟨_, h⟩ <;> cases h
        · exact .kTuple e c
    · cases e
    · cases e
  | lst ds =>
    cases h
    obtain ⟨a, xs, rfl, ha, r⟩ := tm.lst
    rcases ha with (ha | ⟨o, ha⟩) | ⟨o, its, n, e, c, _⟩
    · exact .base (.lst ha)
    · exact .base (.frz ha)
    · exact .kList e c
  | dct ds =>
    cases h
    obtain ⟨a, xs, rfl, ha, r⟩ := tm.dct
    exact .base (.dK ha)
  | obj C fs =>
    obtain ⟨rfl, c⟩ := h
    rcases tm with tm | ⟨_, _, _, _, e, _⟩ | ⟨_, _, _, _, e, _⟩
    · cases tm with
      | obj m ha r => exact .base (.ins ha c.cl c.ha c.hn c.htk c.hm)
    · cases e
    · cases e
  | ref a =>
    have e := tm.sc (w := .ref a) rfl
    subst e
    rcases h with ⟨C, fs, ga, rfl, c⟩ | ⟨ds, ga, rfl⟩ | ⟨n, ga, rfl⟩
    · obtain ⟨_, dx, ps, ha, _⟩ := g.obj _ _ ga
      exact .base (.ins ha c.cl c.ha c.hn c.htk c.hm)
    · obtain ⟨_, xs, ha, _⟩ := g.obj _ _ ga
      exact .base (.lst ha)
    · obtain ⟨_, i, j, k, ha, _⟩ := g.obj _ _ ga
      exact .base (.lst ha)
  | ty n => exact h.elim

theorem de_isi {p : Pos} (hg : Gl X "isinstance") (hm : X.mg "isinstance" = none) (ha : DB X W a da) (hc : DB X W c dc)
    (h1 : starEach [a, c] X.env = (false, eval a X.env) :: starEach [c] X.env := by rfl) (h2 : starEach [c] X.env = (false, eval c X.env) :: starEach [] X.env := by rfl) (hpl : (backTo pos (starEach [c] X.env)).any (·.1) = false := by rfl) :
    DE X W (.Call (.Name "isinstance" p) [a, c] [] pos) (dIsi X.K da dc) := (pe_callB (p := p) (pos := pos) call_isi hg hm rfl (pa_cons ha (pa_cons hc pa_nil h2) h1) (by decide) (by decide) h1 hpl).imp fun σ H R ⟨M, δ, G, Q, QE, rs, d, ex, k⟩ => by
  refine ⟨M, δ, G, _, QE, rs, d, ex, fun v dv G1 H1 M1 f1 rs1 bo q => ?_⟩
  refine ⟨M1, δ, G1, _, QE, rs1, q, ex.mono f1, fun y dy G2 H2 M2 f2 rs2 bo2 q2 => ?_⟩
  obtain ⟨eG, t, u, b, ht, hu, hk, q2⟩ := q2
  subst eG
  have hcl : ClsV y u := by
    have t2 := bo2.now rs2
    cases dy <;> first | exact hu.elim | skip
    · have e := t2.sc (w := .ref _) rfl
      subst e; cases hu; exact .own _
    · have e := t2.sc (w := .ty _) rfl
      subst e; cases hu; exact .ty _
  exact ⟨v, y, t, u, b, rfl, hcl, tyx_of rs2.g (bo H2 M2 f2 rs2) ht, hk, k _ _ _ H2 M2 (f1.trans f2) rs2 .bl q2⟩
theorem de_tyn {x : Str} {n : String} {p : Pos} (hg : Gl X x) (hm : X.mg x = none) (hv : bootBuiltins x = some (.type n)) (hn : x ≠ "__name__" := by decide) (hd : (x == ("__debug__" : Str)) = false := by decide) : DE X W (.Name x p) (dC (.ty n)) :=
  de_c (pe_bltn (v := .ty n) hg hm hv rfl hn hd) fun _ _ => .ty

/-! ### list(x), a new list -/
def dLstOf (d : DTE) : DTA := fun δ G Q E => d δ G (fun x G1 => ∃ xs, (x = .lst xs ∨ x = .tup xs) ∧ Q xs G1) E
theorem df_listOf {p : Pos} (hg : Gl X "list") (hm : X.mg "list" = none) (ha : DB X W a da) (h2 : starEach [a] X.env = (false, eval a X.env) :: starEach [] X.env := by rfl) (hpl : (backTo pos (starEach [] X.env)).any (·.1) = false := by rfl) :
    DF X W (.Call (.Name "list" p) [a] [] pos) (dLstOf da) := (pe_callTy (p := p) (pos := pos) call_list_of hg hm rfl (pa_cons ha pa_nil h2) (by decide) (by decide) h2 hpl).imp fun σ H R ⟨M, δ, G, Q, QE, rs, d, ex, k⟩ => by
  refine ⟨M, δ, G, _, QE, rs, d, ex, fun v dv G1 H1 M1 f1 rs1 bo q => ?_⟩
  obtain ⟨xs, hx, q⟩ := q
  have t := bo.now rs1
  rcases hx with rfl | rfl
  · obtain ⟨l, vs, rfl, hl, r⟩ := t.lst
    refine ⟨l, vs, rfl, .inl (rd_lst hl), fun p n => ?_⟩
    obtain ⟨kp, r2⟩ := rs1.newOther (u := .lst vs) n
    exact k p vs xs G1 _ _ (f1.trans kp.frame) r2 (f1.fresh n) mset_same upd_same (ImL.mono kp.stay r) q
  · obtain ⟨l, vs, rfl, hl, r⟩ := t.tup
    refine ⟨l, vs, rfl, .inr hl, fun p n => ?_⟩
    obtain ⟨kp, r2⟩ := rs1.newOther (u := .lst vs) n
    exact k p vs xs G1 _ _ (f1.trans kp.frame) r2 (f1.fresh n) mset_same upd_same (ImL.mono kp.stay r) q
/-- a list plus a list, a new one (both of nobody's or borrowed) -/
def dCat (a b : DTE) : DTA := fun δ G Q E => a δ G (fun x G1 => b δ G1 (fun y G2 => G2 = G1 ∧ ∃ xs ys, x = .lst xs ∧ y = .lst ys ∧ xs.length + ys.length ≤ 1000000 ∧ Q (xs ++ ys) G2) E) E

/-! ### len(set(t)) -/
def strsD : List D → Option (List Str)
  | [] => some []
  | .str x :: r => (strsD r).map (x :: ·)
  | _ => none
def dLenSet (d : DTE) : DTE := fun δ G Q E => d δ G (fun x G1 => ∃ xs zs, x = .tup xs ∧ strsD xs = some zs ∧ xs.length ≤ 1000 ∧ Q (.int (DDs.metAll zs).length) G1) E
theorem strs_get {K : PySem.W.Frag} {H : Hp} {M : Gh} : ∀ {vs : List V} {ds : List D} {us : List Value} {zs : List Str}, ImL K H M vs ds → Vals vs us → strsD ds = some zs → zs.length = us.length ∧ ∀ (i : Nat) v k, us[i]? = some v → zs[i]? = some k → ∃ t, v = .str k t
  | _, _, _, _, .nil, .nil, h => by simp [strsD] at h; subst h; exact ⟨rfl, fun i v k e => by simp at e⟩
  | _, _, _, zs, .cons (d := d) im r, .cons rv rr, h => by
    cases d <;> simp only [strsD, reduceCtorEq, Option.map_eq_some_iff] at h
    obtain ⟨z2, h1, h2⟩ := h
    subst h2
    obtain ⟨e1, e2⟩ := strs_get r rr h1
    cases im
    obtain ⟨t, ht⟩ := rv
    refine ⟨by simp [e1], fun i v k ev ek => ?_⟩
    cases i with
    | zero => simp at ev ek; subst ev ek; exact ⟨t, ht⟩
    | succ i => exact e2 i v k (by simpa using ev) (by simpa using ek)
theorem de_lenSet {p p2 q : Pos} (hc : X.calm = true) (hg : Gl X "len") (hm : X.mg "len" = none) (hg2 : Gl X "set") (hm2 : X.mg "set" = none) (ha : DB X W a da)
    (na : starEach [a] X.env = (false, eval a X.env) :: starEach [] X.env := by rfl) : DE X W (.Call (.Name "len" p) [.Call (.Name "set" p2) [a] [] q] [] pos) (dLenSet da) := by
  refine ⟨fun pins s σ H R I h => ?_⟩
  obtain ⟨M, δ, G, Q, QE, rs, d, ex, k⟩ := h
  refine PyProof.Rows.Call_ (ld_blt (u := .builtin "len") I hg hm (by decide +kernel) ?_)
  refine PyProof.Rows.callWith_builtin1 (PyProof.Rows.args_cons ?_ rfl) rfl rfl
  refine PyProof.Rows.Call_ (ld_blt (u := .type "set") I hg2 hm2 (by decide +kernel) ?_)
  refine PyProof.Rows.callWith_type1 (PyProof.Rows.args_cons (thn (ha.run pins s σ H (fun v H1 => ∃ dv G1 M1, Frame H M H1 M1 ∧ RS X.K H1 M1 σ δ G1 ∧ Bo X.K H1 M1 σ δ G1 v dv ∧ ∃ xs zs, dv = .tup xs ∧ strsD xs = some zs ∧ xs.length ≤ 1000 ∧ Q (.int (DDs.metAll zs).length) G1) I
    ⟨M, δ, G, _, QE, rs, d, ex, fun v dv G1 H1 M1 f1 rs1 bo q => ⟨dv, G1, M1, f1, rs1, bo, q⟩⟩) fun v s1 ⟨x, H1, I1, r1, dv, G1, M1, f1, rs1, bo, xs, zs, e, hz, hn, q1⟩ => PyProof.Rows.args_nil ?_) na) na rfl
  subst e
  obtain ⟨l, vs, rfl, hl, r⟩ := (bo.now rs1).tup
  cases r1
  obtain ⟨its, rv, pl, hsz⟩ := I1.tuple hl
  obtain ⟨e1, e2⟩ := strs_get r rv hz
  have hlen : its.length ≤ 1000 := by rw [← rv.length, r.length]; exact hn
  refine DDs.set_of_tup (PySem.strKind X.prog X.w) (ks := zs) (I1.ok.hd hc) pl (by rw [List.size_toArray]; exact e1) (by rw [List.size_toArray]; unfold scanBound; omega) (fun i v k ev ek => ?_) fun h' tk hS hk => ?_
  · obtain ⟨t, rfl⟩ := e2 i v k (by simpa using ev) ek
    exact ⟨by show (k == k) = true; exact beq_self_eq_true k, rfl⟩
  · refine PyProof.Rows.args_nil ?_
    obtain ⟨o, es, ep, t, ho, hex, hd, _, _, _, hf, hn2⟩ := hS
    have I2 : Inv X pins σ H1 { s1 with heap := h', toks := tk } := I1.kept fun b o e => hk b o (Heap.lt_size e) e
    have hle : (DDs.metAll zs).length ≤ 1000 := by
      have h1 := DDs.met_le zs ([] : List Str)
      simp only [List.length_nil] at h1
      unfold DDs.metAll
      omega
    exact call_len_set ho hex hd hf (by rw [hn2]; omega) ⟨.int (DDs.metAll zs).length, H1, I2.tok _, ⟨_, by rw [hn2]⟩, k _ _ G1 H1 M1 f1 rs1 .int q1⟩
end
end DD

set_option Elab.async false
set_option linter.all false
set_option maxRecDepth 100000
set_option maxHeartbeats 4000000
namespace DD
open PySem PySem.Spec L2

/-! ### a new list becomes an object; a list object is finished -/
section
variable {K : PySem.W.Frag} {H : Hp} {M : Gh} {σ : St} {δ : DSt} {G : DG} {p a : Addr} {xs : List V} {ds : List D}
theorem RS.takeObj {o : DO} (r : RS K H M σ δ G) (m : M p = some .other) (q : ObjR K H (mset M p (some .obj)) p o) : RS K H (mset M p (some .obj)) σ δ (gset G p (some o)) ∧ G p = none := by
  have gp : G p = none := by
    cases e : G p with
    | none => rfl
    | some u =>
      obtain ⟨mp, _⟩ := r.g.obj p u e
      rw [m] at mp; cases mp
  have r2 := r.give (o := some .obj) m
  refine ⟨⟨⟨fun b u hb => ?_, r2.g.dom⟩, r2.len, r2.slot⟩, gp⟩
  by_cases e : b = p
  · subst e
    rw [gset_same] at hb
    cases hb
    exact ⟨mset_same, q⟩
  · rw [gset_ne e] at hb
    exact r2.g.obj b u hb
theorem RS.freezeM (r : RS K H M σ δ G) (ga : G a = some (.mls ds)) : RS K H (mset M a none) σ δ (gset G a none) ∧ Im K H (mset M a none) (.ref a) (.lst ds) ∧ M a = some .obj := by
  obtain ⟨m, xs, ha, rr⟩ := r.g.obj a _ ga
  have st : Stay H M H (mset M a none) := Stay.give m
  refine ⟨⟨⟨fun b u hb => ?_, fun b hb => ?_⟩, r.len, fun i s hs => ?_⟩, .lst mset_same (.inl ha) (ImL.mono st rr), m⟩
  · have e : b ≠ a := fun e => by rw [e, gset_same] at hb; cases hb
    rw [gset_ne e] at hb
    obtain ⟨mb, q⟩ := r.g.obj b u hb
    exact ⟨by rw [mset_ne e]; exact mb, q.give m fun f z => by cases z⟩
  · by_cases e : b = a
    · rw [e, mset_same] at hb; exact absurd rfl hb
    · rw [mset_ne e] at hb; exact r.g.dom b hb
  · obtain ⟨x, hx, q⟩ := r.slot i s hs
    exact ⟨x, hx, q.give m fun z => by cases z⟩
theorem Frame.freezeM (m : M a = some .obj) : Frame H M H (mset M a none) := ⟨fun b u h n => ⟨h, mset_ne fun e => by
  rw [e, m] at n
  rcases n with n | n <;> cases n⟩, fun _ h => h⟩
end
def dNewM (d : DTA) : DTE := fun δ G Q E => d δ G (fun ds G1 => ∀ a, G1 a = none → Q (.ref a) (gset G1 a (some (.mls ds)))) E
def dNewJ (d : DTA) : DTE := fun δ G Q E => d δ G (fun ds G1 => ∃ i j k, ds = [.int i, .int j, .int k] ∧ JarOk i j k ∧ k = 0 ∧ ∀ a, G1 a = none → Q (.ref a) (gset G1 a (some (.jar 0)))) E
def dFrzM (d : DTE) : DTE := fun δ G Q E => d δ G (fun x G1 => ∃ a ds, x = .ref a ∧ G1 a = some (.mls ds) ∧ Q (.lst ds) (gset G1 a none)) E
section
variable {X : Cx} {W : WX} {e : Expr} {d : DTE} {da : DTA} {p : DTP}
theorem de_newM (h : DF X W e da) : DE X W e (dNewM da) := h.imp fun σ H R ⟨M, δ, G, Q, QE, rs, d, ex, k⟩ =>
  ⟨M, δ, G, _, QE, rs, d, ex, fun p xs ds G' H' M' f rs' n m hp iml q => by
    obtain ⟨r2, gp⟩ := rs'.takeObj (o := .mls ds) m ⟨xs, hp, ImL.mono (Stay.give m) iml⟩
    exact k _ _ _ H' _ (f.give n) r2 .ref (q p gp)⟩
theorem de_newJ (h : DF X W e da) : DE X W e (dNewJ da) := h.imp fun σ H R ⟨M, δ, G, Q, QE, rs, d, ex, k⟩ =>
  ⟨M, δ, G, _, QE, rs, d, ex, fun p xs ds G' H' M' f rs' n m hp iml q => by
    obtain ⟨i, j, kk, e, ok, k0, q⟩ := q
    subst e
    cases iml with
    | cons i1 r => cases r with
      | cons i2 r => cases r with
        | cons i3 r =>
          cases r
          cases i1
          cases i2
          cases i3
          obtain ⟨r2, gp⟩ := rs'.takeObj (o := .jar 0) m ⟨i, j, kk, hp, ok, by rw [k0]; exact Int.le_refl _⟩
          exact k _ _ _ H' _ (f.give n) r2 .ref (q p gp)⟩
theorem de_frzM (h : DE X W e d) : DE X W e (dFrzM d) := h.imp fun σ H R ⟨M, δ, G, Q, QE, rs, d, ex, k⟩ =>
  ⟨M, δ, G, _, QE, rs, d, ex, fun v dv G' H' M' f rs' im q => by
    obtain ⟨a, ds, e, ga, q⟩ := q
    subst e
    cases im
    obtain ⟨r2, im2, m⟩ := rs'.freezeM ga
    exact k _ _ _ H' _ (f.trans (Frame.freezeM m)) r2 im2 q⟩
end

/-! ### a loop over a list that is reached by its address or a field -/
def forP (pl : Pl) (ds : List D) (g : DTG) (tb : DTS) (N : DEnds) : List D → DSt → DG → Prop
  | [], δ, G => pl.rd δ G ds ∧ N.nx δ G
  | x :: r, δ, G => pl.rd δ G ds ∧ g x δ G (fun δ' G' => tb { N with nx := forP pl ds g tb N r, ct := forP pl ds g tb N r, bk := N.nx } δ' G')
def Pl.fixed : Pl → Prop
  | .slot _ => False
  | _ => True
def sForP (p : DTP) (g : DTG) (tb : DTS) : DTS := fun D δ G => p δ G (fun pl G1 => pl.fixed ∧ ∃ ds, pl.rd δ G1 ds ∧ forP pl ds g tb D ds δ G1) (exOf D δ)
theorem Pl.fix {σ σ' : St} {l : Addr} : ∀ {p : Pl}, p.fixed → p.isAt σ l → p.isAt σ' l
  | .slot _, h, _ => h.elim
  | .fld _ _ _, _, h => h
  | .mls _, _, h => h
def rdPI (K : PySem.W.Frag) (W : WX) (d : DTP) : TI := fun σ H R => ∃ M δ G Q QE, RS K H M σ δ G ∧ d δ G Q QE ∧ ExOk K W H M σ δ QE ∧ ∀ p l G' H' M', Frame H M H' M' → RS K H' M' σ δ G' → p.isAt σ l → Q p G' → (∃ ds, p.rd δ G' ds) ∧ R (Itl K l) H'
theorem di_pl {X : Cx} {W : WX} {tg e : Expr} {p : DTP} (he : DPl X W e p) : PI X tg e (rdPI X.K W p) := by
  refine ⟨fun pins s σ H R I h => ?_⟩
  obtain ⟨M, δ, G, Q, QE, rs, d, ex, k⟩ := h
  refine thn (he.run pins s σ H (fun v H1 => ∃ pl l G1 M1, v = .ref l ∧ Frame H M H1 M1 ∧ RS X.K H1 M1 σ δ G1 ∧ pl.isAt σ l ∧ Q pl G1) I ⟨M, δ, G, _, QE, rs, d, ex, fun pl l G1 H1 M1 f1 rs1 ha q => ⟨pl, l, G1, M1, rfl, f1, rs1, ha, q⟩⟩) fun v s1 ⟨x, H1, I1, r1, pl, l, G1, M1, ev, f1, rs1, ha, q⟩ => ?_
  subst ev
  cases r1
  obtain ⟨⟨ds, hr⟩, q2⟩ := k pl l G1 H1 M1 f1 rs1 ha q
  obtain ⟨l2, xs, ha2, m, hl, rr⟩ := Pl.has rs1 hr
  cases Pl.inj ha ha2
  obtain ⟨its, rv, pll, hz⟩ := I1.list (SqL.of hl)
  refine wpAny_pyIter_list pll.isList ⟨s1.heap.objs.size, [s1.heap.objs.size], _, _, H1, rfl, I1.kept (t' := s1.toks) fun b o e => Heap.get?_push_of_some _ e, turn_list l _, ⟨_, Heap.get?_push_size _ rfl, rfl, rfl⟩, fun b hb => ?_, q2⟩
  rw [show b = s1.heap.objs.size by simpa using hb]
  exact I1.fpOk (Nat.le_refl _) (I1.hok.fresh (Nat.le_refl _))
theorem ds_forP {X : Cx} {W : WX} {tg iter : Expr} {body : List Stmt} {p : DTP} {g : DTG} {tb : DTS} {pos : Pos} (hp : PassesOwn (model X.prog X.w) X.A X.env X.xe) (hc : X.calm = true) (hi : DPl X W iter p) (hg : DGt X tg g) (hb : DSs X W body tb)
    (hs : ∀ x, foldedSetIterable iter X.env x = pure x := by intro _; rfl) : DS X W (.For tg iter body [] pos) (sForP p g tb) := (ps_for hp hc (di_pl hi) hg hb hs).imp fun E σ H ⟨M, δ, G, DD, rs, d, ok⟩ => by
  refine ⟨M, δ, G, _, _, rs, d, ok.exOf, fun pl l G1 H1 M1 f1 rs1 ha ⟨fx, xs, hr, q⟩ => ⟨⟨xs, hr⟩, ?_⟩⟩
  refine ⟨fun i m σ' H' => ∃ δ' G' M', Frame H1 M1 H' M' ∧ RS X.K H' M' σ' δ' G' ∧ forP pl xs g tb DD (xs.drop i) δ' G' ∧ m = xs.length - i ∧ i ≤ xs.length, ⟨xs.length, δ, G1, M1, Frame.refl _ _, rs1, by simpa using q, by simp, Nat.zero_le _⟩, ?_⟩
  rintro i m σ' H' ⟨δ', G', M', f, rs', q, rfl, hi⟩
  by_cases hlt : i < xs.length
  · have e : xs.drop i = xs[i] :: xs.drop (i + 1) := List.drop_eq_getElem_cons hlt
    rw [e] at q
    obtain ⟨hr', q⟩ := q
    obtain ⟨l2, vs, ha2, m2, hl2, rr⟩ := Pl.has rs' hr'
    cases Pl.inj (Pl.fix fx ha) ha2
    obtain ⟨y, hy, im⟩ := rr.get (List.getElem?_eq_getElem hlt)
    refine .inr ⟨⟨vs, y, SqL.of hl2, hy⟩, fun σ2 H2 => ∃ δ2 G2 M2, Frame H1 M1 H2 M2 ∧ RS X.K H2 M2 σ2 δ2 G2 ∧ forP pl xs g tb DD (xs.drop (i + 1)) δ2 G2, fun σ2 H2 ⟨δ2, G2, M2, f2, rs2, q2⟩ => ⟨xs.length - (i + 1), by omega, δ2, G2, M2, f2, rs2, q2, rfl, hlt⟩, fun x H3 ⟨e3, hyy⟩ => ?_⟩
    subst e3
    have e4 := hyy vs (SqL.of hl2)
    rw [hy] at e4
    cases e4
    refine ⟨M', δ', G', _, _, rs', im, q, fun σ2 δ2 G2 H2 M2 f2 rs2 q2 => ?_⟩
    refine ⟨M2, δ2, G2, _, rs2, q2, ⟨fun σ4 δ4 G4 H4 M4 f4 rs4 q4 => ⟨δ4, G4, M4, (f.trans f2).trans f4, rs4, q4⟩, fun v dv G4 H4 M4 f4 ns rg im q4 => ok.rt v dv G4 H4 M4 (f1.trans ((f.trans f2).trans f4)) ns rg im q4,
      fun σ4 δ4 G4 H4 M4 f4 rs4 q4 => ok.nx σ4 δ4 G4 H4 M4 (f1.trans ((f.trans f2).trans f4)) rs4 q4, fun σ4 δ4 G4 H4 M4 f4 rs4 q4 => ⟨δ4, G4, M4, (f.trans f2).trans f4, rs4, q4⟩,
      fun x4 σ4 δ4 G4 H4 M4 cls dd f4 rs4 rx q4 => ok.ex x4 σ4 δ4 G4 H4 M4 cls dd (f1.trans ((f.trans f2).trans f4)) rs4 rx q4⟩⟩
  · have e : xs.drop i = [] := List.drop_eq_nil_of_le (by omega)
    rw [e] at q
    obtain ⟨hr', q⟩ := q
    obtain ⟨l2, vs, ha2, m2, hl2, rr⟩ := Pl.has rs' hr'
    cases Pl.inj (Pl.fix fx ha) ha2
    exact .inl ⟨⟨vs, SqL.of hl2, by rw [rr.length]; omega⟩, ok.nx σ' δ' G' H' M' (f1.trans f) rs' q⟩

/-! ### methods of texts -/
def joinD (x : D) (xs : List D) : Option D := match x, xs with
  | .str a, [.lst ys] => match strsD ys with
    | some zs => if (zs.map (·.length)).sum + zs.length * a.length ≤ 16777216 then some (.str (Str.join a zs)) else none
    | none => none
  | .str a, [.tup ys] => match strsD ys with
    | some zs => if (zs.map (·.length)).sum + zs.length * a.length ≤ 16777216 then some (.str (Str.join a zs)) else none
    | none => none
  | _, _ => none
theorem strOk_join {a : Str} (h : PyData.strOk a = true) : ∀ {zs : List Str}, (∀ z ∈ zs, PyData.strOk z = true) → PyData.strOk (Str.join a zs) = true
  | [], _ => by simp [PyData.strOk, Str.join, Str.empty]
  | [z], hz => hz z (by simp)
  | x :: z :: r, hz => strOk_app (strOk_app (hz x (by simp)) h) (strOk_join h fun y hy => hz y (by simp [hy]))
theorem strs_im {K : PySem.W.Frag} {H : Hp} {M : Gh} : ∀ {vs : List V} {ds : List D} {zs : List Str}, ImL K H M vs ds → strsD ds = some zs → vs = zs.map V.str ∧ ∀ z ∈ zs, PyData.strOk z = true
  | _, _, _, .nil, h => by simp [strsD] at h; subst h; exact ⟨rfl, fun z e => by simp at e⟩
  | _, _, zs, .cons (d := d) im r, h => by
    cases d <;> simp only [strsD, reduceCtorEq, Option.map_eq_some_iff] at h
    obtain ⟨z2, h1, h2⟩ := h
    subst h2
    obtain ⟨e1, e2⟩ := strs_im r h1
    have ok := (Tm.of im).str
    cases im
    refine ⟨by rw [e1]; rfl, fun z hz => ?_⟩
    rcases List.mem_cons.mp hz with rfl | hz
    · exact ok
    · exact e2 z hz
section
variable {X : Cx} {W : WX} {o e : Expr} {dO de : DTE} {apos pos : Pos}
theorem mt_joinD : MtR X "str.join" (MethD X.K joinD) := by
  intro pins s σ H x xs v us Q I rx rxs ⟨M, dx, ds, z, dom, tx, t, hz, q⟩
  unfold joinD at hz
  split at hz
  · obtain ⟨w, rfl, t1⟩ := t.one
    obtain ⟨l, vs, rfl, hl, r⟩ := t1.lst
    have ok := tx.str
    have e1 := tx.sc (w := .str _) rfl
    subst e1
    split at hz
    · rename_i zs hzs
      split at hz
      · rename_i hc
        cases hz
        obtain ⟨e2, oks⟩ := strs_im r hzs
        subst e2
        refine mt_join pins s σ H _ _ v us Q I rx rxs ⟨_, l, zs, rfl, rfl, .inl (rd_lst hl), hc, ?_⟩
        rw [TL.join_eq]
        exact q _ H (Same.refl H) (.str (strOk_join ok oks))
      · cases hz
    · cases hz
  · obtain ⟨w, rfl, t1⟩ := t.one
    obtain ⟨l, vs, rfl, hl, r⟩ := t1.tup
    have ok := tx.str
    have e1 := tx.sc (w := .str _) rfl
    subst e1
    split at hz
    · rename_i zs hzs
      split at hz
      · rename_i hc
        cases hz
        obtain ⟨e2, oks⟩ := strs_im r hzs
        subst e2
        refine mt_join pins s σ H _ _ v us Q I rx rxs ⟨_, l, zs, rfl, rfl, .inr hl, hc, ?_⟩
        rw [TL.join_eq]
        exact q _ H (Same.refl H) (.str (strOk_join ok oks))
      · cases hz
    · cases hz
  · cases hz
def isStrD : D → Prop
  | .str _ => True
  | _ => False
/-- a text's method with one argument -/
def dStM (g : D → List D → Option D) (o a : DTE) : DTE := fun δ G Q E => o δ G (fun x G1 => isStrD x ∧ a δ G1 (fun y G2 => G2 = G1 ∧ ∃ z, g x [y] = some z ∧ Q z G2) E) E
theorem de_strM {id : String} {name : Str} {g : D → List D → Option D} (slot : Slot "str" name id) (ty : typeOf (.builtin id) = pure (.type "method_descriptor")) (rule : MtR X id (MethD X.K g)) (ho : DB X W o dO) (he : DB X W e de)
    (hs : starEach [e] X.env = [(false, eval e X.env)] := by rfl) (hbase : attributeBase o name X.env (eval o X.env) = eval o X.env := by rfl) (hline : (apos.endLine == pos.line) = true := by rfl) :
    DE X W (.Call (.Attribute o name apos) [e] [] pos) (dStM g dO de) := (pe_m1 slot ty rule ho he hs hbase hline).imp fun σ H R ⟨M, δ, G, Q, QE, rs, d, ex, k⟩ => by
  refine ⟨M, δ, G, _, QE, rs, d, ex, fun v dv G1 H1 M1 f1 rs1 bo ⟨is, q⟩ => ⟨?_, ?_⟩⟩
  · cases dv <;> first | exact is.elim | skip
    exact ⟨_, (bo.now rs1).sc (w := .str _) rfl⟩
  · refine ⟨M1, δ, G1, _, QE, rs1, q, ex.mono f1, fun y dy G2 H2 M2 f2 rs2 bo2 ⟨eG, z, hz, qz⟩ => ?_⟩
    subst eG
    exact ⟨M2, dv, [dy], z, rs2.g.dom, bo H2 M2 f2 rs2, .cons (bo2.now rs2) .nil, hz, fun w H3 sm im => k w z _ H3 M2 ((f1.trans f2).trans (Same.keep sm).frame) (rs2.same sm) im qz⟩
theorem de_join (ho : DB X W o dO) (he : DB X W e de)
    (hs : starEach [e] X.env = [(false, eval e X.env)] := by rfl) (hbase : attributeBase o "join" X.env (eval o X.env) = eval o X.env := by rfl) (hline : (apos.endLine == pos.line) = true := by rfl) :
    DE X W (.Call (.Attribute o "join" apos) [e] [] pos) (dStM joinD dO de) := de_strM F.slot_str_join F.type_str_join mt_joinD ho he hs hbase hline
end
end DD

set_option Elab.async false
set_option linter.all false
set_option maxRecDepth 100000
set_option maxHeartbeats 4000000
namespace DD
open PySem PySem.Spec L2

/-! ### an own class's special methods -/
def IsC (C : Addr) (G : DG) : D → Prop
  | .obj C' _ => C' = C
  | .ref a => ∃ fs, G a = some (.ins C fs)
  | _ => False
theorem isC_of {K : PySem.W.Frag} {H : Hp} {M : Gh} {G : DG} {C : Addr} {v : V} {d : D} (g : RG K H M G) (t : Tm K H M v d) (h : IsC C G d) : ∃ a dx fs, v = .ref a ∧ H a = some (.ins C dx fs) := by
  rcases t with im | ⟨_, _, _, _, e, _⟩ | ⟨_, _, _, _, e, _⟩
  · cases im with
    | obj mm ha r =>
      have e : _ = C := h
      subst e
      exact ⟨_, _, _, rfl, ha⟩
    | ref =>
      obtain ⟨fs, hG⟩ := h
      obtain ⟨_, dx, ps, ha, r⟩ := g.obj _ _ hG
      exact ⟨_, dx, ps, rfl, ha⟩
    | _ => exact h.elim
  · subst e; exact h.elim
  · subst e; exact h.elim
section
variable {X : Cx} {W : WX} {k : Nat} {fa C : Addr} {fd : FuncData} {ps : List Str} {f : Fn} {sp : Sp} {pins : List (Addr × Obj)} {σ : St} {H : Hp} {s : Shared}
theorem run_sp {A : Around} {Q : VK} {us : List Value} {vs : List V} (F : FnOk X.prog X.w X.K X.mg X.base (L2.CX X.prog X.w) k fa fd ps sp) (hr : Room k A) (e0 : Env0 X.prog X.w X.K X.mg X.base A X.stack s H) (hb : Binds X.K fd ps []) (tk : Takes X W)
    (I : Inv X pins σ H s) (r : Vals vs us) (h : sp vs H Q (WE W σ)) : wpAny (model X.prog X.w) A (call (.ref fa) us) (EP X pins σ Q) X.xe s := by
  have hl : us.length = ps.length := by rw [← r.length]; exact F.len _ _ _ _ h
  have b := hb s us I.kIn (by rw [List.append_nil]; exact hl)
  rw [List.append_nil] at b
  refine wpAny_call (codeAny_mono (F.run A X.stack s H ⟨us, []⟩ us vs Q (WE W σ) hr e0 b r h) fun r s' hq => ?_)
  cases r with
  | error e => exact passAt tk σ pins H s e s' I hq
  | ok fl =>
    cases fl with
    | ret u => exact I.after hq
    | next => exact False.elim hq
    | brk => exact False.elim hq
    | cont => exact False.elim hq
theorem inst_of {a dx : Addr} {fs : List (Str × V)} (I : Inv X pins σ H s) (ha : H a = some (.ins C dx fs)) : ∃ od, PySem.W.InstAt s.heap a (PySem.W.instObj C dx) C (some od) := by
  obtain ⟨mA, O, _⟩ := ins_get I.hok ha
  obtain ⟨od, J, _⟩ := O.look
  exact ⟨od, J⟩
end
/-- the type of a value -/
theorem type_of {X : Cx} {pins : List (Addr × Obj)} {σ : St} {H : Hp} {s : Shared} {v : V} {u t : Value} (I : Inv X pins σ H s) (rx : RelV v u) (ty : TyX X.K H v t) (hr : ∀ n, t = .type n → True) : ∀ M, PySem.W.Looks M s.heap (typeOf u) t := by
  intro M
  cases ty with
  | base b =>
    cases b with
    | non => cases (show u = Value.none from rx); exact fun A Q E s k q => wpAny_pure q
    | bl y => cases (show u = Value.bool y from rx); exact fun A Q E s k q => wpAny_pure q
    | int i => obtain ⟨t, q⟩ := (show ∃ t, u = Value.int i t from rx); cases q; exact fun A Q E s k q => wpAny_pure q
    | str y => obtain ⟨t, q⟩ := (show ∃ t, u = Value.str y t from rx); cases q; exact fun A Q E s k q => wpAny_pure q
    | flt y => obtain ⟨t, q⟩ := (show ∃ t, u = Value.float y t from rx); cases q; exact fun A Q E s k q => wpAny_pure q
    | @ins a C dx fs ea cl ha hn htk hm =>
      cases (show u = Value.ref a from rx)
      obtain ⟨mA, O, _⟩ := ins_get I.hok ea
      obtain ⟨od, J, _⟩ := O.look
      exact J.type
    | @lst a xs ea =>
      cases (show u = Value.ref a from rx)
      obtain ⟨_, _, n, _, h1⟩ := (show ObjOk X.prog X.w H s.heap a (.lst xs) from I.hok a _ ea)
      exact fun A Q E s k q => wpAny_typeOf (T := "list") ⟨_, k _ _ h1, rfl⟩ q
    | @frz a ob xs ea =>
      cases (show u = Value.ref a from rx)
      obtain ⟨_, _, _, n, _, h1⟩ := (show ObjOk X.prog X.w H s.heap a (.frz ob (.lst xs)) from I.hok a _ ea)
      exact fun A Q E s k q => wpAny_typeOf (T := "list") ⟨_, k _ _ h1, rfl⟩ q
    | @tup a xs ea =>
      cases (show u = Value.ref a from rx)
      obtain ⟨_, _, _, o, h1, h2, _⟩ := (show ObjOk X.prog X.w H s.heap a (.tup xs) from I.hok a _ ea)
      exact fun A Q E s k q => wpAny_typeOf (T := "tuple") ⟨o, k _ _ h1, h2⟩ q
    | @dK a kvs ea =>
      cases (show u = Value.ref a from rx)
      obtain ⟨_, _, vs, _, o, es, ep, h1, h2, _⟩ := (show ObjOk X.prog X.w H s.heap a (.dK kvs) from I.hok a _ ea)
      exact fun A Q E s k q => wpAny_typeOf (T := "dict") ⟨o, k _ _ h1, h2.1⟩ q
    | @dT a kvs ea =>
      cases (show u = Value.ref a from rx)
      obtain ⟨_, _, xs, _, o, es, ep, h1, h2, _⟩ := (show ObjOk X.prog X.w H s.heap a (.dT kvs) from I.hok a _ ea)
      exact fun A Q E s k q => wpAny_typeOf (T := "dict") ⟨o, k _ _ h1, h2.1⟩ q
  | byt b => obtain ⟨t, q⟩ := (show ∃ t, u = Value.bytes b t from rx); cases q; exact fun A Q E s k q => wpAny_pure q
  | @kTuple a o e c => cases (show u = Value.ref a from rx); exact fun A Q E s k q => wpAny_typeOf (T := "tuple") ⟨o, k _ _ (I.kIn _ _ e), c⟩ q
  | @kList a o e c => cases (show u = Value.ref a from rx); exact fun A Q E s k q => wpAny_typeOf (T := "list") ⟨o, k _ _ (I.kIn _ _ e), c⟩ q
  | @kDict a o e c => cases (show u = Value.ref a from rx); exact fun A Q E s k q => wpAny_typeOf (T := "dict") ⟨o, k _ _ (I.kIn _ _ e), c⟩ q
  | @fTuple a o xs ea =>
    cases (show u = Value.ref a from rx)
    obtain ⟨_, _, _, _, o, h1, h2, _⟩ := (show ObjOk X.prog X.w H s.heap a (.frz o (.tup xs)) from I.hok a _ ea)
    exact fun A Q E s k q => wpAny_typeOf (T := "tuple") ⟨o, k _ _ h1, h2⟩ q
  | @fDict a o kvs ea =>
    cases (show u = Value.ref a from rx)
    obtain ⟨_, _, _, vs, _, o, es, ep, h1, h2, _⟩ := (show ObjOk X.prog X.w H s.heap a (.frz o (.dK kvs)) from I.hok a _ ea)
    exact fun A Q E s k q => wpAny_typeOf (T := "dict") ⟨o, k _ _ h1, h2.1⟩ q
  | @set a S n ea =>
    cases (show u = Value.ref a from rx)
    obtain ⟨o, _, _, _, e, ex, _⟩ := I.hok a _ ea
    exact fun A Q E s k q => wpAny_typeOf (T := "set") ⟨o, k _ _ e, ex.1⟩ q
/-- len(x), x an instance -/
def dLenO (C : Addr) (f : Fn) (a : DTE) : DTE := fun δ G Q E => a δ G (fun x G1 => IsC C G1 x ∧ f [x] G1 (fun z G2 => ∃ n : Int, z = .int n ∧ 0 ≤ n ∧ n < 2 ^ 63 ∧ Q (.int n) G2) E) E
/-- x[i], x an instance -/
def dIxO (C : Addr) (f : Fn) (a b : DTE) : DTE := fun δ G Q E => a δ G (fun x G1 => b δ G1 (fun y G2 => IsC C G2 x ∧ f [x, y] G2 Q E) E) E
/-- x op y, x an instance, y anything of a type that is not below x's -/
def dCmpO (K : PySem.W.Frag) (C : Addr) (f : Fn) (a b : DTE) : DTE := fun δ G Q E => a δ G (fun x G1 => b δ G1 (fun y G2 => IsC C G2 x ∧ (∃ t, TyD K G2 y t ∧ PySem.W.notFirst K C t = true) ∧ f [x, y] G2 Q E) E) E
/-- x + y, both instances of one class -/
def dAddO (C : Addr) (f : Fn) (a b : DTE) : DTE := fun δ G Q E => a δ G (fun x G1 => b δ G1 (fun y G2 => IsC C G2 x ∧ IsC C G2 y ∧ f [x, y] G2 Q E) E) E
section
variable {X : Cx} {W : WX} {k : Nat} {fa C : Addr} {fd : FuncData} {ps : List Str} {f : Fn} {a b : Expr} {da db : DTE} {p pos : Pos}
theorem de_lenO (F : FnOk X.prog X.w X.K X.mg X.base (L2.CX X.prog X.w) k fa fd ps (spD X.K f)) (hr : Room (k + 1) X.A) (hb : Binds X.K fd ps []) (tk : Takes X W) (hs : PySem.W.findIn X.K (.ref C) "__len__" = some (some (.ref fa))) (hf : PySem.W.isFn X.K (.ref fa) = true)
    (hg : Gl X "len") (hm : X.mg "len" = none) (ha : DE X W a da) (na : starEach [a] X.env = (false, eval a X.env) :: starEach [] X.env := by rfl) (hpl : (backTo pos (starEach [] X.env)).any (·.1) = false := by rfl) :
    DE X W (.Call (.Name "len" p) [a] [] pos) (dLenO C f da) := by
  refine ⟨fun pins s σ H R I h => ?_⟩
  obtain ⟨M, δ, G, Q, QE, rs, d, ex, k⟩ := h
  refine wpAny_Call_Name_kw (ld_blt (u := .builtin "len") I hg hm (by decide +kernel) ?_)
  refine PyProof.Rows.callWith_builtin1 (PyProof.Rows.args_cons (thn (ha.run pins s σ H (fun v H1 => ∃ dv G1 M1, Frame H M H1 M1 ∧ RS X.K H1 M1 σ δ G1 ∧ Im X.K H1 M1 v dv ∧ IsC C G1 dv ∧ f [dv] G1 (fun z G2 => ∃ n : Int, z = .int n ∧ 0 ≤ n ∧ n < 2 ^ 63 ∧ Q (.int n) G2) QE) I
    ⟨M, δ, G, _, QE, rs, d, ex, fun v dv G1 H1 M1 f1 rs1 im q => ⟨dv, G1, M1, f1, rs1, im, q⟩⟩) fun v s1 ⟨x, H1, I1, r1, dv, G1, M1, f1, rs1, im, is, q⟩ => PyProof.Rows.args_nil ?_) na) na hpl
  obtain ⟨l, dx, fs, rfl, hl⟩ := isC_of rs1.g (Tm.of im) is
  cases (show v = Value.ref l from r1)
  obtain ⟨od, J⟩ := inst_of I1 hl
  obtain ⟨m, hF⟩ := I1.fr
  refine PySem.W.len_K hF I1.ok.mod.kin J hs hf ?_
  have kk := fun (v : V) (dv : D) (G' : DG) (H' : Hp) (M' : Gh) (f2 : Frame H1 M1 H' M') (rs2 : RS X.K H' M' σ δ G') (im2 : Im X.K H' M' v dv) (z : ∃ n : Int, dv = .int n ∧ 0 ≤ n ∧ n < 2 ^ 63 ∧ Q (.int n) G') => show ∃ n : Int, v = .int n ∧ 0 ≤ n ∧ n < 2 ^ 63 ∧ R (.int n) H' from by
    obtain ⟨n, e, h0, h1, q2⟩ := z
    subst e
    cases im2
    exact ⟨n, rfl, h0, h1, k _ _ G' H' M' (f1.trans f2) rs2 .int q2⟩
  refine wpAny_mono (run_sp (A := X.A.in1) (us := [.ref l]) (vs := [.ref l]) F hr.in1 I1.env0.in1 hb tk I1 (.cons rfl .nil) (spD_of rs1 (.cons im .nil) q (ex.mono f1) kk)) (fun w s' z => ?_) fun _ _ x => x
  obtain ⟨z', H', I', rz, n, e, h0, h1, qz⟩ := z
  subst e
  obtain ⟨t, rfl⟩ := (show ∃ t, w = Value.int n t from rz)
  exact ⟨⟨h0, h1⟩, .int n, H', I'.tok _, ⟨_, rfl⟩, qz⟩
theorem de_ixO (F : FnOk X.prog X.w X.K X.mg X.base (L2.CX X.prog X.w) k fa fd ps (spD X.K f)) (hr : Room (k + 1) X.A) (hb : Binds X.K fd ps []) (tk : Takes X W) (hs : PySem.W.findIn X.K (.ref C) "__getitem__" = some (some (.ref fa))) (hn : PySem.W.fnIn X.K fa = true) (hf : PySem.W.isFn X.K (.ref fa) = true)
    (ha : DE X W a da) (hbb : DE X W b db) (hsl : ∀ (x : Addr) (i : Value), subscripted b true (.ref x) i = runValue (.builtin "lifetime.subscript" ⟨[.ref x, i], []⟩) := by intro _ _; with_unfolding_all rfl) :
    DE X W (.Subscript a b pos) (dIxO C f da db) := by
  refine ⟨fun pins s σ H R I h => ?_⟩
  obtain ⟨M, δ, G, Q, QE, rs, d, ex, k⟩ := h
  refine PyProof.Rows.Subscript_ (binT ha hbb (R := fun v w H2 => ∃ dv dw G2 M2, Frame H M H2 M2 ∧ RS X.K H2 M2 σ δ G2 ∧ Im X.K H2 M2 v dv ∧ Im X.K H2 M2 w dw ∧ IsC C G2 dv ∧ f [dv, dw] G2 Q QE) I
    ⟨M, δ, G, _, QE, rs, d, ex, fun v dv G1 H1 M1 f1 rs1 im q => ⟨M1, δ, G1, _, QE, rs1, q, ex.mono f1, fun w dw G2 H2 M2 f2 rs2 im2 q2 => ⟨dv, dw, G2, M2, f1.trans f2, rs2, im.mono f2.stay, im2, q2⟩⟩⟩ fun v u s2 x y H2 I2 rx ry ⟨dv, dw, G2, M2, f1, rs1, im, im2, is, q⟩ => ?_)
  obtain ⟨l, dx, fs, rfl, hl⟩ := isC_of rs1.g (Tm.of im) is
  cases (show v = Value.ref l from rx)
  obtain ⟨od, J⟩ := inst_of I2 hl
  obtain ⟨m, hF⟩ := I2.fr
  refine PySem.W.sub_K hF I2.ok.mod.kin J hs hn hf ?_ (hsl l u)
  exact run_sp (A := X.A.in1) (us := [.ref l, u]) (vs := [.ref l, y]) F hr.in1 I2.env0.in1 hb tk I2 (.cons rfl (.cons ry .nil)) (spD_of rs1 (.cons im (.cons im2 .nil)) q (ex.mono f1) fun v dv G' H' M' f2 rs2 im2 q2 => k v dv G' H' M' (f1.trans f2) rs2 im2 q2)
theorem cmpO_run {op : CmpOp} (F : FnOk X.prog X.w X.K X.mg X.base (L2.CX X.prog X.w) k fa fd ps (spD X.K f)) (hr : Room k X.A) (hb : Binds X.K fd ps []) (tk : Takes X W) (hop : ∀ a b, compareOp op a b = richCompare op a b) (hs : PySem.W.findIn X.K (.ref C) (cmpInfo op).2.1 = some (some (.ref fa))) (hf : PySem.W.isFn X.K (.ref fa) = true)
    {pins : List (Addr × Obj)} {s : Shared} {σ : St} {H : Hp} {x y : V} {v u : Value} {M : Gh} {δ : DSt} {G : DG} {dx dy : D} {Q : D → DG → Prop} {QE : DX → DG → Prop} {R : VK} (I : Inv X pins σ H s) (rx : RelV x v) (ry : RelV y u) (rs : RS X.K H M σ δ G) (im : Im X.K H M x dx) (im2 : Im X.K H M y dy)
    (is : IsC C G dx) (ty : ∃ t, TyD X.K G dy t ∧ PySem.W.notFirst X.K C t = true) (q : f [dx, dy] G Q QE) (ex : ExOk X.K W H M σ δ QE) (k : ∀ v dv G' H' M', Frame H M H' M' → RS X.K H' M' σ δ G' → Im X.K H' M' v dv → Q dv G' → R v H') :
    wpAny (model X.prog X.w) X.A (compareOp op v u) (EP X pins σ R) X.xe s := by
  obtain ⟨l, ddx, fs, rfl, hl⟩ := isC_of rs.g (Tm.of im) is
  cases (show v = Value.ref l from rx)
  obtain ⟨od, J⟩ := inst_of I hl
  obtain ⟨m, hF⟩ := I.fr
  obtain ⟨t, ht, hn⟩ := ty
  rw [hop]
  refine PySem.W.cmp_K (op := op) (tb := t) hr.units0 hF I.ok.mod.kin J (type_of I ry (tyx_of rs.g (Tm.of im2) ht) (fun _ _ => trivial) _) hn hs hf ?_
  refine wpAny_mono (run_sp (us := [.ref l, u]) (vs := [.ref l, y]) F hr I.env0 hb tk I (.cons rfl (.cons ry .nil)) (spD_of rs (.cons im (.cons im2 .nil)) q ex k)) (fun w s' z => ?_) fun _ _ x => x
  obtain ⟨z', H', I', rz, qz⟩ := z
  exact SlX.cmpback rz ⟨z', H', I', rz, qz⟩
theorem de_cmpO {op : CmpOp} (F : FnOk X.prog X.w X.K X.mg X.base (L2.CX X.prog X.w) k fa fd ps (spD X.K f)) (hr : Room k X.A) (hb : Binds X.K fd ps []) (tk : Takes X W) (hop : ∀ a b, compareOp op a b = richCompare op a b) (hs : PySem.W.findIn X.K (.ref C) (cmpInfo op).2.1 = some (some (.ref fa))) (hf : PySem.W.isFn X.K (.ref fa) = true)
    (ha : DE X W a da) (hbb : DE X W b db) (hm : behindInMarks op b = false) : DE X W (.Compare a [op] [b] pos) (dCmpO X.K C f da db) := by
  refine ⟨fun pins s σ H R I h => ?_⟩
  obtain ⟨M, δ, G, Q, QE, rs, d, ex, k⟩ := h
  refine wpAny_Compare1 (binT ha hbb (R := fun v w H2 => ∃ dv dw G2 M2, Frame H M H2 M2 ∧ RS X.K H2 M2 σ δ G2 ∧ Im X.K H2 M2 v dv ∧ Im X.K H2 M2 w dw ∧ IsC C G2 dv ∧ (∃ t, TyD X.K G2 dw t ∧ PySem.W.notFirst X.K C t = true) ∧ f [dv, dw] G2 Q QE) I
    ⟨M, δ, G, _, QE, rs, d, ex, fun v dv G1 H1 M1 f1 rs1 im q => ⟨M1, δ, G1, _, QE, rs1, q, ex.mono f1, fun w dw G2 H2 M2 f2 rs2 im2 q2 => ⟨dv, dw, G2, M2, f1.trans f2, rs2, im.mono f2.stay, im2, q2⟩⟩⟩ fun v u s2 x y H2 I2 rx ry ⟨dv, dw, G2, M2, f1, rs1, im, im2, is, ty, q⟩ => ?_) hm
  exact cmpO_run F hr hb tk hop hs hf I2 rx ry rs1 im im2 is ty q (ex.mono f1) fun v dv G' H' M' f2 rs2 im2 q2 => k v dv G' H' M' (f1.trans f2) rs2 im2 q2
theorem dt_cmpO {op : CmpOp} (F : FnOk X.prog X.w X.K X.mg X.base (L2.CX X.prog X.w) k fa fd ps (spD X.K f)) (hr : Room k X.A) (hb : Binds X.K fd ps []) (tk : Takes X W) (hop : ∀ a b, compareOp op a b = richCompare op a b) (hs : PySem.W.findIn X.K (.ref C) (cmpInfo op).2.1 = some (some (.ref fa))) (hf : PySem.W.isFn X.K (.ref fa) = true)
    (ha : DE X W a da) (hbb : DE X W b db) (hm : behindInMarks op b = false) : DT X W (.Compare a [op] [b] pos) (dTst (dCmpO X.K C f da db)) := by
  refine ⟨fun pins s σ H R I h => ?_⟩
  obtain ⟨M, δ, G, Q, QE, rs, d, ex, k⟩ := h
  refine wpAny_isTrue_Compare1 (binT ha hbb (R := fun v w H2 => ∃ dv dw G2 M2, Frame H M H2 M2 ∧ RS X.K H2 M2 σ δ G2 ∧ Im X.K H2 M2 v dv ∧ Im X.K H2 M2 w dw ∧ IsC C G2 dv ∧ (∃ t, TyD X.K G2 dw t ∧ PySem.W.notFirst X.K C t = true) ∧ f [dv, dw] G2 (fun x G1 => ∃ b, x = .bl b ∧ Q b G1) QE) I
    ⟨M, δ, G, _, QE, rs, d, ex, fun v dv G1 H1 M1 f1 rs1 im q => ⟨M1, δ, G1, _, QE, rs1, q, ex.mono f1, fun w dw G2 H2 M2 f2 rs2 im2 q2 => ⟨dv, dw, G2, M2, f1.trans f2, rs2, im.mono f2.stay, im2, q2⟩⟩⟩
    (f := fun v u => compareOp op v u) fun v u s2 x y H2 I2 rx ry ⟨dv, dw, G2, M2, f1, rs1, im, im2, is, ty, q⟩ => ?_) hm
  refine thn (cmpO_run (R := fun v H' => ∃ b, v = .bl b ∧ R b H') F hr hb tk hop hs hf I2 rx ry rs1 im im2 is ty q (ex.mono f1) fun v dv G' H' M' f2 rs2 im2 ⟨b, e, q2⟩ => ?_) fun c s3 ⟨z, H3, I3, r3, kk, e, q3⟩ => ?_
  · subst e
    cases im2
    exact ⟨b, rfl, k b G' H' M' (f1.trans f2) rs2 q2⟩
  · subst e
    cases r3
    exact wpAny_truthy_bool ⟨H3, I3, q3⟩
theorem de_addO (F : FnOk X.prog X.w X.K X.mg X.base (L2.CX X.prog X.w) k fa fd ps (spD X.K f)) (hr : Room k X.A) (hb : Binds X.K fd ps []) (tk : Takes X W) (hc : PySem.W.selfFirst X.K C = true) (hs : PySem.W.findIn X.K (.ref C) "__add__" = some (some (.ref fa))) (hf : PySem.W.isFn X.K (.ref fa) = true)
    (ha : DE X W a da) (hbb : DE X W b db) : DE X W (.BinOp a .Add b pos) (dAddO C f da db) := by
  refine ⟨fun pins s σ H R I h => ?_⟩
  obtain ⟨M, δ, G, Q, QE, rs, d, ex, k⟩ := h
  refine wpAny_BinOp (binT ha hbb (R := fun v w H2 => ∃ dv dw G2 M2, Frame H M H2 M2 ∧ RS X.K H2 M2 σ δ G2 ∧ Im X.K H2 M2 v dv ∧ Im X.K H2 M2 w dw ∧ IsC C G2 dv ∧ IsC C G2 dw ∧ f [dv, dw] G2 Q QE) I
    ⟨M, δ, G, _, QE, rs, d, ex, fun v dv G1 H1 M1 f1 rs1 im q => ⟨M1, δ, G1, _, QE, rs1, q, ex.mono f1, fun w dw G2 H2 M2 f2 rs2 im2 q2 => ⟨dv, dw, G2, M2, f1.trans f2, rs2, im.mono f2.stay, im2, q2⟩⟩⟩ fun v u s2 x y H2 I2 rx ry ⟨dv, dw, G2, M2, f1, rs1, im, im2, is, is2, q⟩ => ?_)
  obtain ⟨l, ddx, fs, rfl, hl⟩ := isC_of rs1.g (Tm.of im) is
  obtain ⟨l2, ddx2, fs2, rfl, hl2⟩ := isC_of rs1.g (Tm.of im2) is2
  cases (show v = Value.ref l from rx)
  cases (show u = Value.ref l2 from ry)
  obtain ⟨od, J⟩ := inst_of I2 hl
  obtain ⟨od2, J2⟩ := inst_of I2 hl2
  obtain ⟨m, hF⟩ := I2.fr
  refine PySem.W.binop_K (op := .Add) hF I2.ok.mod.kin J J2.type hc hs hf ?_
  refine wpAny_mono (run_sp (us := [.ref l, .ref l2]) (vs := [.ref l, .ref l2]) F hr I2.env0 hb tk I2 (.cons rfl (.cons rfl .nil)) (spD_of rs1 (.cons im (.cons im2 .nil)) q (ex.mono f1) fun v dv G' H' M' f2 rs2 im2 q2 => k v dv G' H' M' (f1.trans f2) rs2 im2 q2)) (fun w s' z => ?_) fun _ _ x => x
  obtain ⟨z', H', I', rz, qz⟩ := z
  exact SlX.cmpback rz ⟨z', H', I', rz, qz⟩
end
end DD

set_option Elab.async false
set_option linter.all false
set_option maxRecDepth 100000
set_option maxHeartbeats 4000000
/-! a head's Hook with any tests of the written part beside its facts and defs -/
namespace DH
open PySem PySem.Spec PyProof.Rows L2
abbrev Bx := PySem.W.Frag → Bool
abbrev AlX : Type := He.AlD × Bool
def obsX (fa : List He.Fa) (fn : List He.DefD) (bx : List Bx) (K : PySem.W.Frag) : AlX := (He.obsD fa fn K, bx.all fun b => b K)
def valX (fn : List He.DefD) : AlX := (He.valD fn, true)
def SaysX (fa : List He.Fa) (fn : List He.DefD) (bx : List Bx) (K : PySem.W.Frag) : Prop := obsX fa fn bx K = valX fn
def obsXG (n : Nat) (fa : List He.Fa) (fn : List He.DefD) (bx : List Bx) (g : Addr → Option Obj) : AlX := obsX fa fn bx (He.frG g (He.asD g n))
def hookX (n : Nat) (fa : List He.Fa) (fn : List He.DefD) (bx : List Bx) : PySem.W.Hook where
  α := AlX
  obs := fun s => obsXG n fa fn bx s.heap.get?
  val := fun _ => valX fn
  says := fun _ h => ∃ K : PySem.W.Frag, K.In h ∧ SaysX fa fn bx K
  of := fun _ _ e => ⟨_, He.frG_in, e⟩
  keeps := fun _ _ _ ⟨K, hK, c⟩ k => ⟨K, PySem.W.Frag.In.keeps hK k, c⟩
theorem obsXG_eq {n : Nat} {fa : List He.Fa} {fn : List He.DefD} {bx : List Bx} {g : Addr → Option Obj} {s : Shared} (h : ∀ a, g a = s.heap.get? a) : obsXG n fa fn bx g = (hookX n fa fn bx).obs s := by
  have e : g = s.heap.get? := funext h
  rw [e] <;> rfl
section
variable {fa : List He.Fa} {fn : List He.DefD} {bx : List Bx} {K : PySem.W.Frag}
theorem SaysX.d (c : SaysX fa fn bx K) : He.SaysD fa fn K := congrArg (fun z : AlX => z.1) c
theorem SaysX.b (c : SaysX fa fn bx K) (i : Nat) {b : Bx} (h : bx[i]? = some b := by rfl) : b K = true := by
  have c1 : (bx.all fun b => b K) = true := congrArg (fun z : AlX => z.2) c
  exact List.all_eq_true.mp c1 b (List.mem_of_getElem? h)
end
/-! ### tests -/
def oexB (K : PySem.W.Frag) (C : Addr) : Bool := (match K.lookup C with
  | some ⟨.type "type", _, .cls cd, sl⟩ => (match cd.mro, sl.toList with
    | .ref C' :: bm, [_, _, _, _, some (.builtin n), _] => C' == C && n == "ValueError.__new__" && !cd.hasDel && cd.hasDict && PySem.HandSPX.refsVE bm
    | _, _ => false)
  | _ => false) && (He.eqO (PySem.W.findIn K (.ref C) "__setattr__") (some (some (.builtin "object.__setattr__"))) &&
  (decide (PySem.W.subIn K (.ref C) (.type "BaseException") = some true) && (decide (PySem.W.typeIn K (.ref C) = some (.type "type")) && PySem.W.keepIn K (.ref C))))
theorem oexB_ok {K : PySem.W.Frag} {C : Addr} (h : oexB K C = true) : OexC K C := by
  unfold oexB at h
  rw [Bool.and_eq_true, Bool.and_eq_true, Bool.and_eq_true, Bool.and_eq_true] at h
  obtain ⟨q, h1, h2, h3, h4⟩ := h
  refine ⟨?_, He.eqO_ok h1, of_decide_eq_true h2, of_decide_eq_true h3, h4⟩
  split at q
  · rename_i dd cd sl ho
    split at q
    · rename_i C' bm k0 k1 k2 k3 n k5 hm hs
      simp only [Bool.and_eq_true, beq_iff_eq, Bool.not_eq_true'] at q
      obtain ⟨⟨⟨⟨rfl, rfl⟩, hdel⟩, hdd⟩, ht⟩ := q
      obtain ⟨nm, bs, mro, ns, qn, hd, sn, sub, ab, col, del⟩ := cd
      dsimp only at hm hdel hdd
      subst hm hdel hdd
      have hsl : sl = #[k0, k1, k2, k3, some (.builtin "ValueError.__new__"), k5] := by
        obtain ⟨l⟩ := sl
        simp only at hs
        rw [hs]
      subst hsl
      exact ⟨nm, qn, ns, bs, bm, sn, sub, ab, col, dd, k0, k1, k2, k3, k5, ho, ht⟩
    · cases q
  · cases q
def insB (K : PySem.W.Frag) (C : Addr) : Bool := He.eqO (PySem.W.findIn K (.ref C) "__class__") (some (some (.builtin "object.__class__"))) && (He.eqO (PySem.W.specialIn K (.builtin "object.__class__") "__get__") (some (some (.builtin "getset_descriptor.__get__"))) &&
  (decide (PySem.W.takesIn K (.builtin "object.__class__") = some true) && (decide (PySem.W.mroIn K C (.type "object") = some true) && decide (PySem.W.kitOne K (.ref C) (.ref C) = some true))))
theorem insB_ok {K : PySem.W.Frag} {C : Addr} (c : Cls K C) (h : insB K C = true) : C8.InsC K C := by
  unfold insB at h
  rw [Bool.and_eq_true, Bool.and_eq_true, Bool.and_eq_true, Bool.and_eq_true] at h
  obtain ⟨h1, h2, h3, h4, h5⟩ := h
  exact ⟨c, He.eqO_ok h1, He.eqO_ok h2, of_decide_eq_true h3, of_decide_eq_true h4, of_decide_eq_true h5⟩
def kitB (K : PySem.W.Frag) (t u : Value) (b : Bool) : Bool := decide (PySem.W.kitOne K t u = some b)
theorem kitB_ok {K : PySem.W.Frag} {t u : Value} {b : Bool} (h : kitB K t u b = true) : PySem.W.kitOne K t u = some b := of_decide_eq_true h
/-- a class's own __init__ that is a def -/
def iniB (K : PySem.W.Frag) (C : Addr) : Bool := He.eqO (PySem.W.findIn K (.ref C) "__init__") (some (some (.ref (He.ma K C "__init__")))) && decide (PySem.W.typeIn K (.ref (He.ma K C "__init__")) = some (.type "function"))
theorem iniB_ok {K : PySem.W.Frag} {C : Addr} (h : iniB K C = true) : PySem.W.findIn K (.ref C) "__init__" = some (some (.ref (He.ma K C "__init__"))) ∧ PySem.W.typeIn K (.ref (He.ma K C "__init__")) = some (.type "function") := by
  unfold iniB at h
  rw [Bool.and_eq_true] at h
  exact ⟨He.eqO_ok h.1, of_decide_eq_true h.2⟩
end DH
namespace DD
open PySem PySem.Spec L2
theorem ru {k : Nat} {A : Around} (r : Room k A) : A.units + 65 < cLine := by have := r.un; omega
section
variable {P : Program} {w : World} {K : PySem.W.Frag} {mg : Str → Option Value} {base : Heap}
/-- an error's __init__: self.f = index -/
theorem low_ok {qual m : Str} {a b f : Str} {st : Stmt} {fa C : Addr} {fd : FuncData} {k : Nat} {p1 p2 p3 p4 : Pos} (F : FunD K m qual (defArgs st) (defBody st) (defScope st) [] [] fa fd) (S : FnScope [a, b] [a, b] (defScope st))
    (T : OexC K C) (n : PySem.W.findIn K (.ref C) f = some none) (hb : defBody st = [.Assign [.Attribute (.Name a p1) f p2] (.Name b p3) p4])
    (h0 : ∀ X : Cx, X.N = [a, b] → X.env.scope = defScope st → PE X (.Name a p1) (tVar 0)) (h1 : ∀ X : Cx, X.N = [a, b] → X.env.scope = defScope st → PE X (.Name b p3) (tVar 1)) : FnOk P w K mg base (L2.CX P w) (k + 1) fa fd [a, b] (spLow C f) := by
  refine F.ok S (fun vs H Q E ⟨x, y, e, _⟩ => by subst e; rfl) (fun cdv A outer s H vs Q E hr ⟨x, y, e, h, q⟩ => ?_)
  subst e
  refine ⟨_, by rw [hb]; exact pss_one (ps_ost (h0 _ rfl rfl) (h1 _ rfl rfl)), ?_⟩
  exact ⟨y, rfl, .ref x, rfl, x, C, rfl, T, n, .inl ⟨h, fun dx n1 n2 => q dx n1 n2⟩⟩
end
end DD

set_option Elab.async false
set_option linter.all false
set_option maxRecDepth 100000
set_option maxHeartbeats 4000000
namespace DD
open PySem PySem.Spec L2

/-! ### a def's data, from the written part -/
def fdOf (K : PySem.W.Frag) (f : Addr) (fd : FuncData) : Prop := ∃ oc od osl, K.lookup f = some ⟨oc, od, .func fd, osl⟩
section
variable {K : PySem.W.Frag} {x qual : Str} {params : Arguments} {body : List Stmt} {scope : Scope} {dvs : List V} {f : Addr} {fd : FuncData} {ps : List Str}
/-- keywords, defaults among the parameters or none -/
theorem kbn1 (F : FunD K x qual params body scope dvs [] f fd) (n : Nat) (ks : List Str) (g : {α : Type} → List α → List α → List α → List α) (hd : dvs ≠ [])
    (hrel : ∀ {vs ds zs : List V} {us its ws : List Value}, Vals vs us → Vals ds its → Vals zs ws → Vals (g vs ds zs) (g us its ws))
    (h : ∀ (T : Addr) (kV doc pm : Value) (an : Option Addr) (cdv ct : Value) (us its ws : List Value), us.length = n → its.length = dvs.length → ws.length = ks.length →
      ∃ k, bindArgs (PySem.W.fnOf x qual params body scope (.ref T) kV doc pm an cdv ct) ⟨us, ks.zip ws⟩ = seqItems? (.ref T) >>= k ∧ k (some its.toArray) = pure (ps.zip (g us its ws))) : ∃ its : List Value, KBn K fd ps n ks (fun us ws => g us its ws) (fun vs zs => g vs dvs zs) := by
  obtain ⟨oc, od, dV, kV, doc, pm, an, cdv, ct, osl, rfl, lk, hcd, hD, hK⟩ := F.ex
  rcases hD with ⟨e, _⟩ | ⟨_, T, o, its, m, rfl, lT, oT, rT⟩
  · exact absurd e hd
  · refine ⟨its, ⟨fun s us ws X l1 l2 => ?_, fun r1 r2 => hrel r1 rT r2⟩⟩
    obtain ⟨k, e1, e2⟩ := h T kV doc pm an cdv ct us its ws l1 rT.length.symm l2
    refine BindsTo.of_looks fun M => ?_
    rw [e1]
    exact looks_items X lT oT (.of_pure e2)
theorem kbnN (F : FunD K x qual params body scope [] [] f fd) (n : Nat) (ks : List Str) (g : {α : Type} → List α → List α → List α)
    (hrel : ∀ {vs zs : List V} {us ws : List Value}, Vals vs us → Vals zs ws → Vals (g vs zs) (g us ws))
    (h : ∀ (kV doc pm : Value) (an : Option Addr) (cdv ct : Value) (us ws : List Value), us.length = n → ws.length = ks.length →
      bindArgs (PySem.W.fnOf x qual params body scope .none kV doc pm an cdv ct) ⟨us, ks.zip ws⟩ = pure (ps.zip (g us ws))) : KBn K fd ps n ks (fun us ws => g us ws) (fun vs zs => g vs zs) := by
  obtain ⟨oc, od, dV, kV, doc, pm, an, cdv, ct, osl, rfl, lk, hcd, hD, hK⟩ := F.ex
  rcases hD with ⟨_, rfl⟩ | ⟨e, _⟩
  · exact ⟨fun s us ws X l1 l2 => BindsTo.of_eq (h kV doc pm an cdv ct us ws l1 l2), fun r1 r2 => hrel r1 r2⟩
  · exact absurd rfl e
end
/-! ### C(k = v, ..) -/
def dMakeK (C : Addr) (f : Fn) (n m : Nat) (gD : List D → List D → List D) (a b : DTA) : DTE := fun δ G Q E => a δ G (fun ds G1 => b δ G1 (fun es G2 => ds.length = n ∧ es.length = m ∧ ∀ x, G2 x = none → f (gD (.ref x :: ds) es) (gset G2 x (some (.ins C []))) (fun v G3 => v = .non ∧ Q (.ref x) G3) (fun ex G3 => E ex (gset G3 x none))) E) E
def dMakeKZ (C : Addr) (f : Fn) (n m : Nat) (gD : List D → List D → List D) (a b : DTA) : DTE := fun δ G Q E => a δ G (fun ds G1 => b δ G1 (fun es G2 => ds.length = n ∧ es.length = m ∧ ∀ x, G2 x = none → f (gD (.ref x :: ds) es) (gset G2 x (some (.ins C []))) (fun v G3 => v = .non ∧ ∃ fs, G3 x = some (.ins C fs) ∧ Q (.obj C (fs.map fun p => (p.1, p.2.d))) (gset G3 x none)) (fun ex G3 => E ex (gset G3 x none))) E) E
abbrev DK (X : Cx) (W : WX) (kws : List Keyword) (d : DTA) : Prop := PK X kws (rdA X.K W d)
section
variable {X : Cx} {W : WX} {k n : Nat} {fa C : Addr} {fd : FuncData} {ps ks : List Str} {f : Fn} {x : Str} {p pos kpos : Pos} {e : Expr} {es : List Expr} {kws : List Keyword} {ta tk : DTA} {de : DTE} {nm : Option Str} {g : List Value → List Value → List Value} {gV : List V → List V → List V} {gD : List D → List D → List D}
theorem _root_.L2.PK.imp {X : Cx} {e : List Keyword} {t t' : TA} (h : PK X e t) (i : ∀ σ H R, t' σ H R → t σ H R) : PK X e t' := ⟨fun p pins s σ H Q I q => h.run p pins s σ H Q I (i _ _ _ q)⟩
theorem dk_nil : DK X W [] dNil := pk_nil.imp fun σ H R ⟨M, δ, G, Q, QE, rs, d, ex, k⟩ => k [] [] G H M (Frame.refl H M) rs .nil d
theorem dk_cons (ha : DE X W e de) (hr : DK X W kws ta) : DK X W (⟨nm, e, kpos⟩ :: kws) (dCons de ta) := (pk_cons ha hr).imp fun σ H R ⟨M, δ, G, Q, QE, rs, d, ex, k⟩ =>
  ⟨M, δ, G, _, QE, rs, d, ex, fun v dv G' H' M' f rs' im q => ⟨M', δ, G', _, QE, rs', q, ex.mono f, fun vs ds G2 H2 M2 f2 rs2 iml q2 => k (v :: vs) (dv :: ds) G2 H2 M2 (f.trans f2) rs2 (.cons (im.mono f2.stay) iml) q2⟩⟩
theorem dd_run_makeK {pins : List (Addr × Obj)} {σ : St} {H : Hp} {s : Shared} {Q : VK} {sp : Sp} {E : XK} {us ws : List Value} {vs zs : List V} (M : Mk X.K C fa) (F : FnOk X.prog X.w X.K X.mg X.base (L2.CX X.prog X.w) k fa fd ps sp) (hr : Room (k + 1) X.A) (hb : KBn X.K fd ps (n + 1) ks g gV) (hx : PassesAt (L2.CX X.prog X.w) X σ E)
    (I : Inv X pins σ H s) (r : Vals vs us) (rz : Vals zs ws) (l1 : vs.length = n) (l2 : zs.length = ks.length)
    (h : ∀ x dx, H x = none → H dx = none → dx ≠ x → sp (gV (.ref x :: vs) zs) (upd (upd H dx (.own x)) x (.ins C dx [])) (fun v H2 => v = .non ∧ Q (.ref x) H2) E) :
    wpAny (model X.prog X.w) X.A (call (.ref C) us (ks.zip ws)) (EP X pins σ Q) X.xe s := by
  have hq := h (s.heap.objs.size + 1) s.heap.objs.size (I.hok.fresh (Nat.le_succ _)) (I.hok.fresh (Nat.le_refl _)) (Nat.ne_of_lt (Nat.lt_succ_self _))
  have I2 := Inv.made (C := C) I
  have r1 : Vals (V.ref (s.heap.objs.size + 1) :: vs) (Value.ref (s.heap.objs.size + 1) :: us) := .cons rfl r
  have r2 := hb.rel r1 rz
  have n1 : (Value.ref (s.heap.objs.size + 1) :: us).length = n + 1 := by
    rw [List.length_cons, ← r.length, l1]
  refine wpAny_call (make_map (f := fa) I.kIn M.makes M.init (beq_iff_eq.mp M.fn) (codeAny_mono (F.run _ X.stack _ _ ⟨Value.ref (s.heap.objs.size + 1) :: us, ks.zip ws⟩ (g (Value.ref (s.heap.objs.size + 1) :: us) ws) _ _ E (hr.make C us (ks.zip ws))
    (I2.env0.make C us (ks.zip ws)) (hb.to _ (Value.ref (s.heap.objs.size + 1) :: us) ws I2.kIn n1 (rz.length.symm.trans l2)) r2 hq) fun r s' hq' => ?_))
  cases r with
  | error e => exact hx pins _ _ e s' I2 hq'
  | ok fl =>
    cases fl with
    | ret u =>
      obtain ⟨v, H', I3, rv, ev, q3⟩ := I2.after hq'
      subst ev
      exact ⟨rv, ⟨V.ref (s.heap.objs.size + 1), H', I3, rfl, q3⟩⟩
    | next => exact False.elim hq'
    | brk => exact False.elim hq'
    | cont => exact False.elim hq'
theorem de_makeK0 (MK : Mk X.K C fa) (F : FnOk X.prog X.w X.K X.mg X.base (L2.CX X.prog X.w) k fa fd ps (spD X.K f)) (hr : Room (k + 1) X.A) (hg : Gl X x) (hm : X.mg x = some (.ref C)) (hb : KBn X.K fd ps 1 ks g gV) (hi : ∀ H M (v : V) (d : D) zs es, Im X.K H M v d → ImL X.K H M zs es → es.length = ks.length → ImL X.K H M (gV [v] zs) (gD [d] es)) (tk' : Takes X W)
    (ha : DK X W kws tk)
    (hall : (backToKw pos (keywordEach kws X.env)).all (·.1.isSome) = true := by rfl) (hks : (backToKw pos (keywordEach kws X.env)).filterMap (·.1) = ks := by rfl) (hdb : (x == ("__debug__" : Str)) = false := by decide)
    (hpl : ((backTo pos (starEach [] X.env)).any (·.1) || (backToKw pos (keywordEach kws X.env)).any (·.1.isNone)) = false := by rfl) :
    DE X W (.Call (.Name x p) [] kws pos) (dMakeK C f 0 ks.length gD dNil tk) := by
  refine ⟨fun pins s σ H R I h => ?_⟩
  obtain ⟨M, δ, G, Q, QE, rs, d, ex, k⟩ := h
  refine wpAny_Call_Name_kw (ld_glob I hg hm ?_ hdb)
  refine PySem.W.callWith_KW0 (h₀ := X.base) I.ok.mod.kin MK.kp hall ?_ hpl
  refine thn (ha.run pos pins s σ H (fun vs H1 => ∃ es G1 M1, Frame H M H1 M1 ∧ RS X.K H1 M1 σ δ G1 ∧ ImL X.K H1 M1 vs es ∧ ([] : List D).length = 0 ∧ es.length = ks.length ∧ ∀ x, G1 x = none → f (gD [.ref x] es) (gset G1 x (some (.ins C []))) (fun v G3 => v = .non ∧ Q (.ref x) G3) (fun ex G3 => QE ex (gset G3 x none))) I ⟨M, δ, G, _, QE, rs, d, ex, fun vs ds G1 H1 M1 f1 rs1 iml q => ⟨ds, G1, M1, f1, rs1, iml, q⟩⟩) fun ws s1 ⟨zs, H1, I1, r, es, G1, M1, f1, rs1, iml, _, l2, q⟩ => ⟨I1.kIn, ?_⟩
  rw [hks]
  refine dd_run_makeK (n := 0) (us := []) (vs := []) MK F hr hb (passAt tk' σ) I1 .nil r rfl (by rw [iml.length]; exact l2) fun z dz nz ndz ne => ?_
  obtain ⟨kp, rs2, gz⟩ := rs1.newIns (C := C) nz ndz ne
  refine spD_of rs2 (hi _ _ _ _ _ _ .ref (ImL.mono kp.stay iml) l2) (q z gz) (fun ex' G' H' M' cls dd f3 rs3 rx qe => ex _ _ _ _ cls dd ((f1.trans kp.frame).trans f3) rs3.drop rx qe) fun v dv G' H' M' f3 rs3 im qd => ?_
  obtain ⟨ev, qd⟩ := qd
  subst ev
  cases im
  exact ⟨rfl, k _ _ G' H' M' ((f1.trans kp.frame).trans f3) rs3 .ref qd⟩
end
/-! ### list methods -/
section
variable {X : Cx} {W : WX} {e o e2 : Expr} {p : DTP} {d d2 : DTE} {i : Nat} {x : Str} {pos pos' apos : Pos}
theorem ds_append (ho : DPl X W o p) (he : DE X W e d) (hbase : attributeBase o "append" X.env (eval o X.env) = eval o X.env := by rfl) (hline : (apos.endLine == pos.line) = true := by rfl) (hs1 : starEach [e] X.env = (false, eval e X.env) :: starEach [] X.env := by rfl)
    (hfew : ((backTo pos (starEach [e] X.env)).all (fun x => !x.1) && (backToKw pos (keywordEach [] X.env)).all (fun x => x.1.isSome) && decide (([e] : List Expr).length + ([] : List Keyword).length + (if ([] : List Keyword).isEmpty then 0 else 1) < 30)) = true := by rfl)
    (hs : swapsWith (.Call (.Attribute o "append" apos) [e] [] pos) none pos'.line X.env = pure false := by rfl) : DS X W (.Expr (.Call (.Attribute o "append" apos) [e] [] pos) pos') (sMut gApp p (dCons d dNil)) :=
  ds_mut mut_app (pe_bm PySem.F.plainAttrs_list PySem.F.slot_list_append PySem.F.type_list_append mt_append ho (da_cons he da_nil hs1) hbase hfew hline hs1 rfl) hs
theorem ds_clear (ho : DPl X W o p) (hbase : attributeBase o "clear" X.env (eval o X.env) = eval o X.env := by rfl) (hline : (apos.endLine == pos.line) = true := by rfl)
    (hs : swapsWith (.Call (.Attribute o "clear" apos) [] [] pos) none pos'.line X.env = pure false := by rfl) : DS X W (.Expr (.Call (.Attribute o "clear" apos) [] [] pos) pos') (sMut gClear p dNil) :=
  ds_mut0 mut_clear (pe_bm0 PySem.F.plainAttrs_list PySem.F.slot_list_clear PySem.F.type_list_clear mt_clear ho hbase hline) hs
theorem ds_popAt (ho : DPl X W o p) (he : DE X W e d) (hbase : attributeBase o "pop" X.env (eval o X.env) = eval o X.env := by rfl) (hline : (apos.endLine == pos.line) = true := by rfl) (hs1 : starEach [e] X.env = (false, eval e X.env) :: starEach [] X.env := by rfl)
    (hfew : ((backTo pos (starEach [e] X.env)).all (fun x => !x.1) && (backToKw pos (keywordEach [] X.env)).all (fun x => x.1.isSome) && decide (([e] : List Expr).length + ([] : List Keyword).length + (if ([] : List Keyword).isEmpty then 0 else 1) < 30)) = true := by rfl)
    (hs : swapsWith (.Call (.Attribute o "pop" apos) [e] [] pos) none pos'.line X.env = pure false := by rfl) : DS X W (.Expr (.Call (.Attribute o "pop" apos) [e] [] pos) pos') (sMut gPopAt p (dCons d dNil)) :=
  ds_mut mut_popAt (pe_bm PySem.F.plainAttrs_list PySem.F.slot_list_pop PySem.F.type_list_pop mt_popAt ho (da_cons he da_nil hs1) hbase hfew hline hs1 rfl) hs
theorem ds_pop (ho : DPl X W o p) (hbase : attributeBase o "pop" X.env (eval o X.env) = eval o X.env := by rfl) (hline : (apos.endLine == pos.line) = true := by rfl)
    (hs : swapsWith (.Call (.Attribute o "pop" apos) [] [] pos) none pos'.line X.env = pure false := by rfl) : DS X W (.Expr (.Call (.Attribute o "pop" apos) [] [] pos) pos') (sMut gPop p dNil) :=
  ds_mut0 mut_pop (pe_bm0 PySem.F.plainAttrs_list PySem.F.slot_list_pop PySem.F.type_list_pop mt_pop ho hbase hline) hs
theorem ds_insert (ho : DPl X W o p) (he : DE X W e d) (he2 : DE X W e2 d2) (hbase : attributeBase o "insert" X.env (eval o X.env) = eval o X.env := by rfl) (hline : (apos.endLine == pos.line) = true := by rfl) (hs1 : starEach [e, e2] X.env = (false, eval e X.env) :: starEach [e2] X.env := by rfl) (hs2 : starEach [e2] X.env = (false, eval e2 X.env) :: starEach [] X.env := by rfl)
    (hfew : ((backTo pos (starEach [e, e2] X.env)).all (fun x => !x.1) && (backToKw pos (keywordEach [] X.env)).all (fun x => x.1.isSome) && decide (([e, e2] : List Expr).length + ([] : List Keyword).length + (if ([] : List Keyword).isEmpty then 0 else 1) < 30)) = true := by rfl) (hpl : (backTo pos (starEach [e2] X.env)).any (·.1) = false := by rfl)
    (hs : swapsWith (.Call (.Attribute o "insert" apos) [e, e2] [] pos) none pos'.line X.env = pure false := by rfl) : DS X W (.Expr (.Call (.Attribute o "insert" apos) [e, e2] [] pos) pos') (sMut gIns p (dCons d (dCons d2 dNil))) :=
  ds_mut mut_ins (pe_bm PySem.F.plainAttrs_list PySem.F.slot_list_insert PySem.F.type_list_insert mt_insert ho (da_cons he (da_cons he2 da_nil hs2) hs1) hbase hfew hline hs1 hpl) hs
end
/-- an empty tuple of the written part -/
def tup0B (K : PySem.W.Frag) (a : Addr) : Bool := match K.lookup a with
  | some ⟨.type c, _, .seq its _, _⟩ => c == "tuple" && its.size == 0
  | _ => false
theorem tup0B_ok {K : PySem.W.Frag} {a : Addr} (h : tup0B K a = true) (H : Hp) (M : Gh) : Im K H M (.ref a) (.tup []) := by
  unfold tup0B at h
  split at h
  · rename_i c dd its n sl ho
    simp only [Bool.and_eq_true, beq_iff_eq] at h
    obtain ⟨rfl, h2⟩ := h
    refine .tupK (xs := []) (fun H' => .inr ⟨_, its, n, ho, rfl, rfl, by omega, ?_⟩) .nil
    have e : its = #[] := Array.size_eq_zero_iff.mp h2
    rw [e]
    exact .nil
  · cases h
end DD

set_option Elab.async false
set_option linter.all false
set_option maxRecDepth 100000
set_option maxHeartbeats 4000000
namespace DD
open PySem PySem.Spec L2

section
variable {X : Cx} {W : WX} {x : Str} {pos p p2 apos : Pos} {j : Nat} {i : Int} {z : Str} {b : Bool}
theorem de_int : DE X W (.Constant (.int i) j pos) (dC (.int i)) := de_c pe_int fun _ _ => .int
theorem de_str (h : PyData.strOk z = true := by decide +kernel) : DE X W (.Constant (.str z) j pos) (dC (.str z)) := de_c pe_str fun _ _ => .str h
theorem de_bl : DE X W (.Constant (.bool b) j pos) (dC (.bl b)) := de_c pe_bl fun _ _ => .bl
theorem de_non : DE X W (.Constant .none j pos) (dC .non) := de_c pe_non fun _ _ => .non
theorem de_gstr (hg : Gl X x) (hm : ∃ t, X.mg x = some (.str z t)) (ok : PyData.strOk z = true := by decide +kernel) (hd : (x == ("__debug__" : Str)) = false := by decide) : DE X W (.Name x pos) (dC (.str z)) := by
  obtain ⟨t, hm⟩ := hm
  exact de_c (pe_glob (v := .str z) hg hm ⟨t, rfl⟩ hd) fun _ _ => .str ok
theorem de_gint (hg : Gl X x) (hm : ∃ t, X.mg x = some (.int i t)) (hd : (x == ("__debug__" : Str)) = false := by decide) : DE X W (.Name x pos) (dC (.int i)) := by
  obtain ⟨t, hm⟩ := hm
  exact de_c (pe_glob (v := .int i) hg hm ⟨t, rfl⟩ hd) fun _ _ => .int
theorem de_gref {a : Addr} (hg : Gl X x) (hm : X.mg x = some (.ref a)) (hd : (x == ("__debug__" : Str)) = false := by decide) : DE X W (.Name x pos) (dC (.ref a)) := de_c (pe_glob (v := .ref a) hg hm rfl hd) fun _ _ => .ref
/-! errors -/
theorem ds_raiseT {C : Addr} {m : Str} (hc : X.calm = true) (tk : Takes X W) (q : PySem.W.excIn X.K C He.veBase "ValueError.__new__" = true) (gC : X.mg x = some (.ref C)) (kC : PySem.W.keepIn X.K (.ref C) = true) (h1 : PySem.W.subIn X.K (.ref C) (.type "BaseException") = some true) (h2 : PySem.W.typeIn X.K (.ref C) = some (.type "type")) (hg : Gl X x)
    (hdb : (x == ("__debug__" : Str)) = false := by decide) : DS X W (.Raise (some (.Call (.Name x p) [.Constant (.str m) j p2] [] pos)) none apos) (sRaise C) :=
  ds_raise hc tk (pmk_own PySem.F.excBase_ValueError q gC kC (raises_own h1 h2) hg hdb)
theorem ds_raiseX {C fI : Addr} {f : Str} {e : Expr} {d : DTE} {k n : Nat} {fd : FuncData} {ps : List Str} (hc : X.calm = true) (tk : Takes X W) (T : OexC X.K C) (iC : PySem.W.findIn X.K (.ref C) "__init__" = some (some (.ref fI))) (tI : PySem.W.typeIn X.K (.ref fI) = some (.type "function"))
    (F1 : FnOk X.prog X.w X.K X.mg X.base (L2.CX X.prog X.w) k fI fd ps (spLow C f)) (hr : Room n X.A) (hk : k + 1 ≤ n) (hb : Binds X.K fd ps []) (hg : Gl X x) (hm : X.mg x = some (.ref C)) (he : DE X W e d)
    (hs : starEach [e] X.env = (false, eval e X.env) :: starEach [] X.env := by rfl) (hpl : (backTo pos (starEach [] X.env)).any (·.1) = false := by rfl) (hdb : (x == ("__debug__" : Str)) = false := by decide) :
    DS X W (.Raise (some (.Call (.Name x p) [e] [] pos)) none apos) (sRaiseF C f d) :=
  ds_raiseF hc tk (a := e) (pmk_oex T iC tI F1 (hr.mono hk) hb .nil passL hg hm (pa_cons he pa_nil hs) hdb hs hpl)
end
/-- C(e, ..), defaults behind -/
theorem de_makeD {X : Cx} {W : WX} {k : Nat} {fa C : Addr} {fd : FuncData} {ps : List Str} {f : Fn} {x : Str} {p pos : Pos} {e : Expr} {es : List Expr} {ta : DTA} {dvs : List V} {dds : List D} (MK : Mk X.K C fa) (F : FnOk X.prog X.w X.K X.mg X.base (L2.CX X.prog X.w) k fa fd ps (spD X.K f)) (hr : Room (k + 1) X.A) (hg : Gl X x) (hm : X.mg x = some (.ref C))
    (hb : ∃ ds, Vals dvs ds ∧ Binds X.K fd ps ds) (hi : ∀ H M, ImL X.K H M dvs dds) (tk : Takes X W)
    (ha : DA X W (e :: es) ta) (hdb : (x == ("__debug__" : Str)) = false := by decide) (he : starEach (e :: es) X.env = (false, eval e X.env) :: starEach es X.env := by rfl) (hpl : (backTo pos (starEach es X.env)).any (·.1) = false := by rfl) :
    DE X W (.Call (.Name x p) (e :: es) [] pos) (dMake C f dds ta) := by
  obtain ⟨ds, hd, hb⟩ := hb
  exact de_make MK F hr hg hm hb hd hi tk ha hdb he hpl
/-- C(k = v, ..), defaults there or not -/
theorem de_makeKE {X : Cx} {W : WX} {k : Nat} {fa C : Addr} {fd : FuncData} {ps ks : List Str} {f : Fn} {x : Str} {p pos : Pos} {kws : List Keyword} {tk : DTA} {g : List Value → List Value → List Value → List Value} {gV : List V → List V → List V} {gD : List D → List D → List D} (MK : Mk X.K C fa) (F : FnOk X.prog X.w X.K X.mg X.base (L2.CX X.prog X.w) k fa fd ps (spD X.K f)) (hr : Room (k + 1) X.A) (hg : Gl X x) (hm : X.mg x = some (.ref C))
    (hb : ∃ its : List Value, KBn X.K fd ps 1 ks (g its) gV) (hi : ∀ H M (v : V) (d : D) zs es, Im X.K H M v d → ImL X.K H M zs es → es.length = ks.length → ImL X.K H M (gV [v] zs) (gD [d] es)) (tk' : Takes X W)
    (ha : DK X W kws tk)
    (hall : (backToKw pos (keywordEach kws X.env)).all (·.1.isSome) = true := by rfl) (hks : (backToKw pos (keywordEach kws X.env)).filterMap (·.1) = ks := by rfl) (hdb : (x == ("__debug__" : Str)) = false := by decide)
    (hpl : ((backTo pos (starEach [] X.env)).any (·.1) || (backToKw pos (keywordEach kws X.env)).any (·.1.isNone)) = false := by rfl) :
    DE X W (.Call (.Name x p) [] kws pos) (dMakeK C f 0 ks.length gD dNil tk) := by
  obtain ⟨its, hb⟩ := hb
  exact de_makeK0 MK F hr hg hm hb hi tk' ha hall hks hdb hpl
/-- a comprehension's reading -/
def dLcW (it : DTA) (g : DTG) (tt : DTT) (te : DTE) (vs : List Nat) : DTA := fun δ G Q E => dwipe δ vs = δ ∧ dLc it g tt te vs δ G Q E
theorem df_lcW {X : Cx} {W : WX} {elt tg iter : Expr} {ifs : List Expr} {scope : Scope} {own : List (Str × Nat)} {vs : List Nat} {pos : Pos} {it : DTA} {g : DTG} {tt : DTT} {te : DTE} (hc : X.calm = true) (hN : X.N.Nodup) (hi : DI X W tg iter it) (ok : BlkOk X.N X.env.scope scope own)
    (hg : ∀ (s : Shared) (H : Hp) (C : Addr) (cl : List (Str × Addr)) (fp : List Addr), DGc (X.blk s H scope (PySem.compEnvC scope cl C X.env) fp) vs tg g) (ht : ∀ (s : Shared) (H : Hp) (C : Addr) (cl : List (Str × Addr)) (fp : List Addr), DTs (X.blk s H scope (PySem.compEnvC scope cl C X.env) fp) ifs tt)
    (he : ∀ (s : Shared) (H : Hp) (C : Addr) (cl : List (Str × Addr)) (fp : List Addr), DE (X.blk s H scope (PySem.compEnvC scope cl C X.env) fp) W0 elt te) (hvs : own.map (fun p => p.2) = vs := by rfl) (hs : ∀ x, foldedSetIterable iter X.env x = pure x := by intro _; rfl) :
    DF X W (.ListComp elt [⟨tg, iter, ifs, 0⟩] scope pos) (dLcW it g tt te vs) := by
  subst hvs
  exact df_lc hc hN hi ok hg ht he hs
theorem ds_setLcW {X : Cx} {W : WX} {i : Nat} {y : Str} {py spos : Pos} {elt tg iter : Expr} {ifs : List Expr} {scope : Scope} {own : List (Str × Nat)} {vs : List Nat} {pos : Pos} {it : DTA} {g : DTG} {tt : DTT} {te : DTE} (hc : X.calm = true) (hN : X.N.Nodup) (hy : X.N[i]? = some y) (hyl : X.env.scope.names.lookup y = some .local)
    (hsw : swapsWith (.ListComp elt [⟨tg, iter, ifs, 0⟩] scope pos) (some (.Name y py)) spos.line X.env = pure true) (hi : DI X W tg iter it) (ok : BlkOk X.N X.env.scope scope own)
    (hg : ∀ (s : Shared) (H : Hp) (C : Addr) (cl : List (Str × Addr)) (fp : List Addr), DGc (X.blk s H scope (PySem.compEnvC scope cl C X.env) fp) vs tg g) (ht : ∀ (s : Shared) (H : Hp) (C : Addr) (cl : List (Str × Addr)) (fp : List Addr), DTs (X.blk s H scope (PySem.compEnvC scope cl C X.env) fp) ifs tt)
    (he : ∀ (s : Shared) (H : Hp) (C : Addr) (cl : List (Str × Addr)) (fp : List Addr), DE (X.blk s H scope (PySem.compEnvC scope cl C X.env) fp) W0 elt te) (hvs : own.map (fun p => p.2) = vs := by rfl) (hs : ∀ x, foldedSetIterable iter X.env x = pure x := by intro _; rfl) :
    DS X W (.Assign [.Name y py] (.ListComp elt [⟨tg, iter, ifs, 0⟩] scope pos) spos) (sSetF i (dLcW it g tt te vs)) := by
  subst hvs
  exact ds_setLc hc hN hy hyl hsw hi ok hg ht he hs
theorem ds_setLcVW {X : Cx} {W : WX} {i : Nat} {y : Str} {py spos : Pos} {elt tg iter : Expr} {ifs : List Expr} {scope : Scope} {own : List (Str × Nat)} {vs : List Nat} {pos : Pos} {it : DTA} {g : DTG} {tt : DTT} {te : DTE} (hc : X.calm = true) (hN : X.N.Nodup) (hy : X.N[i]? = some y) (hyl : X.env.scope.names.lookup y = some .local)
    (hsw : swapsWith (.ListComp elt [⟨tg, iter, ifs, 0⟩] scope pos) (some (.Name y py)) spos.line X.env = pure true) (hi : DI X W tg iter it) (ok : BlkOk X.N X.env.scope scope own)
    (hg : ∀ (s : Shared) (H : Hp) (C : Addr) (cl : List (Str × Addr)) (fp : List Addr), DGc (X.blk s H scope (PySem.compEnvC scope cl C X.env) fp) vs tg g) (ht : ∀ (s : Shared) (H : Hp) (C : Addr) (cl : List (Str × Addr)) (fp : List Addr), DTs (X.blk s H scope (PySem.compEnvC scope cl C X.env) fp) ifs tt)
    (he : ∀ (s : Shared) (H : Hp) (C : Addr) (cl : List (Str × Addr)) (fp : List Addr), DE (X.blk s H scope (PySem.compEnvC scope cl C X.env) fp) W0 elt te) (hvs : own.map (fun p => p.2) = vs := by rfl) (hs : ∀ x, foldedSetIterable iter X.env x = pure x := by intro _; rfl) :
    DS X W (.Assign [.Name y py] (.ListComp elt [⟨tg, iter, ifs, 0⟩] scope pos) spos) (sSet i (dFrz (dLcW it g tt te vs))) := by
  subst hvs
  exact ds_setLcV hc hN hy hyl hsw hi ok hg ht he hs
/-! ### operations whose second operand may change objects: the first is a value -/
def dBinV (g : D → D → Option D) (a b : DTE) : DTE := fun δ G Q E => a δ G (fun x G1 => b δ G1 (fun y G2 => ∃ z, g x y = some z ∧ Q z G2) E) E
section
variable {X : Cx} {W : WX} {a b : Expr} {da db : DTE} {pos apos : Pos}
theorem de_binV {op : Operator} {g : D → D → Option D} (ho : OpR X (binaryOp op) (OpD X.K g)) (ha : DE X W a da) (hb : DB X W b db) : DE X W (.BinOp a op b pos) (dBinV g da db) := (pe_op ho ha hb).imp fun σ H R ⟨M, δ, G, Q, QE, rs, d, ex, k⟩ => by
  refine ⟨M, δ, G, _, QE, rs, d, ex, fun v dv G' H' M' f rs' im q => ?_⟩
  refine ⟨M', δ, G', _, QE, rs', q, ex.mono f, fun y dy G2 H2 M2 f2 rs2 bo2 q2 => ?_⟩
  obtain ⟨z, hz, qz⟩ := q2
  exact ⟨M2, dv, dy, z, rs2.g.dom, Tm.of (im.mono f2.stay), bo2.now rs2, hz, fun w H3 sm im => k w z _ H3 M2 ((f.trans f2).trans (Same.keep sm).frame) (rs2.same sm) im qz⟩
theorem de_ixV {g : D → D → Option D} (ho : IxR X (OpD X.K g)) (ha : DE X W a da) (hb : DB X W b db) (hs : PlainIx b) : DE X W (.Subscript a b pos) (dBinV g da db) := (pe_ix ho ha hb hs).imp fun σ H R ⟨M, δ, G, Q, QE, rs, d, ex, k⟩ => by
  refine ⟨M, δ, G, _, QE, rs, d, ex, fun v dv G' H' M' f rs' im q => ?_⟩
  refine ⟨M', δ, G', _, QE, rs', q, ex.mono f, fun y dy G2 H2 M2 f2 rs2 bo2 q2 => ?_⟩
  obtain ⟨z, hz, qz⟩ := q2
  exact ⟨M2, dv, dy, z, rs2.g.dom, Tm.of (im.mono f2.stay), bo2.now rs2, hz, fun w H3 sm im => k w z _ H3 M2 ((f.trans f2).trans (Same.keep sm).frame) (rs2.same sm) im qz⟩
theorem de_cmpV {op : CmpOp} {g : D → D → Option D} (ho : OpR X (compareOp op) (OpD X.K g)) (ha : DE X W a da) (hb : DB X W b db) (hm : behindInMarks op b = false) : DE X W (.Compare a [op] [b] pos) (dBinV g da db) := (pe_cmpR ho ha hb hm).imp fun σ H R ⟨M, δ, G, Q, QE, rs, d, ex, k⟩ => by
  refine ⟨M, δ, G, _, QE, rs, d, ex, fun v dv G' H' M' f rs' im q => ?_⟩
  refine ⟨M', δ, G', _, QE, rs', q, ex.mono f, fun y dy G2 H2 M2 f2 rs2 bo2 q2 => ?_⟩
  obtain ⟨z, hz, qz⟩ := q2
  exact ⟨M2, dv, dy, z, rs2.g.dom, Tm.of (im.mono f2.stay), bo2.now rs2, hz, fun w H3 sm im => k w z _ H3 M2 ((f.trans f2).trans (Same.keep sm).frame) (rs2.same sm) im qz⟩
theorem dt_cmpV {op : CmpOp} {g : D → D → Option D} (ho : OpR X (compareOp op) (OpD X.K g)) (ha : DE X W a da) (hb : DB X W b db) (hm : behindInMarks op b = false) : DT X W (.Compare a [op] [b] pos) (dTst (dBinV g da db)) := (pt_cmpR ho ha hb hm).imp fun σ H R ⟨M, δ, G, Q, QE, rs, d, ex, k⟩ => by
  refine ⟨M, δ, G, _, QE, rs, d, ex, fun v dv G' H' M' f rs' im q => ?_⟩
  refine ⟨M', δ, G', _, QE, rs', q, ex.mono f, fun y dy G2 H2 M2 f2 rs2 bo2 q2 => ?_⟩
  obtain ⟨z, hz, b, eb, qz⟩ := q2
  subst eb
  refine ⟨M2, dv, dy, .bl b, rs2.g.dom, Tm.of (im.mono f2.stay), bo2.now rs2, hz, fun w H3 sm im => ?_⟩
  cases im
  exact ⟨b, rfl, k b _ H3 M2 ((f.trans f2).trans (Same.keep sm).frame) (rs2.same sm) qz⟩
def dStMV (g : D → List D → Option D) (o a : DTE) : DTE := fun δ G Q E => o δ G (fun x G1 => isStrD x ∧ a δ G1 (fun y G2 => ∃ z, g x [y] = some z ∧ Q z G2) E) E
theorem de_joinV {o e : Expr} {dO de : DTE} (ho : DE X W o dO) (he : DB X W e de)
    (hs : starEach [e] X.env = [(false, eval e X.env)] := by rfl) (hbase : attributeBase o "join" X.env (eval o X.env) = eval o X.env := by rfl) (hline : (apos.endLine == pos.line) = true := by rfl) :
    DE X W (.Call (.Attribute o "join" apos) [e] [] pos) (dStMV joinD dO de) := (pe_m1 F.slot_str_join F.type_str_join mt_joinD ho he hs hbase hline).imp fun σ H R ⟨M, δ, G, Q, QE, rs, d, ex, k⟩ => by
  refine ⟨M, δ, G, _, QE, rs, d, ex, fun v dv G1 H1 M1 f1 rs1 im ⟨is, q⟩ => ⟨?_, ?_⟩⟩
  · cases dv <;> first | exact is.elim | skip
    exact ⟨_, (Tm.of im).sc (w := .str _) rfl⟩
  · refine ⟨M1, δ, G1, _, QE, rs1, q, ex.mono f1, fun y dy G2 H2 M2 f2 rs2 bo2 ⟨z, hz, qz⟩ => ?_⟩
    exact ⟨M2, dv, [dy], z, rs2.g.dom, Tm.of (im.mono f2.stay), .cons (bo2.now rs2) .nil, hz, fun w H3 sm im => k w z _ H3 M2 ((f1.trans f2).trans (Same.keep sm).frame) (rs2.same sm) im qz⟩
end
/-! ### a law's jar: its three numbers, then what a draw of them tells -/
theorem gset_gset {G : DG} {a : Addr} {u v : Option DO} : gset (gset G a u) a v = gset G a v := by
  funext b
  unfold gset
  split <;> rfl
theorem gset_self {G : DG} {a : Addr} {u : Option DO} (h : G a = u) : gset G a u = G := by
  funext b
  unfold gset
  split
  · rename_i e; rw [e, h]
  · rfl
section
variable {K : PySem.W.Frag} {H : Hp} {M : Gh} {G : DG} {a : Addr} {n : Nat}
theorem RG.open (r : RG K H M G) (ga : G a = some (.jar n)) : ∃ i j k, JarOk i j k ∧ k ≤ (n : Int) ∧ RG K H M (gset G a (some (.mls [.int i, .int j, .int k]))) := by
  obtain ⟨ma, i, j, k, ha, ok, hk⟩ := r.obj a _ ga
  refine ⟨i, j, k, ok, hk, ⟨fun b u hb => ?_, r.dom⟩⟩
  by_cases e : b = a
  · subst e
    rw [gset_same] at hb
    cases hb
    exact ⟨ma, _, ha, .cons .int (.cons .int (.cons .int .nil))⟩
  · rw [gset_ne e] at hb
    exact r.obj b u hb
theorem RG.shut {i j k : Int} (r : RG K H M (gset G a (some (.mls [.int i, .int j, .int k])))) (ok : JarOk i j k) (hk : k ≤ (n : Int)) : RG K H M (gset G a (some (.jar n))) := by
  refine ⟨fun b u hb => ?_, r.dom⟩
  by_cases e : b = a
  · subst e
    rw [gset_same] at hb
    cases hb
    obtain ⟨ma, xs, ha, iml⟩ := r.obj b _ gset_same
    cases iml with
    | cons i1 t => cases t with
      | cons i2 t => cases t with
        | cons i3 t =>
          cases t
          cases i1
          cases i2
          cases i3
          exact ⟨ma, i, j, k, ha, ok, hk⟩
  · rw [gset_ne e] at hb
    exact r.obj b u (by rw [gset_ne e]; exact hb)
end
/-- a draw, by the jar's numbers -/
def fDrawM : Fn := fun ds G Q _ => ∃ a m i j k, ds = [.ref a, .int m] ∧ G a = some (.mls [.int i, .int j, .int k]) ∧ JarOk i j k ∧ k < 2 ^ 64 ∧ 0 < m ∧ m < 2 ^ 200 ∧
  ∀ n i' j' k' : Int, 0 ≤ n → n < m → JarOk i' j' k' → k' ≤ k + 1 → Q (.int n) (gset G a (some (.mls [.int i', .int j', .int k'])))
/-- a draw: any number below m -/
def fDraw : Fn := fun ds G Q _ => ∃ a m c, ds = [.ref a, .int m] ∧ G a = some (.jar c) ∧ c < 2 ^ 63 ∧ 0 < m ∧ m < 2 ^ 200 ∧ ∀ n : Int, 0 ≤ n → n < m → Q (.int n) (gset G a (some (.jar (c + 1))))
theorem draw_ok {P : Program} {w : World} {K : PySem.W.Frag} {mg : Str → Option Value} {base : Heap} {fa : Addr} {fd : FuncData} {ps : List Str} {k : Nat} (F : FnOk P w K mg base (L2.CX P w) k fa fd ps (spD K fDrawM)) : FnOk P w K mg base (L2.CX P w) k fa fd ps (spD K fDraw) :=
  F.imp fun vs H Q E ⟨M, ds, G, QD, QE, ns, g, r, ⟨a, m, c, eds, ga, hc, h0, h1, q⟩, kq, ke⟩ => by
    obtain ⟨i, j, k, ok, hk, g2⟩ := g.open ga
    refine ⟨M, ds, _, fun v G' => ∃ n i' j' k' : Int, v = .int n ∧ 0 ≤ n ∧ n < m ∧ JarOk i' j' k' ∧ k' ≤ k + 1 ∧ G' = gset G a (some (.mls [.int i', .int j', .int k'])), fun _ _ => False, ns, g2, r, ⟨a, m, i, j, k, eds, gset_same, ok, by omega, h0, h1, fun n i' j' k' hn0 hn1 ok' hk' => ⟨n, i', j', k', rfl, hn0, hn1, ok', hk', gset_gset⟩⟩, ?_, fun x G' H' M' cls dd _ _ _ _ q => False.elim q⟩
    intro v dv G' H' M' f ns' g' im ⟨n, i', j', k', e, hn0, hn1, ok', hk', eG⟩
    subst e eG
    exact kq v _ _ H' M' f ns' (g'.shut (n := c + 1) ok' (by omega)) im (q n hn0 hn1)
theorem ints_im {K : PySem.W.Frag} {H : Hp} {M : Gh} : ∀ ns : List Int, ImL K H M (ns.map V.int) (ns.map D.int)
  | [] => .nil
  | _ :: r => .cons .int (ints_im r)
/-- a law: its list of ints -/
theorem law_im {K : PySem.W.Frag} {H : Hp} {a : Addr} {ns : List Int} (h : SqL K H a (ns.map V.int)) : Im K H (fun _ => none) (.ref a) (.lst (ns.map D.int)) := by
  rcases h with h | h
  · exact .lst rfl h (ints_im _)
  · exact .lstK (fun H' => .inr h) (ints_im _)
/-- a law's def: what it promises tells the walk -/
theorem law_sp {K : PySem.W.Frag} {f : Fn} {H : Hp} {a : Addr} {ns : List Int} (hS : SqL K H a (ns.map V.int)) (h : f [.lst (ns.map D.int)] (fun _ => none) (fun v _ => v = .bl true) (fun _ _ => False)) : spD K f [.ref a] H (fun v _ => v = .bl true) fun _ _ _ => False := by
  refine ⟨fun _ => none, _, fun _ => none, _, _, (fun _ _ e => (nomatch e)), ⟨fun a o e => (nomatch e), fun a e => absurd rfl e⟩, .cons (law_im hS) .nil, h, fun v dv G' H' M' _ _ _ im q => ?_, fun x G' H' M' cls dd _ _ _ _ q => False.elim q⟩
  subst q
  cases im
  rfl
end DD

set_option Elab.async false
set_option linter.all false
set_option maxRecDepth 100000
set_option maxHeartbeats 4000000
namespace DD
open PySem PySem.Spec L2

/-! ### plain laws of the readings -/
/-- a value that is no object of its own -/
def nrm : D → Bool
  | .ref _ => false
  | .ty _ => false
  | .obj _ _ => false
  | .str s => decide (s.length ≤ 16777216)
  | _ => true
theorem bov_nrm {δ : DSt} {G : DG} {Q : D → DG → Prop} {E : DX → DG → Prop} {i : Nat} {x : D} (h : δ[i]? = some (some (.v x))) (n : nrm x = true) (q : Q x G) : dBov i δ G Q E := by
  refine .inr (.inr ⟨x, h, .inr ⟨fun a ds e => ?_, q⟩⟩)
  subst e; cases n
theorem der_nrm {x : D} {G : DG} {Q : D → DG → Prop} (n : nrm x = true) (q : Q x G) : (∃ a ds, x = .ref a ∧ G a = some (.mls ds) ∧ Q (.lst ds) G) ∨ ((∀ a ds, x = .ref a → G a ≠ some (.mls ds)) ∧ Q x G) := by
  refine .inr ⟨fun a ds e => ?_, q⟩
  subst e; cases n
theorem bov_v {δ : DSt} {G : DG} {Q : D → DG → Prop} {E : DX → DG → Prop} {i : Nat} {x : D} (h : δ[i]? = some (some (.v x))) (n : ∀ a ds, x = .ref a → G a ≠ some (.mls ds)) (q : Q x G) : dBov i δ G Q E := .inr (.inr ⟨x, h, .inr ⟨n, q⟩⟩)
theorem bov_own {δ : DSt} {G : DG} {Q : D → DG → Prop} {E : DX → DG → Prop} {i : Nat} {ds : List D} (h : δ[i]? = some (some (.own ds))) (q : Q (.lst ds) G) : dBov i δ G Q E := .inl ⟨ds, h, q⟩
theorem bov_mls {δ : DSt} {G : DG} {Q : D → DG → Prop} {E : DX → DG → Prop} {i : Nat} {a : Addr} {ds : List D} (h : δ[i]? = some (some (.v (.ref a)))) (ga : G a = some (.mls ds)) (q : Q (.lst ds) G) : dBov i δ G Q E := .inr (.inr ⟨.ref a, h, .inl ⟨a, ds, rfl, ga, q⟩⟩)
/-- a comprehension whose elements leave all objects -/
theorem lc_pure {i : Nat} {te : DTE} {δ : DSt} {G : DG} {Q : List D → DG → Prop} (h : D → D) : ∀ (xs acc : List D), (∀ x ∈ xs, ∀ Q' : D → DG → Prop, Q' (h x) G → te (δ.set i (some (.v x))) G Q' (fun _ _ => False)) → acc.length + xs.length ≤ 1000000 → Q (acc ++ xs.map h) G → lcL (gN i) ttYes te δ Q xs acc G
  | [], acc, _, _, q => by
    rw [List.map_nil, List.append_nil] at q
    exact q
  | x :: r, acc, ht, hl, q => by
    unfold lcL
    unfold gN ttYes
    simp only [if_true]
    refine ht x (by simp) _ ⟨by simp at hl; omega, lc_pure h r (acc ++ [h x]) (fun y hy => ht y (by simp [hy])) (by simp at hl ⊢; omega) ?_⟩
    rw [List.map_cons] at q
    simpa using q
/-- pairwise -/
inductive F2 {α β : Type} (Y : α → β → Prop) : List α → List β → Prop
  | nil : F2 Y [] []
  | cons {x : α} {y : β} {xs : List α} {ys : List β} : Y x y → F2 Y xs ys → F2 Y (x :: xs) (y :: ys)
theorem F2.length {α β : Type} {Y : α → β → Prop} : ∀ {xs : List α} {ys : List β}, F2 Y xs ys → xs.length = ys.length
  | _, _, .nil => rfl
  | _, _, .cons _ t => congrArg (· + 1) (F2.length t)
theorem F2.mem {α β : Type} {Y : α → β → Prop} {Z : β → Prop} : ∀ {xs : List α} {ys : List β}, F2 Y xs ys → (∀ x ∈ xs, ∀ y, Y x y → Z y) → ∀ y ∈ ys, Z y
  | _, _, .nil, _, _, h => by simp at h
  | _, _, .cons (x := x) (y := y) a t, k, z, h => by
    rcases List.mem_cons.mp h with rfl | h
    · exact k x (by simp) _ a
    · exact F2.mem t (fun w hw => k w (by simp [hw])) z h
/-- a comprehension that draws: at most N for each element -/
theorem lc_draw {i : Nat} {te : DTE} {δ : DSt} {Gj : Nat → DG} {Q : List D → DG → Prop} (N B : Nat) (Y : D → D → Prop) : ∀ (xs acc : List D) (c : Nat), (∀ x ∈ xs, ∀ c, c + N ≤ B → ∀ Q' : D → DG → Prop, (∀ y, Y x y → Q' y (Gj (c + N))) → te (δ.set i (some (.v x))) (Gj c) Q' (fun _ _ => False)) → acc.length + xs.length ≤ 1000000 → c + N * xs.length ≤ B →
    (∀ ys, F2 Y xs ys → Q (acc ++ ys) (Gj (c + N * xs.length))) → lcL (gN i) ttYes te δ Q xs acc (Gj c)
  | [], acc, c, _, _, _, q => by
    have := q [] .nil
    unfold lcL
    simpa using this
  | x :: r, acc, c, ht, hl, hc, q => by
    unfold lcL
    unfold gN ttYes
    simp only [if_true]
    have e : N * (x :: r).length = N + N * r.length := by rw [List.length_cons, Nat.mul_succ, Nat.add_comm]
    refine ht x (by simp) c (by rw [e] at hc; omega) _ fun y hy => ⟨by simp at hl; omega, lc_draw N B Y r (acc ++ [y]) (c + N) (fun z hz => ht z (by simp [hz])) (by simp at hl ⊢; omega) (by rw [e] at hc; omega) fun ys hys => ?_⟩
    have := q (y :: ys) (.cons hy hys)
    rw [e, ← Nat.add_assoc] at this
    simpa using this
/-! ### draws spent: behind a def the jar is told to have drawn n times -/
def spend (a : Addr) (n : Nat) (Q : D → DG → Prop) : D → DG → Prop := fun v G' => ∃ c, c ≤ n ∧ G' a = some (.jar c) ∧ Q v (gset G' a (some (.jar n)))
theorem RG.more {K : PySem.W.Frag} {H : Hp} {M : Gh} {G : DG} {a : Addr} {c n : Nat} (r : RG K H M G) (ga : G a = some (.jar c)) (h : c ≤ n) : RG K H M (gset G a (some (.jar n))) := by
  refine ⟨fun b u hb => ?_, r.dom⟩
  by_cases e : b = a
  · subst e
    rw [gset_same] at hb
    cases hb
    obtain ⟨ma, i, j, k, ha, ok, hk⟩ := r.obj b _ ga
    exact ⟨ma, i, j, k, ha, ok, by omega⟩
  · rw [gset_ne e] at hb
    exact r.obj b u hb
theorem dfnJ {P : Program} {w : World} {K : PySem.W.Frag} {mg : Str → Option Value} {base : Heap} {x qual : Str} {st : Stmt} {dvs : List V} {fa : Addr} {fd : FuncData} {N ps : List Str} {k : Nat} {f : Fn} {db : DTS} (F : FunD K x qual (defArgs st) (defBody st) (defScope st) dvs [] fa fd) (S : FnScope N ps (defScope st))
    (len : ∀ ds G Q E, f ds G Q E → ds.length = ps.length)
    (hb : ∀ (cdv : Value) (A : Around) (outer : List Env) (s : Shared) (H : Hp) (E : XK), Room k (A.deeper (PyProof.Rows.envOfC qual (defScope st) s.heap.objs.size fa cdv)) →
      DSs (cxOf (L2.CX P w) P w K mg base N qual (defScope st) fa cdv A outer s H E) (fun cls d _ H' => E cls d H') (defBody st) db)
    (h : ∀ ds G Q QE, f ds G Q QE → ∃ a n, db (fnEnds (spend a n Q) QE) (dstart N ds) G) : FnOk P w K mg base (L2.CX P w) (k + 1) fa fd ps (spD K f) := by
  have F0 := dfn (f := fun ds G Q QE => ds.length = ps.length ∧ db (fnEnds Q QE) (dstart N ds) G) F S (fun _ _ _ _ h => h.1) hb (fun _ _ _ _ h => h.2)
  refine F0.imp fun vs H Q E ⟨M, ds, G, QD, QE, ns, g, r, q, kq, ke⟩ => ?_
  obtain ⟨a, n, q2⟩ := h _ _ _ _ q
  refine ⟨M, ds, G, _, QE, ns, g, r, ⟨len _ _ _ _ q, q2⟩, ?_, ke⟩
  intro v dv G' H' M' f ns' g' im ⟨c, hc, ga, q3⟩
  exact kq v dv _ H' M' f ns' (g'.more ga hc) im q3
end DD

set_option Elab.async false
set_option linter.all false
set_option maxRecDepth 100000
namespace DD
open PySem PySem.Spec L2
section
variable {K : PySem.W.Frag}
theorem kt_NoneType_bool : PySem.W.kitOne K (.type "NoneType") (.type "bool") = some false := kit_ty (by decide +kernel)
theorem kt_NoneType_int : PySem.W.kitOne K (.type "NoneType") (.type "int") = some false := kit_ty (by decide +kernel)
theorem kt_NoneType_str : PySem.W.kitOne K (.type "NoneType") (.type "str") = some false := kit_ty (by decide +kernel)
theorem kt_NoneType_tuple : PySem.W.kitOne K (.type "NoneType") (.type "tuple") = some false := kit_ty (by decide +kernel)
theorem kt_NoneType_list : PySem.W.kitOne K (.type "NoneType") (.type "list") = some false := kit_ty (by decide +kernel)
theorem kt_NoneType_dict : PySem.W.kitOne K (.type "NoneType") (.type "dict") = some false := kit_ty (by decide +kernel)
theorem kt_bool_bool : PySem.W.kitOne K (.type "bool") (.type "bool") = some true := kit_ty (by decide +kernel)
theorem kt_bool_int : PySem.W.kitOne K (.type "bool") (.type "int") = some true := kit_ty (by decide +kernel)
theorem kt_bool_str : PySem.W.kitOne K (.type "bool") (.type "str") = some false := kit_ty (by decide +kernel)
theorem kt_bool_tuple : PySem.W.kitOne K (.type "bool") (.type "tuple") = some false := kit_ty (by decide +kernel)
theorem kt_bool_list : PySem.W.kitOne K (.type "bool") (.type "list") = some false := kit_ty (by decide +kernel)
theorem kt_bool_dict : PySem.W.kitOne K (.type "bool") (.type "dict") = some false := kit_ty (by decide +kernel)
theorem kt_int_bool : PySem.W.kitOne K (.type "int") (.type "bool") = some false := kit_ty (by decide +kernel)
theorem kt_int_int : PySem.W.kitOne K (.type "int") (.type "int") = some true := kit_ty (by decide +kernel)
theorem kt_int_str : PySem.W.kitOne K (.type "int") (.type "str") = some false := kit_ty (by decide +kernel)
theorem kt_int_tuple : PySem.W.kitOne K (.type "int") (.type "tuple") = some false := kit_ty (by decide +kernel)
theorem kt_int_list : PySem.W.kitOne K (.type "int") (.type "list") = some false := kit_ty (by decide +kernel)
theorem kt_int_dict : PySem.W.kitOne K (.type "int") (.type "dict") = some false := kit_ty (by decide +kernel)
theorem kt_str_bool : PySem.W.kitOne K (.type "str") (.type "bool") = some false := kit_ty (by decide +kernel)
theorem kt_str_int : PySem.W.kitOne K (.type "str") (.type "int") = some false := kit_ty (by decide +kernel)
theorem kt_str_str : PySem.W.kitOne K (.type "str") (.type "str") = some true := kit_ty (by decide +kernel)
theorem kt_str_tuple : PySem.W.kitOne K (.type "str") (.type "tuple") = some false := kit_ty (by decide +kernel)
theorem kt_str_list : PySem.W.kitOne K (.type "str") (.type "list") = some false := kit_ty (by decide +kernel)
theorem kt_str_dict : PySem.W.kitOne K (.type "str") (.type "dict") = some false := kit_ty (by decide +kernel)
theorem kt_tuple_bool : PySem.W.kitOne K (.type "tuple") (.type "bool") = some false := kit_ty (by decide +kernel)
theorem kt_tuple_int : PySem.W.kitOne K (.type "tuple") (.type "int") = some false := kit_ty (by decide +kernel)
theorem kt_tuple_str : PySem.W.kitOne K (.type "tuple") (.type "str") = some false := kit_ty (by decide +kernel)
theorem kt_tuple_tuple : PySem.W.kitOne K (.type "tuple") (.type "tuple") = some true := kit_ty (by decide +kernel)
theorem kt_tuple_list : PySem.W.kitOne K (.type "tuple") (.type "list") = some false := kit_ty (by decide +kernel)
theorem kt_tuple_dict : PySem.W.kitOne K (.type "tuple") (.type "dict") = some false := kit_ty (by decide +kernel)
theorem kt_list_bool : PySem.W.kitOne K (.type "list") (.type "bool") = some false := kit_ty (by decide +kernel)
theorem kt_list_int : PySem.W.kitOne K (.type "list") (.type "int") = some false := kit_ty (by decide +kernel)
theorem kt_list_str : PySem.W.kitOne K (.type "list") (.type "str") = some false := kit_ty (by decide +kernel)
theorem kt_list_tuple : PySem.W.kitOne K (.type "list") (.type "tuple") = some false := kit_ty (by decide +kernel)
theorem kt_list_list : PySem.W.kitOne K (.type "list") (.type "list") = some true := kit_ty (by decide +kernel)
theorem kt_list_dict : PySem.W.kitOne K (.type "list") (.type "dict") = some false := kit_ty (by decide +kernel)
theorem kt_dict_bool : PySem.W.kitOne K (.type "dict") (.type "bool") = some false := kit_ty (by decide +kernel)
theorem kt_dict_int : PySem.W.kitOne K (.type "dict") (.type "int") = some false := kit_ty (by decide +kernel)
theorem kt_dict_str : PySem.W.kitOne K (.type "dict") (.type "str") = some false := kit_ty (by decide +kernel)
theorem kt_dict_tuple : PySem.W.kitOne K (.type "dict") (.type "tuple") = some false := kit_ty (by decide +kernel)
theorem kt_dict_list : PySem.W.kitOne K (.type "dict") (.type "list") = some false := kit_ty (by decide +kernel)
theorem kt_dict_dict : PySem.W.kitOne K (.type "dict") (.type "dict") = some true := kit_ty (by decide +kernel)
end
end DD

set_option Elab.async false
set_option linter.all false
set_option maxRecDepth 100000
set_option maxHeartbeats 4000000
namespace DD
open PySem PySem.Spec L2
theorem cx_none {P : Program} {w : World} {o : List Env} {H : Hp} {s : Shared} {e : Value} {s' : Shared} (h : L2.CX P w o H s (fun _ _ _ => False) e s') : False := by
  obtain ⟨_, _, _, _, _, _, _, _, _, _, _, _, z⟩ := h
  exact z.elim
theorem calm_ok {P : Program} {w : World} {K : PySem.W.Frag} {mg : Str → Option Value} {base : Heap} {k : Nat} {f : Addr} {fd : FuncData} {ps : List Str} {sp : Sp} (F : FnOk P w K mg base (L2.CX P w) k f fd ps sp) : FnOk P w K mg base L2.CX0 k f fd ps (fun vs H Q _ => sp vs H Q fun _ _ _ => False) := by
  refine ⟨fun vs H Q E h => F.len _ _ _ _ h, fun A outer s H args us vs Q E hr e0 b r h => ?_⟩
  refine codeAny_mono (F.run A outer s H args us vs Q (fun _ _ _ => False) hr e0 b r h) fun r s' hq => ?_
  cases r with
  | error e => exact (cx_none hq).elim
  | ok fl =>
    cases fl with
    | ret u => exact hq
    | next => exact False.elim hq
    | brk => exact False.elim hq
    | cont => exact False.elim hq
end DD

set_option Elab.async false
set_option linter.all false
set_option maxRecDepth 100000
set_option maxHeartbeats 4000000
namespace DD
open PySem PySem.Spec L2

/-! ### a list and a list: a new one -/
def rCatS (K : PySem.W.Frag) : R2 := fun x y H Q => ∃ l b xs zs, x = .ref l ∧ y = .ref b ∧ SqL K H l xs ∧ SqL K H b zs ∧ xs.length + zs.length ≤ 1000000 ∧ ∀ p, H p = none → Q (.ref p) (upd H p (.lst (xs ++ zs)))
theorem op_catS {X : Cx} : OpR X (binaryOp .Add) (rCatS X.K) := by
  intro pins s σ H x y v u Q I rx ry ⟨l, b, xs, zs, ex, ey, hx, hy, hz, q⟩
  subst ex ey
  cases (show v = Value.ref l from rx)
  cases (show u = Value.ref b from ry)
  obtain ⟨its, r1, p1, z1⟩ := I.list hx
  obtain ⟨its2, r2, p2, z2⟩ := I.list hy
  obtain ⟨m, hF⟩ := I.fr
  obtain ⟨⟨cls, dd, data, sl⟩, ho, hc, n, hd⟩ := id p1.isList
  obtain ⟨⟨cls2, dd2, data2, sl2⟩, ho2, hc2, n2, hd2⟩ := id p2.isList
  simp only at hc hd hc2 hd2
  subst hc hd hc2 hd2
  have e : its.toArray ++ its2.toArray = (its ++ its2).toArray := by simp
  refine PySem.concat_meets ⟨_, ho, rfl⟩ ⟨_, ho2, rfl⟩ PySem.noFill_list_add PySem.seq_list_add PySem.F.slot_list_add PySem.F.entry_list_add (PySem.F.args_list_add_2 _ _) (PyProof.Rows.list_addW l b its.toArray its2.toArray n n2 dd dd2 sl sl2 (by rw [List.size_toArray, List.size_toArray, ← r1.length, ← r2.length, sizeLine_eq]; omega)) ⟨ho, ho2, ?_⟩
  rw [e]
  exact ⟨.ref _, _, I.lnew (t' := s.toks) (r1.append r2) (by rw [List.length_append, sizeLine_eq]; omega), rfl, q _ I.fresh⟩
theorem df_cat {X : Cx} {W : WX} {a b : Expr} {da db : DTE} {pos : Pos} (ha : DB X W a da) (hb : DB X W b db) : DF X W (.BinOp a .Add b pos) (dCat da db) := (pe_op op_catS ha hb).imp fun σ H R ⟨M, δ, G, Q, QE, rs, d, ex, k⟩ => by
  refine ⟨M, δ, G, _, QE, rs, d, ex, fun v dv G' H' M' f rs' bo q => ?_⟩
  refine ⟨M', δ, G', _, QE, rs', q, ex.mono f, fun y dy G2 H2 M2 f2 rs2 bo2 q2 => ?_⟩
  obtain ⟨eG, xs, ys, e1, e2, hz, qz⟩ := q2
  subst eG e1 e2
  obtain ⟨l, vs, rfl, hl, r⟩ := (bo H2 M2 f2 rs2).lst
  obtain ⟨l2, ws, rfl, hl2, r2⟩ := (bo2.now rs2).lst
  refine ⟨l, l2, vs, ws, rfl, rfl, hl, hl2, by rw [r.length, r2.length]; exact hz, fun p n => ?_⟩
  obtain ⟨kp, r3⟩ := rs2.newOther (u := .lst (vs ++ ws)) n
  exact k p _ _ _ _ _ ((f.trans f2).trans kp.frame) r3 ((f.trans f2).fresh n) mset_same upd_same (ImL.mono kp.stay (r.append r2)) qz

/-! ### del p[i] -/
def sDelAt (p : DTP) (ix : DTE) : DTS := fun N δ G => p δ G (fun pl G1 => ix δ G1 (fun k G2 => ∃ i ds, k = .int i ∧ pl.rd δ G2 ds ∧ 0 ≤ i ∧ i < (ds.length : Int) ∧ i < 1000000 ∧ ∀ δ' G', pl.wr (ds.eraseIdx i.toNat) δ G2 δ' G' → N.nx δ' G') (exOf N δ)) (exOf N δ)
theorem ds_delAt {X : Cx} {W : WX} {o ix : Expr} {p : DTP} {di : DTE} {tpos pos : Pos} (ho : DPl X W o p) (hix : DE X W ix di) : DS X W (.Delete [.Subscript o ix tpos] pos) (sDelAt p di) := (ps_delL ho hix).imp fun E σ H ⟨M, δ, G, DD, rs, q0, ok⟩ => by
  refine ⟨M, δ, G, _, _, rs, q0, ok.exOf, fun pl l G1 H1 M1 f1 rs1 ha q1 => ?_⟩
  refine ⟨M1, δ, G1, _, _, rs1, q1, (ok.mono f1).exOf, fun k dk G2 H2 M2 f2 rs2 imk ⟨i, ds, ek, hr, h0, h1, h2, q2⟩ => ?_⟩
  subst ek
  cases imk
  obtain ⟨l3, xs2, ha3, m2, hl2, rr2⟩ := Pl.has rs2 hr
  cases Pl.inj ha ha3
  refine ⟨l, xs2, i, i.toNat, rfl, rfl, hl2, by omega, by omega, ?_, ?_⟩
  · rw [rr2.length]
    exact seqIndex_of h0 h1
  · obtain ⟨δ', G', hw⟩ := Pl.wr_ex (ds' := ds.eraseIdx i.toNat) hr
    exact ok.nx _ _ G' _ M2 ((f1.trans f2).trans (Frame.at m2 pl.ow_ne)) (Pl.put rs2 hr ha (rr2.erase _) hw) (q2 δ' G' hw)

/-! ### x[i] = v, x an instance -/
def sSetO (C : Addr) (f : Fn) (d o ix : DTE) : DTS := fun N δ G => d δ G (fun y G0 => o δ G0 (fun x G1 => ix δ G1 (fun k G2 => IsC C G2 x ∧ f [x, k, y] G2 (fun _ G3 => N.nx δ G3) (exOf N δ)) (exOf N δ)) (exOf N δ)) (exOf N δ)
section
variable {X : Cx} {W : WX} {k : Nat} {fa C : Addr} {fd : FuncData} {ps : List Str} {f : Fn} {v o ix : Expr} {d do_ di : DTE} {tpos pos : Pos}
theorem dg_subO (F : FnOk X.prog X.w X.K X.mg X.base (L2.CX X.prog X.w) k fa fd ps (spD X.K f)) (hr : Room k X.A) (hb : Binds X.K fd ps []) (tk : Takes X W) (hq : PySem.W.noSeq X.K C = true) (hs : PySem.W.findIn X.K (.ref C) "__setitem__" = some (some (.ref fa))) (hf : PySem.W.isFn X.K (.ref fa) = true)
    (ho : DE X W o do_) (hi : DE X W ix di)
    (ha : ∀ v, assign (.Subscript o ix tpos) X.env v = (do
      let ov ← holding [v] (eval o X.env)
      let iv ← holding [v, ov] (eval ix X.env)
      standAt tpos
      holding [v, ov, iv] (setItem ov iv v)
      release [v, ov, iv] []) := by intro _; rfl) :
    PG X (.Subscript o ix tpos) (fun v σ H R => ∃ (M : Gh) (δ : DSt) (G : DG) (dv : D) (Q : DG → Prop) (QE : DX → DG → Prop), RS X.K H M σ δ G ∧ Im X.K H M v dv ∧ do_ δ G (fun x G1 => di δ G1 (fun k G2 => IsC C G2 x ∧ f [x, k, dv] G2 (fun _ G3 => Q G3) QE) QE) QE ∧ ExOk X.K W H M σ δ QE ∧ ∀ G' H' M', Frame H M H' M' → RS X.K H' M' σ δ G' → Q G' → R σ H') := by
  refine ⟨fun pins s σ H v u R I r h => ?_⟩
  obtain ⟨M, δ, G, dv, Q, QE, rs, im, d, ex, k⟩ := h
  rw [ha]
  refine wpAny_bind (wpAny_holding (thn (ho.run pins s σ H (fun x H1 => ∃ dx G1 M1, Frame H M H1 M1 ∧ RS X.K H1 M1 σ δ G1 ∧ Im X.K H1 M1 x dx ∧ di δ G1 (fun k G2 => IsC C G2 dx ∧ f [dx, k, dv] G2 (fun _ G3 => Q G3) QE) QE) I ⟨M, δ, G, _, QE, rs, d, ex, fun x dx G1 H1 M1 f1 rs1 imx q => ⟨dx, G1, M1, f1, rs1, imx, q⟩⟩) fun ov s1 ⟨x, H1, I1, r1, dx, G1, M1, f1, rs1, imx, q1⟩ => ?_))
  refine wpAny_bind (wpAny_holding (thn (hi.run pins s1 σ H1 (fun y H2 => ∃ dy G2 M2, Frame H1 M1 H2 M2 ∧ RS X.K H2 M2 σ δ G2 ∧ Im X.K H2 M2 y dy ∧ IsC C G2 dx ∧ f [dx, dy, dv] G2 (fun _ G3 => Q G3) QE) I1 ⟨M1, δ, G1, _, QE, rs1, q1, ex.mono f1, fun y dy G2 H2 M2 f2 rs2 imy q => ⟨dy, G2, M2, f2, rs2, imy, q⟩⟩) fun iv s2 ⟨y, H2, I2, r2, dy, G2, M2, f2, rs2, imy, is, q2⟩ => ?_))
  have imx2 := imx.mono f2.stay
  obtain ⟨l, ddx, fs, ex1, hl⟩ := isC_of rs2.g (Tm.of imx2) is
  subst ex1
  cases (show ov = Value.ref l from r1)
  obtain ⟨od, J⟩ := inst_of I2 hl
  obtain ⟨m, hF⟩ := I2.fr
  refine wpAny_bind (wpAny_standAt (wpAny_bind (wpAny_holding ?_)))
  refine PySem.W.ksp_setItem hF I2.ok.mod.kin J hq hs hf ?_
  refine wpAny_mono (run_sp (us := [.ref l, iv, u]) (vs := [.ref l, y, v]) (Q := fun _ H' => R σ H') F hr I2.env0 hb tk I2 (.cons rfl (.cons r2 (.cons r .nil))) (spD_of rs2 (.cons imx2 (.cons imy (.cons (im.mono (f1.trans f2).stay) .nil))) q2 (ex.mono (f1.trans f2)) fun v dv G' H' M' f3 rs3 im3 q3 => k G' H' M' ((f1.trans f2).trans f3) rs3 q3)) (fun w s' z => ?_) fun _ _ x => x
  obtain ⟨z', H', I', rz, qz⟩ := z
  exact wpAny_release ⟨σ, H', I', qz⟩
theorem ds_setO (F : FnOk X.prog X.w X.K X.mg X.base (L2.CX X.prog X.w) k fa fd ps (spD X.K f)) (hr : Room k X.A) (hb : Binds X.K fd ps []) (tk : Takes X W) (hq : PySem.W.noSeq X.K C = true) (hs : PySem.W.findIn X.K (.ref C) "__setitem__" = some (some (.ref fa))) (hf : PySem.W.isFn X.K (.ref fa) = true)
    (hv : DE X W v d) (ho : DE X W o do_) (hi : DE X W ix di)
    (ha : ∀ v, assign (.Subscript o ix tpos) X.env v = (do
      let ov ← holding [v] (eval o X.env)
      let iv ← holding [v, ov] (eval ix X.env)
      standAt tpos
      holding [v, ov, iv] (setItem ov iv v)
      release [v, ov, iv] []) := by intro _; rfl)
    (hsw : swapsWithSole [.Subscript o ix tpos] v pos.line X.env = pure false := by rfl) (hw : swappedStores [.Subscript o ix tpos] v X.env = pure none := by rfl)
    (h1 : (assignEach [.Subscript o ix tpos] X.env).map (·.2) = [assign (.Subscript o ix tpos) X.env] := by rfl) :
    DS X W (.Assign [.Subscript o ix tpos] v pos) (sSetO C f d do_ di) := (ps_asg (pos := pos) hv (dg_subO F hr hb tk hq hs hf ho hi ha) hsw hw h1).imp fun E σ H ⟨M, δ, G, DD, rs, q0, ok⟩ => by
  refine ⟨M, δ, G, _, _, rs, q0, ok.exOf, fun y dy G0 H0 M0 f0 rs0 imy q => ?_⟩
  exact ⟨M0, δ, G0, dy, _, _, rs0, imy, q, (ok.mono f0).exOf, fun G' H' M' f rs' q' => ok.nx σ δ G' H' M' (f0.trans f) rs' q'⟩
end
end DD

set_option Elab.async false
set_option linter.all false
set_option maxRecDepth 100000
set_option maxHeartbeats 4000000
namespace DD
open PySem PySem.Spec L2

/-! ### readings that reckon: what lacks is none -/
def onO {α : Type} (o : Option α) (k : α → Prop) : Prop := match o with
  | some z => k z
  | none => False
def brP (b : Bool) (A B : Prop) : Prop := match b with
  | true => A
  | false => B
def bO {α β : Type} (o : Option α) (k : α → Option β) : Option β := match o with
  | some z => k z
  | none => none
theorem onO_iff {α : Type} {o : Option α} {k : α → Prop} : onO o k ↔ ∃ z, o = some z ∧ k z := by cases o <;> simp [onO]
theorem bO_iff {α β : Type} {o : Option α} {k : α → Option β} {z : β} : bO o k = some z ↔ ∃ y, o = some y ∧ k y = some z := by cases o <;> simp [bO]
theorem onO_of {α : Type} {o : Option α} {k : α → Prop} {z : α} (h : o = some z) (q : k z) : onO o k := by rw [h]; exact q
theorem brP_of {b : Bool} {A B : Prop} (h1 : b = true → A) (h2 : b = false → B) : brP b A B := by
  cases b
  · exact h2 rfl
  · exact h1 rfl
theorem brP_t {b : Bool} {A B : Prop} (h : b = true) (q : A) : brP b A B := by subst h; exact q
theorem brP_f {b : Bool} {A B : Prop} (h : b = false) (q : B) : brP b A B := by subst h; exact q
theorem brP_eq {b : Bool} {A B : Prop} : brP b A B = (if b = true then A else B) := by cases b <;> simp [brP]
theorem onO_if {α : Type} {c : Prop} [Decidable c] {z : α} {k : α → Prop} (h : c) (q : k z) : onO (if c then some z else none) k := by rw [if_pos h]; exact q
theorem onO_eq {α : Type} {o : Option α} {k : α → Prop} : onO o k = ∃ z, o = some z ∧ k z := propext onO_iff
theorem bO_some {α β : Type} {o : Option α} {k : α → Option β} {y : α} (h : o = some y) : bO o k = k y := by rw [h]; rfl
abbrev PX := DSt → DG → Option D
abbrev PB := DSt → DG → Option Bool
abbrev PAs := DSt → DG → Option (List D)
abbrev POi := DSt → DG → Option (Option Int)
@[reducible] def eP (p : PX) : DTE := fun δ G Q _ => onO (p δ G) fun z => Q z G
@[reducible] def tP (p : PB) : DTT := fun δ G Q _ => onO (p δ G) fun z => Q z G
@[reducible] def aP (p : PAs) : DTA := fun δ G Q _ => onO (p δ G) fun z => Q z G
@[reducible] def oP (p : POi) : DTO := fun δ G Q _ => onO (p δ G) fun z => Q z G
section
variable {X : Cx} {W : WX} {a b c e : Expr} {es : List Expr}
theorem _root_.L2.PE.deOf {d d' : DTE} (h : DE X W a d) (i : ∀ δ G Q E, d' δ G Q E → d δ G Q E) : DE X W a d' := h.imp fun σ H R ⟨M, δ, G, Q, QE, rs, q, ex, k⟩ => ⟨M, δ, G, Q, QE, rs, i _ _ _ _ q, ex, k⟩
theorem _root_.L2.PE.dbOf {d d' : DTE} (h : DB X W a d) (i : ∀ δ G Q E, d' δ G Q E → d δ G Q E) : DB X W a d' := h.imp fun σ H R ⟨M, δ, G, Q, QE, rs, q, ex, k⟩ => ⟨M, δ, G, Q, QE, rs, i _ _ _ _ q, ex, k⟩
theorem _root_.L2.PE.dfOf {d d' : DTA} (h : DF X W a d) (i : ∀ δ G Q E, d' δ G Q E → d δ G Q E) : DF X W a d' := h.imp fun σ H R ⟨M, δ, G, Q, QE, rs, q, ex, k⟩ => ⟨M, δ, G, Q, QE, rs, i _ _ _ _ q, ex, k⟩
theorem _root_.L2.PT.dtOf {d d' : DTT} (h : DT X W a d) (i : ∀ δ G Q E, d' δ G Q E → d δ G Q E) : DT X W a d' := h.imp fun σ H R ⟨M, δ, G, Q, QE, rs, q, ex, k⟩ => ⟨M, δ, G, Q, QE, rs, i _ _ _ _ q, ex, k⟩
theorem _root_.L2.PW.dwOf {d d' : DTT} (h : DW X W a d) (i : ∀ δ G Q E, d' δ G Q E → d δ G Q E) : DW X W a d' := h.imp fun σ H R ⟨M, δ, G, Q, QE, rs, q, ex, k⟩ => ⟨M, δ, G, Q, QE, rs, i _ _ _ _ q, ex, k⟩
theorem _root_.L2.PA.daOf {d d' : DTA} (h : DA X W es d) (i : ∀ δ G Q E, d' δ G Q E → d δ G Q E) : DA X W es d' := h.imp fun σ H R ⟨M, δ, G, Q, QE, rs, q, ex, k⟩ => ⟨M, δ, G, Q, QE, rs, i _ _ _ _ q, ex, k⟩
theorem _root_.L2.PA.dabOf {d d' : DTA} (h : DAb X W es d) (i : ∀ δ G Q E, d' δ G Q E → d δ G Q E) : DAb X W es d' := h.imp fun σ H R ⟨M, δ, G, Q, QE, rs, q, ex, k⟩ => ⟨M, δ, G, Q, QE, rs, i _ _ _ _ q, ex, k⟩
theorem _root_.L2.PO.doOf {o : Option Expr} {d d' : DTO} (h : DO_ X W o d) (i : ∀ δ G Q E, d' δ G Q E → d δ G Q E) : DO_ X W o d' := h.imp fun σ H R ⟨M, δ, G, Q, QE, rs, q, ex, k⟩ => ⟨M, δ, G, Q, QE, rs, i _ _ _ _ q, ex, k⟩
theorem _root_.L2.PI.diOf {tg : Expr} {d d' : DTA} (h : DI X W tg a d) (i : ∀ δ G Q E, d' δ G Q E → d δ G Q E) : DI X W tg a d' := h.imp fun σ H R ⟨M, δ, G, Q, QE, rs, q, ex, k⟩ => ⟨M, δ, G, Q, QE, rs, i _ _ _ _ q, ex, k⟩
theorem _root_.L2.PS.dsOf {s : Stmt} {d d' : DTS} (h : DS X W s d) (i : ∀ N δ G, d' N δ G → d N δ G) : DS X W s d' := h.imp fun E σ H ⟨M, δ, G, DD, rs, q, ok⟩ => ⟨M, δ, G, DD, rs, i _ _ _ q, ok⟩
theorem _root_.L2.PSs.dssOf {s : List Stmt} {d d' : DTS} (h : DSs X W s d) (i : ∀ N δ G, d' N δ G → d N δ G) : DSs X W s d' := h.imp fun E σ H ⟨M, δ, G, DD, rs, q, ok⟩ => ⟨M, δ, G, DD, rs, i _ _ _ q, ok⟩
end

/-! ### values -/
def pV (i : Nat) : PX := fun δ _ => match δ[i]? with
  | some (some (.v d)) => some d
  | _ => none
/-- a slot's value, or its own list or dict, borrowed -/
def pBo (i : Nat) : PX := fun δ _ => match δ[i]? with
  | some (some (.v d)) => some d
  | some (some (.own ds)) => some (.lst ds)
  | some (some (.ownd ds)) => some (.dct ds)
  | _ => none
/-- a list object, borrowed -/
def derD (x : D) (G : DG) : Option D := match x with
  | .ref a => (match G a with
    | some (.mls ds) => some (.lst ds)
    | _ => some (.ref a))
  | x => some x
def pDer (p : PX) : PX := fun δ G => bO (p δ G) fun x => derD x G
def pC (d : D) : PX := fun _ _ => some d
def pBin (g : D → D → Option D) (p q : PX) : PX := fun δ G => bO (p δ G) fun x => bO (q δ G) fun y => g x y
def pUn (g : D → Option D) (p : PX) : PX := fun δ G => bO (p δ G) g
def blO : D → Option Bool
  | .bl b => some b
  | _ => none
def pTst (p : PX) : PB := fun δ G => bO (p δ G) blO
def pTru (p : PX) : PB := fun δ G => bO (p δ G) truD
def qNot (p : PB) : PB := fun δ G => bO (p δ G) fun b => some (!b)
def qAnd (p q : PB) : PB := fun δ G => bO (p δ G) fun b => match b with
  | true => q δ G
  | false => some false
def qOr (p q : PB) : PB := fun δ G => bO (p δ G) fun b => match b with
  | true => some true
  | false => q δ G
def pNot (p : PX) : PX := fun δ G => bO (p δ G) fun x => bO (blO x) fun b => some (.bl (!b))
def pAnd (p q : PX) : PX := fun δ G => bO (p δ G) fun x => bO (blO x) fun b => match b with
  | true => q δ G
  | false => some (.bl false)
def pOr (p q : PX) : PX := fun δ G => bO (p δ G) fun x => bO (blO x) fun b => match b with
  | true => some (.bl true)
  | false => q δ G
def pIfE (t : PB) (p q : PX) : PX := fun δ G => bO (t δ G) fun b => match b with
  | true => p δ G
  | false => q δ G
def pChain (g g' : D → D → Option D) (p q r : PX) : PX := fun δ G => bO (p δ G) fun x => bO (q δ G) fun y => bO (g x y) fun z => bO (blO z) fun b => match b with
  | true => bO (r δ G) fun w => g' y w
  | false => some (.bl false)
def pNil : PAs := fun _ _ => some []
def pCons (p : PX) (r : PAs) : PAs := fun δ G => bO (p δ G) fun x => bO (r δ G) fun xs => some (x :: xs)
def pCallB (g : List D → Option D) (r : PAs) : PX := fun δ G => bO (r δ G) g
def pMethB (g : D → List D → Option D) (p : PX) (r : PAs) : PX := fun δ G => bO (p δ G) fun x => bO (r δ G) fun xs => g x xs
def pTup (r : PAs) : PX := fun δ G => bO (r δ G) fun xs => some (.tup xs)
def pLst (r : PAs) : PX := fun δ G => bO (r δ G) fun xs => some (.lst xs)
def pFn (F : List D → DG → Option D) (r : PAs) : PX := fun δ G => bO (r δ G) fun xs => F xs G
def pNoI : POi := fun _ _ => some none
def pSoI (p : PX) : POi := fun δ G => bO (p δ G) fun x => match x with
  | .int i => some (some i)
  | _ => none
def pSl (g : D → Option Int → Option Int → Option D) (p : PX) (lo hi : POi) : PX := fun δ G => bO (p δ G) fun x => bO (lo δ G) fun l => bO (hi δ G) fun u => g x l u
/-- arguments of a written number -/
def PLen (r : PAs) (n : Nat) : Prop := ∀ δ G xs, r δ G = some xs → xs.length = n
theorem pl_nil : PLen pNil 0 := fun δ G xs h => by cases h; rfl
theorem pl_cons {p : PX} {r : PAs} {n : Nat} (h : PLen r n) : PLen (pCons p r) (n + 1) := fun δ G xs e => by
  obtain ⟨x, _, e⟩ := bO_iff.mp e
  obtain ⟨ys, h2, e⟩ := bO_iff.mp e
  cases e
  simp [h _ _ _ h2]
/-- the kind of a value -/
inductive Kd where
  | non | bl | int | str | tup | lst | dct
def kdOf : D → Option Kd
  | .non => some .non
  | .bl _ => some .bl
  | .int _ => some .int
  | .str _ => some .str
  | .tup _ => some .tup
  | .lst _ => some .lst
  | .dct _ => some .dct
  | _ => none
def kdIs : Kd → Kd → Bool
  | .non, .non => true
  | .bl, .bl => true
  | .bl, .int => true
  | .int, .int => true
  | .str, .str => true
  | .tup, .tup => true
  | .lst, .lst => true
  | .dct, .dct => true
  | _, _ => false
def kdTy : Kd → String
  | .non => "NoneType"
  | .bl => "bool"
  | .int => "int"
  | .str => "str"
  | .tup => "tuple"
  | .lst => "list"
  | .dct => "dict"
/-- isinstance of a value and a built-in type -/
def isiD (k : Kd) (x : D) (G : DG) : Option D := match x with
  | .ref a => (match G a with
    | some (.mls _) => some (.bl (kdIs .lst k))
    | some (.jar _) => some (.bl (kdIs .lst k))
    | _ => none)
  | x => bO (kdOf x) fun t => some (.bl (kdIs t k))
def pIsi (k : Kd) (p : PX) : PX := fun δ G => bO (p δ G) fun x => isiD k x G

section
variable {X : Cx} {W : WX} {a b c e : Expr} {es : List Expr} {p q r : PX} {t u : PB} {l : PAs} {pos : Pos} {i : Nat}
theorem xe_var (h : PE X e (tVar i)) : DE X W e (eP (pV i)) := (de_var h).deOf fun δ G Q E q => by
  obtain ⟨z, hz, q⟩ := onO_iff.mp q
  unfold pV at hz
  split at hz
  · rename_i d h; cases hz; exact ⟨z, h, q⟩
  · cases hz
theorem xb_var (h : PE X e (tVar i)) : DB X W e (eP (pBo i)) := (db_var h).dbOf fun δ G Q E q => by
  obtain ⟨z, hz, q⟩ := onO_iff.mp q
  unfold pBo at hz
  split at hz
  · rename_i d h; cases hz; exact .inl ⟨z, h, q⟩
  · rename_i d h; cases hz; exact .inr (.inl ⟨d, h, q⟩)
  · rename_i d h; cases hz; exact .inr (.inr ⟨d, h, q⟩)
  · cases hz
theorem xb_der (h : DE X W e (eP p)) : DB X W e (eP (pDer p)) := (db_der h).dbOf fun δ G Q E q => by
  obtain ⟨z, hz, q⟩ := onO_iff.mp q
  obtain ⟨x, hx, hz⟩ := bO_iff.mp hz
  refine onO_iff.mpr ⟨x, hx, ?_⟩
  unfold derD at hz
  split at hz
  · rename_i a
    split at hz
    · rename_i ds h
      cases hz
      exact .inl ⟨a, ds, rfl, h, q⟩
    · rename_i h
      cases hz
      exact .inr ⟨fun a ds e h2 => by cases e; exact h _ h2, q⟩
  · rename_i h
    cases hz
    exact .inr ⟨fun a ds e _ => h _ e, q⟩
theorem xe_c {d : D} (h : DE X W e (dC d)) : DE X W e (eP (pC d)) := h.deOf fun δ G Q E q => q
theorem xe_bin {op : Operator} {g : D → D → Option D} (ho : OpR X (binaryOp op) (OpD X.K g)) (ha : DB X W a (eP p)) (hb : DB X W b (eP q)) : DE X W (.BinOp a op b pos) (eP (pBin g p q)) := (de_bin ho ha hb).deOf fun δ G Q E h => by
  obtain ⟨z, hz, h⟩ := onO_iff.mp h
  obtain ⟨x, hx, hz⟩ := bO_iff.mp hz
  obtain ⟨y, hy, hz⟩ := bO_iff.mp hz
  exact onO_iff.mpr ⟨x, hx, onO_iff.mpr ⟨y, hy, rfl, z, hz, h⟩⟩
theorem xe_cmp {op : CmpOp} {g : D → D → Option D} (ho : OpR X (compareOp op) (OpD X.K g)) (ha : DB X W a (eP p)) (hb : DB X W b (eP q)) (hm : behindInMarks op b = false) : DE X W (.Compare a [op] [b] pos) (eP (pBin g p q)) := (de_cmp ho ha hb hm).deOf fun δ G Q E h => by
  obtain ⟨z, hz, h⟩ := onO_iff.mp h
  obtain ⟨x, hx, hz⟩ := bO_iff.mp hz
  obtain ⟨y, hy, hz⟩ := bO_iff.mp hz
  exact onO_iff.mpr ⟨x, hx, onO_iff.mpr ⟨y, hy, rfl, z, hz, h⟩⟩
theorem blO_iff {x : D} {b : Bool} : blO x = some b ↔ x = .bl b := by cases x <;> simp [blO]
theorem xt_cmp {op : CmpOp} {g : D → D → Option D} (ho : OpR X (compareOp op) (OpD X.K g)) (ha : DB X W a (eP p)) (hb : DB X W b (eP q)) (hm : behindInMarks op b = false) : DT X W (.Compare a [op] [b] pos) (tP (pTst (pBin g p q))) := (dt_cmp ho ha hb hm).dtOf fun δ G Q E h => by
  obtain ⟨z, hz, h⟩ := onO_iff.mp h
  obtain ⟨w, hw, hz⟩ := bO_iff.mp hz
  obtain ⟨x, hx, hw⟩ := bO_iff.mp hw
  obtain ⟨y, hy, hw⟩ := bO_iff.mp hw
  exact onO_iff.mpr ⟨x, hx, onO_iff.mpr ⟨y, hy, rfl, w, hw, z, blO_iff.mp hz, h⟩⟩
theorem xe_un {op : UnaryOp} {g : D → Option D} (ho : UnR X (unaryOp op) (UnD X.K g)) (ha : DB X W a (eP p)) : DE X W (.UnaryOp op a pos) (eP (pUn g p)) := (de_un ho ha).deOf fun δ G Q E h => by
  obtain ⟨z, hz, h⟩ := onO_iff.mp h
  obtain ⟨x, hx, hz⟩ := bO_iff.mp hz
  exact onO_iff.mpr ⟨x, hx, z, hz, h⟩
theorem xe_ix {g : D → D → Option D} (ho : IxR X (OpD X.K g)) (ha : DB X W a (eP p)) (hb : DB X W b (eP q)) (hs : PlainIx b) : DE X W (.Subscript a b pos) (eP (pBin g p q)) := (de_ix ho ha hb hs).deOf fun δ G Q E h => by
  obtain ⟨z, hz, h⟩ := onO_iff.mp h
  obtain ⟨x, hx, hz⟩ := bO_iff.mp hz
  obtain ⟨y, hy, hz⟩ := bO_iff.mp hz
  exact onO_iff.mpr ⟨x, hx, onO_iff.mpr ⟨y, hy, rfl, z, hz, h⟩⟩
theorem xt_tru (ha : DB X W a (eP p)) (he : ∀ whole, isTrue a X.env whole = (do let v ← whole; standAt a.pos; holding [v] (truthy v)) := by intro _; rfl) : DT X W a (tP (pTru p)) := (dt_tru ha he).dtOf fun δ G Q E h => by
  obtain ⟨z, hz, h⟩ := onO_iff.mp h
  obtain ⟨x, hx, hz⟩ := bO_iff.mp hz
  exact onO_iff.mpr ⟨x, hx, z, hz, h⟩
theorem xt_not (ha : DT X W a (tP t)) : DT X W (.UnaryOp .Not a pos) (tP (qNot t)) := (dt_not ha).dtOf fun δ G Q E h => by
  obtain ⟨z, hz, h⟩ := onO_iff.mp h
  obtain ⟨x, hx, hz⟩ := bO_iff.mp hz
  cases hz
  exact onO_iff.mpr ⟨x, hx, h⟩
theorem xw_and (ha : DT X W a (tP t)) (hb : DW X W (.BoolOp .And (b :: es) pos) (tP u)) : DW X W (.BoolOp .And (a :: b :: es) pos) (tP (qAnd t u)) := (dw_and ha hb).dwOf fun δ G Q E h => by
  obtain ⟨z, hz, h⟩ := onO_iff.mp h
  obtain ⟨x, hx, hz⟩ := bO_iff.mp hz
  refine onO_iff.mpr ⟨x, hx, ?_⟩
  cases x with
  | true => simp only [if_true]; exact onO_iff.mpr ⟨z, hz, h⟩
  | false => cases hz; simp only [Bool.false_eq_true, if_false]; exact h
theorem xw_or (ha : DT X W a (tP t)) (hb : DW X W (.BoolOp .Or (b :: es) pos) (tP u)) : DW X W (.BoolOp .Or (a :: b :: es) pos) (tP (qOr t u)) := (dw_or ha hb).dwOf fun δ G Q E h => by
  obtain ⟨z, hz, h⟩ := onO_iff.mp h
  obtain ⟨x, hx, hz⟩ := bO_iff.mp hz
  refine onO_iff.mpr ⟨x, hx, ?_⟩
  cases x with
  | true => cases hz; simp only [if_true]; exact h
  | false => simp only [Bool.false_eq_true, if_false]; exact onO_iff.mpr ⟨z, hz, h⟩
theorem xe_and (ha : DE X W a (eP p)) (hb : DE X W (.BoolOp .And (b :: es) pos) (eP q)) : DE X W (.BoolOp .And (a :: b :: es) pos) (eP (pAnd p q)) := (de_and ha hb).deOf fun δ G Q E h => by
  obtain ⟨z, hz, h⟩ := onO_iff.mp h
  obtain ⟨x, hx, hz⟩ := bO_iff.mp hz
  obtain ⟨b, hb, hz⟩ := bO_iff.mp hz
  refine onO_iff.mpr ⟨x, hx, b, blO_iff.mp hb, ?_⟩
  cases b with
  | true => simp only [if_true]; exact onO_iff.mpr ⟨z, hz, h⟩
  | false => cases hz; simp only [Bool.false_eq_true, if_false]; exact h
theorem xe_or (ha : DE X W a (eP p)) (hb : DE X W (.BoolOp .Or (b :: es) pos) (eP q)) : DE X W (.BoolOp .Or (a :: b :: es) pos) (eP (pOr p q)) := (de_or ha hb).deOf fun δ G Q E h => by
  obtain ⟨z, hz, h⟩ := onO_iff.mp h
  obtain ⟨x, hx, hz⟩ := bO_iff.mp hz
  obtain ⟨b, hb, hz⟩ := bO_iff.mp hz
  refine onO_iff.mpr ⟨x, hx, b, blO_iff.mp hb, ?_⟩
  cases b with
  | true => cases hz; simp only [if_true]; exact h
  | false => simp only [Bool.false_eq_true, if_false]; exact onO_iff.mpr ⟨z, hz, h⟩
theorem xe_not (ha : DE X W a (eP p)) : DE X W (.UnaryOp .Not a pos) (eP (pNot p)) := (de_not ha).deOf fun δ G Q E h => by
  obtain ⟨z, hz, h⟩ := onO_iff.mp h
  obtain ⟨x, hx, hz⟩ := bO_iff.mp hz
  obtain ⟨b, hb, hz⟩ := bO_iff.mp hz
  cases hz
  exact onO_iff.mpr ⟨x, hx, b, blO_iff.mp hb, h⟩
theorem xe_ifE (hc : DT X W c (tP t)) (ha : DE X W a (eP p)) (hb : DE X W b (eP q)) : DE X W (.IfExp c a b pos) (eP (pIfE t p q)) := (de_ifE hc ha hb).deOf fun δ G Q E h => by
  obtain ⟨z, hz, h⟩ := onO_iff.mp h
  obtain ⟨x, hx, hz⟩ := bO_iff.mp hz
  refine onO_iff.mpr ⟨x, hx, ?_⟩
  cases x with
  | true => simp only [if_true]; exact onO_iff.mpr ⟨z, hz, h⟩
  | false => simp only [Bool.false_eq_true, if_false]; exact onO_iff.mpr ⟨z, hz, h⟩
theorem chain_of {g g' : D → D → Option D} {δ : DSt} {G : DG} {Q : D → DG → Prop} {E : DX → DG → Prop} (h : eP (pChain g g' p q r) δ G Q E) : dChain g g' (eP p) (eP q) (eP r) δ G Q E := by
  obtain ⟨z, hz, h⟩ := onO_iff.mp h
  obtain ⟨x, hx, hz⟩ := bO_iff.mp hz
  obtain ⟨y, hy, hz⟩ := bO_iff.mp hz
  obtain ⟨w, hw, hz⟩ := bO_iff.mp hz
  obtain ⟨b, hb, hz⟩ := bO_iff.mp hz
  refine onO_iff.mpr ⟨x, hx, onO_iff.mpr ⟨y, hy, rfl, b, by rw [hw, blO_iff.mp hb], ?_⟩⟩
  cases b with
  | true =>
    simp only [if_true]
    obtain ⟨v, hv, hz⟩ := bO_iff.mp hz
    exact onO_iff.mpr ⟨v, hv, rfl, z, hz, h⟩
  | false => cases hz; simp only [Bool.false_eq_true, if_false]; exact h
theorem xe_chain {g g' : D → D → Option D} (h : DE X W e (dChain g g' (eP p) (eP q) (eP r))) : DE X W e (eP (pChain g g' p q r)) := h.deOf fun δ G Q E h => chain_of h
theorem xt_chain {g g' : D → D → Option D} (h : DT X W e (dTst (dChain g g' (eP p) (eP q) (eP r)))) : DT X W e (tP (pTst (pChain g g' p q r))) := h.dtOf fun δ G Q E h => by
  obtain ⟨z, hz, h⟩ := onO_iff.mp h
  obtain ⟨w, hw, hz⟩ := bO_iff.mp hz
  exact chain_of (E := E) (onO_iff.mpr ⟨w, hw, z, blO_iff.mp hz, h⟩)
theorem xa_nil : DA X W [] (aP pNil) := da_nil.daOf fun δ G Q E h => h
theorem xa_cons (ha : DE X W a (eP p)) (hr : DA X W es (aP l)) (hs : starEach (a :: es) X.env = (false, eval a X.env) :: starEach es X.env := by rfl) : DA X W (a :: es) (aP (pCons p l)) := (da_cons ha hr hs).daOf fun δ G Q E h => by
  obtain ⟨z, hz, h⟩ := onO_iff.mp h
  obtain ⟨x, hx, hz⟩ := bO_iff.mp hz
  obtain ⟨xs, hxs, hz⟩ := bO_iff.mp hz
  cases hz
  exact onO_iff.mpr ⟨x, hx, onO_iff.mpr ⟨xs, hxs, h⟩⟩
theorem xab_nil : DAb X W [] (aP pNil) := dab_nil.dabOf fun δ G Q E h => h
theorem xab_cons (ha : DB X W a (eP p)) (hr : DAb X W es (aP l)) (hs : starEach (a :: es) X.env = (false, eval a X.env) :: starEach es X.env := by rfl) : DAb X W (a :: es) (aP (pCons p l)) := (dab_cons ha hr hs).dabOf fun δ G Q E h => by
  obtain ⟨z, hz, h⟩ := onO_iff.mp h
  obtain ⟨x, hx, hz⟩ := bO_iff.mp hz
  obtain ⟨xs, hxs, hz⟩ := bO_iff.mp hz
  cases hz
  exact onO_iff.mpr ⟨x, hx, onO_iff.mpr ⟨xs, hxs, rfl, h⟩⟩
theorem xe_callB {g : List D → Option D} (h : DE X W e (dCallB g (aP l))) : DE X W e (eP (pCallB g l)) := h.deOf fun δ G Q E h => by
  obtain ⟨z, hz, h⟩ := onO_iff.mp h
  obtain ⟨x, hx, hz⟩ := bO_iff.mp hz
  exact onO_iff.mpr ⟨x, hx, z, hz, h⟩
theorem xe_tup {n : Nat} {x1} (h : DA X W es (aP l)) (hl : PLen l n) (hn : n ≤ 1000000 := by decide) : DE X W (.Tuple es x1 pos) (eP (pTup l)) := (de_tup h).deOf fun δ G Q E h => by
  obtain ⟨z, hz, h⟩ := onO_iff.mp h
  obtain ⟨x, hx, hz⟩ := bO_iff.mp hz
  cases hz
  exact onO_iff.mpr ⟨x, hx, by rw [hl _ _ _ hx]; exact hn, h⟩
theorem xf_lst {n : Nat} (h : DA X W es (aP l)) (hl : PLen l n) (hn : n ≤ 1000000 := by decide) : DF X W (.List es pos) (aP l) := (df_lst h).dfOf fun δ G Q E h => by
  obtain ⟨z, hz, h⟩ := onO_iff.mp h
  exact onO_iff.mpr ⟨z, hz, by rw [hl _ _ _ hz]; exact hn, h⟩
theorem xe_frz (h : DF X W e (aP l)) : DE X W e (eP (pLst l)) := (DF_e h).deOf fun δ G Q E h => by
  obtain ⟨z, hz, h⟩ := onO_iff.mp h
  obtain ⟨x, hx, hz⟩ := bO_iff.mp hz
  cases hz
  exact onO_iff.mpr ⟨x, hx, h⟩
theorem xo_none : DO_ X W none (oP pNoI) := do_none.doOf fun δ G Q E h => h
theorem xo_some (h : DE X W a (eP p)) : DO_ X W (some a) (oP (pSoI p)) := (do_some h).doOf fun δ G Q E h => by
  obtain ⟨z, hz, h⟩ := onO_iff.mp h
  obtain ⟨x, hx, hz⟩ := bO_iff.mp hz
  refine onO_iff.mpr ⟨x, hx, ?_⟩
  split at hz
  · cases hz; exact ⟨_, rfl, h⟩
  · cases hz
theorem xe_slice {g : D → Option Int → Option Int → Option D} {lo hi : Option Expr} {pl ph : POi} {p2 : Pos} (hr : SlR X (SlD X.K g)) (ha : DB X W a (eP p)) (hl : DO_ X W lo (oP pl)) (hh : DO_ X W hi (oP ph)) : DE X W (.Subscript a (.Slice lo hi none p2) pos) (eP (pSl g p pl ph)) := (de_slice hr ha hl hh).deOf fun δ G Q E h => by
  obtain ⟨z, hz, h⟩ := onO_iff.mp h
  obtain ⟨x, hx, hz⟩ := bO_iff.mp hz
  obtain ⟨l, hl, hz⟩ := bO_iff.mp hz
  obtain ⟨u, hu, hz⟩ := bO_iff.mp hz
  exact onO_iff.mpr ⟨x, hx, onO_iff.mpr ⟨l, hl, onO_iff.mpr ⟨u, hu, rfl, z, hz, h⟩⟩⟩
theorem kd_kit {K : PySem.W.Frag} (a b : Kd) (hb : b ≠ .non) : PySem.W.kitOne K (.type (kdTy a)) (.type (kdTy b)) = some (kdIs a b) := by
  cases a <;> cases b <;> first | exact absurd rfl hb | exact kit_ty (by decide +kernel)
theorem kd_ty {K : PySem.W.Frag} {G : DG} {x : D} {t : Kd} (h : kdOf x = some t) : TyD K G x (.type (kdTy t)) := by
  cases x <;> first | (cases h; exact rfl) | cases h
theorem xe_isi {k : Kd} (hk : k ≠ .non) (h : DE X W e (dIsi X.K (eP p) (dC (.ty (kdTy k))))) : DE X W e (eP (pIsi k p)) := h.deOf fun δ G Q E h => by
  obtain ⟨z, hz, h⟩ := onO_iff.mp h
  obtain ⟨x, hx, hz⟩ := bO_iff.mp hz
  refine onO_iff.mpr ⟨x, hx, rfl, ?_⟩
  unfold isiD at hz
  split at hz
  · rename_i a
    split at hz
    · rename_i ds ga
      cases hz
      exact ⟨.type "list", .type (kdTy k), _, .inr (.inl ⟨_, ga, rfl⟩), rfl, kd_kit .lst k hk, h⟩
    · rename_i ds ga
      cases hz
      exact ⟨.type "list", .type (kdTy k), _, .inr (.inr ⟨_, ga, rfl⟩), rfl, kd_kit .lst k hk, h⟩
    · cases hz
  · obtain ⟨t, ht, hz⟩ := bO_iff.mp hz
    cases hz
    exact ⟨.type (kdTy t), .type (kdTy k), _, kd_ty ht, rfl, kd_kit t k hk, h⟩
/-- a def that leaves all objects and tells F -/
def pf (F : List D → DG → Option D) : Fn := fun ds G Q _ => onO (F ds G) fun z => Q z G
theorem xe_call {F : List D → DG → Option D} (h : DE X W e (dCall (pf F) (aP l))) : DE X W e (eP (pFn F l)) := h.deOf fun δ G Q E h => by
  obtain ⟨z, hz, h⟩ := onO_iff.mp h
  obtain ⟨x, hx, hz⟩ := bO_iff.mp hz
  exact onO_iff.mpr ⟨x, hx, onO_iff.mpr ⟨z, hz, h⟩⟩
end
end DD

set_option Elab.async false
set_option linter.all false
set_option maxRecDepth 100000
set_option maxHeartbeats 4000000
namespace DD
open PySem PySem.Spec L2

/-! ### what walks and loops reckon -/
def lenIs : Nat → List D → Bool
  | 0, [] => true
  | n + 1, _ :: r => lenIs n r
  | _, _ => false
theorem lenIs_iff : ∀ {n : Nat} {xs : List D}, lenIs n xs = true ↔ xs.length = n
  | 0, [] => by simp [lenIs]
  | 0, _ :: _ => by simp [lenIs]
  | n + 1, [] => by simp [lenIs]
  | n + 1, _ :: r => by simp [lenIs, lenIs_iff (n := n) (xs := r)]
def lenLe : Nat → List D → Bool
  | _, [] => true
  | n + 1, _ :: r => lenLe n r
  | 0, _ => false
theorem lenLe_iff : ∀ {n : Nat} {xs : List D}, lenLe n xs = true ↔ xs.length ≤ n
  | n, [] => by cases n <;> simp [lenLe]
  | 0, _ :: _ => by simp [lenLe]
  | n + 1, _ :: r => by simp [lenLe, lenLe_iff (n := n) (xs := r)]
def tupO : D → Option (List D)
  | .tup xs => some xs
  | _ => none
theorem tupO_iff {x : D} {xs : List D} : tupO x = some xs ↔ x = .tup xs := by cases x <;> simp [tupO]
def hdO : List D → Option (D × List D)
  | x :: r => some (x, r)
  | [] => none
theorem hdO_iff {xs : List D} {p : D × List D} : hdO xs = some p ↔ xs = p.1 :: p.2 := by
  cases xs with
  | nil => simp [hdO]
  | cons x r => simp [hdO]; constructor
                · rintro rfl; exact ⟨rfl, rfl⟩
                · rintro ⟨rfl, rfl⟩; rfl
/-! targets -/
abbrev TBi := D → DSt → Option DSt
abbrev TBs := List D → DSt → Option DSt
def tN (i : Nat) : TBi := fun x δ => some (δ.set i (some (.v x)))
def tT (n : Nat) (g : TBs) : TBi := fun x δ => bO (tupO x) fun xs => match lenIs n xs with
  | true => g xs δ
  | false => none
def tNil : TBs := fun xs δ => match xs with
  | [] => some δ
  | _ => none
def tCons (b : TBi) (r : TBs) : TBs := fun xs δ => bO (hdO xs) fun p => bO (b p.1 δ) fun δ' => r p.2 δ'
@[reducible] def gP (b : TBi) : DTG := fun x δ G Q => onO (b x δ) fun δ' => Q δ' G
@[reducible] def gsP (b : TBs) : DTGs := fun x δ G Q => onO (b x δ) fun δ' => Q δ' G
section
variable {X : Cx} {es : List Expr} {e : Expr} {b : TBi} {r : TBs} {vs : List Nat} {x : Str} {pos : Pos} {i n k0 : Nat}
theorem gT_of {x : D} {δ : DSt} {G : DG} {Q : DSt → DG → Prop} (h : gP (tT n r) x δ G Q) : gT n (gsP r) x δ G Q := by
  obtain ⟨z, hz, h⟩ := onO_iff.mp h
  obtain ⟨xs, hx, hz⟩ := bO_iff.mp hz
  split at hz
  · rename_i hl
    exact ⟨xs, tupO_iff.mp hx, lenIs_iff.mp hl, onO_iff.mpr ⟨z, hz, h⟩⟩
  · cases hz
theorem gsNil_of {x : List D} {δ : DSt} {G : DG} {Q : DSt → DG → Prop} (h : gsP tNil x δ G Q) : gsNil x δ G Q := by
  obtain ⟨z, hz, h⟩ := onO_iff.mp h
  cases x with
  | nil => cases hz; exact ⟨rfl, h⟩
  | cons _ _ => cases hz
theorem gsCons_of {x : List D} {δ : DSt} {G : DG} {Q : DSt → DG → Prop} (h : gsP (tCons b r) x δ G Q) : gsCons (gP b) (gsP r) x δ G Q := by
  obtain ⟨z, hz, h⟩ := onO_iff.mp h
  obtain ⟨p, hp, hz⟩ := bO_iff.mp hz
  obtain ⟨δ', hd, hz⟩ := bO_iff.mp hz
  exact ⟨p.1, p.2, hdO_iff.mp hp, onO_iff.mpr ⟨δ', hd, onO_iff.mpr ⟨z, hz, h⟩⟩⟩
theorem xg_name (h : DGt X (.Name x pos) (gN i)) : DGt X (.Name x pos) (gP (tN i)) := h
theorem xgs_nil : DGts X [] (gsP tNil) := (dgs_nil (X := X)).imp fun vs σ H R ⟨M, δ, G, ds, Q, rs, im, q, k⟩ => ⟨M, δ, G, ds, Q, rs, im, gsNil_of q, k⟩
theorem xgs_cons (h1 : DGt X e (gP b)) (h2 : DGts X es (gsP r)) (hs : List.map (fun x => x.snd) (assignEach (e :: es) X.env) = assign e X.env :: List.map (fun x => x.snd) (assignEach es X.env) := by rfl) : DGts X (e :: es) (gsP (tCons b r)) := (dgs_cons h1 h2 hs).imp fun vs σ H R ⟨M, δ, G, ds, Q, rs, im, q, k⟩ => ⟨M, δ, G, ds, Q, rs, im, gsCons_of q, k⟩
theorem xg_of {t : DTG} {t' : DTG} (h : DGt X e t) (i : ∀ x δ G Q, t' x δ G Q → t x δ G Q) : DGt X e t' := h.imp fun vs σ H R ⟨M, δ, G, ds, Q, rs, im, q, k⟩ => ⟨M, δ, G, ds, Q, rs, im, i _ _ _ _ q, k⟩
theorem xg_tup (h : DGt X e (gT n (gsP r))) : DGt X e (gP (tT n r)) := xg_of h fun _ _ _ _ q => gT_of q
theorem xgc_of {t : DTG} {t' : DTG} (h : DGc X vs e t) (i : ∀ x δ G Q, t' x δ G Q → t x δ G Q) : DGc X vs e t' := h.imp fun us σ H R ⟨M, δ, G, ds, Q, rs, im, q, k⟩ => ⟨M, δ, G, ds, Q, rs, im, i _ _ _ _ q, k⟩
theorem xgcs_nil : DGcs X vs [] (gsP tNil) := (dgcs_nil (X := X) (vs := vs)).imp fun us σ H R ⟨M, δ, G, ds, Q, rs, im, q, k⟩ => ⟨M, δ, G, ds, Q, rs, im, gsNil_of q, k⟩
theorem xgcs_cons (h1 : DGc X vs e (gP b)) (h2 : DGcs X vs es (gsP r)) (hs : List.map (fun x => x.snd) (assignEach (e :: es) X.env) = assign e X.env :: List.map (fun x => x.snd) (assignEach es X.env) := by rfl) : DGcs X vs (e :: es) (gsP (tCons b r)) := (dgcs_cons h1 h2 hs).imp fun us σ H R ⟨M, δ, G, ds, Q, rs, im, q, k⟩ => ⟨M, δ, G, ds, Q, rs, im, gsCons_of q, k⟩
theorem xgc_tup (h : DGc X vs e (gT n (gsP r))) : DGc X vs e (gP (tT n r)) := xgc_of h fun _ _ _ _ q => gT_of q
end
/-! iterators -/
def inR (j : Int) : Bool := match j with
  | .ofNat n => Nat.ble n (2 ^ 61)
  | .negSucc n => Nat.ble n (2 ^ 61)
theorem inR_iff {j : Int} : inR j = true ↔ -(2 ^ 61) - 1 ≤ j ∧ j ≤ 2 ^ 61 := by
  cases j with
  | ofNat n => rw [show (Int.ofNat n) = (n : Int) from rfl]; simp only [inR, Nat.ble_eq]; constructor <;> intro h <;> omega
  | negSucc n => simp only [inR, Nat.ble_eq]; constructor <;> intro h <;> omega
def rngD (j : Int) : List D := (List.range j.toNat).map fun k : Nat => D.int (k : Int)
def rng2D (i j : Int) : List D := (List.range (j - i).toNat).map fun k : Nat => D.int (i + (k : Int))
def piSeq (p : PX) : PAs := fun δ G => bO (p δ G) iterD
def r1O (x : D) : Option (List D) := match x with
  | .int j => (match inR j with
    | true => some (rngD j)
    | false => none)
  | _ => none
def r2O (x y : D) : Option (List D) := match x, y with
  | .int i, .int j => (match inR i && inR j with
    | true => some (rng2D i j)
    | false => none)
  | _, _ => none
def piR1 (p : PX) : PAs := fun δ G => bO (p δ G) r1O
def piR2 (p q : PX) : PAs := fun δ G => bO (p δ G) fun x => bO (q δ G) fun y => r2O x y
def seqO : D → Option (List D)
  | .lst xs => some xs
  | .tup xs => some xs
  | _ => none
theorem seqO_iff {x : D} {xs : List D} : seqO x = some xs ↔ x = .lst xs ∨ x = .tup xs := by cases x <;> simp [seqO]
def piEn (p : PX) : PAs := fun δ G => bO (p δ G) fun x => bO (seqO x) fun xs => some (numD 0 xs)
def zpO (x y : D) : Option (List D) := match x, y with
  | .lst xs, .lst ys => some (zipD xs ys)
  | .tup xs, .tup ys => some (zipD xs ys)
  | _, _ => none
def piZp (p q : PX) : PAs := fun δ G => bO (p δ G) fun x => bO (q δ G) fun y => zpO x y
section
variable {X : Cx} {W : WX} {tg a e : Expr} {es : List Expr} {p q : PX} {l : PAs}
theorem xi_seq (h : DE X W e (eP p)) : DI X W tg e (aP (piSeq p)) := (di_seq (tg := tg) h).diOf fun δ G Q E h => by
  obtain ⟨z, hz, h⟩ := onO_iff.mp h
  obtain ⟨x, hx, hz⟩ := bO_iff.mp hz
  exact onO_iff.mpr ⟨x, hx, z, hz, h⟩
theorem xi_r1 (h : DI X W tg e (iRg1 (aP (pCons p pNil)))) : DI X W tg e (aP (piR1 p)) := h.diOf fun δ G Q E h => by
  obtain ⟨z, hz, h⟩ := onO_iff.mp h
  obtain ⟨x, hx, hz⟩ := bO_iff.mp hz
  refine onO_iff.mpr ⟨[x], bO_iff.mpr ⟨x, hx, rfl⟩, ?_⟩
  unfold r1O at hz
  split at hz
  · split at hz
    · rename_i j _ hj
      cases hz
      have := inR_iff.mp hj
      exact ⟨j, rfl, by omega, by omega, h⟩
    · cases hz
  · cases hz
theorem xi_r2 (h : DI X W tg e (iRg2 (aP (pCons p (pCons q pNil))))) : DI X W tg e (aP (piR2 p q)) := h.diOf fun δ G Q E h => by
  obtain ⟨z, hz, h⟩ := onO_iff.mp h
  obtain ⟨x, hx, hz⟩ := bO_iff.mp hz
  obtain ⟨y, hy, hz⟩ := bO_iff.mp hz
  refine onO_iff.mpr ⟨[x, y], bO_iff.mpr ⟨x, hx, bO_iff.mpr ⟨[y], bO_iff.mpr ⟨y, hy, rfl⟩, rfl⟩⟩, ?_⟩
  cases x with
  | int i => cases y with
    | int j =>
      have hz2 : (match inR i && inR j with | true => some (rng2D i j) | false => none) = some z := hz
      split at hz2
      · rename_i hj
        cases hz2
        rw [Bool.and_eq_true] at hj
        have h1 := inR_iff.mp hj.1
        have h2 := inR_iff.mp hj.2
        exact ⟨i, j, rfl, by omega, h⟩
      · cases hz2
    | _ => cases hz
  | _ => cases hz
theorem xi_en (h : DI X W tg e (iEn (eP p))) : DI X W tg e (aP (piEn p)) := h.diOf fun δ G Q E h => by
  obtain ⟨z, hz, h⟩ := onO_iff.mp h
  obtain ⟨x, hx, hz⟩ := bO_iff.mp hz
  obtain ⟨xs, hs, hz⟩ := bO_iff.mp hz
  cases hz
  exact onO_iff.mpr ⟨x, hx, xs, seqO_iff.mp hs, h⟩
theorem xi_zp (h : DI X W tg e (iZp (aP (pCons p (pCons q pNil))))) : DI X W tg e (aP (piZp p q)) := h.diOf fun δ G Q E h => by
  obtain ⟨z, hz, h⟩ := onO_iff.mp h
  obtain ⟨x, hx, hz⟩ := bO_iff.mp hz
  obtain ⟨y, hy, hz⟩ := bO_iff.mp hz
  refine onO_iff.mpr ⟨[x, y], bO_iff.mpr ⟨x, hx, bO_iff.mpr ⟨[y], bO_iff.mpr ⟨y, hy, rfl⟩, rfl⟩⟩, ?_⟩
  unfold zpO at hz
  split at hz
  · cases hz; exact ⟨_, _, .inl rfl, h⟩
  · cases hz; exact ⟨_, _, .inr rfl, h⟩
  · cases hz
end
/-! comprehensions -/
def noneAt (δ : DSt) : List Nat → Bool
  | [] => true
  | v :: vs => match δ[v]? with
    | some none => noneAt δ vs
    | _ => false
theorem noneAt_wipe {δ : DSt} : ∀ {vs : List Nat}, noneAt δ vs = true → dwipe δ vs = δ
  | [], _ => rfl
  | v :: vs, h => by
    unfold noneAt at h
    split at h
    · rename_i hv
      unfold dwipe
      rw [noneAt_wipe h]
      exact List.ext_getElem? fun j => by
        rw [List.getElem?_set]
        split
        · rename_i e; subst e
          rw [hv]
          have : v < δ.length := (List.getElem?_eq_some_iff.mp hv).1
          simp [this]
        · rfl
    · cases h
/-- a pure comprehension -/
def lcP (b : TBi) (t : PB) (p : PX) (δ : DSt) (G : DG) : List D → Option (List D)
  | [] => some []
  | x :: r => bO (b x δ) fun δ' => bO (t δ' G) fun c => match c with
    | true => bO (p δ' G) fun y => bO (lcP b t p δ G r) fun ys => some (y :: ys)
    | false => lcP b t p δ G r
def qYes : PB := fun _ _ => some true
def pLc (it : PAs) (b : TBi) (t : PB) (p : PX) (vs : List Nat) : PAs := fun δ G => bO (it δ G) fun xs => match noneAt δ vs && lenLe 1000000 xs with
  | true => lcP b t p δ G xs
  | false => none
theorem lcL_of {b : TBi} {t : PB} {p : PX} {δ : DSt} {G : DG} {Q : List D → DG → Prop} : ∀ (xs acc ys : List D), lcP b t p δ G xs = some ys → acc.length + xs.length ≤ 1000000 → Q (acc ++ ys) G → lcL (gP b) (tP t) (eP p) δ Q xs acc G
  | [], acc, ys, h, _, q => by cases h; rw [List.append_nil] at q; exact q
  | x :: r, acc, ys, h, hl, q => by
    unfold lcP at h
    obtain ⟨δ', h1, h⟩ := bO_iff.mp h
    obtain ⟨c, h2, h⟩ := bO_iff.mp h
    unfold lcL
    simp only [List.length_cons] at hl
    refine onO_iff.mpr ⟨δ', h1, onO_iff.mpr ⟨c, h2, ?_⟩⟩
    cases c with
    | true =>
      obtain ⟨y, h3, h⟩ := bO_iff.mp h
      obtain ⟨zs, h4, h⟩ := bO_iff.mp h
      cases h
      simp only [if_true]
      exact onO_iff.mpr ⟨y, h3, by omega, lcL_of r (acc ++ [y]) zs h4 (by simp; omega) (by simpa using q)⟩
    | false =>
      simp only [Bool.false_eq_true, if_false]
      exact lcL_of r acc ys h (by omega) q
theorem xf_lc {X : Cx} {W : WX} {e : Expr} {it : PAs} {b : TBi} {t : PB} {p : PX} {vs : List Nat} (h : DF X W e (dLcW (aP it) (gP b) (tP t) (eP p) vs)) : DF X W e (aP (pLc it b t p vs)) := h.dfOf fun δ G Q E h => by
  obtain ⟨z, hz, h⟩ := onO_iff.mp h
  obtain ⟨xs, hx, hz⟩ := bO_iff.mp hz
  split at hz
  · rename_i hc
    rw [Bool.and_eq_true] at hc
    have hw := noneAt_wipe hc.1
    refine ⟨hw, onO_iff.mpr ⟨xs, hx, ?_⟩⟩
    rw [hw]
    exact lcL_of xs [] z hz (by simpa using lenLe_iff.mp hc.2) (by simpa using h)
  · cases hz
theorem xdts_nil {X : Cx} : DTs X [] (tP qYes) := dts_nil
theorem lcP_map {b : TBi} {t : PB} {p : PX} {δ : DSt} {G : DG} (f : D → D) : ∀ (xs : List D), (∀ x ∈ xs, ∃ δ', b x δ = some δ' ∧ t δ' G = some true ∧ p δ' G = some (f x)) → lcP b t p δ G xs = some (xs.map f)
  | [], _ => rfl
  | x :: r, h => by
    obtain ⟨δ', h1, h2, h3⟩ := h x (by simp)
    have ih := lcP_map (b := b) (t := t) (p := p) f r fun y hy => h y (by simp [hy])
    simp [lcP, h1, h2, h3, ih, bO]
theorem lcP_mapT {α : Type} (e : α → D) {b : TBi} {t : PB} {p : PX} {δ : DSt} {G : DG} (f : α → D) : ∀ (xs : List α), (∀ x ∈ xs, ∃ δ', b (e x) δ = some δ' ∧ t δ' G = some true ∧ p δ' G = some (f x)) → lcP b t p δ G (xs.map e) = some (xs.map f)
  | [], _ => rfl
  | x :: r, h => by
    obtain ⟨δ', h1, h2, h3⟩ := h x (by simp)
    have ih := lcP_mapT e (b := b) (t := t) (p := p) f r fun y hy => h y (by simp [hy])
    simp [lcP, h1, h2, h3, ih, bO]
theorem lcP_filT {α : Type} (e : α → D) {b : TBi} {t : PB} {p : PX} {δ : DSt} {G : DG} (c : α → Bool) (f : α → D) : ∀ (xs : List α), (∀ x ∈ xs, ∃ δ', b (e x) δ = some δ' ∧ t δ' G = some (c x) ∧ (c x = true → p δ' G = some (f x))) → lcP b t p δ G (xs.map e) = some ((xs.filter c).map f)
  | [], _ => rfl
  | x :: r, h => by
    obtain ⟨δ', h1, h2, h3⟩ := h x (by simp)
    have ih := lcP_filT e (b := b) (t := t) (p := p) c f r fun y hy => h y (by simp [hy])
    cases hc : c x with
    | true => simp [lcP, h1, h2, h3 hc, ih, bO, hc]
    | false => simp [lcP, h1, h2, ih, bO, hc]
theorem pLc_of {it : PAs} {b : TBi} {t : PB} {p : PX} {vs : List Nat} {δ : DSt} {G : DG} {xs ys : List D} (h : it δ G = some xs) (hn : noneAt δ vs = true) (hl : xs.length ≤ 1000000) (q : lcP b t p δ G xs = some ys) : pLc it b t p vs δ G = some ys := by
  unfold pLc
  rw [h]
  show (match noneAt δ vs && lenLe 1000000 xs with | true => lcP b t p δ G xs | false => none) = _
  rw [hn, lenLe_iff.mpr hl]
  exact q
/-- loops: what holds at each turn -/
theorem for_inv {g : DTG} {tb : DTS} {N : DEnds} (I : List D → DSt → DG → Prop) : ∀ (xs : List D) (δ : DSt) (G : DG), I xs δ G → (∀ δ G, I [] δ G → N.nx δ G) →
    (∀ x r δ G (nx : DSt → DG → Prop), I (x :: r) δ G → (∀ δ' G', I r δ' G' → nx δ' G') → g x δ G (fun δ' G' => tb { N with nx := nx, ct := nx, bk := N.nx } δ' G')) → forL g tb N xs δ G
  | [], δ, G, h, fin, _ => fin δ G h
  | x :: r, δ, G, h, fin, step => step x r δ G (forL g tb N r) h fun δ' G' h' => for_inv I r δ' G' h' fin step
/-- comprehensions: what holds at each turn -/
theorem lc_inv {g : DTG} {tt : DTT} {te : DTE} {δ : DSt} {Q : List D → DG → Prop} (I : List D → List D → DG → Prop) : ∀ (xs acc : List D) (G : DG), I xs acc G → (∀ acc G, I [] acc G → Q acc G) →
    (∀ x r acc G (Q' : List D → DG → Prop), I (x :: r) acc G → (∀ acc' G', I r acc' G' → Q' acc' G') → g x δ G (fun δ' G' => tt δ' G' (fun b G2 => if b = true then te δ' G2 (fun y G3 => acc.length < 1000000 ∧ Q' (acc ++ [y]) G3) (fun _ _ => False) else Q' acc G2) (fun _ _ => False))) → lcL g tt te δ Q xs acc G
  | [], acc, G, h, fin, _ => fin acc G h
  | x :: r, acc, G, h, fin, step => step x r acc G (lcL g tt te δ Q r) h fun acc' G' h' => lc_inv I r acc' G' h' fin step
/-! ### statements -/
def ownAt (δ : DSt) (i : Nat) : Option (List D) := match δ[i]? with
  | some (some (.own ds)) => some ds
  | _ => none
theorem ownAt_iff {δ : DSt} {i : Nat} {ds : List D} : ownAt δ i = some ds ↔ δ[i]? = some (some (.own ds)) := by
  unfold ownAt
  split
  · rename_i h; simp [h]
  · rename_i h; constructor
    · intro z; cases z
    · intro z; exact absurd z (h ds)
def refAt (δ : DSt) (i : Nat) : Option Addr := match δ[i]? with
  | some (some (.v (.ref a))) => some a
  | _ => none
theorem refAt_iff {δ : DSt} {i : Nat} {a : Addr} : refAt δ i = some a ↔ δ[i]? = some (some (.v (.ref a))) := by
  unfold refAt
  split
  · rename_i h; simp [h]
  · rename_i h; constructor
    · intro z; cases z
    · intro z; exact absurd z (h a)
@[reducible] def zIf (c : DTT) (t u : DTS) : DTS := fun D δ G => c δ G (fun b G1 => brP b (t D δ G1) (u D δ G1)) (exOf D δ)
theorem zIf_eq {c : DTT} {t u : DTS} : sIf c t u = zIf c t u := by
  funext D δ G
  unfold sIf zIf
  congr 1
  funext b G1
  exact brP_eq.symm
/-- a slot's own list is a value from now on -/
def zFrz (i : Nat) (t : DTS) : DTS := fun D δ G => match δ[i]? with
  | some (some (.own ds)) => t D (δ.set i (some (.v (.lst ds)))) G
  | some (some (.v _)) => t D δ G
  | _ => False
def zMut (i : Nat) (g : List D → List D → Option (List D × D)) (a : DTA) : DTS := fun N δ G => onO (ownAt δ i) fun ds => a δ G (fun vs G2 => onO (g ds vs) fun r => N.nx (δ.set i (some (.own r.1))) G2) (exOf N δ)
theorem zMut_of {i : Nat} {g : List D → List D → Option (List D × D)} {a : DTA} {N : DEnds} {δ : DSt} {G : DG} (h : zMut i g a N δ G) : sMut g (pVar i) a N δ G := by
  obtain ⟨ds, hd, h⟩ := onO_iff.mp h
  have hd' := ownAt_iff.mp hd
  refine .inl ⟨ds, hd', ⟨ds, hd'⟩, ?_⟩
  have e : (fun vs G2 => ∃ ds ds' z, (Pl.slot i).rd δ G2 ds ∧ g ds vs = some (ds', z) ∧ ∀ δ' G', (Pl.slot i).wr ds' δ G2 δ' G' → N.nx δ' G') = (fun vs G2 => onO (g ds vs) fun r => N.nx (δ.set i (some (.own r.1))) G2) := by
    funext vs G2
    apply propext
    constructor
    · rintro ⟨ds1, ds', z, h1, h2, h3⟩
      have e1 : ds1 = ds := by have := (show δ[i]? = some (some (.own ds1)) from h1).symm.trans hd'; cases this; rfl
      subst e1
      exact onO_of h2 (h3 _ _ ⟨rfl, rfl⟩)
    · intro q
      obtain ⟨⟨ds', z⟩, h2, h3⟩ := onO_iff.mp q
      exact ⟨ds, ds', z, hd', h2, fun δ' G' ⟨e1, e2⟩ => by subst e1 e2; exact h3⟩
  rw [e]
  exact h
/-- a list object that is changed -/
def zMutM (i : Nat) (g : List D → List D → Option (List D × D)) (a : DTA) : DTS := fun N δ G => onO (refAt δ i) fun ad => (∃ ds, G ad = some (.mls ds)) ∧ a δ G (fun vs G2 => ∃ ds, G2 ad = some (.mls ds) ∧ onO (g ds vs) fun r => N.nx δ (gset G2 ad (some (.mls r.1)))) (exOf N δ)
theorem zMutM_of {i : Nat} {g : List D → List D → Option (List D × D)} {a : DTA} {N : DEnds} {δ : DSt} {G : DG} (h : zMutM i g a N δ G) : sMut g (pVar i) a N δ G := by
  obtain ⟨ad, hd, ⟨ds, hds⟩, h⟩ := onO_iff.mp h
  have hd' := refAt_iff.mp hd
  refine .inr ⟨ad, ds, hd', hds, ⟨ds, hds⟩, ?_⟩
  have e : (fun vs G2 => ∃ ds ds' z, (Pl.mls ad).rd δ G2 ds ∧ g ds vs = some (ds', z) ∧ ∀ δ' G', (Pl.mls ad).wr ds' δ G2 δ' G' → N.nx δ' G') = (fun vs G2 => ∃ ds, G2 ad = some (.mls ds) ∧ onO (g ds vs) fun r => N.nx δ (gset G2 ad (some (.mls r.1)))) := by
    funext vs G2
    apply propext
    constructor
    · rintro ⟨ds1, ds', z, h1, h2, h3⟩
      exact ⟨ds1, h1, onO_of h2 (h3 _ _ ⟨rfl, rfl⟩)⟩
    · rintro ⟨ds1, h1, q⟩
      obtain ⟨⟨ds', z⟩, h2, h3⟩ := onO_iff.mp q
      exact ⟨ds1, ds', z, h1, h2, fun δ' G' ⟨e1, e2⟩ => by subst e1 e2; exact h3⟩
  rw [e]
  exact h
def ixO (n : Nat) (k : D) : Option Nat := match k with
  | .int i => ixN n i
  | _ => none
def zSetAt (d : DTE) (i : Nat) (ix : DTE) : DTS := fun N δ G => onO (ownAt δ i) fun ds => d δ G (fun y G0 => ix δ G0 (fun k G2 => onO (ixO ds.length k) fun j => N.nx (δ.set i (some (.own (ds.set j y)))) G2) (exOf N δ)) (exOf N δ)
theorem zSetAt_of {d ix : DTE} {i : Nat} {N : DEnds} {δ : DSt} {G : DG} (h : zSetAt d i ix N δ G) : sSetAt d (pVar i) ix N δ G := by
  obtain ⟨ds, hd, h⟩ := onO_iff.mp h
  have hd' := ownAt_iff.mp hd
  have e2 : ∀ y, (fun k G2 => ∃ i_1 ds j, k = .int i_1 ∧ (Pl.slot i).rd δ G2 ds ∧ ixN ds.length i_1 = some j ∧ ∀ δ' G', (Pl.slot i).wr (ds.set j y) δ G2 δ' G' → N.nx δ' G') = (fun k G2 => onO (ixO ds.length k) fun j => N.nx (δ.set i (some (.own (ds.set j y)))) G2) := fun y => by
    funext k G2
    apply propext
    constructor
    · rintro ⟨i1, ds1, j, rfl, h1, h2, h3⟩
      have e1 : ds1 = ds := by have := (show δ[i]? = some (some (.own ds1)) from h1).symm.trans hd'; cases this; rfl
      subst e1
      exact onO_of (show ixO ds1.length (.int i1) = some j from h2) (h3 _ _ ⟨rfl, rfl⟩)
    · intro q
      obtain ⟨j, h2, h3⟩ := onO_iff.mp q
      unfold ixO at h2
      split at h2
      · rename_i i1
        exact ⟨i1, ds, j, rfl, hd', h2, fun δ' G' ⟨e1, e2⟩ => by subst e1 e2; exact h3⟩
      · cases h2
  have e5 : (fun y G0 => pVar i δ G0 (fun pl G1 => ix δ G1 (fun k G2 => ∃ i ds j, k = .int i ∧ pl.rd δ G2 ds ∧ ixN ds.length i = some j ∧ ∀ δ' G', pl.wr (ds.set j y) δ G2 δ' G' → N.nx δ' G') (exOf N δ)) (exOf N δ)) = (fun y G0 => ix δ G0 (fun k G2 => onO (ixO ds.length k) fun j => N.nx (δ.set i (some (.own (ds.set j y)))) G2) (exOf N δ)) := by
    funext y G0
    rw [← e2 y]
    apply propext
    constructor
    · rintro (⟨ds2, _, q⟩ | ⟨a, ds2, z, _⟩)
      · exact q
      · rw [hd'] at z; cases z
    · exact fun q => .inl ⟨ds, hd', q⟩
  unfold sSetAt
  rw [e5]
  exact h
section
variable {X : Cx} {W : WX} {s : Stmt} {ss : List Stmt} {t u : DTS} {tc : DTT} {i : Nat}
theorem zs_if {c : Expr} {sts sts' : List Stmt} {pos : Pos} (hc : DT X W c tc) (ha : DSs X W sts t) (hb : DSs X W sts' u) : DS X W (.If c sts sts' pos) (zIf tc t u) := by
  rw [← zIf_eq]
  exact ds_if hc ha hb
theorem zss_frz (i : Nat) (h : DSs X W ss t) : DSs X W ss (zFrz i t) := ⟨fun pins s σ H Q I q => by
  obtain ⟨M, δ, G, DD, rs, q, ok⟩ := q
  unfold zFrz at q
  split at q
  · rename_i ds hd
    exact (dss_frz i h).run pins s σ H Q I ⟨M, δ, G, DD, rs, ⟨ds, hd, q⟩, ok⟩
  · exact h.run pins s σ H Q I ⟨M, δ, G, DD, rs, q, ok⟩
  · exact q.elim⟩
theorem zs_frz (i : Nat) (h : DS X W s t) : DS X W s (zFrz i t) := ⟨fun pins s σ H Q I q => by
  obtain ⟨M, δ, G, DD, rs, q, ok⟩ := q
  unfold zFrz at q
  split at q
  · rename_i ds hd
    exact (ds_frz i h).run pins s σ H Q I ⟨M, δ, G, DD, rs, ⟨ds, hd, q⟩, ok⟩
  · exact h.run pins s σ H Q I ⟨M, δ, G, DD, rs, q, ok⟩
  · exact q.elim⟩
theorem zs_mut {g : List D → List D → Option (List D × D)} {a : DTA} (h : DS X W s (sMut g (pVar i) a)) : DS X W s (zMut i g a) := h.dsOf fun _ _ _ q => zMut_of q
theorem zs_setAt {d ix : DTE} (h : DS X W s (sSetAt d (pVar i) ix)) : DS X W s (zSetAt d i ix) := h.dsOf fun _ _ _ q => zSetAt_of q
theorem zs_mutM {g : List D → List D → Option (List D × D)} {a : DTA} (h : DS X W s (sMut g (pVar i) a)) : DS X W s (zMutM i g a) := h.dsOf fun _ _ _ q => zMutM_of q
end
end DD

set_option Elab.async false
set_option linter.all false
set_option maxRecDepth 100000
set_option maxHeartbeats 4000000
namespace DD
open PySem PySem.Spec L2

/-! ### readings of expressions that draw or make objects -/
@[reducible] def zBinV (g : D → D → Option D) (a b : DTE) : DTE := fun δ G Q E => a δ G (fun x G1 => b δ G1 (fun y G2 => onO (g x y) fun z => Q z G2) E) E
@[reducible] def zUn (g : D → Option D) (a : DTE) : DTE := fun δ G Q E => a δ G (fun x G1 => onO (g x) fun z => Q z G1) E
@[reducible] def zTst (a : DTE) : DTT := fun δ G Q E => a δ G (fun x G1 => onO (blO x) fun b => Q b G1) E
@[reducible] def zTru (a : DTE) : DTT := fun δ G Q E => a δ G (fun x G1 => onO (truD x) fun b => Q b G1) E
@[reducible] def zAndT (a b : DTT) : DTT := fun δ G Q E => a δ G (fun c G1 => brP c (b δ G1 Q E) (Q false G1)) E
@[reducible] def zOrT (a b : DTT) : DTT := fun δ G Q E => a δ G (fun c G1 => brP c (Q true G1) (b δ G1 Q E)) E
@[reducible] def zAndV (a b : DTE) : DTE := fun δ G Q E => a δ G (fun x G1 => onO (blO x) fun c => brP c (b δ G1 Q E) (Q (.bl false) G1)) E
@[reducible] def zOrV (a b : DTE) : DTE := fun δ G Q E => a δ G (fun x G1 => onO (blO x) fun c => brP c (Q (.bl true) G1) (b δ G1 Q E)) E
@[reducible] def zNotV (a : DTE) : DTE := fun δ G Q E => a δ G (fun x G1 => onO (blO x) fun c => Q (.bl (!c)) G1) E
@[reducible] def zIfE (t : DTT) (a b : DTE) : DTE := fun δ G Q E => t δ G (fun c G1 => brP c (a δ G1 Q E) (b δ G1 Q E)) E
@[reducible] def zCallV (g : List D → Option D) (a : DTA) : DTE := fun δ G Q E => a δ G (fun xs G1 => onO (g xs) fun z => Q z G1) E
@[reducible] def zTup (a : DTA) : DTE := fun δ G Q E => a δ G (fun xs G1 => brP (lenLe 1000000 xs) (Q (.tup xs) G1) False) E
@[reducible] def zLst (a : DTA) : DTA := fun δ G Q E => a δ G (fun xs G1 => brP (lenLe 1000000 xs) (Q xs G1) False) E
def strO : D → Option Str
  | .str s => some s
  | _ => none
@[reducible] def zJoin (o a : DTE) : DTE := fun δ G Q E => o δ G (fun x G1 => onO (strO x) fun _ => a δ G1 (fun y G2 => onO (joinD x [y]) fun z => Q z G2) E) E
@[reducible] def zLc (it : DTA) (g : DTG) (tt : DTT) (te : DTE) (vs : List Nat) : DTA := fun δ G Q E => brP (noneAt δ vs) (it δ G (fun xs G1 => lcL g tt te δ Q xs [] G1) E) False
def pStM (g : D → List D → Option D) (p q : PX) : PX := fun δ G => bO (p δ G) fun x => bO (strO x) fun _ => bO (q δ G) fun y => g x [y]
theorem blO_eq {x : D} {k : Bool → Prop} : (∃ b, x = .bl b ∧ k b) = onO (blO x) k := by
  apply propext
  rw [onO_iff]
  constructor
  · rintro ⟨b, rfl, q⟩; exact ⟨b, rfl, q⟩
  · rintro ⟨b, h, q⟩; exact ⟨b, blO_iff.mp h, q⟩
theorem zBinV_eq {g : D → D → Option D} {a b : DTE} : dBinV g a b = zBinV g a b := by
  funext δ G Q E
  unfold dBinV zBinV
  simp only [onO_eq]
theorem zUn_eq {g : D → Option D} {a : DTE} : dUn g a = zUn g a := by
  funext δ G Q E
  unfold dUn zUn
  simp only [onO_eq]
theorem zTst_eq {a : DTE} : dTst a = zTst a := by
  funext δ G Q E
  unfold dTst zTst
  simp only [← blO_eq]
theorem zTru_eq {a : DTE} : dTru a = zTru a := by
  funext δ G Q E
  unfold dTru zTru
  simp only [onO_eq]
theorem zAndT_eq {a b : DTT} : dAndT a b = zAndT a b := by
  funext δ G Q E
  unfold dAndT zAndT
  simp only [brP_eq]
theorem zOrT_eq {a b : DTT} : dOrT a b = zOrT a b := by
  funext δ G Q E
  unfold dOrT zOrT
  simp only [brP_eq]
theorem zAndV_eq {a b : DTE} : dAndV a b = zAndV a b := by
  funext δ G Q E
  unfold dAndV zAndV
  simp only [brP_eq, ← blO_eq]
theorem zOrV_eq {a b : DTE} : dOrV a b = zOrV a b := by
  funext δ G Q E
  unfold dOrV zOrV
  simp only [brP_eq, ← blO_eq]
theorem zNotV_eq {a : DTE} : dNotV a = zNotV a := by
  funext δ G Q E
  unfold dNotV zNotV
  simp only [← blO_eq]
theorem zIfE_eq {t : DTT} {a b : DTE} : dIfE t a b = zIfE t a b := by
  funext δ G Q E
  unfold dIfE zIfE
  simp only [brP_eq]
theorem zCallV_eq {g : List D → Option D} {a : DTA} : dCallB g a = zCallV g a := by
  funext δ G Q E
  unfold dCallB zCallV
  simp only [onO_eq]
theorem lenLe_eq {xs : List D} {P : Prop} : (xs.length ≤ 1000000 ∧ P) = brP (lenLe 1000000 xs) P False := by
  rw [brP_eq]
  by_cases h : xs.length ≤ 1000000
  · rw [if_pos (lenLe_iff.mpr h)]; simp [h]
  · rw [if_neg (fun z => h (lenLe_iff.mp z))]; simp [h]
theorem zTup_eq {a : DTA} : dTup a = zTup a := by
  funext δ G Q E
  unfold dTup zTup
  simp only [lenLe_eq]
theorem zLst_eq {a : DTA} : dLst a = zLst a := by
  funext δ G Q E
  unfold dLst zLst
  simp only [lenLe_eq]
theorem strO_eq {x : D} {P : Prop} : (isStrD x ∧ P) = onO (strO x) fun _ => P := by
  cases x <;> simp [isStrD, strO, onO]
theorem zJoin_eq {o a : DTE} : dStMV joinD o a = zJoin o a := by
  funext δ G Q E
  unfold dStMV zJoin
  simp only [onO_eq, strO_eq]
section
variable {X : Cx} {W : WX} {e : Expr} {es : List Expr} {s : Stmt}
theorem ImL.tmL {K : PySem.W.Frag} {H : Hp} {M : Gh} : ∀ {vs : List V} {ds : List D}, ImL K H M vs ds → TmL K H M vs ds
  | _, _, .nil => .nil
  | _, _, .cons a r => .cons (Tm.of a) (ImL.tmL r)
theorem DA_ab {a : DTA} (h : DA X W es a) : DAb X W es a := h.imp fun σ H R ⟨M, δ, G, Q, QE, rs, d, ex, k⟩ => ⟨M, δ, G, Q, QE, rs, d, ex, fun vs dv G' H' M' f rs' im q => k vs dv G' H' M' f rs' (fun H2 M2 f2 _ => (ImL.mono f2.stay im).tmL) q⟩
theorem z_e {d d' : DTE} (h : DE X W e d) (q : d = d') : DE X W e d' := by rw [← q]; exact h
theorem z_t {d d' : DTT} (h : DT X W e d) (q : d = d') : DT X W e d' := by rw [← q]; exact h
theorem z_w {d d' : DTT} (h : DW X W e d) (q : d = d') : DW X W e d' := by rw [← q]; exact h
theorem z_f {d d' : DTA} (h : DF X W e d) (q : d = d') : DF X W e d' := by rw [← q]; exact h
theorem zf_lc {it : DTA} {g : DTG} {tt : DTT} {te : DTE} {vs : List Nat} (h : DF X W e (dLcW it g tt te vs)) : DF X W e (zLc it g tt te vs) := h.dfOf fun δ G Q E h => by
  unfold zLc at h
  rw [brP_eq] at h
  split at h
  · rename_i hn
    refine ⟨noneAt_wipe hn, ?_⟩
    unfold dLc
    rw [noneAt_wipe hn]
    exact h
  · exact h.elim
theorem zs_setLc {it : DTA} {g : DTG} {tt : DTT} {te : DTE} {vs : List Nat} {i : Nat} (h : DS X W s (sSetF i (dLcW it g tt te vs))) : DS X W s (sSetF i (zLc it g tt te vs)) := h.dsOf fun N δ G h => by
  unfold sSetF zLc at h
  rw [brP_eq] at h
  split at h
  · rename_i hn
    refine ⟨noneAt_wipe hn, ?_⟩
    unfold dLc
    rw [noneAt_wipe hn]
    exact h
  · exact h.elim
theorem zs_setLcV {it : DTA} {g : DTG} {tt : DTT} {te : DTE} {vs : List Nat} {i : Nat} (h : DS X W s (sSet i (dFrz (dLcW it g tt te vs)))) : DS X W s (sSet i (dFrz (zLc it g tt te vs))) := h.dsOf fun N δ G h => by
  unfold sSet dFrz zLc at h
  rw [brP_eq] at h
  split at h
  · rename_i hn
    refine ⟨noneAt_wipe hn, ?_⟩
    unfold dLc
    rw [noneAt_wipe hn]
    exact h
  · exact h.elim
theorem zs_setLcM {it : DTA} {g : DTG} {tt : DTT} {te : DTE} {vs : List Nat} {i : Nat} (h : DS X W s (sSet i (dNewM (dLcW it g tt te vs)))) : DS X W s (sSet i (dNewM (zLc it g tt te vs))) := h.dsOf fun N δ G h => by
  unfold sSet dNewM zLc at h
  rw [brP_eq] at h
  split at h
  · rename_i hn
    refine ⟨noneAt_wipe hn, ?_⟩
    unfold dLc
    rw [noneAt_wipe hn]
    exact h
  · exact h.elim
theorem xs_setLcF {it : PAs} {b : TBi} {t : PB} {p : PX} {vs : List Nat} {i : Nat} (h : DS X W s (sSetF i (dLcW (aP it) (gP b) (tP t) (eP p) vs))) : DS X W s (sSetF i (aP (pLc it b t p vs))) := h.dsOf fun N δ G h => by
  obtain ⟨z, hz, h⟩ := onO_iff.mp h
  obtain ⟨xs, hx, hz⟩ := bO_iff.mp hz
  split at hz
  · rename_i hc
    rw [Bool.and_eq_true] at hc
    have hw := noneAt_wipe hc.1
    refine ⟨hw, onO_iff.mpr ⟨xs, hx, ?_⟩⟩
    rw [hw]
    exact lcL_of xs [] z hz (by simpa using lenLe_iff.mp hc.2) (by simpa using h)
  · cases hz
theorem xs_setLcV {it : PAs} {b : TBi} {t : PB} {p : PX} {vs : List Nat} {i : Nat} (h : DS X W s (sSet i (dFrz (dLcW (aP it) (gP b) (tP t) (eP p) vs)))) : DS X W s (sSet i (eP (pLst (pLc it b t p vs)))) := h.dsOf fun N δ G h => by
  obtain ⟨z, hz, h⟩ := onO_iff.mp h
  obtain ⟨ys, hz1, e⟩ := bO_iff.mp hz
  cases e
  obtain ⟨xs, hx, hz2⟩ := bO_iff.mp hz1
  split at hz2
  · rename_i hc
    rw [Bool.and_eq_true] at hc
    have hw := noneAt_wipe hc.1
    refine ⟨hw, onO_iff.mpr ⟨xs, hx, ?_⟩⟩
    rw [hw]
    exact lcL_of xs [] ys hz2 (by simpa using lenLe_iff.mp hc.2) (by simpa using h)
  · cases hz2
theorem xe_join {p q : PX} (h : DE X W e (dStM joinD (eP p) (eP q))) : DE X W e (eP (pStM joinD p q)) := h.deOf fun δ G Q E h => by
  obtain ⟨z, hz, h⟩ := onO_iff.mp h
  obtain ⟨x, hx, hz⟩ := bO_iff.mp hz
  obtain ⟨s, hs, hz⟩ := bO_iff.mp hz
  obtain ⟨y, hy, hz⟩ := bO_iff.mp hz
  refine onO_iff.mpr ⟨x, hx, ?_, onO_iff.mpr ⟨y, hy, rfl, z, hz, h⟩⟩
  cases x <;> first | trivial | cases hs
end
/-! x[e], x a list of a slot's own, e draws -/
@[reducible] def zIxS (g : D → D → Option D) (i : Nat) (b : DTE) : DTE := fun δ G Q E => onO (ownAt δ i) fun ds => b δ G (fun y G2 => onO (g (.lst ds) y) fun z => Q z G2) E
theorem de_ixS {X : Cx} {W : WX} {a b : Expr} {db : DTE} {pos : Pos} {i : Nat} {g : D → D → Option D} (ho : IxR X (OpD X.K g)) (ha : PE X a (tVar i)) (hb : DB X W b db) (hs : PlainIx b) : DE X W (.Subscript a b pos) (zIxS g i db) := (pe_ix ho ha hb hs).imp fun σ H R ⟨M, δ, G, Q, QE, rs, d, ex, k⟩ => by
  obtain ⟨ds, hd, d⟩ := onO_iff.mp d
  have hd' := ownAt_iff.mp hd
  obtain ⟨x, hx, l, xs, rfl, m, hl, r⟩ := rs.slot i _ hd'
  refine ⟨_, hx, M, δ, G, _, QE, rs, d, ex, fun y dy G2 H2 M2 f2 rs2 bo2 q2 => ?_⟩
  obtain ⟨z, hz, qz⟩ := onO_iff.mp q2
  obtain ⟨x', hx', l', xs', e', m', hl', r2⟩ := rs2.slot i _ hd'
  rw [hx] at hx'
  cases hx'
  cases e'
  exact ⟨M2, .lst ds, dy, z, rs2.g.dom, .inr (.inl ⟨_, _, _, rfl, rfl, hl', r2⟩), bo2.now rs2, hz, fun w H3 sm im => k w z _ H3 M2 (f2.trans (Same.keep sm).frame) (rs2.same sm) im qz⟩
/-! len(set(t)) -/
def lsO_ (x : D) : Option D := match x with
  | .tup xs => bO (strsD xs) fun zs => match lenLe 1000 xs with
    | true => some (.int (DDs.metAll zs).length)
    | false => none
  | _ => none
def pLenSet (p : PX) : PX := fun δ G => bO (p δ G) lsO_
theorem xe_lenSet {X : Cx} {W : WX} {e : Expr} {p : PX} (h : DE X W e (dLenSet (eP p))) : DE X W e (eP (pLenSet p)) := h.deOf fun δ G Q E h => by
  obtain ⟨z, hz, h⟩ := onO_iff.mp h
  obtain ⟨x, hx, hz⟩ := bO_iff.mp hz
  unfold lsO_ at hz
  split at hz
  · obtain ⟨zs, h1, hz⟩ := bO_iff.mp hz
    split at hz
    · rename_i hl
      cases hz
      exact onO_iff.mpr ⟨_, hx, _, zs, rfl, h1, lenLe_iff.mp hl, h⟩
    · cases hz
  · cases hz
/-! fresh lists: list(x), x + y -/
def pLstOf (p : PX) : PAs := fun δ G => bO (p δ G) seqO
theorem xf_listOf {X : Cx} {W : WX} {e : Expr} {p : PX} (h : DF X W e (dLstOf (eP p))) : DF X W e (aP (pLstOf p)) := h.dfOf fun δ G Q E h => by
  obtain ⟨z, hz, h⟩ := onO_iff.mp h
  obtain ⟨x, hx, hz⟩ := bO_iff.mp hz
  exact onO_iff.mpr ⟨x, hx, z, seqO_iff.mp hz, h⟩
def lstO : D → Option (List D)
  | .lst xs => some xs
  | _ => none
theorem lstO_iff {x : D} {xs : List D} : lstO x = some xs ↔ x = .lst xs := by cases x <;> simp [lstO]
def pCat (p q : PX) : PAs := fun δ G => bO (p δ G) fun x => bO (lstO x) fun xs => bO (q δ G) fun y => bO (lstO y) fun ys => match lenLe 1000000 (xs ++ ys) with
  | true => some (xs ++ ys)
  | false => none
theorem xf_cat {X : Cx} {W : WX} {e : Expr} {p q : PX} (h : DF X W e (dCat (eP p) (eP q))) : DF X W e (aP (pCat p q)) := h.dfOf fun δ G Q E h => by
  obtain ⟨z, hz, h⟩ := onO_iff.mp h
  obtain ⟨x, hx, hz⟩ := bO_iff.mp hz
  obtain ⟨xs, hxs, hz⟩ := bO_iff.mp hz
  obtain ⟨y, hy, hz⟩ := bO_iff.mp hz
  obtain ⟨ys, hys, hz⟩ := bO_iff.mp hz
  split at hz
  · rename_i hl
    cases hz
    exact onO_iff.mpr ⟨x, hx, onO_iff.mpr ⟨y, hy, rfl, xs, ys, lstO_iff.mp hxs, lstO_iff.mp hys, by simpa using lenLe_iff.mp hl, h⟩⟩
  · cases hz
end DD

set_option Elab.async false
set_option linter.all false
set_option maxRecDepth 100000
set_option maxHeartbeats 4000000
namespace DD
open PySem PySem.Spec L2

/-! ### tuples of the written part -/
def strsB : List Value → List Str → Bool
  | [], [] => true
  | .str y _ :: r, z :: s => decide (y = z) && (PyData.strOk z && strsB r s)
  | _, _ => false
def tupSB (K : PySem.W.Frag) (a : Addr) (zs : List Str) : Bool := match K.lookup a with
  | some ⟨.type c, _, .seq its _, _⟩ => c == "tuple" && (decide (its.size ≤ 1000) && strsB its.toList zs)
  | _ => false
theorem strsB_ok {K : PySem.W.Frag} {H : Hp} {M : Gh} : ∀ {its : List Value} {zs : List Str}, strsB its zs = true → Vals (zs.map V.str) its ∧ ImL K H M (zs.map V.str) (zs.map D.str)
  | [], [], _ => ⟨.nil, .nil⟩
  | [], _ :: _, h => by cases h
  | v :: r, [], h => by cases v <;> cases h
  | v :: r, z :: s, h => by
    cases v with
    | str y t =>
      simp only [strsB, Bool.and_eq_true, decide_eq_true_eq] at h
      obtain ⟨e, h1, h2⟩ := h
      subst e
      obtain ⟨i1, i2⟩ := strsB_ok (K := K) (H := H) (M := M) h2
      exact ⟨.cons ⟨t, rfl⟩ i1, .cons (.str h1) i2⟩
    | _ => cases h
theorem tupSB_ok {K : PySem.W.Frag} {a : Addr} {zs : List Str} (h : tupSB K a zs = true) (H : Hp) (M : Gh) : Im K H M (.ref a) (.tup (zs.map D.str)) := by
  unfold tupSB at h
  split at h
  · rename_i c dd its n sl ho
    simp only [Bool.and_eq_true, beq_iff_eq, decide_eq_true_eq] at h
    obtain ⟨rfl, h2, h3⟩ := h
    exact .tupK (xs := zs.map V.str) (fun H' => .inr ⟨_, its, n, ho, rfl, rfl, by rw [sizeLine_eq]; omega, (strsB_ok (K := K) (H := H) (M := M) h3).1⟩) (strsB_ok h3).2
  · cases h
theorem de_gtup {X : Cx} {W : WX} {x : Str} {pos : Pos} {a : Addr} {zs : List Str} (hg : Gl X x) (hm : X.mg x = some (.ref a)) (h : tupSB X.K a zs = true) (hd : (x == ("__debug__" : Str)) = false := by decide) : DE X W (.Name x pos) (dC (.tup (zs.map D.str))) := de_c (pe_glob (v := .ref a) hg hm rfl hd) fun H M => tupSB_ok h H M

/-! ### draws -/
@[irreducible] def fDr : Fn := fDraw
theorem fDr_eq : fDr = fDraw := by unfold fDr; rfl
theorem drw {G : DG} {a : Addr} {m : Int} {c : Nat} {Q : D → DG → Prop} {E : DX → DG → Prop} (ga : G a = some (.jar c)) (hc : c < 2 ^ 63) (h0 : 0 < m) (h1 : m < 2 ^ 200) (q : ∀ n : Int, 0 ≤ n → n < m → Q (.int n) (gset G a (some (.jar (c + 1))))) : fDr [.ref a, .int m] G Q E := by
  rw [fDr_eq]
  exact ⟨a, m, c, rfl, ga, hc, h0, h1, q⟩
/-! ### what pure readings tell, step by step -/
section
variable {p q r : PX} {t u : PB} {l : PAs} {δ : DSt} {G : DG} {x y z : D} {b : Bool} {xs : List D} {g g' : D → D → Option D}
theorem qOr_t (h : t δ G = some true) : qOr t u δ G = some true := by unfold qOr; rw [h]; rfl
theorem qOr_f {b : Option Bool} (h : t δ G = some false) (k : u δ G = b) : qOr t u δ G = b := by unfold qOr; rw [h]; exact k
theorem qAnd_t {b : Option Bool} (h : t δ G = some true) (k : u δ G = b) : qAnd t u δ G = b := by unfold qAnd; rw [h]; exact k
theorem qAnd_f (h : t δ G = some false) : qAnd t u δ G = some false := by unfold qAnd; rw [h]; rfl
theorem qNot_of (h : t δ G = some b) : qNot t δ G = some (!b) := by unfold qNot; rw [h]; rfl
theorem qOr_of {c : Bool} (h : t δ G = some b) (k : b = false → u δ G = some c) : qOr t u δ G = some (b || c) := by
  cases b with
  | true => exact qOr_t h
  | false => exact qOr_f h (k rfl)
theorem qAnd_of {c : Bool} (h : t δ G = some b) (k : b = true → u δ G = some c) : qAnd t u δ G = some (b && c) := by
  cases b with
  | true => exact qAnd_t h (k rfl)
  | false => exact qAnd_f h
theorem pTst_of (h : p δ G = some (.bl b)) : pTst p δ G = some b := by unfold pTst; rw [h]; rfl
theorem pTru_of (h : p δ G = some x) (k : truD x = some b) : pTru p δ G = some b := by unfold pTru; rw [h]; exact k
theorem pBin_of (h1 : p δ G = some x) (h2 : q δ G = some y) {z : Option D} (h3 : g x y = z) : pBin g p q δ G = z := by unfold pBin; rw [h1, bO_some rfl, h2]; exact h3
theorem pAnd_t (h : p δ G = some (.bl true)) {z : Option D} (k : q δ G = z) : pAnd p q δ G = z := by unfold pAnd; rw [h]; exact k
theorem pAnd_f (h : p δ G = some (.bl false)) : pAnd p q δ G = some (.bl false) := by unfold pAnd; rw [h]; rfl
theorem pAnd_of {c : Bool} (h : p δ G = some (.bl b)) (k : b = true → q δ G = some (.bl c)) : pAnd p q δ G = some (.bl (b && c)) := by
  cases b with
  | true => exact pAnd_t h (k rfl)
  | false => exact pAnd_f h
theorem pOr_t (h : p δ G = some (.bl true)) : pOr p q δ G = some (.bl true) := by unfold pOr; rw [h]; rfl
theorem pOr_f (h : p δ G = some (.bl false)) {z : Option D} (k : q δ G = z) : pOr p q δ G = z := by unfold pOr; rw [h]; exact k
theorem pNot_of (h : p δ G = some (.bl b)) : pNot p δ G = some (.bl (!b)) := by unfold pNot; rw [h]; rfl
theorem pIfE_t (h : t δ G = some true) {z : Option D} (k : p δ G = z) : pIfE t p q δ G = z := by unfold pIfE; rw [h]; exact k
theorem pIfE_f (h : t δ G = some false) {z : Option D} (k : q δ G = z) : pIfE t p q δ G = z := by unfold pIfE; rw [h]; exact k
theorem pCons_of (h : p δ G = some x) (k : l δ G = some xs) : pCons p l δ G = some (x :: xs) := by unfold pCons; rw [h, bO_some rfl, k]; rfl
theorem pCallB_of {f : List D → Option D} (k : l δ G = some xs) {z : Option D} (h : f xs = z) : pCallB f l δ G = z := by unfold pCallB; rw [k]; exact h
theorem pFn_of {F : List D → DG → Option D} (k : l δ G = some xs) {z : Option D} (h : F xs G = z) : pFn F l δ G = z := by unfold pFn; rw [k]; exact h
theorem pTup_of (k : l δ G = some xs) : pTup l δ G = some (.tup xs) := by unfold pTup; rw [k]; rfl
theorem pLst_of (k : l δ G = some xs) : pLst l δ G = some (.lst xs) := by unfold pLst; rw [k]; rfl
theorem pIsi_of {k : Kd} (h : p δ G = some x) {z : Option D} (e : isiD k x G = z) : pIsi k p δ G = z := by unfold pIsi; rw [h]; exact e
theorem pSl_of {f : D → Option Int → Option Int → Option D} {lo hi : POi} {a b : Option Int} (h : p δ G = some x) (h1 : lo δ G = some a) (h2 : hi δ G = some b) {z : Option D} (h3 : f x a b = z) : pSl f p lo hi δ G = z := by unfold pSl; rw [h, bO_some rfl, h1, bO_some rfl, h2]; exact h3
theorem pLen_tup (h : p δ G = some (.tup xs)) : pCallB lenD (pCons p pNil) δ G = some (.int xs.length) := pCallB_of (pCons_of h rfl) rfl
theorem pLen_lst (h : p δ G = some (.lst xs)) : pCallB lenD (pCons p pNil) δ G = some (.int xs.length) := pCallB_of (pCons_of h rfl) rfl
theorem pChain_t {y' : D} (h1 : p δ G = some x) (h2 : q δ G = some y) (h3 : g x y = some (.bl true)) (h4 : r δ G = some y') {z : Option D} (h5 : g' y y' = z) : pChain g g' p q r δ G = z := by
  unfold pChain; rw [h1, bO_some rfl, h2, bO_some rfl, h3, bO_some rfl]
  show bO (r δ G) _ = _
  rw [h4]; exact h5
theorem pChain_f (h1 : p δ G = some x) (h2 : q δ G = some y) (h3 : g x y = some (.bl false)) : pChain g g' p q r δ G = some (.bl false) := by
  unfold pChain; rw [h1, bO_some rfl, h2, bO_some rfl, h3]; rfl
end
end DD

set_option Elab.async false
set_option linter.all false
set_option maxRecDepth 100000
set_option maxHeartbeats 4000000
namespace DD
open PySem PySem.Spec L2
section
variable {X : Cx} {W : WX} {k n : Nat} {fa C : Addr} {fd : FuncData} {ps ks : List Str} {f : Fn} {x : Str} {p pos : Pos} {kws : List Keyword} {tk : DTA} {gV : List V → List V → List V} {gD : List D → List D → List D} {g : List Value → List Value → List Value}
theorem de_makeK0Z (MK : Mk X.K C fa) (F : FnOk X.prog X.w X.K X.mg X.base (L2.CX X.prog X.w) k fa fd ps (spD X.K f)) (hr : Room (k + 1) X.A) (hg : Gl X x) (hm : X.mg x = some (.ref C)) (hb : KBn X.K fd ps 1 ks g gV) (hi : ∀ H M (v : V) (d : D) zs es, Im X.K H M v d → ImL X.K H M zs es → es.length = ks.length → ImL X.K H M (gV [v] zs) (gD [d] es)) (tk' : Takes X W)
    (ha : DK X W kws tk)
    (hall : (backToKw pos (keywordEach kws X.env)).all (·.1.isSome) = true := by rfl) (hks : (backToKw pos (keywordEach kws X.env)).filterMap (·.1) = ks := by rfl) (hdb : (x == ("__debug__" : Str)) = false := by decide)
    (hpl : ((backTo pos (starEach [] X.env)).any (·.1) || (backToKw pos (keywordEach kws X.env)).any (·.1.isNone)) = false := by rfl) :
    DE X W (.Call (.Name x p) [] kws pos) (dMakeKZ C f 0 ks.length gD dNil tk) := by
  refine ⟨fun pins s σ H R I h => ?_⟩
  obtain ⟨M, δ, G, Q, QE, rs, d, ex, k⟩ := h
  refine wpAny_Call_Name_kw (ld_glob I hg hm ?_ hdb)
  refine PySem.W.callWith_KW0 (h₀ := X.base) I.ok.mod.kin MK.kp hall ?_ hpl
  refine thn (ha.run pos pins s σ H (fun vs H1 => ∃ es G1 M1, Frame H M H1 M1 ∧ RS X.K H1 M1 σ δ G1 ∧ ImL X.K H1 M1 vs es ∧ ([] : List D).length = 0 ∧ es.length = ks.length ∧ ∀ x, G1 x = none → f (gD [.ref x] es) (gset G1 x (some (.ins C []))) (fun v G3 => v = .non ∧ ∃ fs, G3 x = some (.ins C fs) ∧ Q (.obj C (fs.map fun p => (p.1, p.2.d))) (gset G3 x none)) (fun ex G3 => QE ex (gset G3 x none))) I ⟨M, δ, G, _, QE, rs, d, ex, fun vs ds G1 H1 M1 f1 rs1 iml q => ⟨ds, G1, M1, f1, rs1, iml, q⟩⟩) fun ws s1 ⟨zs, H1, I1, r, es, G1, M1, f1, rs1, iml, _, l2, q⟩ => ⟨I1.kIn, ?_⟩
  rw [hks]
  refine dd_run_makeK (n := 0) (us := []) (vs := []) MK F hr hb (passAt tk' σ) I1 .nil r rfl (by rw [iml.length]; exact l2) fun z dz nz ndz ne => ?_
  obtain ⟨kp, rs2, gz⟩ := rs1.newIns (C := C) nz ndz ne
  refine spD_of rs2 (hi _ _ _ _ _ _ .ref (ImL.mono kp.stay iml) l2) (q z gz) (fun ex' G' H' M' cls dd f3 rs3 rx qe => ex _ _ _ _ cls dd ((f1.trans kp.frame).trans f3) rs3.drop rx qe) fun v dv G' H' M' f3 rs3 im qd => ?_
  obtain ⟨ev, fs, gf, qd⟩ := qd
  subst ev
  cases im
  obtain ⟨r4, im4⟩ := rs3.thaw gf
  obtain ⟨mz, _⟩ := rs3.g.obj z _ gf
  exact ⟨rfl, k _ _ _ H' _ (((f1.trans kp.frame).trans f3).trans (Frame.thaw mz)) r4 im4 qd⟩
end
theorem de_makeKEZ {X : Cx} {W : WX} {k : Nat} {fa C : Addr} {fd : FuncData} {ps ks : List Str} {f : Fn} {x : Str} {p pos : Pos} {kws : List Keyword} {tk : DTA} {g : List Value → List Value → List Value → List Value} {gV : List V → List V → List V} {gD : List D → List D → List D} (MK : Mk X.K C fa) (F : FnOk X.prog X.w X.K X.mg X.base (L2.CX X.prog X.w) k fa fd ps (spD X.K f)) (hr : Room (k + 1) X.A) (hg : Gl X x) (hm : X.mg x = some (.ref C))
    (hb : ∃ its : List Value, KBn X.K fd ps 1 ks (g its) gV) (hi : ∀ H M (v : V) (d : D) zs es, Im X.K H M v d → ImL X.K H M zs es → es.length = ks.length → ImL X.K H M (gV [v] zs) (gD [d] es)) (tk' : Takes X W)
    (ha : DK X W kws tk)
    (hall : (backToKw pos (keywordEach kws X.env)).all (·.1.isSome) = true := by rfl) (hks : (backToKw pos (keywordEach kws X.env)).filterMap (·.1) = ks := by rfl) (hdb : (x == ("__debug__" : Str)) = false := by decide)
    (hpl : ((backTo pos (starEach [] X.env)).any (·.1) || (backToKw pos (keywordEach kws X.env)).any (·.1.isNone)) = false := by rfl) :
    DE X W (.Call (.Name x p) [] kws pos) (dMakeKZ C f 0 ks.length gD dNil tk) := by
  obtain ⟨its, hb⟩ := hb
  exact de_makeK0Z MK F hr hg hm hb hi tk' ha hall hks hdb hpl
/-! a, b = x, y -/
def two : List D → Option (D × D)
  | [x, y] => some (x, y)
  | _ => none
def three : List D → Option (D × D × D)
  | [x, y, z] => some (x, y, z)
  | _ => none
@[reducible] def zPar (i j : Nat) (a : DTA) : DTS := fun N δ G => a δ G (fun xs G1 => onO (two xs) fun p => N.nx ((δ.set i (some (.v p.1))).set j (some (.v p.2))) G1) (exOf N δ)
@[reducible] def zPar3 (i j l : Nat) (a : DTA) : DTS := fun N δ G => a δ G (fun xs G1 => onO (three xs) fun p => N.nx (((δ.set i (some (.v p.1))).set j (some (.v p.2.1))).set l (some (.v p.2.2))) G1) (exOf N δ)
theorem zs_par {X : Cx} {W : WX} {i j : Nat} {x y : Str} {a b : Expr} {da : DTA} {px py pt pos : Pos} {kt k2 pt2} (hc : X.calm = true) (hN : X.N.Nodup) (hi : X.N[i]? = some x) (hj : X.N[j]? = some y) (hij : i ≠ j)
    (hx : X.env.scope.names.lookup x = some .local) (hy : X.env.scope.names.lookup y = some .local) (ha : DA X W [a, b] da)
    (hw : swappedStores [.Tuple [.Name x px, .Name y py] kt pt] (.Tuple [a, b] k2 pt2) X.env = pure (some [x, y]) := by rfl)
    (hs : swapsWithSole [.Tuple [.Name x px, .Name y py] kt pt] (.Tuple [a, b] k2 pt2) pos.line X.env = pure false := by rfl) :
    DS X W (.Assign [.Tuple [.Name x px, .Name y py] kt pt] (.Tuple [a, b] k2 pt2) pos) (zPar i j da) := (ps_par (pos := pos) hc hN hi hj hij hx hy ha hw hs).imp fun E σ H ⟨M, δ, G, DD, rs, d, ok⟩ => by
  refine ⟨M, δ, G, _, _, rs, d, ok.exOf, fun vs ds G' H' M' f rs' iml q => ?_⟩
  obtain ⟨p, hp, q⟩ := onO_iff.mp q
  match ds, iml, hp with
  | [d1, d2], .cons i1 (.cons i2 .nil), hp =>
    cases hp
    exact ⟨_, _, rfl, ok.nx _ _ G' H' M' f ((rs'.setV i1).setV i2) q⟩
theorem zs_par3 {X : Cx} {W : WX} {i j l : Nat} {x y z : Str} {a b c : Expr} {da : DTA} {px py pz pt pos : Pos} {kt k2 pt2} (hc : X.calm = true) (hN : X.N.Nodup) (hi : X.N[i]? = some x) (hj : X.N[j]? = some y) (hl : X.N[l]? = some z) (hij : i ≠ j) (hil : i ≠ l) (hjl : j ≠ l)
    (hx : X.env.scope.names.lookup x = some .local) (hy : X.env.scope.names.lookup y = some .local) (hz : X.env.scope.names.lookup z = some .local) (ha : DA X W [a, b, c] da)
    (hw : swappedStores [.Tuple [.Name x px, .Name y py, .Name z pz] kt pt] (.Tuple [a, b, c] k2 pt2) X.env = pure (some [x, y, z]) := by rfl)
    (hs : swapsWithSole [.Tuple [.Name x px, .Name y py, .Name z pz] kt pt] (.Tuple [a, b, c] k2 pt2) pos.line X.env = pure false := by rfl) :
    DS X W (.Assign [.Tuple [.Name x px, .Name y py, .Name z pz] kt pt] (.Tuple [a, b, c] k2 pt2) pos) (zPar3 i j l da) := (ps_par3 (pos := pos) hc hN hi hj hl hij hil hjl hx hy hz ha hw hs).imp fun E σ H ⟨M, δ, G, DD, rs, d, ok⟩ => by
  refine ⟨M, δ, G, _, _, rs, d, ok.exOf, fun vs ds G' H' M' f rs' iml q => ?_⟩
  obtain ⟨p, hp, q⟩ := onO_iff.mp q
  match ds, iml, hp with
  | [d1, d2, d3], .cons i1 (.cons i2 (.cons i3 .nil)), hp =>
    cases hp
    exact ⟨_, _, _, rfl, ok.nx _ _ G' H' M' f (((rs'.setV i1).setV i2).setV i3) q⟩
end DD

set_option Elab.async false
set_option linter.all false
set_option maxRecDepth 100000
set_option maxHeartbeats 4000000
namespace DD
open PySem PySem.Spec L2

/-! ### try: clauses with and without a name, in any number -/
abbrev HdT := Addr → Value → Option Addr → TS
/-- what is wished behind a clause's suite: its name is gone -/
def offN (b : Option Nat) (N : Ends) : Ends := match b with
  | none => N
  | some i => { nx := fun σ H => N.nx (σ.set i none) H, rt := N.rt, bk := fun σ H => N.bk (σ.set i none) H, ct := fun σ H => N.ct (σ.set i none) H }
def onN (b : Option Nat) (a : Addr) (σ : St) : St := match b with
  | none => σ
  | some i => σ.set i (some (.ref a))
def wAll (K : PySem.W.Frag) (out : WX) (N : Ends) : List (Value × Option Nat × HdT) → WX
  | [] => out
  | (c, b, t) :: r => fun cls d σ H => ∃ k, PySem.W.exmOne K cls c = some k ∧ (k = true → ∀ a, H a = none → t a cls d (offN b N) (onN b a σ) H) ∧ (k = false → wAll K out N r cls d σ H)
inductive HsOk (X : Cx) : List ExceptHandler → List (Value × Option Nat × HdT) → Prop
  | nil : HsOk X [] []
  | bare {x : Str} {c : Value} {t : HdT} {b₀ : Stmt} {su : List Stmt} {np pos' : Pos} {hds : List ExceptHandler} {l : List (Value × Option Nat × HdT)} (hc : Names X x c)
      (hsu : ∀ (a : Addr) (oe : Obj) (cls : Value) (d : Option Addr) (pn : List (Addr × Obj)), Zc cls d oe → (∃ vs, oe.data = .fields vs) → PSs (X.suite a ((a, oe) :: pn)) (b₀ :: su) (t a cls d)) (r : HsOk X hds l) :
      HsOk X (.ExceptHandler (some (.Name x np)) none (b₀ :: su) pos' :: hds) ((c, none, t) :: l)
  | named {x n : Str} {i : Nat} {c : Value} {t : HdT} {b₀ : Stmt} {su : List Stmt} {np pos' : Pos} {hds : List ExceptHandler} {l : List (Value × Option Nat × HdT)} (hi : X.N[i]? = some n) (hln : X.env.kindOf n = some .local) (hc : Names X x c)
      (hsu : ∀ (a : Addr) (oe : Obj) (cls : Value) (d : Option Addr) (pn : List (Addr × Obj)), Zc cls d oe → (∃ vs, oe.data = .fields vs) → PSs (X.suite a ((a, oe) :: pn)) (b₀ :: su) (t a cls d)) (r : HsOk X hds l) :
      HsOk X (.ExceptHandler (some (.Name x np)) (some n) (b₀ :: su) pos' :: hds) ((c, some i, t) :: l)
theorem ps_try_all {X : Cx} {body : List Stmt} {h₀ : ExceptHandler} {hds : List ExceptHandler} {l : List (Value × Option Nat × HdT)} {pos : Pos} {tb : WX → TS} {out : WX} (hs : X.stack = X.env :: X.outer) (hf : X.env.frame = some X.env.locals) (hN : X.N.Nodup) (tk : Takes X out)
    (hb : ∀ (W : WX) (pn : List (Addr × Obj)) (xe : Value → Shared → Prop), Takes (X.tr pn xe) W → PassesOwn (model X.prog X.w) X.A X.env xe → PSs (X.tr pn xe) body (tb W))
    (hh : HsOk X (h₀ :: hds) l) : PS X (.Try body (h₀ :: hds) [] [] pos) (fun N σ H => tb (wAll X.K out N l) N σ H) := by
  constructor
  intro pins s σ H N inv wish
  have okI := inv.ok
  have frm : X.A.frames = some (X.env :: X.outer) := hs ▸ okI.frames
  apply wpAny_Try_except
  refine wpAny_mono ((hb (wAll X.K out N l) (X.pn ++ pins) (fun e q₁ => wpAny (model X.prog X.w) X.A (noteFrame e X.env) (fun _ q₂ => wpAny (model X.prog X.w) X.A (setFlight e none)
    (fun _ q₃ => wpAny (model X.prog X.w) X.A (handleBy e X.env (h₀ :: hds)) (SP X pins N) X.xe q₃) X.xe q₂) X.xe q₁) ?caught PassesOwn.looking).run [] s σ H N (inv.toTry _) wish) ?through (fun _ _ he => he)
  case caught =>
    intro u s' thrown
    obtain ⟨a, B, sI, pins', σ', H', cls, d, rfl, J', nb, up, sky, na, os, ag, w⟩ := thrown
    have jv : Inv X pins σ' H' sI := J'.ofTry okI
    have skyX : Sky B (X.env :: X.outer) a (Zc cls d) X.env.locals s'.heap := hs ▸ sky
    show wpAny (model X.prog X.w) X.A (noteFrame (.ref a) X.env) _ _ _
    refine Sky.land Zc.steady frm hf skyX ?_
    intro h3 fl3 up3
    have j3 : Inv X pins σ' H' { s' with heap := h3 } := jv.landed nb fl3.1 (up.trans up3) os ag
    obtain ⟨oe3, vs3, he3, hz3, hd3⟩ := fl3.there
    have nfr : a ∉ frs (X.env :: X.outer) := by
      intro hm
      obtain ⟨_, o', e', hnf⟩ := fl3.2.2.1.mem hm
      rw [he3] at e'
      cases e'
      exact hnf _ hd3
    have nL : a ≠ X.env.locals := by
      intro z
      exact nfr (List.mem_filterMap.mpr ⟨X.env, List.mem_cons_self, z ▸ hf⟩)
    have nF : a ∉ X.fs := by
      intro hm
      obtain ⟨e, he, q⟩ := List.mem_filterMap.mp hm
      exact nfr (List.mem_filterMap.mpr ⟨e, List.mem_cons_of_mem _ he, q⟩)
    have s3 := j3.suite he3 hd3 na nL nF
    have LT : PySem.W.Looks (model X.prog X.w) h3 (typeOf (.ref a)) cls := by
      intro A Q E s k q
      exact wpAny_typeOf_ref (k _ _ he3) (hz3.1 ▸ q)
    have test : ∀ {x : Str} {c : Value} {np : Pos} {Q : Value → Shared → Prop} {E : Value → Shared → Prop}, Names X x c → Q c { s' with heap := h3 } → wpAny (model X.prog X.w) (X.A.mark (some (.ref a))) (eval (.Name x np) X.env) Q E { s' with heap := h3 } := by
      intro x c np Q E hc q
      obtain ⟨hg, hdbg, hm | ⟨hm, hv, hnn⟩⟩ := hc
      · exact ld_glob (X := X.suite a ((a, oe3) :: (X.pn ++ pins))) s3 hg hm q hdbg
      · exact ld_blt (X := X.suite a ((a, oe3) :: (X.pn ++ pins))) s3 hg hm hv q hnn hdbg
    have go : ∀ {hds' : List ExceptHandler} {l' : List (Value × Option Nat × HdT)}, HsOk X hds' l' → wAll X.K out N l' cls d σ' H' → wpAny (model X.prog X.w) X.A (handleBy (.ref a) X.env hds') (SP X pins N) X.xe { s' with heap := h3 } := by
      intro hds' l' hk
      induction hk with
      | nil =>
        intro w
        apply wpAny_handleBy_nil
        obtain ⟨k1, k2, k3, oe, vs, T, oT, ts', he, hz, hd, h1, hr⟩ := id fl3
        unfold PySem.passOn
        refine wpAny_bind (wpAny_field he hd h1 ?_)
        rw [if_neg (by simp)]
        have fin : wpAny (model X.prog X.w) X.A (setFlight (.ref a) X.env.frame) (fun _ q4 => wpAny (model X.prog X.w) X.A (throw (.ref a) : Sem Flow) (SP X pins N) X.xe q4) X.xe { s' with heap := h3 } := by
          rw [hf]
          refine HandSPX.setFlight_upZ fl3 ?_
          intro h4 hh4 up4
          refine wpAny_throw (tk _ _ ⟨a, B, sI, pins, σ', H', cls, d, rfl, jv, nb, (up.trans up3).trans up4, .inr (.inr ?_), na, os, ag, w⟩)
          rw [hs]
          exact hh4
        first | exact wpAny_bind (wpAny_pure (wpAny_bind fin)) | exact wpAny_bind fin
      | bare hc hsu r ih =>
        intro w
        obtain ⟨b, hb1, hyes, hno⟩ := w
        refine wpAny_handleBy_cons (codeAny_handlers_test ?_) (by intro q; cases q)
        refine test hc ((PySem.W.exm_one (M := model X.prog X.w) (j3.kIn) LT hb1).here ?_)
        cases b with
        | false => exact ih (hno rfl)
        | true =>
          apply codeAny_handlers_suite
          refine HandSPX.lands_againZ fl3 ?_
          intro h4 fl4 up4
          have j4 : Inv X pins σ' H' { s' with heap := h4 } := jv.landed nb fl4.1 ((up.trans up3).trans up4) os ag
          obtain ⟨oe4, vs4, he4, hz4, hd4⟩ := fl4.there
          refine wpAny_mono ((hsu a oe4 cls d (X.pn ++ pins) hz4 ⟨_, hd4⟩).run [] _ _ H' _ (j4.suite he4 hd4 na nL nF) (hyes rfl a na)) ?_ (fun _ _ z => False.elim z)
          intro f s6 hsp
          cases f with
          | next => obtain ⟨_, _, S6, q6⟩ := hsp; exact ⟨_, _, S6.unsuite okI, q6⟩
          | brk => obtain ⟨_, _, S6, q6⟩ := hsp; exact ⟨_, _, S6.unsuite okI, q6⟩
          | cont => obtain ⟨_, _, S6, q6⟩ := hsp; exact ⟨_, _, S6.unsuite okI, q6⟩
          | ret u => obtain ⟨_, _, _, S6, r6, q6⟩ := hsp; exact ⟨_, _, _, S6.unsuite okI, r6, q6⟩
      | named hi hln hc hsu r ih =>
        intro w
        obtain ⟨b, hb1, hyes, hno⟩ := w
        refine wpAny_handleBy_cons (codeAny_handlers_test ?_) (by intro q; cases q)
        refine test hc ((PySem.W.exm_one (M := model X.prog X.w) (j3.kIn) LT hb1).here ?_)
        cases b with
        | false => exact ih (hno rfl)
        | true =>
          apply codeAny_handlers_suite_as
          refine HandSPX.lands_againZ fl3 ?_
          intro h4 fl4 up4
          have j4 : Inv X pins σ' H' { s' with heap := h4 } := jv.landed nb fl4.1 ((up.trans up3).trans up4) os ag
          obtain ⟨oe4, vs4, he4, hz4, hd4⟩ := fl4.there
          have s4 := j4.suite he4 hd4 na nL nF
          refine store_ok (X := X.suite a ((a, oe4) :: (X.pn ++ pins))) (v := .ref a) s4 hN hi (.inl hln) rfl ?_ (.inr hln)
          intro s5 S5
          refine wpAny_mono ((hsu a oe4 cls d (X.pn ++ pins) hz4 ⟨_, hd4⟩).run [] s5 _ H' _ S5 (hyes rfl a na)) ?_ (fun _ _ z => False.elim z)
          intro f s6 hsp
          cases f with
          | next => obtain ⟨_, _, S6, q6⟩ := hsp; exact gone_ok (S6.unsuite okI) hN hi hln fun s7 J7 => ⟨_, _, J7, q6⟩
          | brk => obtain ⟨_, _, S6, q6⟩ := hsp; exact gone_ok (S6.unsuite okI) hN hi hln fun s7 J7 => ⟨_, _, J7, q6⟩
          | cont => obtain ⟨_, _, S6, q6⟩ := hsp; exact gone_ok (S6.unsuite okI) hN hi hln fun s7 J7 => ⟨_, _, J7, q6⟩
          | ret u => obtain ⟨_, _, _, S6, r6, q6⟩ := hsp; exact gone_ok (S6.unsuite okI) hN hi hln fun s7 J7 => ⟨_, _, _, J7, r6, q6⟩
    exact go hh w
  case through =>
    intro f s1 hsp
    cases f with
    | next => obtain ⟨_, _, j, q⟩ := hsp; exact wpAny_execs_nil ⟨_, _, j.ofTry okI, q⟩
    | brk => obtain ⟨_, _, j, q⟩ := hsp; exact ⟨_, _, j.ofTry okI, q⟩
    | cont => obtain ⟨_, _, j, q⟩ := hsp; exact ⟨_, _, j.ofTry okI, q⟩
    | ret u => obtain ⟨_, _, _, j, r, q⟩ := hsp; exact ⟨_, _, _, j.ofTry okI, r, q⟩
end DD

set_option Elab.async false
set_option linter.all false
set_option maxRecDepth 100000
set_option maxHeartbeats 4000000
namespace DD
open PySem PySem.Spec L2

/-! ### what a clause reckons of the error that it caught -/
/-- of an error's class: what isinstance and a field's read want -/
def errB (K : PySem.W.Frag) (C : Addr) : Bool := (PySem.W.clsIn K C).isSome && (xfB K C && (He.eqO (PySem.W.findIn K (.ref C) "__class__") (some (some (.builtin "object.__class__"))) && (He.eqO (PySem.W.specialIn K (.builtin "object.__class__") "__get__") (some (some (.builtin "getset_descriptor.__get__"))) &&
  (decide (PySem.W.takesIn K (.builtin "object.__class__") = some true) && decide (PySem.W.mroIn K C (.type "object") = some true)))))
structure ErrC (K : PySem.W.Frag) (C : Addr) : Prop where
  cl : (PySem.W.clsIn K C).isSome = true
  xf : XfC K C
  at_ : PySem.W.findIn K (.ref C) "__class__" = some (some (.builtin "object.__class__"))
  gt : PySem.W.specialIn K (.builtin "object.__class__") "__get__" = some (some (.builtin "getset_descriptor.__get__"))
  tk : PySem.W.takesIn K (.builtin "object.__class__") = some true
  mr : PySem.W.mroIn K C (.type "object") = some true
theorem errB_ok {K : PySem.W.Frag} {C : Addr} (h : errB K C = true) : ErrC K C := by
  unfold errB at h
  rw [Bool.and_eq_true, Bool.and_eq_true, Bool.and_eq_true, Bool.and_eq_true, Bool.and_eq_true] at h
  obtain ⟨h1, h2, h3, h4, h5, h6⟩ := h
  exact ⟨h1, xfB_ok h2, He.eqO_ok h3, He.eqO_ok h4, of_decide_eq_true h5, of_decide_eq_true h6⟩
abbrev HX := DX → DSt → D → Prop
abbrev HXs := DX → DSt → List D → Prop
/-- the slot of the clause's name holds the error -/
def Bound (b : Option Nat) (a : Addr) (δ : DSt) : Prop := ∀ i, b = some i → δ[i]? = some (some (.v (.ref a)))
section
variable (K : PySem.W.Frag) (a : Addr) (cls : Value) (d : Option Addr) (b : Option Nat)
def rdH (h : HX) : TE := fun σ H R => ∃ M δ G x z, RS K H M σ δ G ∧ RX K H M cls d x ∧ Bound b a δ ∧ h x δ z ∧ ∀ v H' M', Frame H M H' M' → RS K H' M' σ δ G → Im K H' M' v z → R v H'
def rdHs (h : HXs) : TA := fun σ H R => ∃ M δ G x zs, RS K H M σ δ G ∧ RX K H M cls d x ∧ Bound b a δ ∧ h x δ zs ∧ ∀ vs H' M', Frame H M H' M' → RS K H' M' σ δ G → ImL K H' M' vs zs → R vs H'
end
abbrev HdD := Addr → DX → DTS
def rdHd (K : PySem.W.Frag) (a : Addr) (cls : Value) (d : Option Addr) (b : Option Nat) (u : HdD) : TS := fun E σ H => ∃ M δ G N x, RS K H M σ δ G ∧ RX K H M cls d x ∧ Bound b a δ ∧ u a x N δ G ∧ EndsOk K W0 H M N E
section
variable {X : Cx} {a : Addr} {oe : Obj} {cls : Value} {d : Option Addr} {b : Option Nat} {pn : List (Addr × Obj)} {e e1 e2 : Expr} {es : List Expr} {h h1 h2 : HX} {hs : HXs} {pos : Pos}
abbrev XS (X : Cx) (a : Addr) (oe : Obj) (pn : List (Addr × Obj)) : Cx := X.suite a ((a, oe) :: pn)
abbrev HE (X : Cx) (a : Addr) (oe : Obj) (cls : Value) (d : Option Addr) (b : Option Nat) (pn : List (Addr × Obj)) (e : Expr) (h : HX) : Prop := PE (XS X a oe pn) e (rdH X.K a cls d b h)
abbrev HA (X : Cx) (a : Addr) (oe : Obj) (cls : Value) (d : Option Addr) (b : Option Nat) (pn : List (Addr × Obj)) (es : List Expr) (h : HXs) : Prop := PA (XS X a oe pn) es (rdHs X.K a cls d b h)
def hP (p : PX) : HX := fun _ δ z => ∀ G, p δ G = some z
theorem he_pure {p : PX} (he : DE (XS X a oe pn) W0 e (eP p)) : HE X a oe cls d b pn e (hP p) := he.imp fun σ H R ⟨M, δ, G, x, z, rs, rx, bd, hz, k⟩ => by
  refine ⟨M, δ, G, fun z' G' => z' = z ∧ G' = G, fun _ _ => False, rs, onO_of (hz G) ⟨rfl, rfl⟩, fun x G' H' M' cls dd f rs' rx' q => q.elim, ?_⟩
  rintro v dv G' H' M' f rs' im ⟨rfl, rfl⟩
  exact k v H' M' f rs' im
def hNil : HXs := fun _ _ zs => zs = []
def hCons (h : HX) (r : HXs) : HXs := fun x δ zs => ∃ z ys, zs = z :: ys ∧ h x δ z ∧ r x δ ys
theorem ha_nil : HA X a oe cls d b pn [] hNil := pa_nil.imp fun σ H R ⟨M, δ, G, x, zs, rs, rx, bd, hz, k⟩ => by
  cases hz
  exact k [] H M (Frame.refl H M) rs .nil
theorem ha_cons (he : HE X a oe cls d b pn e h) (hr : HA X a oe cls d b pn es hs) (hst : starEach (e :: es) (XS X a oe pn).env = (false, eval e (XS X a oe pn).env) :: starEach es (XS X a oe pn).env := by rfl) : HA X a oe cls d b pn (e :: es) (hCons h hs) := (pa_cons he hr hst).imp fun σ H R ⟨M, δ, G, x, zs, rs, rx, bd, ⟨z, ys, e0, hz, hy⟩, k⟩ => by
  subst e0
  refine ⟨M, δ, G, x, z, rs, rx, bd, hz, fun v H' M' f rs' im => ?_⟩
  refine ⟨M', δ, G, x, ys, rs', rx.stay f.stay, bd, hy, fun vs H2 M2 f2 rs2 iml => ?_⟩
  exact k (v :: vs) H2 M2 (f.trans f2) rs2 (.cons (im.mono f2.stay) iml)
def hTup (hs : HXs) : HX := fun x δ z => ∃ zs, z = .tup zs ∧ zs.length ≤ 1000000 ∧ hs x δ zs
theorem he_tup {x1} (ha : HA X a oe cls d b pn es hs) : HE X a oe cls d b pn (.Tuple es x1 pos) (hTup hs) := (pe_tup ha).imp fun σ H R ⟨M, δ, G, x, z, rs, rx, bd, ⟨zs, e0, hl, hz⟩, k⟩ => by
  subst e0
  refine ⟨M, δ, G, x, zs, rs, rx, bd, hz, fun vs H' M' f rs' iml => ⟨by rw [iml.length]; exact sz_million hl, fun p n => ?_⟩⟩
  exact k _ _ M' (f.trans (Keep.new n).frame) (rs'.new n) (Im.newTup rs'.g.dom n iml)
/-- the error's field -/
def hFld (C : Addr) (f : Str) : HX := fun x _ z => x.C = C ∧ ∃ fs, x.fs = some fs ∧ fs.lookup f = some z
theorem he_fld {C : Addr} {f : Str} {i : Nat} (T : ErrC X.K C) (hno : PySem.W.findIn X.K (.ref C) f = some none) (hz : Zc cls d oe) (hf : ∃ vs, oe.data = .fields vs) (he : PE (XS X a oe pn) e (tVar i)) (hb : attributeBase e f X.env (eval e X.env) = eval e X.env := by rfl) :
    HE X a oe cls d (some i) pn (.Attribute e f pos) (hFld C f) := (pe_xf (cls := cls) (d := d) T.xf hno hz hf he hb).imp fun σ H R ⟨M, δ, G, x, z, rs, rx, bd, ⟨hC, fs, hfs, hl⟩, k⟩ => by
  obtain ⟨xC, xf⟩ := x
  cases hC
  cases hfs
  obtain ⟨ec, dd, ps, ed, md, hd, imf⟩ := rx
  obtain ⟨w, hw, im⟩ := rs.slot i _ (bd i rfl)
  cases im
  obtain ⟨v, hv, iv⟩ := imf.lookup hl
  exact ⟨_, hw, rfl, ec, dd, ps, v, ed, hd, hv, k v H M (Frame.refl H M) rs iv⟩
/-- isinstance of the error and a class -/
def hIsi (K : PySem.W.Frag) (C : Value) : HX := fun x _ z => ErrC K x.C ∧ ∃ k, PySem.W.kitOne K (.ref x.C) C = some k ∧ z = .bl k
def rIsE (K : PySem.W.Frag) (a : Addr) (cls : Value) (d : Option Addr) : List V → Hp → VK → Prop := fun xs H Q => ∃ (c : V) (u : Value) (C : Addr) (k : Bool), xs = [.ref a, c] ∧ ClsV c u ∧ cls = .ref C ∧ ErrC K C ∧ (d = none ∨ ∃ dd ps, d = some dd ∧ H dd = some (.xd ps)) ∧ PySem.W.kitOne K (.ref C) u = some k ∧ Q (.bl k) H
theorem call_isE (hz : Zc cls d oe) (hf : ∃ vs, oe.data = .fields vs) : CallR (XS X a oe pn) (.builtin "isinstance") (rIsE X.K a cls d) := by
  intro pins s σ H xs us Q I r hh
  obtain ⟨c, u, C, k, rfl, kc, rfl, ec, hd, e, q⟩ := hh
  obtain ⟨u1, u2, rfl, r1, r2⟩ := vals2 r
  have e2 := kc.eq r2
  subst e2
  obtain rfl : u1 = Value.ref a := r1
  obtain ⟨ha, _⟩ := I.pin (a, oe) (List.mem_append_left _ List.mem_cons_self)
  obtain ⟨vs, hv⟩ := hf
  have nc : PySem.W.notCls oe = true := by unfold PySem.W.notCls; rw [hv] <;> rfl
  have J : ∃ od, PySem.W.InstAt s.heap a oe C od := by
    rcases hd with hd | ⟨dd, ps, hd, hH⟩
    · exact ⟨none, ha, hz.1, nc, by rw [hz.2, hd]; trivial⟩
    · obtain ⟨mA, hns, _⟩ : ObjOk X.prog X.w H s.heap dd (.xd ps) := I.hok dd _ hH
      obtain ⟨od, ho, _⟩ := lookIn_ns hns
      exact ⟨some od, ha, hz.1, nc, by rw [hz.2, hd]; exact ho⟩
  obtain ⟨od, J⟩ := J
  exact PySem.W.kia_one (PySem.W.kitx_exc ec.cl ec.xf.ga ec.xf.gg ec.xf.exC ec.at_ ec.gt ec.tk ec.mr) I.kIn J e (fun z => nomatch z) fun tk => ⟨.bl k, H, I.tok tk, rfl, q⟩
def clsD : D → Value
  | .ty n => .type n
  | .ref C => .ref C
  | _ => .none
theorem he_isi {i : Nat} {p : Pos} {c : D} (hz : Zc cls d oe) (hf : ∃ vs, oe.data = .fields vs) (hg : Gl X "isinstance") (hm : X.mg "isinstance" = none) (he : PE (XS X a oe pn) e (tVar i)) (hc : DE (XS X a oe pn) W0 e2 (dC c)) (hcl : ∀ K H M v, Im K H M v c → ClsV v (clsD c))
    (h1 : starEach [e, e2] (XS X a oe pn).env = (false, eval e (XS X a oe pn).env) :: starEach [e2] (XS X a oe pn).env := by rfl) (h2 : starEach [e2] (XS X a oe pn).env = (false, eval e2 (XS X a oe pn).env) :: starEach [] (XS X a oe pn).env := by rfl) (hpl : (backTo pos (starEach [e2] (XS X a oe pn).env)).any (·.1) = false := by rfl) :
    HE X a oe cls d (some i) pn (.Call (.Name "isinstance" p) [e, e2] [] pos) (hIsi X.K (clsD c)) := (pe_callB (X := XS X a oe pn) (p := p) (pos := pos) (call_isE (cls := cls) (d := d) hz hf) hg hm rfl (pa_cons he (pa_cons hc pa_nil h2) h1) (by decide) (by decide) h1 hpl).imp fun σ H R ⟨M, δ, G, x, z, rs, rx, bd, ⟨ec, k, hk, e0⟩, kk⟩ => by
  subst e0
  obtain ⟨w, hw, im⟩ := rs.slot i _ (bd i rfl)
  cases im
  refine ⟨_, hw, M, δ, G, fun z' G' => z' = c ∧ G' = G, fun _ _ => False, rs, ⟨rfl, rfl⟩, fun x G' H' M' cls dd f rs' rx' q => q.elim, ?_⟩
  rintro v dv G' H' M' f rs' im ⟨rfl, rfl⟩
  have rx2 := rx.stay f.stay
  obtain ⟨xC, xf⟩ := x
  cases xf with
  | none =>
    obtain ⟨r1, r2⟩ := rx2
    exact ⟨v, _, xC, k, rfl, hcl _ _ _ _ im, r1, ec, .inl r2, hk, kk _ H' M' f rs' .bl⟩
  | some fs =>
    obtain ⟨r1, dd, ps, r2, _, r3, _⟩ := rx2
    exact ⟨v, _, xC, k, rfl, hcl _ _ _ _ im, r1, ec, .inr ⟨dd, ps, r2, r3⟩, hk, kk _ H' M' f rs' .bl⟩
theorem cls_ref {C : Addr} : ∀ K H M v, Im K H M v (.ref C) → ClsV v (clsD (.ref C)) := fun K H M v im => by cases im; exact .own C
theorem cls_ty {n : String} : ∀ K H M v, Im K H M v (.ty n) → ClsV v (clsD (.ty n)) := fun K H M v im => by cases im; exact .ty n
/-! not, and -/
def hNot (h : HX) : HX := fun x δ z => ∃ k, h x δ (.bl k) ∧ z = .bl (!k)
def hAnd (h1 h2 : HX) : HX := fun x δ z => ∃ k, h1 x δ (.bl k) ∧ if k = true then h2 x δ z else z = .bl false
theorem he_not (he : HE X a oe cls d b pn e h) : HE X a oe cls d b pn (.UnaryOp .Not e pos) (hNot h) := (pe_not he).imp fun σ H R ⟨M, δ, G, x, z, rs, rx, bd, ⟨k, hk, e0⟩, kk⟩ => by
  subst e0
  refine ⟨M, δ, G, x, _, rs, rx, bd, hk, fun v H' M' f rs' im => ?_⟩
  cases im
  exact ⟨k, rfl, kk _ H' M' f rs' .bl⟩
theorem he_one {op} (he : HE X a oe cls d b pn e h) : HE X a oe cls d b pn (.BoolOp op [e] pos) h := pe_one he
theorem he_and (h1' : HE X a oe cls d b pn e1 h1) (h2' : HE X a oe cls d b pn (.BoolOp .And (e2 :: es) pos) h2) : HE X a oe cls d b pn (.BoolOp .And (e1 :: e2 :: es) pos) (hAnd h1 h2) := (pe_and h1' h2').imp fun σ H R ⟨M, δ, G, x, z, rs, rx, bd, ⟨k, hk, hz⟩, kk⟩ => by
  refine ⟨M, δ, G, x, _, rs, rx, bd, hk, fun v H' M' f rs' im => ?_⟩
  cases im
  refine ⟨k, rfl, ?_⟩
  cases k with
  | true =>
    simp only [if_true] at hz ⊢
    exact ⟨M', δ, G, x, z, rs', rx.stay f.stay, bd, hz, fun v H2 M2 f2 rs2 im => kk v H2 M2 (f.trans f2) rs2 im⟩
  | false =>
    simp only [Bool.false_eq_true, if_false] at hz ⊢
    subst hz
    exact kk _ H' M' f rs' .bl
/-- an operation of two values -/
def hBin (g : D → D → Option D) (h1 h2 : HX) : HX := fun x δ z => ∃ y w, h1 x δ y ∧ h2 x δ w ∧ g y w = some z
theorem he_bin {op : Operator} {g : D → D → Option D} (ho : OpR (XS X a oe pn) (binaryOp op) (OpD X.K g)) (h1' : HE X a oe cls d b pn e1 h1) (h2' : HE X a oe cls d b pn e2 h2) : HE X a oe cls d b pn (.BinOp e1 op e2 pos) (hBin g h1 h2) := (pe_op ho h1' h2').imp fun σ H R ⟨M, δ, G, x, z, rs, rx, bd, ⟨y, w, hy, hw, hg⟩, kk⟩ => by
  refine ⟨M, δ, G, x, y, rs, rx, bd, hy, fun v H' M' f rs' im => ?_⟩
  refine ⟨M', δ, G, x, w, rs', rx.stay f.stay, bd, hw, fun u H2 M2 f2 rs2 im2 => ?_⟩
  exact ⟨M2, y, w, z, rs2.g.dom, Tm.of (im.mono f2.stay), Tm.of im2, hg, fun r H3 sm im3 => kk r H3 M2 ((f.trans f2).trans (Same.keep sm).frame) (rs2.same sm) im3⟩
/-! statements of a clause -/
def uSet (j : Nat) (h : HX) : HdD := fun _ x N δ G => ∃ z, h x δ z ∧ N.nx (δ.set j (some (.v z))) G
def uSeq (u v : HdD) : HdD := fun a x N δ G => u a x { N with nx := fun δ' G' => v a x N δ' G' } δ G
theorem hs_set {j : Nat} {nm : Str} {pos' : Pos} (hN : X.N.Nodup) (hi : X.N[j]? = some nm) (hx : Loc X.env.scope nm) (he : HE X a oe cls d b pn e h) (hs : swapsWith e (some (.Name nm pos')) pos.line X.env = pure false := by rfl) (hf : X.fn nm = true ∨ X.env.scope.names.lookup nm = some .local := by first | exact .inl rfl | exact .inr rfl | assumption) :
    PS (XS X a oe pn) (.Assign [.Name nm pos'] e pos) (rdHd X.K a cls d b (uSet j h)) := (ps_set (X := XS X a oe pn) (pos := pos) (pos' := pos') hN hi hx he hs hf).imp fun E σ H ⟨M, δ, G, N, x, rs, rx, bd, ⟨z, hz, q⟩, ok⟩ => by
  refine ⟨M, δ, G, x, z, rs, rx, bd, hz, fun v H' M' f rs' im => ?_⟩
  exact ok.nx _ _ G H' M' f (rs'.setV im) q
theorem hs_one {s : Stmt} {u : HdD} (h : PS (XS X a oe pn) s (rdHd X.K a cls d b u)) : PSs (XS X a oe pn) [s] (rdHd X.K a cls d b u) := pss_one h
/-- a first assignment, and what follows -/
theorem hs_cons {j : Nat} {nm : Str} {pos' : Pos} {rest : List Stmt} {v : HdD} (hne : ∀ i, b = some i → j ≠ i) (hN : X.N.Nodup) (hi : X.N[j]? = some nm) (hx : Loc X.env.scope nm) (he : HE X a oe cls d b pn e h) (h2 : PSs (XS X a oe pn) rest (rdHd X.K a cls d b v)) (hs : swapsWith e (some (.Name nm pos')) pos.line X.env = pure false := by rfl) (hf : X.fn nm = true ∨ X.env.scope.names.lookup nm = some .local := by first | exact .inl rfl | exact .inr rfl | assumption) :
    PSs (XS X a oe pn) (.Assign [.Name nm pos'] e pos :: rest) (rdHd X.K a cls d b (uSeq (uSet j h) v)) := (pss_cons (ps_set (X := XS X a oe pn) (pos := pos) (pos' := pos') hN hi hx he hs hf) h2).imp fun E σ H ⟨M, δ, G, N, x, rs, rx, bd, ⟨z, hz, q⟩, ok⟩ => by
  refine ⟨M, δ, G, x, z, rs, rx, bd, hz, fun w H' M' f rs' im => ?_⟩
  refine ⟨M', _, G, N, x, rs'.setV im, rx.stay f.stay, fun i hb => ?_, q, ok.mono f⟩
  rw [List.getElem?_set_ne (hne i hb)]
  exact bd i hb
end
/-! the whole -/
def offD (b : Option Nat) (N : DEnds) : DEnds := match b with
  | none => { N with ex := fun _ _ _ => False }
  | some i => { nx := fun δ G => N.nx (δ.set i none) G, rt := N.rt, bk := fun δ G => N.bk (δ.set i none) G, ct := fun δ G => N.ct (δ.set i none) G, ex := fun _ _ _ => False }
def onD (b : Option Nat) (a : Addr) (δ : DSt) : DSt := match b with
  | none => δ
  | some i => δ.set i (some (.v (.ref a)))
def fitB (b : Option Nat) (δ : DSt) : Bool := match b with
  | none => true
  | some i => Nat.blt i δ.length
def catchD (K : PySem.W.Frag) (N : DEnds) : List (Addr × Option Nat × HdD) → DX → DSt → DG → Prop
  | [] => N.ex
  | (c, b, u) :: r => fun x δ G => ∃ k, PySem.W.exmOne K (.ref x.C) (.ref c) = some k ∧ brP k (brP (fitB b δ) (∀ a, u a x (offD b N) (onD b a δ) G) False) (catchD K N r x δ G)
def zTry (K : PySem.W.Frag) (t : DTS) (hs : List (Addr × Option Nat × HdD)) : DTS := fun N δ G => t { N with ex := catchD K N hs } δ G
inductive HdsD (X : Cx) : List ExceptHandler → List (Addr × Option Nat × HdD) → Prop
  | nil : HdsD X [] []
  | bare {x : Str} {c : Addr} {u : HdD} {b₀ : Stmt} {su : List Stmt} {np pos' : Pos} {hds : List ExceptHandler} {l : List (Addr × Option Nat × HdD)} (hc : Names X x (.ref c))
      (hsu : ∀ (a : Addr) (oe : Obj) (cls : Value) (d : Option Addr) (pn : List (Addr × Obj)), Zc cls d oe → (∃ vs, oe.data = .fields vs) → PSs (XS X a oe pn) (b₀ :: su) (rdHd X.K a cls d none u)) (r : HdsD X hds l) :
      HdsD X (.ExceptHandler (some (.Name x np)) none (b₀ :: su) pos' :: hds) ((c, none, u) :: l)
  | named {x n : Str} {i : Nat} {c : Addr} {u : HdD} {b₀ : Stmt} {su : List Stmt} {np pos' : Pos} {hds : List ExceptHandler} {l : List (Addr × Option Nat × HdD)} (hi : X.N[i]? = some n) (hln : X.env.kindOf n = some .local) (hc : Names X x (.ref c))
      (hsu : ∀ (a : Addr) (oe : Obj) (cls : Value) (d : Option Addr) (pn : List (Addr × Obj)), Zc cls d oe → (∃ vs, oe.data = .fields vs) → PSs (XS X a oe pn) (b₀ :: su) (rdHd X.K a cls d (some i) u)) (r : HdsD X hds l) :
      HdsD X (.ExceptHandler (some (.Name x np)) (some n) (b₀ :: su) pos' :: hds) ((c, some i, u) :: l)
def lowH (K : PySem.W.Frag) : List (Addr × Option Nat × HdD) → List (Value × Option Nat × HdT)
  | [] => []
  | (c, b, u) :: r => (.ref c, b, fun a cls d => rdHd K a cls d b u) :: lowH K r
theorem HdsD.ok {X : Cx} : ∀ {hds : List ExceptHandler} {l : List (Addr × Option Nat × HdD)}, HdsD X hds l → HsOk X hds (lowH X.K l)
  | _, _, .nil => .nil
  | _, _, .bare hc hsu r => .bare hc hsu r.ok
  | _, _, .named hi hln hc hsu r => .named hi hln hc hsu r.ok
theorem EndsOk.off {K : PySem.W.Frag} {W : WX} {H : Hp} {M : Gh} {N : DEnds} {E : Ends} (ok : EndsOk K W H M N E) : ∀ b, EndsOk K W0 H M (offD b N) (offN b E)
  | none => ⟨ok.nx, ok.rt, ok.bk, ok.ct, fun x σ' δ' G' H' M' cls dd f rs rx q => q.elim⟩
  | some i => ⟨fun σ' δ' G' H' M' f rs q => ok.nx _ _ G' H' M' f rs.setN q, ok.rt, fun σ' δ' G' H' M' f rs q => ok.bk _ _ G' H' M' f rs.setN q, fun σ' δ' G' H' M' f rs q => ok.ct _ _ G' H' M' f rs.setN q, fun x σ' δ' G' H' M' cls dd f rs rx q => q.elim⟩
theorem bound_on {b : Option Nat} {a : Addr} {δ : DSt} (h : ∀ i, b = some i → i < δ.length) : Bound b a (onD b a δ) := by
  intro i hb
  subst hb
  show (δ.set i _)[i]? = _
  rw [List.getElem?_set_self (h i rfl)]
theorem catch_ok {K : PySem.W.Frag} {out : WX} {E : Ends} {N : DEnds} {H0 : Hp} {M0 : Gh} (ok : EndsOk K out H0 M0 N E) : ∀ (l : List (Addr × Option Nat × HdD)) (x : DX) (σ : St) (δ : DSt) (G : DG) (H : Hp) (M : Gh) (cls : Value) (d : Option Addr), Frame H0 M0 H M → RS K H M σ δ G → RX K H M cls d x → catchD K N l x δ G → wAll K out E (lowH K l) cls d σ H
  | [], x, σ, δ, G, H, M, cls, d, f, rs, rx, q => ok.ex x σ δ G H M cls d f rs rx q
  | (c, b, u) :: r, x, σ, δ, G, H, M, cls, d, f, rs, rx, ⟨k, hk, q⟩ => by
    have ec : cls = .ref x.C := by
      obtain ⟨xC, xf⟩ := x
      cases xf with
      | none => exact rx.1
      | some fs => exact rx.1
    refine ⟨k, by rw [ec]; exact hk, fun e a na => ?_, fun e => ?_⟩
    · subst e
      have q : brP (fitB b δ) (∀ a, u a x (offD b N) (onD b a δ) G) False := q
      cases hb : fitB b δ with
      | false => rw [hb] at q; exact q.elim
      | true =>
      rw [hb] at q
      have q : ∀ a, u a x (offD b N) (onD b a δ) G := q
      have rs2 : RS K H M (onN b a σ) (onD b a δ) G := by
        cases b with
        | none => exact rs
        | some i => exact rs.setV .ref
      exact ⟨M, onD b a δ, G, offD b N, x, rs2, rx, bound_on (fun i e => by subst e; simpa [fitB] using hb), q a, (ok.mono f).off b⟩
    · subst e
      exact catch_ok ok r x σ δ G H M cls d f rs rx q
theorem zs_try {X : Cx} {W : WX} {body : List Stmt} {h₀ : ExceptHandler} {hds : List ExceptHandler} {l : List (Addr × Option Nat × HdD)} {pos : Pos} {t : DTS} (hs : X.stack = X.env :: X.outer) (hf : X.env.frame = some X.env.locals) (hN : X.N.Nodup) (tk : Takes X W)
    (hb : ∀ (W : WX) (pn : List (Addr × Obj)) (xe : Value → Shared → Prop), Takes (X.tr pn xe) W → PassesOwn (model X.prog X.w) X.A X.env xe → DSs (X.tr pn xe) W body t)
    (hh : HdsD X (h₀ :: hds) l) : DS X W (.Try body (h₀ :: hds) [] [] pos) (zTry X.K t l) := by
  have r := ps_try_all (pos := pos) (tb := fun W => rdS X.K W t) (out := W) hs hf hN tk hb hh.ok
  refine r.imp fun E σ H ⟨M, δ, G, N, rs, q, ok⟩ => ?_
  refine ⟨M, δ, G, _, rs, q, ⟨ok.nx, ok.rt, ok.bk, ok.ct, ?_⟩⟩
  intro x σ' δ' G' H' M' cls dd f rs' rx q'
  exact catch_ok ok l x σ' δ' G' H' M' cls dd f rs' rx q'
end DD

set_option Elab.async false
set_option linter.all false
set_option maxRecDepth 100000
set_option maxHeartbeats 4000000
namespace PG
open PySem PySem.Spec L2 DD

/-! ### names, cells, rows -/
def letters : Str := "abcdefghijklmnopqrstuvwxyz"
def cellch : Str := "abcdefghijklmnopqrstuvwxyz0123456789-"
def wrS (s ch : Str) (l m : Int) : Bool := (decide (l ≤ (s.length : Int)) && decide ((s.length : Int) ≤ m)) && s.cps.toList.all fun k => decide (k ∈ ch.cps.toList)
def isWr (x : D) (ch : Str) (l m : Int) : Bool := match x with
  | .str s => wrS s ch l m
  | _ => false
def nameS (s : Str) : Bool := wrS s letters 1 8
def cellS (s : Str) : Bool := wrS s cellch 0 20
def isName (x : D) : Bool := isWr x letters 1 8
def isCell (x : D) : Bool := isWr x cellch 0 20
def colsOk (cs : List Str) : Bool := (decide (1 ≤ cs.length) && decide (cs.length ≤ 5)) && (cs.all nameS && decide ((DDs.metAll cs).length = cs.length))
def distD (xs : List D) : Bool := match strsD xs with
  | some zs => decide ((DDs.metAll zs).length = xs.length)
  | none => false
def areCols : D → Bool
  | .tup xs => (decide (1 ≤ xs.length) && decide (xs.length ≤ 5)) && (xs.all isName && distD xs)
  | _ => false
def rowOk (n : Nat) (r : List Str) : Bool := decide (r.length = n) && r.all cellS
def isRow : D → D → Bool
  | .tup cs, .tup xs => decide (xs.length = cs.length) && xs.all isCell
  | _, _ => false
/-- values of no object, one level, two, three -/
def nrmL (x : D) : Bool := nrm x && match x with
  | .tup xs => decide (xs.length ≤ 1000000) && xs.all nrm
  | _ => true
def nrmR (x : D) : Bool := nrm x && match x with
  | .tup xs => decide (xs.length ≤ 1000000) && xs.all nrmL
  | _ => true
def isWhole : D → Bool
  | .int _ => true
  | _ => false
/-! ### texts as values -/
def eS (s : Str) : D := .str s
def eC (cs : List Str) : D := .tup (cs.map D.str)
theorem str_len {s ch : Str} {l m : Int} (h : wrS s ch l m = true) : (s.length : Int) ≤ m := by
  simp only [wrS, Bool.and_eq_true, decide_eq_true_eq] at h
  exact h.1.2
theorem cell_len {s : Str} (h : cellS s = true) : s.length ≤ 20 := by have := str_len h; omega
theorem name_len {s : Str} (h : nameS s = true) : s.length ≤ 8 := by have := str_len h; omega
theorem strsD_map : ∀ cs : List Str, strsD (cs.map D.str) = some cs
  | [] => rfl
  | c :: r => by simp [strsD, strsD_map r]
theorem areCols_eC (cs : List Str) : areCols (eC cs) = colsOk cs := by
  simp only [areCols, eC, colsOk, distD, strsD_map, List.length_map, List.all_map]
  rfl
theorem isRow_eC (cs r : List Str) : isRow (eC cs) (eC r) = rowOk cs.length r := by
  simp only [isRow, eC, rowOk, List.length_map, List.all_map]
  rfl
theorem nrm_str {s : Str} (h : s.length ≤ 16777216) : nrm (.str s) = true := by simp [nrm, h]
theorem nrmL_eC {cs : List Str} (h : ∀ c ∈ cs, c.length ≤ 16777216) (hl : cs.length ≤ 1000000) : nrmL (eC cs) = true := by
  simp only [nrmL, eC, nrm, Bool.true_and, List.length_map, hl, decide_true, List.all_map, List.all_eq_true]
  intro x hx
  exact nrm_str (h x hx)
theorem areCols_iff {x : D} (h : areCols x = true) : ∃ cs, x = eC cs ∧ colsOk cs = true := by
  cases x with
  | tup xs =>
    have h0 := h
    simp only [areCols, Bool.and_eq_true] at h
    cases e : strsD xs with
    | none => unfold distD at h; rw [e] at h; exact absurd h.2.2 (by simp)
    | some zs =>
      have : ∀ (xs : List D) (zs : List Str), strsD xs = some zs → xs = zs.map D.str := by
        intro xs
        induction xs with
        | nil => intro zs e; simp [strsD] at e; subst e; rfl
        | cons x r ih =>
          intro zs e
          cases x <;> simp only [strsD, reduceCtorEq, Option.map_eq_some_iff] at e
          obtain ⟨ys, h1, h2⟩ := e
          subst h2
          rw [ih ys h1]; rfl
      have e2 := this xs zs e
      subst e2
      exact ⟨zs, rfl, by rw [← areCols_eC]; exact h0⟩
  | _ => cases h
theorem isCell_iff {x : D} (h : isCell x = true) : ∃ s, x = .str s ∧ cellS s = true := by
  cases x with
  | str s => exact ⟨s, rfl, h⟩
  | _ => cases h
theorem isRow_iff {cs : List Str} {x : D} (h : isRow (eC cs) x = true) : ∃ r, x = eC r ∧ rowOk cs.length r = true := by
  cases x with
  | tup xs =>
    have h0 := h
    simp only [isRow, eC, Bool.and_eq_true, List.length_map, decide_eq_true_eq, List.all_eq_true] at h
    have : ∀ xs : List D, (∀ x ∈ xs, isCell x = true) → ∃ r : List Str, xs = r.map D.str := by
      intro xs
      induction xs with
      | nil => intro _; exact ⟨[], rfl⟩
      | cons x t ih =>
        intro h
        obtain ⟨s, e, _⟩ := isCell_iff (h x (by simp))
        obtain ⟨r, e2⟩ := ih fun y hy => h y (by simp [hy])
        exact ⟨s :: r, by rw [e, e2]; rfl⟩
    obtain ⟨r, e⟩ := this xs h.2
    subst e
    exact ⟨r, rfl, by rw [← isRow_eC]; exact h0⟩
  | _ => cases h
/-! ### tests and steps -/
inductive Tst where
  | is (c x : Str) (w : Bool) | same (c : Str) (w : Bool)
  deriving DecidableEq
inductive Stp where
  | put (c : Str) | word (x : Str) | label | next | nextT (t : Tst) | skip (t : Tst) | keep (c : Str) | say (c : Str) | first (c : Str)
  deriving DecidableEq
def eT : Tst → D
  | .is c x w => .tup [.str "is", .str c, .str x, .bl w]
  | .same c w => .tup [.str "same", .str c, .bl w]
def eP' : Stp → D
  | .put c => .tup [.str "put", .str c]
  | .word x => .tup [.str "word", .str x]
  | .label => .tup [.str "label"]
  | .next => .tup [.str "next"]
  | .nextT t => .tup [.str "next", eT t]
  | .skip t => .tup [.str "skip", eT t]
  | .keep c => .tup [.str "keep", .str c]
  | .say c => .tup [.str "say", .str c]
  | .first c => .tup [.str "first", .str c]
def tstOk (cs : List Str) : Tst → Bool
  | .is c x _ => decide (c ∈ cs) && cellS x
  | .same c _ => decide (c ∈ cs)
def stpOk (cs : List Str) : Stp → Bool
  | .put c => decide (c ∈ cs)
  | .word x => cellS x
  | .label => true
  | .next => true
  | .nextT t => tstOk cs t
  | .skip t => tstOk cs t
  | .keep c => decide (c ∈ cs)
  | .say c => decide (c ∈ cs)
  | .first c => decide (c ∈ cs)
def eF (st : List Stp) : D := .tup (st.map eP')
/-- which values are tests, steps -/
def isTest (cs : List Str) : D → Bool
  | .tup [.str k, .str c, .bl _] => decide (c ∈ cs) && decide (k = "same")
  | .tup [.str k, .str c, x, .bl _] => decide (c ∈ cs) && (decide (k = "is") && isCell x)
  | _ => false
def isStep (cs : List Str) : D → Bool
  | .tup [.str k] => decide (k = "label") || decide (k = "next")
  | .tup [.str k, x] => if k = "next" ∨ k = "skip" then isTest cs x else if k = "word" then isCell x else
    (decide (k = "put") || (decide (k = "keep") || (decide (k = "say") || decide (k = "first")))) && (match x with
      | .str c => decide (c ∈ cs)
      | _ => false)
  | _ => false
/-! ### what the defs tell -/
def F_is_written (K : PySem.W.Frag) : List D → DG → Option D := fun ds _ => match ds with
  | [x, .str ch, .int l, .int m] => if nrm x = true ∧ m ≤ 1000 then some (.bl (isWr x ch l m)) else none
  | _ => none
def F_is_name (K : PySem.W.Frag) : List D → DG → Option D := fun ds _ => match ds with
  | [x] => if nrm x = true then some (.bl (isName x)) else none
  | _ => none
def F_is_cell (K : PySem.W.Frag) : List D → DG → Option D := fun ds _ => match ds with
  | [x] => if nrm x = true then some (.bl (isCell x)) else none
  | _ => none
def F_are_columns (K : PySem.W.Frag) : List D → DG → Option D := fun ds _ => match ds with
  | [x] => if nrmL x = true then some (.bl (areCols x)) else none
  | _ => none
def F_is_row (K : PySem.W.Frag) : List D → DG → Option D := fun ds _ => match ds with
  | [.tup cs, x] => if nrmL x = true then some (.bl (isRow (.tup cs) x)) else none
  | _ => none
def F_is_whole (K : PySem.W.Frag) : List D → DG → Option D := fun ds _ => match ds with
  | [x] => if nrm x = true then some (.bl (isWhole x)) else none
  | _ => none
abbrev f_is_written (K : PySem.W.Frag) : Fn := pf (F_is_written K)
abbrev f_is_name (K : PySem.W.Frag) : Fn := pf (F_is_name K)
abbrev f_is_cell (K : PySem.W.Frag) : Fn := pf (F_is_cell K)
abbrev f_are_columns (K : PySem.W.Frag) : Fn := pf (F_are_columns K)
abbrev f_is_row (K : PySem.W.Frag) : Fn := pf (F_is_row K)
abbrev f_is_whole (K : PySem.W.Frag) : Fn := pf (F_is_whole K)
end PG

set_option Elab.async false
set_option linter.all false
set_option maxRecDepth 100000
set_option maxHeartbeats 4000000
namespace PG
open PySem PySem.Spec L2 DD

/-! ### forms -/
def F_is_test (K : PySem.W.Frag) : List D → DG → Option D := fun ds _ => match ds with
  | [.tup cs, x] => (match strsD cs with
    | some zs => if nrmL x = true then some (.bl (isTest zs x)) else none
    | none => none)
  | _ => none
def F_is_step (K : PySem.W.Frag) : List D → DG → Option D := fun ds _ => match ds with
  | [.tup cs, x] => (match strsD cs with
    | some zs => if nrmR x = true then some (.bl (isStep zs x)) else none
    | none => none)
  | _ => none
abbrev f_is_test (K : PySem.W.Frag) : Fn := pf (F_is_test K)
abbrev f_is_step (K : PySem.W.Frag) : Fn := pf (F_is_step K)
theorem F_test_eC (K : PySem.W.Frag) {cs : List Str} {x : D} {G : DG} (h : nrmL x = true) : F_is_test K [eC cs, x] G = some (.bl (isTest cs x)) := by
  simp [F_is_test, eC, strsD_map, h]
theorem F_step_eC (K : PySem.W.Frag) {cs : List Str} {x : D} {G : DG} (h : nrmR x = true) : F_is_step K [eC cs, x] G = some (.bl (isStep cs x)) := by
  simp [F_is_step, eC, strsD_map, h]
theorem strsD_iff {xs : List D} {zs : List Str} (h : strsD xs = some zs) : xs = zs.map D.str := by
  induction xs generalizing zs with
  | nil => simp [strsD] at h; subst h; rfl
  | cons x r ih =>
    cases x <;> simp only [strsD, reduceCtorEq, Option.map_eq_some_iff] at h
    obtain ⟨ys, h1, h2⟩ := h
    subst h2
    rw [ih h1]; rfl
/-- the first item that is no step -/
def badStep (cs : List Str) : Nat → List D → Option Nat
  | _, [] => none
  | i, r :: rs => if 16 ≤ i ∨ isStep cs r = false then some i else badStep cs (i + 1) rs
def nrmQ (x : D) : Bool := nrm x && match x with
  | .tup xs => decide (xs.length ≤ 1000000) && xs.all nrmR
  | _ => true
/-- a form's value -/
def eFm (K : PySem.W.Frag) (cs : List Str) (st : List Stp) : D := .obj (He.ga K "Form") [("heads", eC cs), ("chain", eF st)]
def fmO (K : PySem.W.Frag) (cs st : D) : DO := .ins (He.ga K "Form") [("heads", .v cs), ("chain", .v st)]
/-- what Form(cs, st) ends with: none, or the index of a bad step -/
inductive MkF where
  | cols | step (i : Nat) | ok
def mkF (cs st : D) : MkF := if areCols cs = true then (match cs with
    | .tup zs => (match strsD zs, st with
      | some zs, .tup (x :: xs) => (match badStep zs 0 (x :: xs) with
        | some i => .step i
        | none => .ok)
      | _, _ => .step 0)
    | _ => .cols) else .cols
@[irreducible] def f_Form___init__ (K : PySem.W.Frag) : Fn := fun ds G Q E => ∃ a cs st, ds = [.ref a, cs, st] ∧ G a = some (.ins (He.ga K "Form") []) ∧ nrmL cs = true ∧ nrmQ st = true ∧
  match mkF cs st with
  | .cols => E ⟨He.ga K "NoColumns", none⟩ G
  | .step i => E ⟨He.ga K "NoStep", some [("index", .int (i : Nat))]⟩ G
  | .ok => Q .non (gset G a (some (fmO K cs st)))
/-- a form: its columns, its steps -/
def IsF (K : PySem.W.Frag) (x cs st : D) : Prop := x = .obj (He.ga K "Form") [("heads", cs), ("chain", st)]
@[irreducible] def f_Form___len__ (K : PySem.W.Frag) : Fn := fun ds G Q _ => ∃ x cs st, ds = [x] ∧ IsF K x cs (.tup st) ∧ Q (.int (st.length : Nat)) G
@[irreducible] def f_Form_steps (K : PySem.W.Frag) : Fn := fun ds G Q _ => ∃ x cs st, ds = [x] ∧ IsF K x cs st ∧ Q st G
@[irreducible] def f_Form_columns (K : PySem.W.Frag) : Fn := fun ds G Q _ => ∃ x cs st, ds = [x] ∧ IsF K x cs st ∧ Q cs G
def ixOk (x : D) (n : Nat) : Option Nat := match x with
  | .int i => if 0 ≤ i ∧ i < (n : Int) then some i.toNat else none
  | _ => none
@[irreducible] def f_Form___getitem__ (K : PySem.W.Frag) : Fn := fun ds G Q E => ∃ x cs st k, ds = [x, k] ∧ IsF K x cs (.tup st) ∧ nrm k = true ∧
  match ixOk k st.length with
  | some i => ∃ y, st[i]? = some y ∧ Q y G
  | none => E ⟨He.ga K "NoStep", some [("index", k)]⟩ G
section
variable {K : PySem.W.Frag} {ds : List D} {G : DG} {Q : D → DG → Prop} {E : DX → DG → Prop}
theorem c_Form_len {cs : List Str} {st : List Stp} (q : Q (.int (st.length : Nat)) G) : f_Form___len__ K [eFm K cs st] G Q E := by
  unfold f_Form___len__
  exact ⟨_, eC cs, st.map eP', rfl, rfl, by rw [List.length_map]; exact q⟩
theorem c_Form_steps {cs : List Str} {st : List Stp} (q : Q (eF st) G) : f_Form_steps K [eFm K cs st] G Q E := by
  unfold f_Form_steps
  exact ⟨_, eC cs, eF st, rfl, rfl, q⟩
theorem c_Form_columns {cs : List Str} {st : List Stp} (q : Q (eC cs) G) : f_Form_columns K [eFm K cs st] G Q E := by
  unfold f_Form_columns
  exact ⟨_, eC cs, eF st, rfl, rfl, q⟩
theorem c_Form_get {cs : List Str} {st : List Stp} {i : Int} {s : Stp} (h0 : 0 ≤ i) (h : st[i.toNat]? = some s) (q : Q (eP' s) G) : f_Form___getitem__ K [eFm K cs st, .int i] G Q E := by
  unfold f_Form___getitem__
  refine ⟨_, eC cs, st.map eP', .int i, rfl, rfl, rfl, ?_⟩
  have hl : i < ((st.map eP').length : Int) := by
    have := (List.getElem?_eq_some_iff.mp h).1
    rw [List.length_map]; omega
  have e : ixOk (.int i) (st.map eP').length = some i.toNat := if_pos ⟨h0, hl⟩
  rw [e]
  exact ⟨eP' s, by simp [h], q⟩
theorem nrm_dstr {cs : List Str} {c : Str} (hc : colsOk cs = true) (h : c ∈ cs) : c.length ≤ 8 := by
  simp only [colsOk, Bool.and_eq_true, List.all_eq_true] at hc
  exact name_len (hc.2.1 c h)
theorem cols_len {cs : List Str} (hc : colsOk cs = true) : 1 ≤ cs.length ∧ cs.length ≤ 5 := by
  simp only [colsOk, Bool.and_eq_true, decide_eq_true_eq] at hc
  exact hc.1
theorem nrmL_cols {cs : List Str} (hc : colsOk cs = true) : nrmL (eC cs) = true := nrmL_eC (fun c h => by have := nrm_dstr hc h; omega) (by have := cols_len hc; omega)
theorem nrm_test {cs : List Str} {t : Tst} (hc : colsOk cs = true) (h : tstOk cs t = true) : nrmL (eT t) = true := by
  cases t with
  | is c x w =>
    simp only [tstOk, Bool.and_eq_true, decide_eq_true_eq] at h
    have h1 := nrm_dstr hc h.1
    have h2 := cell_len h.2
    have e : ("is" : Str).length ≤ 16777216 := by decide
    simp [nrmL, eT, nrm, e]
    omega
  | same c w =>
    simp only [tstOk, decide_eq_true_eq] at h
    have h1 := nrm_dstr hc h
    have e : ("same" : Str).length ≤ 16777216 := by decide
    simp [nrmL, eT, nrm, e]
    omega
theorem nrmL_str {s : Str} (h : s.length ≤ 16777216) : nrmL (.str s) = true := by simp [nrmL, nrm, h]
theorem nrm_step {cs : List Str} {s : Stp} (hc : colsOk cs = true) (h : stpOk cs s = true) : nrmR (eP' s) = true := by
  have key : ∀ (k : Str) (c : Str), k.length ≤ 16777216 → c.length ≤ 16777216 → nrmR (.tup [.str k, .str c]) = true := fun k c h1 h2 => by simp [nrmR, nrm, nrmL_str h1, nrmL_str h2]
  have key2 : ∀ (k : Str) (t : Tst), k.length ≤ 16777216 → tstOk cs t = true → nrmR (.tup [.str k, eT t]) = true := fun k t h1 h2 => by simp [nrmR, nrm, nrmL_str h1, nrm_test hc h2]
  cases s with
  | put c => exact key _ _ (by decide) (by have := nrm_dstr hc (by simpa [stpOk] using h); omega)
  | keep c => exact key _ _ (by decide) (by have := nrm_dstr hc (by simpa [stpOk] using h); omega)
  | say c => exact key _ _ (by decide) (by have := nrm_dstr hc (by simpa [stpOk] using h); omega)
  | first c => exact key _ _ (by decide) (by have := nrm_dstr hc (by simpa [stpOk] using h); omega)
  | word x => exact key _ _ (by decide) (by have := cell_len (by simpa [stpOk] using h); omega)
  | nextT t => exact key2 _ _ (by decide) h
  | skip t => exact key2 _ _ (by decide) h
  | label => decide
  | next => decide
theorem test_ok {cs : List Str} {t : Tst} (h : tstOk cs t = true) : isTest cs (eT t) = true := by
  cases t with
  | is c x w =>
    simp only [tstOk, Bool.and_eq_true, decide_eq_true_eq] at h
    simp [eT, isTest, h.1, isCell]
    exact h.2
  | same c w =>
    simp only [tstOk, decide_eq_true_eq] at h
    simp [eT, isTest, h]
theorem step_ok {cs : List Str} {s : Stp} (h : stpOk cs s = true) : isStep cs (eP' s) = true := by
  have d1 : ¬ (("put" : Str) = "next" ∨ ("put" : Str) = "skip") := by decide
  have d2 : ¬ (("put" : Str) = "word") := by decide
  have d3 : ¬ (("keep" : Str) = "next" ∨ ("keep" : Str) = "skip") := by decide
  have d4 : ¬ (("keep" : Str) = "word") := by decide
  have d5 : ¬ (("say" : Str) = "next" ∨ ("say" : Str) = "skip") := by decide
  have d6 : ¬ (("say" : Str) = "word") := by decide
  have d7 : ¬ (("first" : Str) = "next" ∨ ("first" : Str) = "skip") := by decide
  have d8 : ¬ (("first" : Str) = "word") := by decide
  have d9 : ¬ (("word" : Str) = "next" ∨ ("word" : Str) = "skip") := by decide
  cases s with
  | put c => simp only [eP', isStep, if_neg d1, if_neg d2]; simpa [stpOk] using h
  | keep c => simp only [eP', isStep, if_neg d3, if_neg d4]; simpa [stpOk] using h
  | say c => simp only [eP', isStep, if_neg d5, if_neg d6]; simpa [stpOk] using h
  | first c => simp only [eP', isStep, if_neg d7, if_neg d8]; simpa [stpOk] using h
  | word x => simp only [eP', isStep, if_neg d9, if_true]; exact h
  | nextT t => simp only [eP', isStep, true_or, if_true]; exact test_ok h
  | skip t => simp only [eP', isStep, or_true, if_true]; exact test_ok h
  | label => simp [eP', isStep]
  | next => simp [eP', isStep]
theorem badStep_ok {cs : List Str} : ∀ (st : List Stp) (i : Nat), (∀ s ∈ st, stpOk cs s = true) → i + st.length ≤ 16 → badStep cs i (st.map eP') = none
  | [], i, _, _ => rfl
  | s :: r, i, h, hl => by
    simp only [List.length_cons] at hl
    unfold badStep
    rw [List.map_cons]
    simp only [step_ok (h s (by simp))]
    rw [if_neg (by simp; omega)]
    exact badStep_ok r (i + 1) (fun t ht => h t (by simp [ht])) (by omega)
def formOk (cs : List Str) (st : List Stp) : Prop := colsOk cs = true ∧ 1 ≤ st.length ∧ st.length ≤ 16 ∧ ∀ s ∈ st, stpOk cs s = true
theorem mkF_ok {cs : List Str} {st : List Stp} (h : formOk cs st) : mkF (eC cs) (eF st) = .ok := by
  obtain ⟨h1, h2, h3, h4⟩ := h
  unfold mkF
  rw [areCols_eC, if_pos h1]
  cases st with
  | nil => simp at h2
  | cons s r =>
    have := badStep_ok (s :: r) 0 h4 (by omega)
    rw [List.map_cons] at this
    simp only [eC, strsD_map, eF, List.map_cons, this]
theorem nrmQ_ok {cs : List Str} {st : List Stp} (h : formOk cs st) : nrmQ (eF st) = true := by
  obtain ⟨h1, h2, h3, h4⟩ := h
  simp only [nrmQ, eF, nrm, Bool.true_and, List.length_map, List.all_map, Bool.and_eq_true, decide_eq_true_eq, List.all_eq_true]
  exact ⟨by omega, fun s hs => nrm_step h1 (h4 s hs)⟩
theorem c_Form_init {cs : List Str} {st : List Stp} {a : Addr} (h : formOk cs st) (ga : G a = some (.ins (He.ga K "Form") [])) (q : Q .non (gset G a (some (fmO K (eC cs) (eF st))))) : f_Form___init__ K [.ref a, eC cs, eF st] G Q E := by
  unfold f_Form___init__
  exact ⟨a, _, _, rfl, ga, nrmL_cols h.1, nrmQ_ok h, by rw [mkF_ok h]; exact q⟩
/-- Form(columns, steps), made -/
theorem mk_Form {cs : List Str} {st : List Stp} (h : formOk cs st) (q : Q (eFm K cs st) G) (x : Addr) (hx : G x = none) : f_Form___init__ K (.ref x :: ([eC cs, eF st] ++ [])) (gset G x (some (.ins (He.ga K "Form") []))) (fun v G2 => v = .non ∧ ∃ fs, G2 x = some (.ins (He.ga K "Form") fs) ∧ Q (.obj (He.ga K "Form") (fs.map fun p => (p.1, p.2.d))) (gset G2 x none)) (fun ex G2 => E ex (gset G2 x none)) := by
  refine c_Form_init h gset_same ⟨rfl, _, gset_same, ?_⟩
  rw [gset_gset, gset_gset, gset_self hx]
  exact q
end
end PG

set_option Elab.async false
set_option linter.all false
set_option maxRecDepth 100000
set_option maxHeartbeats 0
namespace PG
open PySem PySem.Spec L2 DD
abbrev N_is_written : List Str := ["thing", "characters", "least", "most", "sign"]
def tb_is_written (K : PySem.W.Frag) : DTS := (sSeq (zIf (tP (qOr (qNot (pTru (pIsi .str (pBo 0)))) (qNot (pTst (pChain leD leD (pBo 2) (pCallB lenD (pCons (pBo 0) pNil)) (pBo 3))))))
  (sRet (eP (pC (.bl false))))
  sNext)
  (sRet (eP (pCallB allD (pCons (pLst (pLc (piSeq (pV 0)) (tN 4) qYes (pBin inD (pBo 4) (pBo 1)) [4])) pNil)))))
abbrev N_is_name : List Str := ["thing"]
def tb_is_name (K : PySem.W.Frag) : DTS := (sRet (eP (pFn (F_is_written K) (pCons (pV 0) (pCons (pC (.str "abcdefghijklmnopqrstuvwxyz")) (pCons (pC (.int 1)) (pCons (pC (.int 8)) pNil)))))))
abbrev N_are_columns : List Str := ["thing", "name"]
def tb_are_columns (K : PySem.W.Frag) : DTS := (sSeq (zIf (tP (qOr (qNot (pTru (pIsi .tup (pBo 0)))) (qNot (pTst (pChain leD leD (pC (.int 1)) (pCallB lenD (pCons (pBo 0) pNil)) (pC (.int 5)))))))
  (sRet (eP (pC (.bl false))))
  sNext)
  (sRet (eP (pAnd (pCallB allD (pCons (pLst (pLc (piSeq (pV 0)) (tN 1) qYes (pFn (F_is_name K) (pCons (pV 1) pNil)) [1])) pNil)) (pBin eqD (pLenSet (pBo 0)) (pCallB lenD (pCons (pBo 0) pNil)))))))
abbrev N_is_cell : List Str := ["thing"]
def tb_is_cell (K : PySem.W.Frag) : DTS := (sRet (eP (pFn (F_is_written K) (pCons (pV 0) (pCons (pC (.str "abcdefghijklmnopqrstuvwxyz0123456789-")) (pCons (pC (.int 0)) (pCons (pC (.int 20)) pNil)))))))
abbrev N_is_whole : List Str := ["thing"]
def tb_is_whole (K : PySem.W.Frag) : DTS := (sRet (eP (pAnd (pIsi .int (pBo 0)) (pNot (pIsi .bl (pBo 0))))))
abbrev N_is_test : List Str := ["columns", "thing"]
def tb_is_test (K : PySem.W.Frag) : DTS := (sSeq (zIf (tP (qOr (qNot (pTru (pIsi .tup (pBo 1)))) (qOr (pTst (pBin ltD (pCallB lenD (pCons (pBo 1) pNil)) (pC (.int 3)))) (qNot (pTru (pIsi .bl (pBin ixD (pBo 1) (pUn negD (pC (.int 1))))))))))
  (sRet (eP (pC (.bl false))))
  sNext)
  (sSeq (zIf (tP (qOr (qNot (pTru (pIsi .str (pBin ixD (pBo 1) (pC (.int 0)))))) (qOr (qNot (pTru (pIsi .str (pBin ixD (pBo 1) (pC (.int 1)))))) (pTst (pBin notInD (pBin ixD (pBo 1) (pC (.int 1))) (pBo 0))))))
  (sRet (eP (pC (.bl false))))
  sNext)
  (sSeq (zIf (tP (pTst (pBin eqD (pBin ixD (pBo 1) (pC (.int 0))) (pC (.str "same")))))
  (sRet (eP (pBin eqD (pCallB lenD (pCons (pBo 1) pNil)) (pC (.int 3)))))
  sNext)
  (sRet (eP (pAnd (pBin eqD (pBin ixD (pBo 1) (pC (.int 0))) (pC (.str "is"))) (pAnd (pBin eqD (pCallB lenD (pCons (pBo 1) pNil)) (pC (.int 4))) (pFn (F_is_cell K) (pCons (pBin ixD (pBo 1) (pC (.int 2))) pNil)))))))))
abbrev N_is_step : List Str := ["columns", "thing"]
def tb_is_step (K : PySem.W.Frag) : DTS := (sSeq (zIf (tP (qOr (qNot (pTru (pIsi .tup (pBo 1)))) (qOr (pTst (pBin eqD (pCallB lenD (pCons (pBo 1) pNil)) (pC (.int 0)))) (qNot (pTru (pIsi .str (pBin ixD (pBo 1) (pC (.int 0)))))))))
  (sRet (eP (pC (.bl false))))
  sNext)
  (sSeq (zIf (tP (pTst (pBin eqD (pCallB lenD (pCons (pBo 1) pNil)) (pC (.int 1)))))
  (sRet (eP (pBin inD (pBin ixD (pBo 1) (pC (.int 0))) (pTup (pCons (pC (.str "label")) (pCons (pC (.str "next")) pNil))))))
  sNext)
  (sSeq (zIf (tP (pTst (pBin neD (pCallB lenD (pCons (pBo 1) pNil)) (pC (.int 2)))))
  (sRet (eP (pC (.bl false))))
  sNext)
  (sSeq (zIf (tP (pTst (pBin inD (pBin ixD (pBo 1) (pC (.int 0))) (pTup (pCons (pC (.str "next")) (pCons (pC (.str "skip")) pNil))))))
  (sRet (eP (pFn (F_is_test K) (pCons (pV 0) (pCons (pBin ixD (pBo 1) (pC (.int 1))) pNil)))))
  sNext)
  (sSeq (zIf (tP (pTst (pBin eqD (pBin ixD (pBo 1) (pC (.int 0))) (pC (.str "word")))))
  (sRet (eP (pFn (F_is_cell K) (pCons (pBin ixD (pBo 1) (pC (.int 1))) pNil))))
  sNext)
  (sRet (eP (pAnd (pBin inD (pBin ixD (pBo 1) (pC (.int 0))) (pC (.tup (List.map D.str ["put", "keep", "say", "first"])))) (pAnd (pIsi .str (pBin ixD (pBo 1) (pC (.int 1)))) (pBin inD (pBin ixD (pBo 1) (pC (.int 1))) (pBo 0)))))))))))
abbrev N_Form___init__ : List Str := ["self", "columns", "steps", "index", "step"]
def tb_Form___init__ (K : PySem.W.Frag) : DTS := (sSeq (zIf (tP (qNot (pTru (pFn (F_are_columns K) (pCons (pV 1) pNil)))))
  (sRaise (He.ga K "NoColumns"))
  sNext)
  (sSeq (zIf (tP (qOr (qNot (pTru (pIsi .tup (pBo 2)))) (pTst (pBin eqD (pCallB lenD (pCons (pBo 2) pNil)) (pC (.int 0))))))
  (sRaiseF (He.ga K "NoStep") "index" (eP (pC (.int 0))))
  sNext)
  (sSeq (sFor (aP (piEn (pV 2))) (gP (tT 2 (tCons (tN 3) (tCons (tN 4) tNil))))
  (zIf (tP (qOr (pTst (pBin geD (pBo 3) (pC (.int 16)))) (qNot (pTru (pFn (F_is_step K) (pCons (pV 1) (pCons (pV 4) pNil)))))))
  (sRaiseF (He.ga K "NoStep") "index" (eP (pV 3)))
  sNext))
  (sSeq (sFldS (He.ga K "Form") "heads" (eP (pV 1)) (eP (pV 0)))
  (sFldS (He.ga K "Form") "chain" (eP (pV 2)) (eP (pV 0)))))))
abbrev N_Form___len__ : List Str := ["self"]
def tb_Form___len__ (K : PySem.W.Frag) : DTS := (sRet (dCallB lenD (dConsB (dFldB (He.ga K "Form") "chain" (eP (pV 0))) dNil)))
abbrev N_Form_steps : List Str := ["self"]
def tb_Form_steps (K : PySem.W.Frag) : DTS := (sRet (dFld (He.ga K "Form") "chain" (eP (pV 0))))
abbrev N_Form_columns : List Str := ["self"]
def tb_Form_columns (K : PySem.W.Frag) : DTS := (sRet (dFld (He.ga K "Form") "heads" (eP (pV 0))))
abbrev N_Form___getitem__ : List Str := ["self", "at"]
def tb_Form___getitem__ (K : PySem.W.Frag) : DTS := (sSeq (zIf (zOrT (tP (qNot (pTru (pFn (F_is_whole K) (pCons (pV 1) pNil))))) (dNotT (dTst (dChain leD ltD (eP (pC (.int 0))) (eP (pBo 1)) (dCallB lenD (dConsB (dFldB (He.ga K "Form") "chain" (eP (pV 0))) dNil))))))
  (sRaiseF (He.ga K "NoStep") "index" (eP (pV 1)))
  sNext)
  (sRet (zBinV ixD (dFld (He.ga K "Form") "chain" (eP (pV 0))) (eP (pBo 1)))))
abbrev N_Form___eq__ : List Str := ["self", "other"]
def tb_Form___eq__ (K : PySem.W.Frag) : DTS := (sRet (zAndV (dIsi K (eP (pBo 1)) (eP (pC (.ref (He.ga K "Form"))))) (zAndV (dBin eqD (dFldB (He.ga K "Form") "heads" (eP (pV 0))) (dFldB (He.ga K "Form") "heads" (eP (pV 1)))) (dBin eqD (dFldB (He.ga K "Form") "chain" (eP (pV 0))) (dFldB (He.ga K "Form") "chain" (eP (pV 1)))))))
end PG

set_option Elab.async false
set_option linter.all false
set_option maxRecDepth 100000
set_option maxHeartbeats 4000000
namespace PG
open PySem PySem.Spec L2 DD
section
variable {K : PySem.W.Frag}
theorem pf_of {F : List D → DG → Option D} {ds : List D} {G : DG} {Q : D → DG → Prop} {E : DX → DG → Prop} {z : D} (h : F ds G = some z) (q : Q z G) : pf F ds G Q E := onO_of h q
theorem len_is_written {ds : List D} {G : DG} {Q : D → DG → Prop} {E : DX → DG → Prop} (h : f_is_written K ds G Q E) : ds.length = 4 := by
  obtain ⟨z, hz, q⟩ := onO_iff.mp h
  unfold F_is_written at hz
  split at hz
  · rfl
  · cases hz
theorem len_is_name {ds : List D} {G : DG} {Q : D → DG → Prop} {E : DX → DG → Prop} (h : f_is_name K ds G Q E) : ds.length = 1 := by
  obtain ⟨z, hz, q⟩ := onO_iff.mp h
  unfold F_is_name at hz
  split at hz
  · rfl
  · cases hz
theorem len_is_cell {ds : List D} {G : DG} {Q : D → DG → Prop} {E : DX → DG → Prop} (h : f_is_cell K ds G Q E) : ds.length = 1 := by
  obtain ⟨z, hz, q⟩ := onO_iff.mp h
  unfold F_is_cell at hz
  split at hz
  · rfl
  · cases hz
theorem len_are_columns {ds : List D} {G : DG} {Q : D → DG → Prop} {E : DX → DG → Prop} (h : f_are_columns K ds G Q E) : ds.length = 1 := by
  obtain ⟨z, hz, q⟩ := onO_iff.mp h
  unfold F_are_columns at hz
  split at hz
  · rfl
  · cases hz
theorem len_is_row {ds : List D} {G : DG} {Q : D → DG → Prop} {E : DX → DG → Prop} (h : f_is_row K ds G Q E) : ds.length = 2 := by
  obtain ⟨z, hz, q⟩ := onO_iff.mp h
  unfold F_is_row at hz
  split at hz
  · rfl
  · cases hz
theorem len_is_whole {ds : List D} {G : DG} {Q : D → DG → Prop} {E : DX → DG → Prop} (h : f_is_whole K ds G Q E) : ds.length = 1 := by
  obtain ⟨z, hz, q⟩ := onO_iff.mp h
  unfold F_is_whole at hz
  split at hz
  · rfl
  · cases hz
/-! all([..]) -/
theorem bls_map {α : Type} (p : α → Bool) : ∀ xs : List α, blsD (xs.map fun x => D.bl (p x)) = some (xs.map p)
  | [] => rfl
  | x :: r => by rw [List.map_cons, blsD, bls_map p r]; rfl
theorem all_map {α : Type} (p : α → Bool) (xs : List α) : allD [.lst (xs.map fun x => D.bl (p x))] = some (.bl (xs.all p)) := by
  simp [allD, bls_map, List.all_map]
theorem any_map {α : Type} (p : α → Bool) (xs : List α) : anyD [.lst (xs.map fun x => D.bl (p x))] = some (.bl (xs.any p)) := by
  simp [anyD, bls_map, List.any_map]
theorem p_is_written (ds : List D) (G : DG) (Q : D → DG → Prop) (E : DX → DG → Prop) (h : f_is_written K ds G Q E) : tb_is_written K (fnEnds Q E) (dstart N_is_written ds) G := by
  obtain ⟨z, hz, q⟩ := onO_iff.mp h
  unfold F_is_written at hz
  split at hz
  · rename_i x ch l m
    split at hz
    · rename_i hc
      obtain ⟨hn, hm⟩ := hc
      cases hz
      show tb_is_written K (fnEnds Q E) [some (.v x), some (.v (.str ch)), some (.v (.int l)), some (.v (.int m)), none] G
      cases x with
      | str s =>
        have hs : s.length ≤ 16777216 := by simpa [nrm] using hn
        have hl : lenD [.str s] = some (.int s.length) := if_pos hs
        have t1 : (pTst (pChain leD leD (pBo 2) (pCallB lenD (pCons (pBo 0) pNil)) (pBo 3))) [some (.v (.str s)), some (.v (.str ch)), some (.v (.int l)), some (.v (.int m)), none] G = some (decide (l ≤ (s.length : Int)) && decide ((s.length : Int) ≤ m)) := by
          show bO (bO (lenD [.str s]) fun y => _) blO = _
          rw [hl]
          show bO (match decide (l ≤ (s.length : Int)) with | true => _ | false => _) blO = _
          cases decide (l ≤ (s.length : Int)) <;> rfl
        have t2 : (qNot (pTst (pChain leD leD (pBo 2) (pCallB lenD (pCons (pBo 0) pNil)) (pBo 3)))) [some (.v (.str s)), some (.v (.str ch)), some (.v (.int l)), some (.v (.int m)), none] G = some (!(decide (l ≤ (s.length : Int)) && decide ((s.length : Int) ≤ m))) := by
          unfold qNot; rw [t1]; rfl
        refine onO_of (show _ = some _ from t2) ?_
        refine brP_of (fun hb => ?_) (fun hb => ?_)
        · have e : isWr (.str s) ch l m = false := by
            simp only [isWr, wrS]
            rw [Bool.not_eq_true'] at hb
            rw [hb]; rfl
          rw [e] at q
          exact q
        · have hb' : (decide (l ≤ (s.length : Int)) && decide ((s.length : Int) ≤ m)) = true := by simpa using hb
          have e : isWr (.str s) ch l m = s.cps.toList.all fun k => decide (k ∈ ch.cps.toList) := by
            simp only [isWr, wrS, hb', Bool.true_and]
          rw [e] at q
          have hm2 : s.cps.toList.length ≤ 1000000 := by
            simp only [Bool.and_eq_true, decide_eq_true_eq] at hb'
            have e : s.cps.toList.length = s.length := rfl
            omega
          have t3 := pLc_of (it := piSeq (pV 0)) (b := tN 4) (t := qYes) (p := pBin inD (pBo 4) (pBo 1)) (vs := [4]) (δ := [some (.v (.str s)), some (.v (.str ch)), some (.v (.int l)), some (.v (.int m)), none]) (G := G) (xs := s.cps.toList.map fun c => D.str ⟨#[c]⟩) (ys := s.cps.toList.map fun k => D.bl (decide (k ∈ ch.cps.toList))) rfl rfl (by simpa using hm2) (lcP_mapT _ _ _ fun k _ => ⟨_, rfl, rfl, rfl⟩)
          have t4 : (pCallB allD (pCons (pLst (pLc (piSeq (pV 0)) (tN 4) qYes (pBin inD (pBo 4) (pBo 1)) [4])) pNil)) [some (.v (.str s)), some (.v (.str ch)), some (.v (.int l)), some (.v (.int m)), none] G = some (.bl (s.cps.toList.all fun k => decide (k ∈ ch.cps.toList))) := by
            unfold pCallB pCons pLst
            rw [t3]
            exact all_map _ _
          exact onO_of t4 q
      | ref a => cases hn
      | ty a => cases hn
      | obj a b => cases hn
      | _ => exact q
    · cases hz
  · cases hz
theorem p_is_name (ds : List D) (G : DG) (Q : D → DG → Prop) (E : DX → DG → Prop) (h : f_is_name K ds G Q E) : tb_is_name K (fnEnds Q E) (dstart N_is_name ds) G := by
  obtain ⟨z, hz, q⟩ := onO_iff.mp h
  unfold F_is_name at hz
  split at hz
  · rename_i x
    split at hz
    · rename_i hn
      cases hz
      exact onO_of (show F_is_written K [x, .str letters, .int 1, .int 8] G = _ from if_pos ⟨hn, by decide⟩) q
    · cases hz
  · cases hz
theorem p_is_cell (ds : List D) (G : DG) (Q : D → DG → Prop) (E : DX → DG → Prop) (h : f_is_cell K ds G Q E) : tb_is_cell K (fnEnds Q E) (dstart N_is_cell ds) G := by
  obtain ⟨z, hz, q⟩ := onO_iff.mp h
  unfold F_is_cell at hz
  split at hz
  · rename_i x
    split at hz
    · rename_i hn
      cases hz
      exact onO_of (show F_is_written K [x, .str cellch, .int 0, .int 20] G = _ from if_pos ⟨hn, by decide⟩) q
    · cases hz
  · cases hz
theorem p_is_whole (ds : List D) (G : DG) (Q : D → DG → Prop) (E : DX → DG → Prop) (h : f_is_whole K ds G Q E) : tb_is_whole K (fnEnds Q E) (dstart N_is_whole ds) G := by
  obtain ⟨z, hz, q⟩ := onO_iff.mp h
  unfold F_is_whole at hz
  split at hz
  · rename_i x
    split at hz
    · rename_i hn
      cases hz
      cases x with
      | ref a => cases hn
      | ty a => cases hn
      | obj a b => cases hn
      | _ => exact q
    · cases hz
  · cases hz
end
end PG

set_option Elab.async false
set_option linter.all false
set_option maxRecDepth 100000
set_option maxHeartbeats 4000000
namespace PG
open PySem PySem.Spec L2 DD
section
variable {K : PySem.W.Frag}
theorem len_is_test {ds : List D} {G : DG} {Q : D → DG → Prop} {E : DX → DG → Prop} (h : f_is_test K ds G Q E) : ds.length = 2 := by
  obtain ⟨z, hz, q⟩ := onO_iff.mp h
  unfold F_is_test at hz
  split at hz
  · rfl
  · cases hz
theorem len_is_step {ds : List D} {G : DG} {Q : D → DG → Prop} {E : DX → DG → Prop} (h : f_is_step K ds G Q E) : ds.length = 2 := by
  obtain ⟨z, hz, q⟩ := onO_iff.mp h
  unfold F_is_step at hz
  split at hz
  · rfl
  · cases hz
theorem len_Form___init__ {ds : List D} {G : DG} {Q : D → DG → Prop} {E : DX → DG → Prop} (h : f_Form___init__ K ds G Q E) : ds.length = 3 := by unfold f_Form___init__ at h; obtain ⟨_, _, _, rfl, _⟩ := h; rfl
theorem len_Form___len__ {ds : List D} {G : DG} {Q : D → DG → Prop} {E : DX → DG → Prop} (h : f_Form___len__ K ds G Q E) : ds.length = 1 := by unfold f_Form___len__ at h; obtain ⟨_, _, _, rfl, _⟩ := h; rfl
theorem len_Form_steps {ds : List D} {G : DG} {Q : D → DG → Prop} {E : DX → DG → Prop} (h : f_Form_steps K ds G Q E) : ds.length = 1 := by unfold f_Form_steps at h; obtain ⟨_, _, _, rfl, _⟩ := h; rfl
theorem len_Form_columns {ds : List D} {G : DG} {Q : D → DG → Prop} {E : DX → DG → Prop} (h : f_Form_columns K ds G Q E) : ds.length = 1 := by unfold f_Form_columns at h; obtain ⟨_, _, _, rfl, _⟩ := h; rfl
theorem len_Form___getitem__ {ds : List D} {G : DG} {Q : D → DG → Prop} {E : DX → DG → Prop} (h : f_Form___getitem__ K ds G Q E) : ds.length = 2 := by unfold f_Form___getitem__ at h; obtain ⟨_, _, _, _, rfl, _⟩ := h; rfl
theorem p_Form_steps (ds : List D) (G : DG) (Q : D → DG → Prop) (E : DX → DG → Prop) (h : f_Form_steps K ds G Q E) : tb_Form_steps K (fnEnds Q E) (dstart N_Form_steps ds) G := by
  unfold f_Form_steps at h
  obtain ⟨x, cs, st, rfl, rfl, q⟩ := h
  exact ⟨_, ⟨rfl, rfl⟩, q⟩
theorem p_Form_columns (ds : List D) (G : DG) (Q : D → DG → Prop) (E : DX → DG → Prop) (h : f_Form_columns K ds G Q E) : tb_Form_columns K (fnEnds Q E) (dstart N_Form_columns ds) G := by
  unfold f_Form_columns at h
  obtain ⟨x, cs, st, rfl, rfl, q⟩ := h
  exact ⟨_, ⟨rfl, rfl⟩, q⟩
theorem p_Form___len__ (ds : List D) (G : DG) (Q : D → DG → Prop) (E : DX → DG → Prop) (h : f_Form___len__ K ds G Q E) : tb_Form___len__ K (fnEnds Q E) (dstart N_Form___len__ ds) G := by
  unfold f_Form___len__ at h
  obtain ⟨x, cs, st, rfl, rfl, q⟩ := h
  exact ⟨.tup st, ⟨rfl, rfl⟩, rfl, _, rfl, q⟩
theorem qn_fn {F : List D → DG → Option D} {l : PAs} {δ : DSt} {G : DG} {xs : List D} {b : Bool} (h : l δ G = some xs) (hF : F xs G = some (.bl b)) : qNot (pTru (pFn F l)) δ G = some (!b) := by simp [qNot, pTru, pFn, bO, h, hF, truD]
theorem F_whole (K : PySem.W.Frag) {x : D} {G : DG} (h : nrm x = true) : F_is_whole K [x] G = some (.bl (isWhole x)) := by simp [F_is_whole, h]
theorem F_cell (K : PySem.W.Frag) {x : D} {G : DG} (h : nrm x = true) : F_is_cell K [x] G = some (.bl (isCell x)) := by simp [F_is_cell, h]
theorem p_Form___getitem__ (ds : List D) (G : DG) (Q : D → DG → Prop) (E : DX → DG → Prop) (h : f_Form___getitem__ K ds G Q E) : tb_Form___getitem__ K (fnEnds Q E) (dstart N_Form___getitem__ ds) G := by
  unfold f_Form___getitem__ at h
  obtain ⟨x, cs, st, k, rfl, rfl, hn, q⟩ := h
  refine onO_of (qn_fn (b := isWhole k) rfl (F_whole K hn)) ?_
  cases k with
  | int i =>
    refine ⟨rfl, decide (0 ≤ i), rfl, ?_⟩
    by_cases h0 : 0 ≤ i
    · simp only [h0, decide_true, if_true]
      refine ⟨.tup st, ⟨rfl, rfl⟩, rfl, _, rfl, rfl, _, rfl, _, rfl, ?_⟩
      refine brP_of (fun hb => ?_) (fun hb => ?_)
      · have hb : ¬ i < (st.length : Int) := by simpa using hb
        have e : ixOk (.int i) st.length = none := if_neg (by omega)
        rw [e] at q
        exact q
      · have hb : i < (st.length : Int) := by simpa using hb
        have e : ixOk (.int i) st.length = some i.toNat := if_pos ⟨h0, hb⟩
        rw [e] at q
        obtain ⟨y, hy, q⟩ := q
        have e : ixD (.tup st) (.int i) = some y := by
          show atI st i = some y
          simp [atI, ixN, h0, hb]
          exact (List.getElem?_eq_some_iff.mp hy).2
        exact ⟨.tup st, ⟨rfl, rfl⟩, show onO (ixD (.tup st) (.int i)) (fun z => Q z G) from onO_of e q⟩
    · simp only [h0, decide_false, Bool.false_eq_true, if_false]
      have e : ixOk (.int i) st.length = none := if_neg (by omega)
      rw [e] at q
      exact ⟨_, rfl, q⟩
  | _ => exact q
theorem in_strs {c : Str} {cs : List Str} : inD (.str c) (.tup (cs.map D.str)) = some (.bl (decide (c ∈ cs))) := by
  show (if flatD (.str c) = true ∧ (cs.map D.str).all flatD = true then some (D.bl ((cs.map D.str).any fun y => beq 49 y (.str c))) else none) = _
  have h : (cs.map D.str).all flatD = true := by simp [flatD]
  rw [if_pos ⟨rfl, h⟩]
  congr 2
  rw [Bool.eq_iff_iff]
  simp only [List.any_eq_true, decide_eq_true_eq, List.mem_map]
  constructor
  · rintro ⟨_, ⟨y, hy, rfl⟩, e⟩
    have e : (y == c) = true := e
    rw [← beq_iff_eq.mp e]; exact hy
  · intro h
    exact ⟨_, ⟨c, h, rfl⟩, (show (c == c) = true from beq_self_eq_true c)⟩
theorem not_in_strs {c : Str} {cs : List Str} : notInD (.str c) (.tup (cs.map D.str)) = some (.bl (!decide (c ∈ cs))) := by
  unfold notInD; rw [in_strs]
theorem isTest_short (cs : List Str) (xs : List D) (h : xs.length < 3) : isTest cs (.tup xs) = false := by
  match xs, h with
  | [], _ => rfl
  | [a], _ => cases a <;> rfl
  | [a, b], _ => cases a <;> first | rfl | (cases b <;> rfl)
  | a :: b :: c :: r, h => simp at h; omega
theorem isTest_long (cs : List Str) (a b c d e : D) (r : List D) : isTest cs (.tup (a :: b :: c :: d :: e :: r)) = false := by
  cases a <;> first | rfl | (cases b <;> first | rfl | (cases d <;> first | rfl | (cases c <;> rfl)))
def isBl : D → Bool
  | .bl _ => true
  | _ => false
theorem isTest_nb3 (cs : List Str) (a b c : D) (h : isBl c = false) : isTest cs (.tup [a, b, c]) = false := by
  cases c <;> first | (cases h; done) | (cases a <;> first | rfl | (cases b <;> rfl))
theorem isTest_nb4 (cs : List Str) (a b c d : D) (h : isBl d = false) : isTest cs (.tup [a, b, c, d]) = false := by
  cases d <;> first | (cases h; done) | (cases a <;> first | rfl | (cases b <;> first | rfl | (cases c <;> rfl)))
theorem isi_nrm {k : Kd} {x : D} {G : DG} (h : nrm x = true) : ∃ t, kdOf x = some t ∧ isiD k x G = some (.bl (kdIs t k)) := by
  cases x <;> first | exact ⟨_, rfl, rfl⟩ | cases h
theorem q_isi {k : Kd} {p : PX} {δ : DSt} {G : DG} {x : D} (hp : p δ G = some x) (h : nrm x = true) : ∃ t, kdOf x = some t ∧ qNot (pTru (pIsi k p)) δ G = some (!kdIs t k) := by
  obtain ⟨t, h1, h2⟩ := isi_nrm (k := k) (G := G) h
  exact ⟨t, h1, by simp [qNot, pTru, pIsi, bO, hp, h2, truD]⟩
theorem kd_str {x : D} {t : Kd} (h : kdOf x = some t) (h2 : kdIs t .str = true) : ∃ s, x = .str s := by
  cases x <;> first | exact ⟨_, rfl⟩ | (cases h; cases h2; done) | (cases h; done)
theorem kd_bl {x : D} {t : Kd} (h : kdOf x = some t) : kdIs t .bl = isBl x := by
  cases x <;> first | (cases h; rfl) | (cases h; done)
theorem at_last {xs : List D} {x : D} (h : 0 < xs.length) (e : xs[xs.length - 1]? = some x) : ixD (.tup xs) (.int (-1)) = some x := by
  show atI xs (-1) = some x
  unfold atI ixN
  rw [if_neg (by omega), if_pos (by omega)]
  have : (-1 + (xs.length : Int)).toNat = xs.length - 1 := by omega
  simpa [this] using e
theorem at_nat {xs : List D} {x : D} (i : Nat) (h : xs[i]? = some x) : ixD (.tup xs) (.int (i : Nat)) = some x := by
  show atI xs _ = _
  have hl := (List.getElem?_eq_some_iff.mp h).1
  unfold atI ixN
  rw [if_pos (by omega), if_pos (by omega)]
  simpa using h
theorem p_is_test (ds : List D) (G : DG) (Q : D → DG → Prop) (E : DX → DG → Prop) (h : f_is_test K ds G Q E) : tb_is_test K (fnEnds Q E) (dstart N_is_test ds) G := by
  obtain ⟨z, hz, q⟩ := onO_iff.mp h
  unfold F_is_test at hz
  split at hz
  · rename_i cs x
    split at hz
    · rename_i zs hcs
      split at hz
      · rename_i hn
        cases hz
        rw [strsD_iff hcs]
        show tb_is_test K (fnEnds Q E) [some (.v (.tup (zs.map D.str))), some (.v x)] G
        cases x with
        | tup xs =>
          have hns : ∀ y ∈ xs, nrm y = true := by
            simp only [nrmL, nrm, Bool.true_and, Bool.and_eq_true, List.all_eq_true] at hn
            exact hn.2
          match xs, hns, q with
          | [], hns, q => exact q
          | [a], hns, q => rw [isTest_short _ _ (by simp)] at q; exact q
          | [a, b], hns, q => rw [isTest_short _ _ (by simp)] at q; exact q
          | [a, b, c], hns, q =>
            obtain ⟨t, h1, h2⟩ := q_isi (k := .bl) (p := pBin ixD (pBo 1) (pUn negD (pC (.int 1)))) (δ := [some (.v (.tup (zs.map D.str))), some (.v (.tup [a, b, c]))]) (G := G) (x := c) rfl (hns c (by simp))
            rw [kd_bl h1] at h2
            refine onO_of (show _ = some _ from h2) (brP_of (fun hb => ?_) (fun hb => ?_))
            · rw [isTest_nb3 _ _ _ _ (by simpa using hb)] at q
              exact q
            obtain ⟨t1, h3, h4⟩ := q_isi (k := .str) (p := pBin ixD (pBo 1) (pC (.int 0))) (δ := [some (.v (.tup (zs.map D.str))), some (.v (.tup [a, b, c]))]) (G := G) (x := a) rfl (hns a (by simp))
            obtain ⟨t2, h5, h6⟩ := q_isi (k := .str) (p := pBin ixD (pBo 1) (pC (.int 1))) (δ := [some (.v (.tup (zs.map D.str))), some (.v (.tup [a, b, c]))]) (G := G) (x := b) rfl (hns b (by simp))
            cases k1 : kdIs t1 .str with
            | false =>
              rw [k1] at h4
              have e : isTest zs (.tup [a, b, c]) = false := by cases a <;> first | rfl | (cases h3; cases k1; done)
              rw [e] at q
              exact onO_of (show _ = some true from by show bO (qNot _ _ _) _ = _; rw [h4]; rfl) q
            | true =>
              obtain ⟨k, rfl⟩ := kd_str h3 k1
              cases k2 : kdIs t2 .str with
              | false =>
                rw [k2] at h6
                have e : isTest zs (.tup [.str k, b, c]) = false := by cases b <;> first | rfl | (cases h5; cases k2; done)
                rw [e] at q
                exact onO_of (show _ = some true from by show bO (qNot (pTru (pIsi Kd.str (pBin ixD (pBo 1) (pC (D.int 1))))) _ _) _ = _; rw [h6]; rfl) q
              | true =>
                obtain ⟨n, rfl⟩ := kd_str h5 k2
                cases c <;> first | (cases hb; done) | skip
                rename_i w
                refine onO_of (z := !(decide (n ∈ zs))) (show bO (notInD (.str n) (.tup (zs.map D.str))) blO = _ from by rw [not_in_strs]; rfl) (brP_of (fun hb => ?_) (fun hb => ?_))
                · have hb : n ∉ zs := by simpa using hb
                  simp [isTest, hb] at q
                  exact q
                have hb : n ∈ zs := by simpa using hb
                refine brP_of (fun hk => ?_) (fun hk => ?_)
                · have hk : k = "same" := by simpa [beq] using hk
                  simp [isTest, hb, hk] at q
                  exact q
                · have hk : k ≠ "same" := by simpa [beq] using hk
                  simp [isTest, hb, hk] at q
                  refine onO_of (z := .bl false) ?_ q
                  show (match (k == "is") with | true => _ | false => _) = _
                  cases (k == "is") <;> rfl
          | [a, b, x, c], hns, q =>
            obtain ⟨t, h1, h2⟩ := q_isi (k := .bl) (p := pBin ixD (pBo 1) (pUn negD (pC (.int 1)))) (δ := [some (.v (.tup (zs.map D.str))), some (.v (.tup [a, b, x, c]))]) (G := G) (x := c) rfl (hns c (by simp))
            rw [kd_bl h1] at h2
            refine onO_of (show _ = some _ from h2) (brP_of (fun hb => ?_) (fun hb => ?_))
            · rw [isTest_nb4 _ _ _ _ _ (by simpa using hb)] at q
              exact q
            obtain ⟨t1, h3, h4⟩ := q_isi (k := .str) (p := pBin ixD (pBo 1) (pC (.int 0))) (δ := [some (.v (.tup (zs.map D.str))), some (.v (.tup [a, b, x, c]))]) (G := G) (x := a) rfl (hns a (by simp))
            obtain ⟨t2, h5, h6⟩ := q_isi (k := .str) (p := pBin ixD (pBo 1) (pC (.int 1))) (δ := [some (.v (.tup (zs.map D.str))), some (.v (.tup [a, b, x, c]))]) (G := G) (x := b) rfl (hns b (by simp))
            cases c <;> first | (cases hb; done) | skip
            rename_i w
            cases k1 : kdIs t1 .str with
            | false =>
              rw [k1] at h4
              have e : isTest zs (.tup [a, b, x, .bl w]) = false := by cases a <;> first | rfl | (cases h3; cases k1; done)
              rw [e] at q
              exact onO_of (show _ = some true from by show bO (qNot _ _ _) _ = _; rw [h4]; rfl) q
            | true =>
              obtain ⟨k, rfl⟩ := kd_str h3 k1
              cases k2 : kdIs t2 .str with
              | false =>
                rw [k2] at h6
                have e : isTest zs (.tup [.str k, b, x, .bl w]) = false := by cases b <;> first | rfl | (cases h5; cases k2; done)
                rw [e] at q
                exact onO_of (show _ = some true from by show bO (qNot (pTru (pIsi Kd.str (pBin ixD (pBo 1) (pC (D.int 1))))) _ _) _ = _; rw [h6]; rfl) q
              | true =>
                obtain ⟨n, rfl⟩ := kd_str h5 k2
                refine onO_of (z := !(decide (n ∈ zs))) (show bO (notInD (.str n) (.tup (zs.map D.str))) blO = _ from by rw [not_in_strs]; rfl) (brP_of (fun hb => ?_) (fun hb => ?_))
                · have hb : n ∉ zs := by simpa using hb
                  have e : isTest zs (.tup [.str k, .str n, x, .bl w]) = false := by cases x <;> simp [isTest, hb]
                  rw [e] at q
                  exact q
                have hb : n ∈ zs := by simpa using hb
                have e : isTest zs (.tup [.str k, .str n, x, .bl w]) = (decide (k = "is") && isCell x) := by cases x <;> simp [isTest, hb]
                rw [e] at q
                refine brP_of (fun hk => ?_) (fun hk => ?_)
                · have hk : k = "same" := by simpa [beq] using hk
                  subst hk
                  exact q
                · refine onO_of (z := .bl (decide (k = "is") && isCell x)) ?_ q
                  have hc := F_cell K (G := G) (hns x (by simp))
                  show (match (k == "is") with | true => F_is_cell K [x] G | false => some (.bl false)) = _
                  by_cases hi : k = "is"
                  · subst hi
                    rw [hc]; rfl
                  · have : (k == "is") = false := by simpa using hi
                    rw [this]; simp [hi]
          | a :: b :: c :: d :: e :: r, hns, q =>
            rw [isTest_long] at q
            generalize hxs : a :: b :: c :: d :: e :: r = xs at hns
            have hl : xs.length = r.length + 5 := by rw [← hxs]; simp
            have ha : ixD (.tup xs) (.int 0) = some a := at_nat 0 (by rw [← hxs]; rfl)
            have hb0 : ixD (.tup xs) (.int 1) = some b := at_nat 1 (by rw [← hxs]; rfl)
            obtain ⟨y, hy⟩ : ∃ y, xs[xs.length - 1]? = some y := ⟨_, List.getElem?_eq_getElem (by omega)⟩
            have hyy : ixD (.tup xs) (.int (-1)) = some y := at_last (by omega) hy
            have hym : y ∈ xs := List.mem_of_getElem? hy
            have ht1 : (pTst (pBin ltD (pCallB lenD (pCons (pBo 1) pNil)) (pC (.int 3)))) [some (.v (.tup (zs.map D.str))), some (.v (.tup xs))] G = some false := by
              show some (decide ((xs.length : Int) < 3)) = some false
              rw [decide_eq_false (by omega)]
            obtain ⟨t, h1, h2⟩ := q_isi (k := .bl) (p := pBin ixD (pBo 1) (pUn negD (pC (.int 1)))) (δ := [some (.v (.tup (zs.map D.str))), some (.v (.tup xs))]) (G := G) (x := y) hyy (hns y hym)
            refine onO_of (z := !kdIs t .bl) ?_ (brP_of (fun hb => q) (fun hb => ?_))
            · exact qOr_f rfl (qOr_f ht1 h2)
            obtain ⟨t1, h3, h4⟩ := q_isi (k := .str) (p := pBin ixD (pBo 1) (pC (.int 0))) (δ := [some (.v (.tup (zs.map D.str))), some (.v (.tup xs))]) (G := G) (x := a) ha (hns a (by rw [← hxs]; simp))
            obtain ⟨t2, h5, h6⟩ := q_isi (k := .str) (p := pBin ixD (pBo 1) (pC (.int 1))) (δ := [some (.v (.tup (zs.map D.str))), some (.v (.tup xs))]) (G := G) (x := b) hb0 (hns b (by rw [← hxs]; simp))
            cases k1 : kdIs t1 .str with
            | false =>
              rw [k1] at h4
              exact onO_of (show _ = some true from by show bO (qNot _ _ _) _ = _; rw [h4]; rfl) q
            | true =>
              obtain ⟨k, rfl⟩ := kd_str h3 k1
              rw [k1] at h4
              cases k2 : kdIs t2 .str with
              | false =>
                rw [k2] at h6
                refine onO_of (show _ = some true from ?_) q
                show bO (qNot _ _ _) _ = _
                rw [h4]
                show bO (qNot _ _ _) _ = _
                rw [h6]; rfl
              | true =>
                obtain ⟨n, rfl⟩ := kd_str h5 k2
                rw [k2] at h6
                refine onO_of (z := !(decide (n ∈ zs))) ?_ (brP_of (fun hb => q) (fun hb2 => ?_))
                · show bO (qNot _ _ _) _ = _
                  rw [h4]
                  show bO (qNot _ _ _) _ = _
                  rw [h6]
                  show bO (bO (ixD (.tup xs) (.int 1)) fun x => notInD x (.tup (zs.map D.str))) blO = _
                  rw [hb0]
                  show bO (notInD (.str n) (.tup (zs.map D.str))) blO = _
                  rw [not_in_strs]; rfl
                refine onO_of (z := k == "same") (show bO (bO (ixD (.tup xs) (.int 0)) fun x => eqD x (.str "same")) blO = _ from by rw [ha]; rfl) (brP_of (fun hk => ?_) (fun hk => ?_))
                · have : ((xs.length : Int) == 3) = false := by simp; omega
                  have e3 : (pBin eqD (pCallB lenD (pCons (pBo 1) pNil)) (pC (.int 3))) [some (.v (.tup (zs.map D.str))), some (.v (.tup xs))] G = some (.bl false) := pBin_of (x := .int xs.length) (y := .int 3) (pLen_tup rfl) rfl (show some (D.bl ((xs.length : Int) == 3)) = some (D.bl false) from by rw [this])
                  have g : onO ((pBin eqD (pCallB lenD (pCons (pBo 1) pNil)) (pC (.int 3))) [some (.v (.tup (zs.map D.str))), some (.v (.tup xs))] G) (fun z => Q z G) := onO_of e3 q
                  exact g
                · have : ((xs.length : Int) == 4) = false := by simp; omega
                  have e4 : (pBin eqD (pCallB lenD (pCons (pBo 1) pNil)) (pC (.int 4))) [some (.v (.tup (zs.map D.str))), some (.v (.tup xs))] G = some (.bl false) := pBin_of (x := .int xs.length) (y := .int 4) (pLen_tup rfl) rfl (show some (D.bl ((xs.length : Int) == 4)) = some (D.bl false) from by rw [this])
                  have e5 : (pBin eqD (pBin ixD (pBo 1) (pC (.int 0))) (pC (.str "is"))) [some (.v (.tup (zs.map D.str))), some (.v (.tup xs))] G = some (.bl (k == "is")) := pBin_of (pBin_of rfl rfl ha) rfl rfl
                  refine onO_of (z := D.bl false) ?_ q
                  cases hk2 : (k == "is") with
                  | true => rw [hk2] at e5; exact pAnd_t e5 (pAnd_f e4)
                  | false => rw [hk2] at e5; exact pAnd_f e5
        | ref a => cases hn
        | ty a => cases hn
        | obj a b => cases hn
        | _ => exact q
      · cases hz
    · cases hz
  · cases hz
end
end PG

set_option Elab.async false
set_option linter.all false
set_option maxRecDepth 100000
set_option maxHeartbeats 4000000
namespace PG
open PySem PySem.Spec L2 DD
section
variable {K : PySem.W.Frag}
theorem isStep_nil (cs : List Str) : isStep cs (.tup []) = false := rfl
theorem isStep_long (cs : List Str) (a b c : D) (r : List D) : isStep cs (.tup (a :: b :: c :: r)) = false := by cases a <;> rfl
theorem isStep_ns (cs : List Str) (a : D) (r : List D) {t : Kd} (h : kdOf a = some t) (k : kdIs t .str = false) : isStep cs (.tup (a :: r)) = false := by
  cases a <;> first | rfl | (cases h; cases k; done)
theorem in2 {s u v : Str} : inD (.str s) (.tup [.str u, .str v]) = some (.bl (decide (s = u ∨ s = v))) := by
  have := in_strs (c := s) (cs := [u, v])
  simpa using this
theorem F_test (K : PySem.W.Frag) {zs : List Str} {x : D} {G : DG} (h : nrmL x = true) : F_is_test K [.tup (zs.map D.str), x] G = some (.bl (isTest zs x)) := F_test_eC K h
theorem nrm_of_L {x : D} (h : nrmL x = true) : nrm x = true := by
  simp only [nrmL, Bool.and_eq_true] at h; exact h.1
theorem p_is_step (ds : List D) (G : DG) (Q : D → DG → Prop) (E : DX → DG → Prop) (h : f_is_step K ds G Q E) : tb_is_step K (fnEnds Q E) (dstart N_is_step ds) G := by
  obtain ⟨z, hz, q⟩ := onO_iff.mp h
  unfold F_is_step at hz
  split at hz
  · rename_i cs x
    split at hz
    · rename_i zs hcs
      split at hz
      · rename_i hn
        cases hz
        rw [strsD_iff hcs]
        show tb_is_step K (fnEnds Q E) [some (.v (.tup (zs.map D.str))), some (.v x)] G
        cases x with
        | tup xs =>
          have hns : ∀ y ∈ xs, nrmL y = true := by
            simp only [nrmR, nrm, Bool.true_and, Bool.and_eq_true, List.all_eq_true] at hn
            exact hn.2
          match xs, hns, q with
          | [], hns, q => exact q
          | [a], hns, q =>
            have hl : (pTst (pBin eqD (pCallB lenD (pCons (pBo 1) pNil)) (pC (.int 0)))) [some (.v (.tup (zs.map D.str))), some (.v (.tup [a]))] G = some false := rfl
            obtain ⟨t1, h3, h4⟩ := q_isi (k := .str) (p := pBin ixD (pBo 1) (pC (.int 0))) (δ := [some (.v (.tup (zs.map D.str))), some (.v (.tup [a]))]) (G := G) (x := a) rfl (nrm_of_L (hns a (by simp)))
            refine onO_of (qOr_f rfl (qOr_f hl h4)) (brP_of (fun hb => ?_) (fun hb => ?_))
            · rw [isStep_ns zs a [] h3 (by simpa using hb)] at q
              exact q
            obtain ⟨k, rfl⟩ := kd_str h3 (by simpa using hb)
            have e : isStep zs (.tup [.str k]) = decide (k = "label" ∨ k = "next") := by simp [isStep]
            rw [e] at q
            have g : onO (inD (.str k) (.tup [.str "label", .str "next"])) (fun z => Q z G) := onO_of in2 q
            exact g
          | [a, b], hns, q =>
            have hl : (pTst (pBin eqD (pCallB lenD (pCons (pBo 1) pNil)) (pC (.int 0)))) [some (.v (.tup (zs.map D.str))), some (.v (.tup [a, b]))] G = some false := rfl
            obtain ⟨t1, h3, h4⟩ := q_isi (k := .str) (p := pBin ixD (pBo 1) (pC (.int 0))) (δ := [some (.v (.tup (zs.map D.str))), some (.v (.tup [a, b]))]) (G := G) (x := a) rfl (nrm_of_L (hns a (by simp)))
            refine onO_of (qOr_f rfl (qOr_f hl h4)) (brP_of (fun hb => ?_) (fun hb => ?_))
            · rw [isStep_ns zs a [b] h3 (by simpa using hb)] at q
              exact q
            obtain ⟨k, rfl⟩ := kd_str h3 (by simpa using hb)
            have hb1 := hns b (by simp)
            refine brP_of (fun hk => ?_) (fun hk => ?_)
            · have hk : k = "next" ∨ k = "skip" := by
                have hk := hk
                simp [beq] at hk
                rcases hk with h | h
                · exact .inl h.symm
                · exact .inr h.symm
              simp only [isStep, if_pos hk] at q
              have g : onO (F_is_test K [.tup (zs.map D.str), b] G) (fun z => Q z G) := onO_of (F_test K hb1) q
              exact g
            have hk : ¬ (k = "next" ∨ k = "skip") := by rintro (rfl | rfl) <;> simp [beq] at hk
            refine brP_of (fun hw => ?_) (fun hw => ?_)
            · have hw : k = "word" := by simpa [beq] using hw
              simp only [isStep, if_neg hk, if_pos hw] at q
              have g : onO (F_is_cell K [b] G) (fun z => Q z G) := onO_of (F_cell K (nrm_of_L hb1)) q
              exact g
            have hw : ¬ k = "word" := by simpa [beq] using hw
            simp only [isStep, if_neg hk, if_neg hw] at q
            have h5 : inD (.str k) (.tup (List.map D.str ["put", "keep", "say", "first"])) = some (.bl (decide (k = "put") || (decide (k = "keep") || (decide (k = "say") || decide (k = "first"))))) := by
              rw [in_strs]; simp
            have g : onO ((pAnd (pBin inD (pBin ixD (pBo 1) (pC (.int 0))) (pC (.tup (List.map D.str ["put", "keep", "say", "first"])))) (pAnd (pIsi .str (pBin ixD (pBo 1) (pC (.int 1)))) (pBin inD (pBin ixD (pBo 1) (pC (.int 1))) (pBo 0)))) [some (.v (.tup (zs.map D.str))), some (.v (.tup [.str k, b]))] G) (fun z => Q z G) := by
              refine onO_of (pAnd_of (pBin_of (x := .str k) rfl rfl h5) fun _ => ?_) q
              cases b with
              | str n => exact pAnd_t rfl (pBin_of (x := .str n) rfl rfl in_strs)
              | ref a => cases hb1
              | ty a => cases hb1
              | obj a b => cases hb1
              | _ => rfl
            exact g
          | a :: b :: c :: r, hns, q =>
            rw [isStep_long] at q
            have hl : (pTst (pBin eqD (pCallB lenD (pCons (pBo 1) pNil)) (pC (.int 0)))) [some (.v (.tup (zs.map D.str))), some (.v (.tup (a :: b :: c :: r)))] G = some false := by
              refine pTst_of (pBin_of (x := .int (a :: b :: c :: r).length) (y := .int 0) (pLen_tup rfl) rfl ?_)
              have : (((a :: b :: c :: r).length : Int) == 0) = false := by simp; omega
              exact congrArg (fun z => some (D.bl z)) this
            have hl1 : (pTst (pBin eqD (pCallB lenD (pCons (pBo 1) pNil)) (pC (.int 1)))) [some (.v (.tup (zs.map D.str))), some (.v (.tup (a :: b :: c :: r)))] G = some false := by
              refine pTst_of (pBin_of (x := .int (a :: b :: c :: r).length) (y := .int 1) (pLen_tup rfl) rfl ?_)
              have : (((a :: b :: c :: r).length : Int) == 1) = false := by simp; omega
              exact congrArg (fun z => some (D.bl z)) this
            have hl2 : (pTst (pBin neD (pCallB lenD (pCons (pBo 1) pNil)) (pC (.int 2)))) [some (.v (.tup (zs.map D.str))), some (.v (.tup (a :: b :: c :: r)))] G = some true := by
              refine pTst_of (pBin_of (x := .int (a :: b :: c :: r).length) (y := .int 2) (pLen_tup rfl) rfl ?_)
              have : (((a :: b :: c :: r).length : Int) == 2) = false := by simp; omega
              exact congrArg (fun z => some (D.bl (!z))) this
            obtain ⟨t1, h3, h4⟩ := q_isi (k := .str) (p := pBin ixD (pBo 1) (pC (.int 0))) (δ := [some (.v (.tup (zs.map D.str))), some (.v (.tup (a :: b :: c :: r)))]) (G := G) (x := a) (at_nat 0 rfl) (nrm_of_L (hns a (by simp)))
            refine onO_of (qOr_f rfl (qOr_f hl h4)) (brP_of (fun hb => q) (fun hb => ?_))
            exact q
        | ref a => cases hn
        | ty a => cases hn
        | obj a b => cases hn
        | _ => exact q
      · cases hz
    · cases hz
  · cases hz
theorem F_name (K : PySem.W.Frag) {x : D} {G : DG} (h : nrm x = true) : F_is_name K [x] G = some (.bl (isName x)) := by simp [F_is_name, h]
theorem strs_names : ∀ {xs : List D}, xs.all isName = true → ∃ zs, strsD xs = some zs
  | [], _ => ⟨[], rfl⟩
  | x :: r, h => by
    rw [List.all_cons, Bool.and_eq_true] at h
    obtain ⟨zs, e⟩ := strs_names h.2
    cases x with
    | str s => exact ⟨s :: zs, by simp [strsD, e]⟩
    | _ => exact absurd h.1 (by simp [isName, isWr])
theorem p_are_columns (ds : List D) (G : DG) (Q : D → DG → Prop) (E : DX → DG → Prop) (h : f_are_columns K ds G Q E) : tb_are_columns K (fnEnds Q E) (dstart N_are_columns ds) G := by
  obtain ⟨z, hz, q⟩ := onO_iff.mp h
  unfold F_are_columns at hz
  split at hz
  · rename_i x
    split at hz
    · rename_i hn
      cases hz
      show tb_are_columns K (fnEnds Q E) [some (.v x), none] G
      cases x with
      | tup xs =>
        have hns : ∀ y ∈ xs, nrm y = true := by
          simp only [nrmL, nrm, Bool.true_and, Bool.and_eq_true, List.all_eq_true] at hn
          exact hn.2
        have ht : (pTst (pChain leD leD (pC (.int 1)) (pCallB lenD (pCons (pBo 0) pNil)) (pC (.int 5)))) [some (.v (.tup xs)), none] G = some (decide (1 ≤ xs.length) && decide (xs.length ≤ 5)) := by
          refine pTst_of ?_
          by_cases h1 : 1 ≤ xs.length
          · rw [pChain_t (x := .int 1) (y := .int xs.length) (y' := .int 5) rfl (pLen_tup rfl) (show some (D.bl (decide ((1 : Int) ≤ xs.length))) = _ from by rw [decide_eq_true (by omega)]) rfl rfl]
            simp only [h1, decide_true, Bool.true_and]
            show some (D.bl (decide ((xs.length : Int) ≤ 5))) = some (D.bl (decide (xs.length ≤ 5)))
            have : decide ((xs.length : Int) ≤ 5) = decide (xs.length ≤ 5) := decide_eq_decide.mpr (by omega)
            rw [this]
          · rw [pChain_f (x := .int 1) (y := .int xs.length) rfl (pLen_tup rfl) (show some (D.bl (decide ((1 : Int) ≤ xs.length))) = _ from by rw [decide_eq_false (by omega)])]
            simp [h1]
        refine onO_of (qOr_f rfl (qNot_of ht)) (brP_of (fun hb => ?_) (fun hb => ?_))
        · have hb : (decide (1 ≤ xs.length) && decide (xs.length ≤ 5)) = false := by rw [Bool.not_eq_true'] at hb; exact hb
          have e : areCols (.tup xs) = false := by simp only [areCols, hb, Bool.false_and]
          rw [e] at q
          exact q
        · have hb : (decide (1 ≤ xs.length) && decide (xs.length ≤ 5)) = true := by rw [Bool.not_eq_false'] at hb; exact hb
          have hb2 : xs.length ≤ 5 := by simp only [Bool.and_eq_true, decide_eq_true_eq] at hb; exact hb.2
          have t3 := pLc_of (it := piSeq (pV 0)) (b := tN 1) (t := qYes) (p := pFn (F_is_name K) (pCons (pV 1) pNil)) (vs := [1]) (δ := [some (.v (.tup xs)), none]) (G := G) (xs := xs) (ys := xs.map fun x => D.bl (isName x)) rfl rfl (by omega) (lcP_map _ _ fun y hy => ⟨_, rfl, rfl, F_name K (G := G) (hns y hy)⟩)
          have t4 : (pCallB allD (pCons (pLst (pLc (piSeq (pV 0)) (tN 1) qYes (pFn (F_is_name K) (pCons (pV 1) pNil)) [1])) pNil)) [some (.v (.tup xs)), none] G = some (.bl (xs.all isName)) := pCallB_of (pCons_of (pLst_of t3) rfl) (all_map _ _)
          have e : areCols (.tup xs) = (xs.all isName && distD xs) := by simp only [areCols, hb, Bool.true_and]
          rw [e] at q
          refine onO_of (pAnd_of t4 fun hall => ?_) q
          obtain ⟨zs, hz⟩ := strs_names hall
          have hd : distD xs = decide ((DDs.metAll zs).length = xs.length) := by unfold distD; rw [hz]
          rw [hd]
          have h5 : (pLenSet (pBo 0)) [some (.v (.tup xs)), none] G = some (.int (DDs.metAll zs).length) := by
            show bO (strsD xs) _ = _
            rw [hz]
            show (match lenLe 1000 xs with | true => some (D.int (DDs.metAll zs).length) | false => none) = _
            rw [lenLe_iff.mpr (by omega)]
          refine pBin_of h5 (pLen_tup rfl) ?_
          show some (D.bl (((DDs.metAll zs).length : Int) == xs.length)) = _
          congr 2
          rw [Bool.eq_iff_iff]
          simp
          omega
      | ref a => cases hn
      | ty a => cases hn
      | obj a b => cases hn
      | _ => exact q
    · cases hz
  · cases hz
theorem F_cols (K : PySem.W.Frag) {x : D} {G : DG} (h : nrmL x = true) : F_are_columns K [x] G = some (.bl (areCols x)) := by simp [F_are_columns, h]
theorem F_step (K : PySem.W.Frag) {zs : List Str} {x : D} {G : DG} (h : nrmR x = true) : F_is_step K [.tup (zs.map D.str), x] G = some (.bl (isStep zs x)) := F_step_eC K h
theorem p_Form___init__ (ds : List D) (G : DG) (Q : D → DG → Prop) (E : DX → DG → Prop) (h : f_Form___init__ K ds G Q E) : tb_Form___init__ K (fnEnds Q E) (dstart N_Form___init__ ds) G := by
  unfold f_Form___init__ at h
  obtain ⟨a, cs, st, rfl, ga, hc, hs, q⟩ := h
  show tb_Form___init__ K (fnEnds Q E) [some (.v (.ref a)), some (.v cs), some (.v st), none, none] G
  refine onO_of (qn_fn (b := areCols cs) rfl (F_cols K hc)) (brP_of (fun hb => ?_) (fun hb => ?_))
  · have hb : areCols cs = false := by simpa using hb
    simp only [mkF, hb, Bool.false_eq_true, if_false] at q
    exact q
  have hb : areCols cs = true := by simpa using hb
  obtain ⟨zs, rfl, _⟩ := areCols_iff hb
  unfold mkF at q
  rw [if_pos hb] at q
  simp only [eC, strsD_map] at q
  cases st with
  | tup xs =>
    cases xs with
    | nil => exact q
    | cons x0 xr =>
      have hns : ∀ y ∈ x0 :: xr, nrmR y = true := by
        simp only [nrmQ, nrm, Bool.true_and, Bool.and_eq_true, List.all_eq_true] at hs
        exact hs.2
      simp only at q
      generalize hxs : x0 :: xr = xs at q hns
      refine brP_of (fun hb2 => ?_) (fun _ => ?_)
      · exfalso
        have hb3 : ((xs.length : Int) == 0) = true := hb2
        rw [← hxs] at hb3
        simp at hb3
        omega
      refine for_inv (I := fun r δ G' => ∃ i ys s3 s4, r = numD i ys ∧ δ = [some (.v (.ref a)), some (.v (eC zs)), some (.v (.tup xs)), s3, s4] ∧ G' = G ∧ (∀ y ∈ ys, nrmR y = true) ∧ badStep zs 0 xs = badStep zs i ys) _ _ _ ⟨0, xs, _, _, rfl, rfl, rfl, hns, rfl⟩ ?_ ?_
      · rintro δ G' ⟨i, ys, s3, s4, e, rfl, rfl, _, e2⟩
        cases ys with
        | cons _ _ => cases e
        | nil =>
          rw [e2] at q
          refine ⟨a, [], rfl, ga, by decide, a, _, rfl, gset_same, by show 1 < 900; decide, ?_⟩
          rw [gset_gset]
          exact q
      · rintro x r δ G' nx ⟨i, ys, s3, s4, e, rfl, rfl, hn, e2⟩ hnx
        cases ys with
        | nil => cases e
        | cons y yr =>
          cases e
          have h5 : (pTst (pBin geD (pBo 3) (pC (.int 16)))) [some (.v (.ref a)), some (.v (eC zs)), some (.v (.tup xs)), some (.v (.int (i : Nat))), some (.v y)] G' = some (decide (16 ≤ i)) := by
            show some (decide ((16 : Int) ≤ (i : Int))) = _
            congr 1
            exact decide_eq_decide.mpr (by omega)
          refine onO_of (z := [some (.v (.ref a)), some (.v (eC zs)), some (.v (.tup xs)), some (.v (.int (i : Nat))), some (.v y)]) rfl ?_
          refine onO_of (qOr_of h5 fun _ => qn_fn (l := pCons (pV 1) (pCons (pV 4) pNil)) (b := isStep zs y) rfl (F_step K (hn y (by simp)))) (brP_of (fun hb2 => ?_) (fun hb2 => ?_))
          · have e3 : badStep zs i (y :: yr) = some i := by
              unfold badStep
              refine if_pos ?_
              simpa using hb2
            rw [e2, e3] at q
            exact q
          · have hb3 : ¬ (16 ≤ i ∨ isStep zs y = false) := by
              simp only [Bool.or_eq_false_iff, decide_eq_false_iff_not, Bool.not_eq_false'] at hb2
              rintro (h | h)
              · exact hb2.1 h
              · rw [hb2.2] at h; cases h
            refine hnx _ _ ⟨i + 1, yr, _, _, rfl, rfl, rfl, fun z hz => hn z (by simp [hz]), ?_⟩
            rw [e2]
            conv => lhs; unfold badStep
            rw [if_neg hb3]
  | ref b => cases hs
  | ty b => cases hs
  | obj b d => cases hs
  | _ => exact q
end
end PG

set_option Elab.async false
set_option linter.all false
set_option maxRecDepth 100000
set_option maxHeartbeats 4000000
set_option exponentiation.threshold 20000
namespace PG
open PySem PySem.Spec L2 DD

/-- two statements: what holds between them -/
theorem seq_mid {t u : DTS} {N : DEnds} {δ : DSt} {G : DG} (M : DSt → DG → Prop) (h1 : ∀ nx : DSt → DG → Prop, (∀ δ' G', M δ' G' → nx δ' G') → t { N with nx := nx } δ G) (h2 : ∀ δ' G', M δ' G' → u N δ' G') : sSeq t u N δ G := h1 _ h2
/-! ### numbers -/
theorem log_lt {i : Int} {n : Nat} (h0 : 0 ≤ i) (h : i < 2 ^ n) (hn : n ≠ 0) : i.natAbs.log2 < n := by
  by_cases z : i.natAbs = 0
  · rw [z]; simp; omega
  · rw [Nat.log2_lt z]
    have e : (i.natAbs : Int) = i := Int.natAbs_of_nonneg h0
    have : (i.natAbs : Int) < ((2 ^ n : Nat) : Int) := by rw [e]; push_cast; exact h
    exact Int.ofNat_lt.mp this
theorem pow_ok {b : Int} {e : Int} (h0 : 2 ≤ b) (h1 : b < 2 ^ 1000) (he : 1 ≤ e ∧ e ≤ 1000) : powD (.int b) (.int e) = some (.int (b ^ e.toNat)) := by
  have l : b.natAbs.log2 < 1000 := log_lt (by omega) h1 (by decide)
  exact if_pos ⟨he.1, he.2, Nat.lt_trans l (by decide), h0⟩
theorem mul_ok {b e : Int} (h0 : 0 ≤ b) (h1 : b < 2 ^ 1000) (h2 : 0 ≤ e) (h3 : e < 2 ^ 1000) : repD (.int b) (.int e) = some (.int (b * e)) := by
  have l1 : b.natAbs.log2 < 1000 := log_lt h0 h1 (by decide)
  have l2 : e.natAbs.log2 < 1000 := log_lt h2 h3 (by decide)
  have l3 : b.natAbs.log2 + e.natAbs.log2 < 100000000 := by omega
  exact if_pos l3
theorem mul_big {b e : Int} (h : b.natAbs.log2 ≤ 100) (h2 : e.natAbs.log2 ≤ 2000000) : repD (.int b) (.int e) = some (.int (b * e)) := by
  have l3 : b.natAbs.log2 + e.natAbs.log2 < 100000000 := by omega
  exact if_pos l3
theorem bits_log {k : Int} (h : Builtin.Int.intBits k ≤ 1048576) : k.natAbs.log2 ≤ 1048576 := by
  by_cases z : k = 0
  · subst z; decide
  · unfold Builtin.Int.intBits at h
    split at h
    · rename_i y
      first | omega | (exfalso; apply z; simpa using y)
    · omega
theorem mod_ok {b e : Int} (h : 0 < e) : modD (.int b) (.int e) = some (.int (b % e)) := by
  exact if_pos h
theorem fdiv_ok {b e : Int} (h : 0 < e) (h1 : e < 2 ^ 1000) : fdivD (.int b) (.int e) = some (.int (b / e)) := by
  have l : e.natAbs.log2 < 1000 := log_lt (by omega) h1 (by decide)
  exact if_pos ⟨h, Nat.lt_trans l (by decide)⟩
theorem max_ok (i j : Int) : maxD [.int i, .int j] = some (.int (max i j)) := by
  show some (D.int (if j > i then j else i)) = _
  congr 2
  omega
theorem min_ok (i j : Int) : minD [.int i, .int j] = some (.int (min i j)) := by
  show some (D.int (if j < i then j else i)) = _
  congr 2
  omega
theorem int_ne {i j : Int} (h : ¬ i = j) : (i == j) = false := by simpa using h
theorem int_eq {i j : Int} (h : i = j) : (i == j) = true := by simpa using h
theorem pJoin_of {p q : PX} {δ : DSt} {G : DG} {s : Str} {y z : D} (h1 : p δ G = some (.str s)) (h2 : q δ G = some y) (h3 : joinD (.str s) [y] = some z) : pStM joinD p q δ G = some z := by
  unfold pStM; rw [h1]; show bO (q δ G) _ = _; rw [h2]; exact h3
/-! ### texts of drawn signs -/
def oneOf (z : Str) (y : D) : Prop := ∃ k, k ∈ z.cps.toList ∧ y = .str ⟨#[k]⟩
theorem ix_str1 {z : Str} {n : Int} (hz : z.length ≤ 16777216) (h0 : 0 ≤ n) (h1 : n < (z.length : Int)) : ∃ y, ixD (.str z) (.int n) = some y ∧ oneOf z y := by
  have e : z.cps.toList.length = z.length := by simp [Str.length]
  have hlt : n.toNat < z.cps.toList.length := by omega
  refine ⟨.str ⟨#[z.cps.toList[n.toNat]]⟩, ?_, _, List.getElem_mem hlt, rfl⟩
  have e2 : ixN z.cps.toList.length n = some n.toNat := by
    unfold ixN
    rw [if_pos h0, if_pos (by omega)]
  simp only [ixD, hz, if_true, atI, e2, Option.bind_some]
  rw [List.getElem?_eq_getElem hlt]
  rfl
theorem ones_strs {z : Str} : ∀ {ys : List D}, (∀ y ∈ ys, oneOf z y) → ∃ ks : List Nat, (∀ k ∈ ks, k ∈ z.cps.toList) ∧ strsD ys = some (ks.map fun k => ⟨#[k]⟩) ∧ ks.length = ys.length
  | [], _ => ⟨[], by simp, rfl, rfl⟩
  | y :: r, h => by
    obtain ⟨k, hk, rfl⟩ := h y (by simp)
    obtain ⟨ks, h1, h2, h3⟩ := ones_strs (ys := r) fun w hw => h w (by simp [hw])
    refine ⟨k :: ks, ?_, ?_, by simp [h3]⟩
    · intro x hx
      rcases List.mem_cons.mp hx with rfl | hx
      · exact hk
      · exact h1 x hx
    · simp [strsD, h2]
theorem join_ones : ∀ ks : List Nat, Str.join ("" : Str) (ks.map fun k => (⟨#[k]⟩ : Str)) = ⟨ks.toArray⟩
  | [] => rfl
  | [k] => rfl
  | k :: l :: r => by
    have e := join_ones (l :: r)
    show (⟨#[k]⟩ : Str) ++ "" ++ Str.join "" ((l :: r).map fun k => (⟨#[k]⟩ : Str)) = _
    rw [e]
    show (⟨(#[k] ++ #[]) ++ (l :: r).toArray⟩ : Str) = _
    simp
theorem join_one {z : Str} {ys : List D} (h : ∀ y ∈ ys, oneOf z y) (hl : ys.length ≤ 1000) : ∃ s : Str, joinD (.str "") [.lst ys] = some (.str s) ∧ s.length = ys.length ∧ ∀ k ∈ s.cps.toList, k ∈ z.cps.toList := by
  obtain ⟨ks, h1, h2, h3⟩ := ones_strs h
  refine ⟨⟨ks.toArray⟩, ?_, by simp [Str.length, h3], by simpa using h1⟩
  have e1 : ((ks.map fun k => (⟨#[k]⟩ : Str)).map (·.length)).sum = ks.length := by
    clear h1 h2 h3
    induction ks with
    | nil => rfl
    | cons k r ih => simp only [List.map_cons, List.sum_cons, ih, List.length_cons]; show 1 + r.length = _; omega
  have e2 : (ks.map fun k => (⟨#[k]⟩ : Str)).length * ("" : Str).length = 0 := by
    show _ * 0 = 0
    omega
  simp only [joinD, h2, e1, e2]
  rw [if_pos (by omega), join_ones]
theorem at_lst {xs : List D} {n : Int} (h0 : 0 ≤ n) (h1 : n < (xs.length : Int)) : ∃ y, ixD (.lst xs) (.int n) = some y ∧ y ∈ xs := by
  have hlt : n.toNat < xs.length := by omega
  refine ⟨xs[n.toNat], ?_, List.getElem_mem hlt⟩
  have e2 : ixN xs.length n = some n.toNat := by
    unfold ixN
    rw [if_pos h0, if_pos h1]
  simp only [ixD, atI, e2, Option.bind_some]
  exact List.getElem?_eq_getElem hlt
theorem nodup_le {α : Type} [DecidableEq α] : ∀ {xs ys : List α}, xs.Nodup → (∀ x ∈ xs, x ∈ ys) → xs.length ≤ ys.length
  | [], ys, _, _ => Nat.zero_le _
  | x :: r, ys, h, s => by
    rw [List.nodup_cons] at h
    have hx := s x (by simp)
    have := nodup_le (xs := r) (ys := ys.erase x) h.2 fun y hy => (List.mem_erase_of_ne (fun e => h.1 (by rw [← e]; exact hy))).mpr (s y (by simp [hy]))
    rw [List.length_erase_of_mem hx] at this
    have : 0 < ys.length := List.length_pos_of_mem hx
    simp only [List.length_cons]
    omega
theorem metAll_nodup : ∀ (zs acc : List Str), (acc ++ zs).Nodup → zs.foldl DDs.met1 acc = acc ++ zs
  | [], acc, _ => by simp
  | z :: r, acc, h => by
    have hz : z ∉ acc := fun hm => by
      rw [List.nodup_append] at h
      exact h.2.2 z hm z (by simp) rfl
    show r.foldl DDs.met1 (DDs.met1 acc z) = _
    rw [DDs.met1, if_neg hz, metAll_nodup r (acc ++ [z]) (by simpa using h)]
    simp
theorem lc_one {G : DG} {a : Addr} {z : Str} {i : Nat} {te : DTE} {δ : DSt} {Q : List D → DG → Prop} {xs : List D} {c : Nat} (hl : xs.length ≤ 1000) (hc : c + 1000 ≤ 2 ^ 63) (ht : ∀ x c' (Q' : D → DG → Prop), c' < 2 ^ 63 → (∀ y, oneOf z y → Q' y (gset G a (some (.jar (c' + 1))))) → te (δ.set i (some (.v x))) (gset G a (some (.jar c'))) Q' (fun _ _ => False))
    (q : ∀ ys, ys.length = xs.length → (∀ y ∈ ys, oneOf z y) → Q ys (gset G a (some (.jar (c + xs.length))))) : lcL (gP (tN i)) (tP qYes) te δ Q xs [] (gset G a (some (.jar c))) := by
  refine lc_inv (I := fun r acc G' => ∃ c', G' = gset G a (some (.jar c')) ∧ c' + r.length = c + xs.length ∧ (∀ y ∈ acc, oneOf z y) ∧ acc.length + r.length = xs.length) _ _ _ ⟨c, rfl, rfl, by simp, by simp⟩ ?_ ?_
  · rintro acc G' ⟨c', rfl, h1, h2, h3⟩
    simp only [List.length_nil, Nat.add_zero] at h1 h3
    rw [h1]
    exact q acc h3 h2
  · rintro x r acc G' Q' ⟨c', rfl, h1, h2, h3⟩ hq
    simp only [List.length_cons] at h1 h3
    refine ht x c' _ (by omega) fun y hy => ⟨by omega, hq _ _ ⟨c' + 1, rfl, by omega, ?_, by simp; omega⟩⟩
    intro w hw
    rcases List.mem_append.mp hw with hw | hw
    · exact h2 w hw
    · rw [List.mem_singleton.mp hw]; exact hy
/-- a text of signs of another one -/
theorem wr_of {s z : Str} {l m : Int} (h1 : l ≤ (s.length : Int)) (h2 : (s.length : Int) ≤ m) (h : ∀ k ∈ s.cps.toList, k ∈ z.cps.toList) : wrS s z l m = true := by
  simp only [wrS, Bool.and_eq_true, decide_eq_true_eq, List.all_eq_true]
  exact ⟨⟨h1, h2⟩, h⟩
theorem wr_signs {s z : Str} {l m : Int} (h : wrS s z l m = true) : l ≤ (s.length : Int) ∧ (s.length : Int) ≤ m ∧ ∀ k ∈ s.cps.toList, k ∈ z.cps.toList := by
  simp only [wrS, Bool.and_eq_true, decide_eq_true_eq, List.all_eq_true] at h
  exact ⟨h.1.1, h.1.2, h.2⟩
theorem one_wr {z : Str} {y : D} (h : oneOf z y) : ∃ s : Str, y = .str s ∧ s.length = 1 ∧ ∀ k ∈ s.cps.toList, k ∈ z.cps.toList := by
  obtain ⟨k, hk, rfl⟩ := h
  exact ⟨_, rfl, rfl, by simpa using hk⟩
theorem app_signs {s t : Str} : (s ++ t).length = s.length + t.length ∧ ∀ k, k ∈ (s ++ t).cps.toList ↔ k ∈ s.cps.toList ∨ k ∈ t.cps.toList := by
  have e : (s ++ t).cps = s.cps ++ t.cps := rfl
  constructor
  · show (s ++ t).cps.size = s.cps.size + t.cps.size
    rw [e, Array.size_append]
  · intro k
    rw [e]
    simp
theorem add_str {s t : Str} (h : s.length + t.length ≤ 16777216) : addD (.str s) (.str t) = some (.str (s ++ t)) := if_pos h
theorem cut_str {z : Str} (hz : z.length ≤ 16777216) (lo hi : Option Int) : ∃ s : Str, slD (.str z) lo hi = some (.str s) ∧ s = cutS z lo hi := ⟨_, if_pos hz, rfl⟩
theorem cut_signs {z : Str} (lo hi : Option Int) : ∀ k ∈ (cutS z lo hi).cps.toList, k ∈ z.cps.toList := by
  intro k hk
  have h3 : k ∈ (z.cps.toList.drop (HT.sIx z.length 0 lo)).take (HT.sIx z.length z.length hi - HT.sIx z.length 0 lo) := by simpa [cutS] using hk
  exact List.mem_of_mem_drop (List.mem_of_mem_take h3)
theorem cut_len {z : Str} (lo hi : Option Int) : (cutS z lo hi).length = min (HT.sIx z.length z.length hi - HT.sIx z.length 0 lo) (z.length - HT.sIx z.length 0 lo) := by
  show ((z.cps.toList.drop (HT.sIx z.length 0 lo)).take (HT.sIx z.length z.length hi - HT.sIx z.length 0 lo)).toArray.size = _
  have e : z.cps.size = z.length := rfl
  simp [e]
/-! ### lists of texts -/
theorem pl_strs {n : Nat} (zs : List Str) : (zs.map D.str).all (pl n) = true := by
  rw [List.all_eq_true]
  intro x hx
  obtain ⟨z, hz, rfl⟩ := List.mem_map.mp hx
  cases n <;> rfl
theorem any_strs (zs : List Str) (z : Str) : ((zs.map D.str).any fun y => beq 49 y (.str z)) = decide (z ∈ zs) := by
  rw [Bool.eq_iff_iff]
  simp only [List.any_eq_true, List.mem_map, decide_eq_true_eq]
  constructor
  · rintro ⟨x, ⟨w, hw, rfl⟩, e⟩
    have : w = z := by simpa [beq] using e
    exact this ▸ hw
  · intro h
    exact ⟨.str z, ⟨z, h, rfl⟩, by simp [beq]⟩
theorem in_lst (zs : List Str) (z : Str) : inD (.str z) (.lst (zs.map D.str)) = some (.bl (decide (z ∈ zs))) := by
  have h : pl 50 (.lst (zs.map D.str)) = true := by
    show (zs.map D.str).all (pl 49) = true
    exact pl_strs zs
  have h2 : pl 49 (.str z) = true := rfl
  simp only [inD, h, and_true]
  rw [if_pos h2, any_strs]
theorem notin_lst (zs : List Str) (z : Str) : notInD (.str z) (.lst (zs.map D.str)) = some (.bl (!decide (z ∈ zs))) := by
  unfold notInD
  rw [in_lst]
theorem ne_nil {xs : List D} (h : xs.all (pl 49) = true) : neD (.lst xs) (.lst []) = some (.bl (!xs.isEmpty)) := by
  have h1 : pl 50 (.lst xs) = true := h
  have h2 : pl 50 (.lst []) = true := rfl
  simp only [neD, h1, h2, and_self, if_true]
  cases xs <;> rfl
theorem lst_last {xs : List D} (h : xs ≠ []) : ixD (.lst xs) (.int (-1)) = some (xs.getLast h) := by
  have hp : 0 < xs.length := List.length_pos_iff.mpr h
  show atI xs (-1) = _
  unfold atI ixN
  rw [if_neg (by decide), if_pos (by omega)]
  show xs[(-1 + (xs.length : Int)).toNat]? = _
  have e : (-1 + (xs.length : Int)).toNat = xs.length - 1 := by omega
  rw [e, List.getLast_eq_getElem, List.getElem?_eq_getElem]
theorem lst_nat {xs : List D} {x : D} {i : Int} (h0 : 0 ≤ i) (h : xs[i.toNat]? = some x) : ixD (.lst xs) (.int i) = some x := by
  show atI xs _ = _
  have hl := (List.getElem?_eq_some_iff.mp h).1
  unfold atI ixN
  rw [if_pos (by omega), if_pos (by omega)]
  simpa using h
theorem tup_nat {xs : List D} {x : D} {i : Int} (h0 : 0 ≤ i) (h : xs[i.toNat]? = some x) : ixD (.tup xs) (.int i) = some x := lst_nat h0 h
theorem lst_map {α : Type} {f : α → D} {xs : List α} {i : Int} (h0 : 0 ≤ i) (h1 : i < (xs.length : Int)) : ∃ x, xs[i.toNat]? = some x ∧ x ∈ xs ∧ ixD (.lst (xs.map f)) (.int i) = some (f x) ∧ ixD (.tup (xs.map f)) (.int i) = some (f x) := by
  have hl : i.toNat < xs.length := by omega
  have e : xs[i.toNat]? = some xs[i.toNat] := List.getElem?_eq_getElem hl
  have e2 : (xs.map f)[i.toNat]? = some (f xs[i.toNat]) := by simp [e]
  exact ⟨_, e, List.getElem_mem hl, lst_nat h0 e2, tup_nat h0 e2⟩
/-! ### equal plain data -/
theorem beqL_refl {f : D → D → Bool} : ∀ xs : List D, (∀ x ∈ xs, f x x = true) → beqL f xs xs = true
  | [], _ => rfl
  | x :: r, h => by simp [beqL, h x (by simp), beqL_refl r fun y hy => h y (by simp [hy])]
theorem beq_refl : ∀ (n : Nat) (x : D), pl n x = true → beq n x x = true
  | 0, x, h => by cases x <;> first | (simp [pl] at h; done) | simp [beq]
  | n + 1, x, h => by
    cases x <;> first | (simp [pl] at h; done) | skip
    all_goals first | (simp [beq]; done) | skip
    · rename_i xs
      simp only [pl, List.all_eq_true] at h
      simp only [beq]
      exact beqL_refl xs fun x hx => beq_refl n x (h x hx)
    · rename_i xs
      simp only [pl, List.all_eq_true] at h
      simp only [beq]
      exact beqL_refl xs fun x hx => beq_refl n x (h x hx)
theorem eqD_self {x : D} (h : pl 50 x = true) : eqD x x = some (.bl true) := by
  unfold eqD
  rw [if_pos ⟨h, h⟩, beq_refl 50 x h]
theorem neD_self {x : D} (h : pl 50 x = true) : neD x x = some (.bl false) := by
  unfold neD
  rw [if_pos ⟨h, h⟩, beq_refl 50 x h]
  rfl
theorem colsOk_of {cs : List Str} (h1 : 1 ≤ cs.length) (h5 : cs.length ≤ 5) (hn : cs.Nodup) (h : ∀ c ∈ cs, nameS c = true) : colsOk cs = true := by
  have e := metAll_nodup cs [] (by simpa using hn)
  simp only [List.nil_append] at e
  have e2 : DDs.metAll cs = cs := e
  simp only [colsOk, e2, decide_true, Bool.and_true, Bool.and_eq_true, decide_eq_true_eq, List.all_eq_true]
  exact ⟨⟨h1, h5⟩, h⟩
/-- a list of more texts than there are others has a text that is none of them -/
theorem free_one {qs zs : List Str} (hn : qs.Nodup) (h : zs.length < qs.length) : ∃ z r, qs.filter (fun y => !decide (y ∈ zs)) = z :: r ∧ z ∈ qs ∧ z ∉ zs := by
  cases e : qs.filter (fun y => !decide (y ∈ zs)) with
  | nil =>
    exfalso
    have hs : ∀ y ∈ qs, y ∈ zs := by
      intro y hy
      have := List.filter_eq_nil_iff.mp e y hy
      simpa using this
    have := nodup_le hn hs
    omega
  | cons z r =>
    have hm : z ∈ qs.filter (fun y => !decide (y ∈ zs)) := by rw [e]; simp
    rw [List.mem_filter] at hm
    exact ⟨z, r, rfl, hm.1, by simpa using hm.2⟩
theorem pl_test {n : Nat} (t : Tst) : pl (n + 1) (eT t) = true := by cases t <;> (cases n <;> rfl)
theorem pl_step {n : Nat} (s : Stp) : pl (n + 2) (eP' s) = true := by
  cases s <;> first | (cases n <;> rfl) | (simp only [eP', pl, List.all_cons, List.all_nil, Bool.and_true, pl_test])
theorem pl_steps {n : Nat} (st : List Stp) : (st.map eP').all (pl (n + 2)) = true := by
  rw [List.all_eq_true]
  intro x hx
  obtain ⟨s, _, rfl⟩ := List.mem_map.mp hx
  exact pl_step s
/-! ### numbers counted up -/
theorem rng_cons {L k : Nat} {x : D} {r : List D} (h : (rngD L).drop k = x :: r) : k < L ∧ x = .int k ∧ r = (rngD L).drop (k + 1) := by
  have hl : (rngD L).length = L := by simp [rngD]
  have hk : k < (rngD L).length := by
    apply Classical.byContradiction
    intro z
    rw [List.drop_eq_nil_of_le (by omega)] at h
    cases h
  rw [List.drop_eq_getElem_cons hk] at h
  cases h
  exact ⟨by omega, by simp [rngD], rfl⟩
theorem rng_nil {L k : Nat} (h : (rngD L).drop k = []) (hk : k ≤ L) : k = L := by
  have hl : (rngD L).length = L := by simp [rngD]
  have := List.drop_eq_nil_iff.mp h
  omega
theorem r1_ok {L : Nat} (h : L ≤ 1000000000) : r1O (.int (L : Nat)) = some (rngD L) := by
  show (match inR (L : Int) with | true => some (rngD L) | false => none) = _
  rw [inR_iff.mpr (by omega)]
theorem piR1_of {p : PX} {δ : DSt} {G : DG} {x : D} {z : Option (List D)} (h : p δ G = some x) (k : r1O x = z) : piR1 p δ G = z := by unfold piR1; rw [h]; exact k
theorem piSeq_of {p : PX} {δ : DSt} {G : DG} {x : D} {z : Option (List D)} (h : p δ G = some x) (k : iterD x = z) : piSeq p δ G = z := by unfold piSeq; rw [h]; exact k
/-- a law's cells: one at least -/
theorem cells_ok {m : Nat} : ∃ L : Nat, maxD [.int 1, .int (m : Nat)] = some (.int (L : Nat)) ∧ 1 ≤ L ∧ (m ≤ 63 → L ≤ 63) ∧ L = max 1 m := by
  refine ⟨max 1 m, ?_, by omega, by omega, rfl⟩
  rw [max_ok]
  congr 2
  omega
theorem gone {G : DG} {x : Addr} {u v : Option DO} (h : G x = none) : gset (gset (gset G x u) x v) x none = G := by rw [gset_gset, gset_gset, gset_self h]
end PG

set_option Elab.async false
set_option linter.all false
set_option maxRecDepth 100000
set_option maxHeartbeats 4000000
namespace DD
open PySem PySem.Spec L2
/-- a law's numbers: sixty-three at most, each of at most 2 ^ 20 bits -/
def Script (ns : List Int) : Prop := ns.length ≤ 63 ∧ ∀ z ∈ ns, Builtin.Int.intBits z ≤ 1048576
/-- a law, walked: from the promise of its def, made over a script -/
theorem walk_bits {l : PySem.W.OpenLaw} {k : Nat} {q : Program} {loose : List Str} {XP : (Str → Option Value) → Heap → Prop} {YP : World → Heap → Prop} {d : DefRec} {x : Str}
    (most : l.most = some 63) (nodef : d.params.defaults = []) (room : Room k callerA)
    (facts : ∀ (w : World) (mg : Str → Option Value) (fa : Addr) (h : Heap), YP w h → h.Ns mainGlobals mg → mg d.name = some (.ref fa) → ∃ (K : PySem.W.Frag) (fd : FuncData) (f : Fn), K.In h ∧
      (∀ (s : Shared) (u : Value), BindsTo s fd ⟨[u], []⟩ [(x, u)]) ∧ (∀ ns, Script ns → f [.lst (ns.map D.int)] (fun _ => none) (fun v _ => v = .bl true) (fun _ _ => False)) ∧
      ∀ base : Heap, K.In base → base.Ns mainGlobals mg → FnOk l.prog w K mg base (L2.CX l.prog w) k fa fd [x] (spD K f)) : PySem.W.WalkO q loose XP YP l.row.toRowW d [] (fun g vs => PySem.call g vs) := by
  refine Att.attach_callB most nodef ?_
  intro w s0 s1 mg mb fa o pm cd doc a vs ns Gr Y isfn isdef code hmg isl hints hlen hbits hgen
  obtain ⟨K, fd, f, KX, binds, made, ok⟩ := facts w mg fa _ Y Gr.T.g hmg
  have ok2 : ∀ base : Heap, K.In base → base.Ns mainGlobals mg → FnOk l.prog w K mg base L2.CX0 k fa fd [x] (fun vs H Q _ => spD K f vs H Q fun _ _ _ => False) := fun base h1 h2 => calm_ok (ok base h1 h2)
  refine law_call KX Gr.T.g Gr.T.b Gr.T.builtins Gr.T.nolimit hgen isl hints (Nat.le_trans hlen (by rw [sizeLine_eq]; decide)) room ok2 binds ?_ ?_
  · exact fun H _ hS => law_sp hS (made ns ⟨hlen, hbits⟩)
  · exact fun H e s' z => z
end DD

set_option Elab.async false
set_option linter.all false
set_option maxRecDepth 100000
set_option maxHeartbeats 4000000
namespace FB
open PySem PySem.Spec L2 DD PG

/-! ### what the makers of forms promise -/
abbrev f__law_draw (K : PySem.W.Frag) : Fn := fDr
@[irreducible] def f__law_well (K : PySem.W.Frag) : Fn := fun ds G Q _ => ∃ (ns : List Int) (k : Int), ds = [.lst (ns.map D.int), .int k] ∧ (∀ z ∈ ns, Builtin.Int.intBits z ≤ 1048576) ∧ 0 ≤ k ∧ k < 64 ∧ ∀ a, G a = none → Q (.ref a) (gset G a (some (.jar 0)))
@[irreducible] def f__law_names (K : PySem.W.Frag) : Fn := fun ds G Q _ => ∃ (a : Addr) (m : Int) (c : Nat), ds = [.ref a, .int m] ∧ G a = some (.jar c) ∧ 1 ≤ m ∧ m ≤ 5 ∧ c + 100 ≤ 2 ^ 62 ∧ ∀ cs, colsOk cs = true → (cs.length : Int) = m → Q (eC cs) (gset G a (some (.jar (c + 100))))
@[irreducible] def f__law_cell (K : PySem.W.Frag) : Fn := fun ds G Q _ => ∃ (a : Addr) (c : Nat), ds = [.ref a] ∧ G a = some (.jar c) ∧ c + 30 ≤ 2 ^ 62 ∧ ∀ x, cellS x = true → Q (.str x) (gset G a (some (.jar (c + 30))))
@[irreducible] def f__law_test (K : PySem.W.Frag) : Fn := fun ds G Q _ => ∃ (a : Addr) (cs : List Str) (c : Nat), ds = [.ref a, eC cs] ∧ G a = some (.jar c) ∧ 1 ≤ cs.length ∧ cs.length ≤ 5 ∧ c + 40 ≤ 2 ^ 62 ∧ ∀ t, tstOk cs t = true → Q (eT t) (gset G a (some (.jar (c + 40))))
@[irreducible] def f__law_step (K : PySem.W.Frag) : Fn := fun ds G Q _ => ∃ (a : Addr) (cs : List Str) (c : Nat), ds = [.ref a, eC cs] ∧ G a = some (.jar c) ∧ 1 ≤ cs.length ∧ cs.length ≤ 5 ∧ c + 50 ≤ 2 ^ 62 ∧ ∀ s, stpOk cs s = true → Q (eP' s) (gset G a (some (.jar (c + 50))))
@[irreducible] def f__law_chain (K : PySem.W.Frag) : Fn := fun ds G Q _ => ∃ (a : Addr) (cs : List Str) (m c : Nat), ds = [.ref a, eC cs, .int m] ∧ G a = some (.jar c) ∧ 1 ≤ cs.length ∧ cs.length ≤ 5 ∧ 1 ≤ m ∧ m ≤ 100 ∧ c + 10000 ≤ 2 ^ 62 ∧ ∀ st : List Stp, 1 ≤ st.length → st.length ≤ m → (∀ s ∈ st, stpOk cs s = true) → Q (eF st) (gset G a (some (.jar (c + 10000))))
/-- equal, kind by kind -/
def sameL (f : D → D → Bool) : List D → List D → Bool
  | [], [] => true
  | x :: r, y :: s => f x y && sameL f r s
  | _, _ => false
def sameD : Nat → D → D → Bool
  | n + 2, .tup xs, .tup ys => sameL (sameD (n + 1)) xs ys
  | _, .bl a, .bl b => a == b
  | _, .str a, .str b => a == b
  | _, _, _ => false
/-- what it may be asked: a due value, a told one -/
def askD : Nat → D → Bool
  | n + 2, .tup xs => xs.all (askD (n + 1)) && decide (xs.length ≤ 1000000)
  | _, .bl _ => true
  | _, .str _ => true
  | _, _ => false
def askL : Nat → D → Bool
  | n + 2, .tup xs => xs.all (askL (n + 1)) && decide (xs.length ≤ 1000000)
  | _, .non => true
  | _, .bl _ => true
  | _, .int _ => true
  | _, .str _ => true
  | _, _ => false
def F__law_same (K : PySem.W.Frag) : Nat → List D → DG → Option D
  | n + 1, [x, y], _ => if askL (n + 1) x = true ∧ askD (n + 1) y = true then some (.bl (sameD (n + 1) x y)) else none
  | _, _, _ => none
abbrev f__law_same (K : PySem.W.Frag) : Fn := pf (F__law_same K 4)
/-- what is known of the class Form -/
def FormK (K : PySem.W.Frag) : Prop := C8.InsC K (He.ga K "Form") ∧ PySem.W.kitOne K (.ref (He.ga K "Form")) (.ref (He.ga K "Form")) = some true
@[irreducible] def f__law_told (K : PySem.W.Frag) : Fn := fun ds G Q _ => FormK K ∧ ∃ (cs : List Str) (st : List Stp) (t : Int), ds = [eFm K cs st, eC cs, eF st, .int t] ∧ formOk cs st ∧ 0 ≤ t ∧ t ≤ 1000000 ∧ Q (.bl true) G
section
variable {K : PySem.W.Frag} {G : DG} {Q : D → DG → Prop} {E : DX → DG → Prop} {a : Addr} {c : Nat} {cs : List Str}
theorem drw {m : Int} (hc : c < 2 ^ 63) (h0 : 0 < m) (h1 : m < 2 ^ 200) (q : ∀ n : Int, 0 ≤ n → n < m → Q (.int n) (gset G a (some (.jar (c + 1))))) : fDr [.ref a, .int m] (gset G a (some (.jar c))) Q E :=
  DD.drw gset_same hc h0 h1 fun n n0 n1 => by rw [gset_gset]; exact q n n0 n1
theorem c_names {m : Int} (h0 : 1 ≤ m) (h1 : m ≤ 5) (hc : c + 100 ≤ 2 ^ 62) (q : ∀ cs, colsOk cs = true → (cs.length : Int) = m → Q (eC cs) (gset G a (some (.jar (c + 100))))) : f__law_names K [.ref a, .int m] (gset G a (some (.jar c))) Q E := by
  unfold f__law_names
  exact ⟨a, m, c, rfl, gset_same, h0, h1, hc, fun cs h2 h3 => by rw [gset_gset]; exact q cs h2 h3⟩
theorem c_cell (hc : c + 30 ≤ 2 ^ 62) (q : ∀ x, cellS x = true → Q (.str x) (gset G a (some (.jar (c + 30))))) : f__law_cell K [.ref a] (gset G a (some (.jar c))) Q E := by
  unfold f__law_cell
  exact ⟨a, c, rfl, gset_same, hc, fun cs h2 => by rw [gset_gset]; exact q cs h2⟩
theorem c_test (h0 : 1 ≤ cs.length) (h1 : cs.length ≤ 5) (hc : c + 40 ≤ 2 ^ 62) (q : ∀ t, tstOk cs t = true → Q (eT t) (gset G a (some (.jar (c + 40))))) : f__law_test K [.ref a, eC cs] (gset G a (some (.jar c))) Q E := by
  unfold f__law_test
  exact ⟨a, cs, c, rfl, gset_same, h0, h1, hc, fun t h2 => by rw [gset_gset]; exact q t h2⟩
theorem c_step (h0 : 1 ≤ cs.length) (h1 : cs.length ≤ 5) (hc : c + 50 ≤ 2 ^ 62) (q : ∀ s, stpOk cs s = true → Q (eP' s) (gset G a (some (.jar (c + 50))))) : f__law_step K [.ref a, eC cs] (gset G a (some (.jar c))) Q E := by
  unfold f__law_step
  exact ⟨a, cs, c, rfl, gset_same, h0, h1, hc, fun t h2 => by rw [gset_gset]; exact q t h2⟩
theorem c_chain {m : Nat} (h0 : 1 ≤ cs.length) (h1 : cs.length ≤ 5) (m0 : 1 ≤ m) (m1 : m ≤ 100) (hc : c + 10000 ≤ 2 ^ 62) (q : ∀ st : List Stp, 1 ≤ st.length → st.length ≤ m → (∀ s ∈ st, stpOk cs s = true) → Q (eF st) (gset G a (some (.jar (c + 10000))))) : f__law_chain K [.ref a, eC cs, .int m] (gset G a (some (.jar c))) Q E := by
  unfold f__law_chain
  exact ⟨a, cs, m, c, rfl, gset_same, h0, h1, m0, m1, hc, fun t h2 h3 h4 => by rw [gset_gset]; exact q t h2 h3 h4⟩
theorem c_well {ns : List Int} {k : Int} (hb : ∀ z ∈ ns, Builtin.Int.intBits z ≤ 1048576) (h0 : 0 ≤ k) (h1 : k < 64) (q : ∀ a, G a = none → Q (.ref a) (gset G a (some (.jar 0)))) : f__law_well K [.lst (ns.map D.int), .int k] G Q E := by
  unfold f__law_well
  exact ⟨ns, k, rfl, hb, h0, h1, q⟩
theorem c_told {st : List Stp} {t : Int} (hF : FormK K) (h : formOk cs st) (t0 : 0 ≤ t) (t1 : t ≤ 1000000) (q : Q (.bl true) G) : f__law_told K [eFm K cs st, eC cs, eF st, .int t] G Q E := by
  unfold f__law_told
  exact ⟨hF, cs, st, t, rfl, h, t0, t1, q⟩
theorem spent {n : Nat} {x : D} (h : c ≤ n) (q : Q x (gset G a (some (.jar n)))) : spend a n Q x (gset G a (some (.jar c))) := ⟨c, h, gset_same, by rw [gset_gset]; exact q⟩
end
section
variable {K : PySem.W.Frag} {ds : List D} {G : DG} {Q : D → DG → Prop} {E : DX → DG → Prop}
theorem len__law_draw (h : fDrawM ds G Q E) : ds.length = 2 := by obtain ⟨_, _, _, _, _, rfl, _⟩ := h; rfl
theorem len__law_well (h : f__law_well K ds G Q E) : ds.length = 2 := by unfold f__law_well at h; obtain ⟨_, _, rfl, _⟩ := h; rfl
theorem len__law_names (h : f__law_names K ds G Q E) : ds.length = 2 := by unfold f__law_names at h; obtain ⟨_, _, _, rfl, _⟩ := h; rfl
theorem len__law_cell (h : f__law_cell K ds G Q E) : ds.length = 1 := by unfold f__law_cell at h; obtain ⟨_, _, rfl, _⟩ := h; rfl
theorem len__law_test (h : f__law_test K ds G Q E) : ds.length = 2 := by unfold f__law_test at h; obtain ⟨_, _, _, rfl, _⟩ := h; rfl
theorem len__law_step (h : f__law_step K ds G Q E) : ds.length = 2 := by unfold f__law_step at h; obtain ⟨_, _, _, rfl, _⟩ := h; rfl
theorem len__law_chain (h : f__law_chain K ds G Q E) : ds.length = 3 := by unfold f__law_chain at h; obtain ⟨_, _, _, _, rfl, _⟩ := h; rfl
theorem len__law_same {n : Nat} (h : pf (F__law_same K n) ds G Q E) : ds.length = 2 := by
  obtain ⟨z, hz, q⟩ := onO_iff.mp h
  unfold F__law_same at hz
  split at hz
  · rfl
  · cases hz
theorem len__law_told (h : f__law_told K ds G Q E) : ds.length = 4 := by unfold f__law_told at h; obtain ⟨_, _, _, _, rfl, _⟩ := h; rfl
end
end FB

set_option Elab.async false
set_option linter.all false
set_option maxRecDepth 100000
set_option maxHeartbeats 0
namespace FB
open PySem PySem.Spec L2 DD PG
abbrev N__law_well : List Str := ["_law_script", "_law_k", "_law_cell_here", "_law_deep"]
def tb__law_well (K : PySem.W.Frag) : DTS := (sSeq (sSet 2 (eP (pC (.int 0))))
  (sSeq (zIf (tP (pTst (pBin ltD (pBo 1) (pCallB lenD (pCons (pBo 0) pNil)))))
  (sSet 2 (eP (pCallB intD (pCons (pBin ixD (pBo 0) (pBo 1)) pNil))))
  sNext)
  (sSeq (sSet 3 (eP (pBin repD (pC (.int 2)) (pBo 2))))
  (sSeq (zIf (tP (pTst (pBin ltD (pBo 2) (pC (.int 0)))))
  (sSet 3 (eP (pBin subD (pBin repD (pUn negD (pC (.int 2))) (pBo 2)) (pC (.int 1)))))
  sNext)
  (sRet (dNewJ (aP (pCons (pCallB maxD (pCons (pC (.int 0)) (pCons (pBin subD (pBo 3) (pBin powD (pC (.int 10)) (pC (.int 18)))) pNil))) (pCons (pBin addD (pBin modD (pCallB intD (pCons (pBo 3) pNil)) (pBin addD (pBin powD (pC (.int 10)) (pC (.int 27))) (pC (.int 103)))) (pBin repD (pC (.int 65537)) (pBo 1))) (pCons (pC (.int 0)) pNil))))))))))
abbrev N__law_draw : List Str := ["_law_well_here", "_law_many", "_law_found", "_law_turn", "_law_mixed"]
def tb__law_draw (K : PySem.W.Frag) : DTS := (sSeq (zIf (tP (pTst (pBin gtD (pBin ixD (pDer (pV 0)) (pC (.int 0))) (pC (.int 0)))))
  (sSeq (sSet 2 (eP (pBin modD (pCallB intD (pCons (pBin ixD (pDer (pV 0)) (pC (.int 0))) pNil)) (pBo 1))))
  (sSeq (sSetAt (eP (pBin fdivD (pBin ixD (pDer (pV 0)) (pC (.int 0))) (pBo 1))) (pVar 0) (eP (pC (.int 0))))
  (sRet (eP (pV 2)))))
  sNext)
  (sSeq (sSet 3 (eP (pBin addD (pBin ixD (pDer (pV 0)) (pC (.int 2))) (pC (.int 1)))))
  (sSeq (sSetAt (eP (pV 3)) (pVar 0) (eP (pC (.int 2))))
  (sSeq (sSet 4 (eP (pBin modD (pCallB intD (pCons (pBin addD (pBin powD (pBin addD (pBin ixD (pDer (pV 0)) (pC (.int 1))) (pBin repD (pC (.int 15485863)) (pBo 3))) (pC (.int 3))) (pBin repD (pC (.int 982451653)) (pBo 3))) pNil)) (pBin addD (pBin powD (pC (.int 10)) (pC (.int 40))) (pC (.int 121))))))
  (sSeq (sSet 4 (eP (pBin modD (pCallB intD (pCons (pBin powD (pBin addD (pBo 4) (pBin repD (pC (.int 32452843)) (pBo 3))) (pC (.int 3))) pNil)) (pBin addD (pBin powD (pC (.int 10)) (pC (.int 38))) (pC (.int 133))))))
  (sRet (eP (pBin modD (pCallB intD (pCons (pBin fdivD (pBo 4) (pBin powD (pC (.int 10)) (pC (.int 9)))) pNil)) (pBo 1)))))))))
abbrev N__law_names : List Str := ["_law_well_here", "_law_many", "_law_letters", "_law_words", "_law_found", "_law_turn", "_law_way", "_law_name", "_law_spot", "_law_k", "_law_one"]
def tb__law_names (K : PySem.W.Frag) : DTS := (sSeq (sSet 2 (eP (pC (.str "abcdefghijklmnopqrstuvwxyz"))))
  (sSeq (sSet 3 (eP (pLst (pCons (pC (.str "if")) (pCons (pC (.str "is")) (pCons (pC (.str "not")) (pCons (pC (.str "same")) (pCons (pC (.str "other")) (pCons (pC (.str "put")) (pCons (pC (.str "word")) (pCons (pC (.str "label")) (pCons (pC (.str "next")) (pCons (pC (.str "skip")) (pCons (pC (.str "keep")) (pCons (pC (.str "say")) (pCons (pC (.str "first")) pNil))))))))))))))))
  (sSeq (sSetF 4 (aP pNil))
  (sSeq (sFor (aP (piR1 (pV 1))) (gP (tN 5))
  (sSeq (sSet 6 (dCall (f__law_draw K) (aP (pCons (pV 0) (pCons (pC (.int 4)) pNil)))))
  (sSeq (zIf (tP (pTst (pBin eqD (pBo 6) (pC (.int 0)))))
  (sSet 7 (zBinV ixD (eP (pV 3)) (dCall (f__law_draw K) (aP (pCons (pV 0) (pCons (pC (.int 13)) pNil))))))
  (zIf (tP (qAnd (pTst (pBin eqD (pBo 6) (pC (.int 1)))) (pTst (pBin neD (pBo 4) (pLst pNil)))))
  (sSeq (sSet 8 (dCall (f__law_draw K) (aP (pCons (pV 0) (pCons (pCallB lenD (pCons (pBin ixD (pBo 4) (pUn negD (pC (.int 1)))) pNil)) pNil)))))
  (sSet 7 (zBinV addD (zBinV addD (eP (pSl slD (pBin ixD (pBo 4) (pUn negD (pC (.int 1)))) pNoI (pSoI (pV 8)))) (zBinV ixD (eP (pV 2)) (dCall (f__law_draw K) (aP (pCons (pV 0) (pCons (pC (.int 26)) pNil)))))) (eP (pSl slD (pBin ixD (pBo 4) (pUn negD (pC (.int 1)))) (pSoI (pBin addD (pBo 8) (pC (.int 1)))) pNoI)))))
  (sSet 7 (zJoin (eP (pC (.str ""))) (dFrz (zLc (iRg1 (dCons (zBinV addD (eP (pC (.int 1))) (dCall (f__law_draw K) (aP (pCons (pV 0) (pCons (pC (.int 8)) pNil))))) dNil)) (gP (tN 9)) (tP qYes) (zBinV ixD (eP (pV 2)) (dCall (f__law_draw K) (aP (pCons (pV 0) (pCons (pC (.int 26)) pNil))))) [9]))))))
  (sSeq (zIf (tP (pTst (pBin inD (pBo 7) (pBo 4))))
  (sSet 7 (eP (pBin ixD (pLst (pLc (piSeq (pLst (pCons (pC (.str "q")) (pCons (pC (.str "qq")) (pCons (pC (.str "qqq")) (pCons (pC (.str "qqqq")) (pCons (pC (.str "qqqqq")) pNil))))))) (tN 10) (pTst (pBin notInD (pBo 10) (pBo 4))) (pV 10) [10])) (pC (.int 0)))))
  sNext)
  (zMut 4 gApp (dCons (eP (pV 7)) dNil))))))
  (sRet (eP (pCallB tupleD (pCons (pBo 4) pNil))))))))
abbrev N__law_cell : List Str := ["_law_well_here", "_law_signs", "_law_words", "_law_way", "_law_start", "_law_stride", "_law_k"]
def tb__law_cell (K : PySem.W.Frag) : DTS := (sSeq (sSet 1 (eP (pC (.str "abcdefghijklmnopqrstuvwxyz0123456789-"))))
  (sSeq (sSet 2 (eP (pLst (pCons (pC (.str "is")) (pCons (pC (.str "not")) (pCons (pC (.str "same")) (pCons (pC (.str "other")) (pCons (pC (.str "if")) (pCons (pC (.str "word")) (pCons (pC (.str "-")) (pCons (pC (.str "--")) (pCons (pC (.str "0")) (pCons (pC (.str "00")) (pCons (pC (.str "-1")) (pCons (pC (.str "1e5")) pNil)))))))))))))))
  (sSeq (sSet 3 (dCall (f__law_draw K) (aP (pCons (pV 0) (pCons (pC (.int 6)) pNil)))))
  (sSeq (zIf (tP (pTst (pBin eqD (pBo 3) (pC (.int 0)))))
  (sRet (eP (pC (.str ""))))
  sNext)
  (sSeq (zIf (tP (pTst (pBin eqD (pBo 3) (pC (.int 1)))))
  (sRet (zBinV ixD (eP (pV 1)) (dCall (f__law_draw K) (aP (pCons (pV 0) (pCons (pC (.int 37)) pNil))))))
  sNext)
  (sSeq (zIf (tP (pTst (pBin eqD (pBo 3) (pC (.int 2)))))
  (sSeq (sAsg (zTup (dCons (dCall (f__law_draw K) (aP (pCons (pV 0) (pCons (pC (.int 37)) pNil)))) (dCons (dCall (f__law_draw K) (aP (pCons (pV 0) (pCons (pC (.int 37)) pNil)))) dNil))) (gP (tT 2 (tCons (tN 4) (tCons (tN 5) tNil)))))
  (sRet (eP (pStM joinD (pC (.str "")) (pLst (pLc (piR1 (pC (.int 20))) (tN 6) qYes (pBin ixD (pBo 1) (pBin modD (pCallB intD (pCons (pBin addD (pBo 4) (pBin repD (pBo 5) (pBo 6))) pNil)) (pC (.int 37)))) [6]))))))
  sNext)
  (sSeq (zIf (tP (pTst (pBin eqD (pBo 3) (pC (.int 3)))))
  (sRet (zBinV ixD (eP (pV 2)) (dCall (f__law_draw K) (aP (pCons (pV 0) (pCons (pC (.int 12)) pNil))))))
  sNext)
  (sRet (zJoin (eP (pC (.str ""))) (dFrz (zLc (iRg1 (dCons (dCall (f__law_draw K) (aP (pCons (pV 0) (pCons (pC (.int 7)) pNil)))) dNil)) (gP (tN 6)) (tP qYes) (zBinV ixD (eP (pV 1)) (dCall (f__law_draw K) (aP (pCons (pV 0) (pCons (pC (.int 37)) pNil))))) [6])))))))))))
abbrev N__law_test : List Str := ["_law_well_here", "_law_heads", "_law_head", "_law_wanted"]
def tb__law_test (K : PySem.W.Frag) : DTS := (sSeq (zPar 2 3 (dCons (zBinV ixD (eP (pV 1)) (dCall (f__law_draw K) (aP (pCons (pV 0) (pCons (pCallB lenD (pCons (pBo 1) pNil)) pNil))))) (dCons (zBinV eqD (dCall (f__law_draw K) (aP (pCons (pV 0) (pCons (pC (.int 2)) pNil)))) (eP (pC (.int 0)))) dNil)))
  (sSeq (zIf (zTst (zBinV eqD (dCall (f__law_draw K) (aP (pCons (pV 0) (pCons (pC (.int 3)) pNil)))) (eP (pC (.int 0)))))
  (sRet (eP (pTup (pCons (pC (.str "same")) (pCons (pV 2) (pCons (pV 3) pNil))))))
  sNext)
  (sRet (zTup (dCons (eP (pC (.str "is"))) (dCons (eP (pV 2)) (dCons (dCall (f__law_cell K) (aP (pCons (pV 0) pNil))) (dCons (eP (pV 3)) dNil))))))))
abbrev N__law_step : List Str := ["_law_well_here", "_law_heads", "_law_way"]
def tb__law_step (K : PySem.W.Frag) : DTS := (sSeq (sSet 2 (dCall (f__law_draw K) (aP (pCons (pV 0) (pCons (pC (.int 9)) pNil)))))
  (sSeq (zIf (tP (pTst (pBin ltD (pBo 2) (pC (.int 4)))))
  (sRet (zTup (dCons (eP (pBin ixD (pLst (pCons (pC (.str "put")) (pCons (pC (.str "keep")) (pCons (pC (.str "say")) (pCons (pC (.str "first")) pNil))))) (pBo 2))) (dCons (zBinV ixD (eP (pV 1)) (dCall (f__law_draw K) (aP (pCons (pV 0) (pCons (pCallB lenD (pCons (pBo 1) pNil)) pNil))))) dNil))))
  sNext)
  (sSeq (zIf (tP (pTst (pBin eqD (pBo 2) (pC (.int 4)))))
  (sRet (zTup (dCons (eP (pC (.str "word"))) (dCons (dCall (f__law_cell K) (aP (pCons (pV 0) pNil))) dNil))))
  sNext)
  (sSeq (zIf (tP (pTst (pBin ltD (pBo 2) (pC (.int 7)))))
  (sRet (eP (pTup (pCons (pBin ixD (pLst (pCons (pC (.str "label")) (pCons (pC (.str "next")) pNil))) (pBin subD (pBo 2) (pC (.int 5)))) pNil))))
  sNext)
  (sRet (zTup (dCons (eP (pBin ixD (pLst (pCons (pC (.str "next")) (pCons (pC (.str "skip")) pNil))) (pBin subD (pBo 2) (pC (.int 7))))) (dCons (dCall (f__law_test K) (aP (pCons (pV 0) (pCons (pV 1) pNil)))) dNil))))))))
abbrev N__law_chain : List Str := ["_law_well_here", "_law_heads", "_law_most", "_law_way", "_law_size", "_law_found", "_law_turn"]
def tb__law_chain (K : PySem.W.Frag) : DTS := (sSeq (sSet 3 (dCall (f__law_draw K) (aP (pCons (pV 0) (pCons (pC (.int 4)) pNil)))))
  (sSeq (sSet 4 (zIfE (tP (pTst (pBin ltD (pBo 3) (pC (.int 2))))) (eP (pBin ixD (pLst (pCons (pC (.int 1)) (pCons (pV 2) pNil))) (pBo 3))) (zBinV addD (eP (pC (.int 1))) (dCall (f__law_draw K) (aP (pCons (pV 0) (pCons (pV 2) pNil)))))))
  (sSeq (sSetF 5 (aP pNil))
  (sSeq (sFor (aP (piR1 (pV 4))) (gP (tN 6))
  (zIf (zAndT (tP (pTst (pBin neD (pBo 5) (pLst pNil)))) (zTst (zBinV eqD (dCall (f__law_draw K) (aP (pCons (pV 0) (pCons (pC (.int 5)) pNil)))) (eP (pC (.int 0))))))
  (zMut 5 gApp (dCons (zIxS ixD 5 (dCall (f__law_draw K) (aP (pCons (pV 0) (pCons (pCallB lenD (pCons (pBo 5) pNil)) pNil))))) dNil))
  (zMut 5 gApp (dCons (dCall (f__law_step K) (aP (pCons (pV 0) (pCons (pV 1) pNil)))) dNil))))
  (sRet (eP (pCallB tupleD (pCons (pBo 5) pNil))))))))
abbrev N__law_same : List Str := ["_law_actual", "_law_expected", "_law_k"]
def tb__law_same (K : PySem.W.Frag) (n : Nat) : DTS := (sSeq (zIf (tP (pTru (pIsi .tup (pBo 1))))
  (sSeq (zIf (tP (qOr (qNot (pTru (pIsi .tup (pBo 0)))) (pTst (pBin neD (pCallB lenD (pCons (pBo 0) pNil)) (pCallB lenD (pCons (pBo 1) pNil))))))
  (sRet (eP (pC (.bl false))))
  sNext)
  (sSeq (sFor (aP (piR1 (pCallB lenD (pCons (pBo 1) pNil)))) (gP (tN 2))
  (zIf (tP (qNot (pTru (pFn (F__law_same K n) (pCons (pBin ixD (pBo 0) (pBo 2)) (pCons (pBin ixD (pBo 1) (pBo 2)) pNil))))))
  (sRet (eP (pC (.bl false))))
  sNext))
  (sRet (eP (pC (.bl true))))))
  sNext)
  (sSeq (zIf (tP (pTru (pIsi .bl (pBo 1))))
  (sRet (eP (pAnd (pIsi .bl (pBo 0)) (pBin eqD (pBo 0) (pBo 1)))))
  sNext)
  (sRet (eP (pAnd (pIsi .str (pBo 0)) (pBin eqD (pBo 0) (pBo 1)))))))
abbrev N__law_told : List Str := ["_law_work", "_law_heads", "_law_chain_here", "_law_turn", "_law_ask", "_law_way", "_law_k", "_law_spot"]
def tb__law_told (K : PySem.W.Frag) : DTS := (sSeq (zIf (dNotT (zTru (dIsi K (eP (pBo 0)) (eP (pC (.ref (He.ga K "Form")))))))
  (sRet (eP (pC (.bl false))))
  sNext)
  (sSeq (sFor (aP (piR1 (pC (.int 4)))) (gP (tN 4))
  (sSeq (sSet 5 (eP (pBin modD (pCallB intD (pCons (pBin addD (pBo 3) (pBo 4)) pNil)) (pC (.int 4)))))
  (sSeq (zIf (tP (pTst (pBin gtD (pBin modD (pCallB intD (pCons (pBo 3) pNil)) (pC (.int 8))) (pC (.int 3)))))
  (sSet 5 (eP (pBin subD (pC (.int 3)) (pBo 5))))
  sNext)
  (sSeq (zIf (zAndT (tP (pTst (pBin eqD (pBo 5) (pC (.int 0))))) (zTst (zBinV neD (dLenO (He.ga K "Form") (f_Form___len__ K) (eP (pV 0))) (eP (pCallB lenD (pCons (pBo 2) pNil))))))
  (sRet (eP (pC (.bl false))))
  sNext)
  (sSeq (zIf (zAndT (tP (pTst (pBin eqD (pBo 5) (pC (.int 1))))) (dNotT (zTru (dCall (f__law_same K) (dCons (dMeth (He.ga K "Form") "steps" (f_Form_steps K) (eP (pV 0)) dNil) (dCons (eP (pV 2)) dNil))))))
  (sRet (eP (pC (.bl false))))
  sNext)
  (sSeq (zIf (zAndT (tP (pTst (pBin eqD (pBo 5) (pC (.int 2))))) (dNotT (zTru (dCall (f__law_same K) (dCons (dMeth (He.ga K "Form") "columns" (f_Form_columns K) (eP (pV 0)) dNil) (dCons (eP (pV 1)) dNil))))))
  (sRet (eP (pC (.bl false))))
  sNext)
  (zIf (tP (pTst (pBin eqD (pBo 5) (pC (.int 3)))))
  (sFor (aP (piR1 (pCallB lenD (pCons (pBo 2) pNil)))) (gP (tN 6))
  (sSeq (sSet 7 (eP (pIfE (pTst (pBin gtD (pBin modD (pCallB intD (pCons (pBo 3) pNil)) (pC (.int 3))) (pC (.int 0)))) (pV 6) (pBin subD (pBin subD (pCallB lenD (pCons (pBo 2) pNil)) (pC (.int 1))) (pBo 6)))))
  (zIf (dNotT (zTru (dCall (f__law_same K) (dCons (dIxO (He.ga K "Form") (f_Form___getitem__ K) (eP (pV 0)) (eP (pV 7))) (dCons (eP (pBin ixD (pBo 2) (pBo 7))) dNil)))))
  (sRet (eP (pC (.bl false))))
  sNext)))
  sNext)))))))
  (sRet (eP (pC (.bl true))))))
end FB

set_option Elab.async false
set_option linter.all false
set_option maxRecDepth 100000
set_option maxHeartbeats 4000000
set_option exponentiation.threshold 20000
namespace FB
open PySem PySem.Spec L2 DD PG
section
variable {K : PySem.W.Frag}
theorem jr {a : Addr} {r : DSt} {G : DG} {xs : List D} (ga : G a = some (.mls xs)) : pDer (pV 0) (some (.v (.ref a)) :: r) G = some (.lst xs) := by
  show (match G a with | some (.mls ds) => some (D.lst ds) | _ => some (D.ref a)) = _
  rw [ga]
theorem p__law_draw (ds : List D) (G : DG) (Q : D → DG → Prop) (E : DX → DG → Prop) (h : fDrawM ds G Q E) : tb__law_draw K (fnEnds Q E) (dstart N__law_draw ds) G := by
  obtain ⟨a, m, i, j, k, rfl, ga, ok, hk, h0, h1, q⟩ := h
  obtain ⟨o1, o2, o3, o4⟩ := ok
  show tb__law_draw K (fnEnds Q E) [some (.v (.ref a)), some (.v (.int m)), none, none, none] G
  have hm : m < 2 ^ 1000 := Int.lt_trans h1 (by decide)
  refine onO_of (pTst_of (pBin_of (pBin_of (jr ga) rfl rfl) rfl rfl)) (brP_of (fun hi => ?_) (fun hi => ?_))
  · refine onO_of (pBin_of (pCallB_of (pCons_of (pBin_of (jr ga) rfl rfl) rfl) rfl) rfl (mod_ok h0)) ?_
    refine onO_of (pBin_of (pBin_of (jr ga) rfl rfl) rfl (fdiv_ok h0 hm)) ?_
    refine .inr ⟨a, _, rfl, ga, 0, _, 0, rfl, ga, rfl, ?_⟩
    rintro δ' G' ⟨rfl, rfl⟩
    exact q _ _ _ _ (Int.emod_nonneg _ (by omega)) (Int.emod_lt_of_pos _ h0) ⟨Int.ediv_nonneg o1 (by omega), o2, o3, o4⟩ (by omega)
  · refine onO_of (z := .int (k + 1)) (pBin_of (pBin_of (jr ga) rfl rfl) rfl rfl) ?_
    refine .inr ⟨a, _, rfl, ga, 2, _, 2, rfl, ga, rfl, ?_⟩
    rintro δ' G' ⟨rfl, rfl⟩
    have gb : (gset G a (some (.mls [.int i, .int j, .int (k + 1)]))) a = some (.mls [.int i, .int j, .int (k + 1)]) := gset_same
    have k0 : (0 : Int) ≤ k + 1 := by omega
    have k2 : k + 1 < 2 ^ 1000 := Int.lt_trans (show k + 1 < 2 ^ 65 by omega) (by decide)
    have hb0 : (2 : Int) ≤ j + 15485863 * (k + 1) := by omega
    have hb1 : j + 15485863 * (k + 1) < 2 ^ 1000 := by
      have e2 : (10 : Int) ^ 36 + 67 + 1299709 * 64 + 15485863 * 2 ^ 65 < 2 ^ 1000 := by decide
      omega
    have m1 : repD (.int 15485863) (.int (k + 1)) = some (.int (15485863 * (k + 1))) := mul_ok (by decide) (by decide) k0 k2
    have m2 : repD (.int 982451653) (.int (k + 1)) = some (.int (982451653 * (k + 1))) := mul_ok (by decide) (by decide) k0 k2
    have m3 : repD (.int 32452843) (.int (k + 1)) = some (.int (32452843 * (k + 1))) := mul_ok (by decide) (by decide) k0 k2
    have p1 : powD (.int (j + 15485863 * (k + 1))) (.int 3) = some (.int ((j + 15485863 * (k + 1)) ^ 3)) := pow_ok hb0 hb1 (by decide)
    have t1 : powD (.int 10) (.int 40) = some (.int (10 ^ 40)) := pow_ok (by decide) (by decide) (by decide)
    have t2 : powD (.int 10) (.int 38) = some (.int (10 ^ 38)) := pow_ok (by decide) (by decide) (by decide)
    have t3 : powD (.int 10) (.int 9) = some (.int (10 ^ 9)) := pow_ok (by decide) (by decide) (by decide)
    refine onO_of (pBin_of (pCallB_of (pCons_of (pBin_of (pBin_of (pBin_of (pBin_of (jr gb) rfl rfl) (pBin_of rfl rfl m1) rfl) rfl p1) (pBin_of rfl rfl m2) rfl) rfl) rfl) (pBin_of (pBin_of rfl rfl t1) rfl rfl) (mod_ok (by decide))) ?_
    generalize hst : ((j + 15485863 * (k + 1)) ^ 3 + 982451653 * (k + 1)) % (10 ^ 40 + 121) = st
    have s0 : 0 ≤ st := by rw [← hst]; exact Int.emod_nonneg _ (by decide)
    have s1 : st < 10 ^ 40 + 121 := by rw [← hst]; exact Int.emod_lt_of_pos _ (by decide)
    have p5 : powD (.int (st + 32452843 * (k + 1))) (.int 3) = some (.int ((st + 32452843 * (k + 1)) ^ 3)) := pow_ok (by omega) (by
      have e2 : (10 : Int) ^ 40 + 121 + 32452843 * 2 ^ 65 < 2 ^ 1000 := by decide
      omega) (by decide)
    refine onO_of (pBin_of (pCallB_of (pCons_of (pBin_of (pBin_of rfl (pBin_of rfl rfl m3) rfl) rfl p5) rfl) rfl) (pBin_of (pBin_of rfl rfl t2) rfl rfl) (mod_ok (by decide))) ?_
    refine onO_of (pBin_of (pCallB_of (pCons_of (pBin_of rfl (pBin_of rfl rfl t3) (fdiv_ok (by decide) (by decide))) rfl) rfl) rfl (mod_ok h0)) ?_
    exact q _ _ _ _ (Int.emod_nonneg _ (by omega)) (Int.emod_lt_of_pos _ h0) ⟨o1, o2, o3, k0⟩ (Int.le_refl _)
theorem p__law_well (ds : List D) (G : DG) (Q : D → DG → Prop) (E : DX → DG → Prop) (h : f__law_well K ds G Q E) : tb__law_well K (fnEnds Q E) (dstart N__law_well ds) G := by
  unfold f__law_well at h
  obtain ⟨ns, k, rfl, hb, h0, h1, q⟩ := h
  show tb__law_well K (fnEnds Q E) [some (.v (.lst (ns.map D.int))), some (.v (.int k)), none, none] G
  -- behind the cell is read
  have rest : ∀ z : Int, z.natAbs.log2 ≤ 1048576 → (sSeq (sSet 3 (eP (pBin repD (pC (.int 2)) (pBo 2))))
      (sSeq (zIf (tP (pTst (pBin ltD (pBo 2) (pC (.int 0)))))
      (sSet 3 (eP (pBin subD (pBin repD (pUn negD (pC (.int 2))) (pBo 2)) (pC (.int 1)))))
      sNext)
      (sRet (dNewJ (aP (pCons (pCallB maxD (pCons (pC (.int 0)) (pCons (pBin subD (pBo 3) (pBin powD (pC (.int 10)) (pC (.int 18)))) pNil))) (pCons (pBin addD (pBin modD (pCallB intD (pCons (pBo 3) pNil)) (pBin addD (pBin powD (pC (.int 10)) (pC (.int 27))) (pC (.int 103)))) (pBin repD (pC (.int 65537)) (pBo 1))) (pCons (pC (.int 0)) pNil)))))))) (fnEnds Q E) [some (.v (.lst (ns.map D.int))), some (.v (.int k)), some (.v (.int z)), none] G := by
    intro z hz
    have t1 : powD (.int 10) (.int 18) = some (.int (10 ^ 18)) := pow_ok (by decide) (by decide) (by decide)
    have t2 : powD (.int 10) (.int 27) = some (.int (10 ^ 27)) := pow_ok (by decide) (by decide) (by decide)
    have m2 : repD (.int 65537) (.int k) = some (.int (65537 * k)) := mul_ok (by decide) (by decide) h0 (Int.lt_trans h1 (by decide))
    have fin : ∀ w : Int, (sRet (dNewJ (aP (pCons (pCallB maxD (pCons (pC (.int 0)) (pCons (pBin subD (pBo 3) (pBin powD (pC (.int 10)) (pC (.int 18)))) pNil))) (pCons (pBin addD (pBin modD (pCallB intD (pCons (pBo 3) pNil)) (pBin addD (pBin powD (pC (.int 10)) (pC (.int 27))) (pC (.int 103)))) (pBin repD (pC (.int 65537)) (pBo 1))) (pCons (pC (.int 0)) pNil)))))) (fnEnds Q E) [some (.v (.lst (ns.map D.int))), some (.v (.int k)), some (.v (.int z)), some (.v (.int w))] G := by
      intro w
      refine onO_of (pCons_of (pCallB_of (pCons_of rfl (pCons_of (pBin_of rfl (pBin_of rfl rfl t1) rfl) rfl)) (max_ok _ _)) (pCons_of (pBin_of (pBin_of (pCallB_of (pCons_of rfl rfl) rfl) (pBin_of (pBin_of rfl rfl t2) rfl rfl) (mod_ok (by decide))) (pBin_of rfl rfl m2) rfl) rfl)) ?_
      refine ⟨_, _, _, rfl, ?_, rfl, q⟩
      have e1 : 0 ≤ w % (10 ^ 27 + 103) := Int.emod_nonneg _ (by decide)
      have e2 : w % (10 ^ 27 + 103) < 10 ^ 27 + 103 := Int.emod_lt_of_pos _ (by decide)
      refine ⟨by omega, by omega, ?_, by decide⟩
      have e3 : (10 : Int) ^ 27 + 103 + 65537 * 64 < 10 ^ 36 + 67 + 1299709 * 64 := by decide
      omega
    refine onO_of (pBin_of rfl rfl (mul_big (by decide) (by omega))) ?_
    refine brP_of (fun _ => ?_) (fun _ => fin _)
    refine onO_of (pBin_of (pBin_of rfl rfl (mul_big (b := -2) (by decide) (by omega))) rfl rfl) ?_
    exact fin _
  by_cases hk : k < (ns.length : Int)
  · refine brP_t (by simpa using hk) ?_
    obtain ⟨z, hz, hm, e, _⟩ := lst_map (f := D.int) h0 hk
    refine onO_of (pCallB_of (pCons_of (pBin_of rfl rfl e) rfl) rfl) ?_
    exact rest z (bits_log (hb z hm))
  · refine brP_f (by simpa using hk) ?_
    exact rest 0 (by decide)
theorem spend_eq {a : Addr} {n c : Nat} {Q : D → DG → Prop} {G : DG} {x : D} (h : c ≤ n) (q : Q x (gset G a (some (.jar n)))) : spend a n Q x (gset G a (some (.jar c))) := spent h q
theorem p__law_cell (ds : List D) (G : DG) (Q : D → DG → Prop) (E : DX → DG → Prop) (h : f__law_cell K ds G Q E) : ∃ a n, tb__law_cell K (fnEnds (spend a n Q) E) (dstart N__law_cell ds) G := by
  unfold f__law_cell at h
  obtain ⟨a, c, rfl, ga, hc, q⟩ := h
  refine ⟨a, c + 30, ?_⟩
  show tb__law_cell K (fnEnds (spend a (c + 30) Q) E) [some (.v (.ref a)), none, none, none, none, none, none] G
  rw [← gset_self ga]
  refine drw (by omega) (by decide) (by decide) fun n n0 n1 => ?_
  have lit : ∀ {w : Str}, cellS w = true → ∀ {c'}, c' ≤ c + 30 → spend a (c + 30) Q (.str w) (gset G a (some (.jar c'))) := fun hw _ hc' => spent hc' (q _ hw)
  have sig : ∀ {n : Int}, 0 ≤ n → n < 37 → ∃ y, ixD (.str cellch) (.int n) = some y ∧ oneOf cellch y := fun h0 h1 => ix_str1 (by decide +kernel) h0 (Int.lt_of_lt_of_le h1 (by decide +kernel))
  by_cases e0 : n = 0
  · subst e0
    exact lit (by decide +kernel) (by omega)
  refine brP_f (int_ne e0) ?_
  by_cases e1 : n = 1
  · subst e1
    refine drw (by omega) (by decide) (by decide) fun t t0 t1 => ?_
    obtain ⟨y, hy, o⟩ := sig t0 t1
    obtain ⟨s, rfl, hs, hk⟩ := one_wr o
    exact onO_of hy (lit (wr_of (by omega) (by omega) hk) (by omega))
  refine brP_f (int_ne e1) ?_
  by_cases e2 : n = 2
  · subst e2
    refine drw (by omega) (by decide) (by decide) fun u u0 u1 => ?_
    refine drw (by omega) (by decide) (by decide) fun v v0 v1 => ?_
    have hp : (pLc (piR1 (pC (.int 20))) (tN 6) qYes (pBin ixD (pBo 1) (pBin modD (pCallB intD (pCons (pBin addD (pBo 4) (pBin repD (pBo 5) (pBo 6))) pNil)) (pC (.int 37)))) [6]) [some (.v (.ref a)), some (.v (.str cellch)), some (.v (.lst [.str "is", .str "not", .str "same", .str "other", .str "if", .str "word", .str "-", .str "--", .str "0", .str "00", .str "-1", .str "1e5"])), some (.v (.int 2)), some (.v (.int u)), some (.v (.int v)), none] (gset G a (some (.jar (c + 1 + 1 + 1)))) = some ((List.range 20).map fun k : Nat => (ixD (.str cellch) (.int ((u + v * (k : Int)) % 37))).getD .non) := by
      refine pLc_of (xs := (List.range 20).map fun k : Nat => D.int (k : Int)) rfl rfl (by simp) ?_
      refine lcP_mapT _ _ _ fun k hk => ⟨_, rfl, rfl, ?_⟩
      have hk2 : k < 20 := List.mem_range.mp hk
      have m : repD (.int v) (.int (k : Nat)) = some (.int (v * (k : Int))) := mul_ok v0 (Int.lt_trans v1 (by decide)) (by omega) (Int.lt_trans (show (k : Int) < 20 by omega) (by decide))
      refine pBin_of rfl (pBin_of (pCallB_of (pCons_of (pBin_of rfl (pBin_of rfl rfl m) rfl) rfl) rfl) rfl (mod_ok (by decide))) ?_
      obtain ⟨y, hy, o⟩ := sig (n := (u + v * (k : Int)) % 37) (Int.emod_nonneg _ (by decide)) (Int.emod_lt_of_pos _ (by decide))
      rw [hy]; rfl
    have ho : ∀ y ∈ ((List.range 20).map fun k : Nat => (ixD (.str cellch) (.int ((u + v * (k : Int)) % 37))).getD .non), oneOf cellch y := by
      intro y hy
      obtain ⟨k, _, rfl⟩ := List.mem_map.mp hy
      obtain ⟨y, hy, o⟩ := sig (n := (u + v * (k : Int)) % 37) (Int.emod_nonneg _ (by decide)) (Int.emod_lt_of_pos _ (by decide))
      rw [hy]; exact o
    obtain ⟨s, hs, hsl, hk⟩ := join_one ho (by simp)
    refine onO_of (z := .str s) ?_ (lit (wr_of (by omega) (by simp at hsl; omega) hk) (by omega))
    exact pJoin_of rfl (pLst_of hp) hs
  refine brP_f (int_ne e2) ?_
  by_cases e3 : n = 3
  · subst e3
    refine drw (by omega) (by decide) (by decide) fun t t0 t1 => ?_
    obtain ⟨w, _, hw, e, _⟩ := lst_map (f := D.str) (xs := ["is", "not", "same", "other", "if", "word", "-", "--", "0", "00", "-1", "1e5"]) t0 (by simpa using t1)
    have all : (["is", "not", "same", "other", "if", "word", "-", "--", "0", "00", "-1", "1e5"] : List Str).all cellS = true := by decide +kernel
    exact onO_of e (lit (List.all_eq_true.mp all w hw) (by omega))
  refine brP_f (int_ne e3) ?_
  refine drw (by omega) (by decide) (by decide) fun t t0 t1 => ?_
  refine ⟨t, rfl, by omega, by omega, ?_⟩
  refine lc_one (z := cellch) (by simp; omega) (by omega) (fun x c' Q' hc' hq => ?_) fun ys hl ho => ?_
  · refine drw hc' (by decide) (by decide) fun n n0 n1 => ?_
    obtain ⟨y, hy, o⟩ := sig n0 n1
    exact onO_of hy (hq y o)
  · simp at hl
    obtain ⟨s, hs, hsl, hk⟩ := join_one ho (by omega)
    refine onO_of hs (lit (wr_of (by omega) (by omega) hk) ?_)
    simp
    omega
def words : List Str := ["if", "is", "not", "same", "other", "put", "word", "label", "next", "skip", "keep", "say", "first"]
def spares : List Str := ["q", "qq", "qqq", "qqqq", "qqqqq"]
theorem words_ok : ∀ w ∈ words, nameS w = true := fun w h => List.all_eq_true.mp (show words.all nameS = true by decide +kernel) w h
theorem spares_ok : ∀ w ∈ spares, nameS w = true := fun w h => List.all_eq_true.mp (show spares.all nameS = true by decide +kernel) w h
theorem spares_nodup : spares.Nodup := by decide +kernel
theorem letter {n : Int} (h0 : 0 ≤ n) (h1 : n < 26) : ∃ y, ixD (.str letters) (.int n) = some y ∧ oneOf letters y := ix_str1 (by decide +kernel) h0 (Int.lt_of_lt_of_le h1 (by decide +kernel))
theorem p__law_names (ds : List D) (G : DG) (Q : D → DG → Prop) (E : DX → DG → Prop) (h : f__law_names K ds G Q E) : ∃ a n, tb__law_names K (fnEnds (spend a n Q) E) (dstart N__law_names ds) G := by
  unfold f__law_names at h
  obtain ⟨a, m, c, rfl, ga, m0, m1, hc, q⟩ := h
  refine ⟨a, c + 100, ?_⟩
  show tb__law_names K (fnEnds (spend a (c + 100) Q) E) [some (.v (.ref a)), some (.v (.int m)), none, none, none, none, none, none, none, none, none] G
  rw [← gset_self ga]
  refine onO_of (z := rngD m) (by show r1O (.int m) = _; unfold r1O; simp only [inR_iff.mpr (show -(2 ^ 61) - 1 ≤ m ∧ m ≤ 2 ^ 61 by omega)]) ?_
  refine for_inv (I := fun r δ G' => ∃ (zs : List Str) (c' : Nat) (s5 s6 s7 s8 : Option SV), δ = [some (.v (.ref a)), some (.v (.int m)), some (.v (.str letters)), some (.v (.lst (words.map D.str))), some (.own (zs.map D.str)), s5, s6, s7, s8, none, none] ∧ G' = gset G a (some (.jar c')) ∧ zs.Nodup ∧ (∀ z ∈ zs, nameS z = true) ∧ (zs.length : Int) + r.length = m ∧ c' ≤ c + 20 * zs.length) _ _ _ ⟨[], c, _, _, _, _, rfl, rfl, by simp, by simp, by simp [rngD]; omega, by simp⟩ ?_ ?_
  · rintro δ G' ⟨zs, c', s5, s6, s7, s8, rfl, rfl, nd, hz, hl, hc'⟩
    simp at hl
    exact spent (by omega) (q zs (colsOk_of (by omega) (by omega) nd hz) (by omega))
  · rintro x r δ G' nx ⟨zs, c', s5, s6, s7, s8, rfl, rfl, nd, hz, hl, hc'⟩ hnx
    simp only [List.length_cons] at hl
    have hl5 : zs.length < 5 := by omega
    refine drw (by omega) (by decide) (by decide) fun n n0 n1 => ?_
    dsimp only
    refine seq_mid (M := fun δ' G'' => ∃ (s : Str) (c'' : Nat) (t5 t6 t8 : Option SV), δ' = [some (.v (.ref a)), some (.v (.int m)), some (.v (.str letters)), some (.v (.lst (words.map D.str))), some (.own (zs.map D.str)), t5, t6, some (.v (.str s)), t8, none, none] ∧ G'' = gset G a (some (.jar c'')) ∧ nameS s = true ∧ c'' ≤ c' + 20) (fun nx' hn => ?_) ?_
    · by_cases e0 : n = 0
      · subst e0
        refine drw (by omega) (by decide) (by decide) fun t t0 t1 => ?_
        obtain ⟨w, _, hw, e, _⟩ := lst_map (f := D.str) (xs := words) t0 t1
        exact onO_of e (hn _ _ ⟨w, _, _, _, _, rfl, rfl, words_ok w hw, by omega⟩)
      refine brP_f (int_ne e0) ?_
      have other : (sSet 7 (zJoin (eP (pC (.str ""))) (dFrz (zLc (iRg1 (dCons (zBinV addD (eP (pC (.int 1))) (dCall (f__law_draw K) (aP (pCons (pV 0) (pCons (pC (.int 8)) pNil))))) dNil)) (gP (tN 9)) (tP qYes) (zBinV ixD (eP (pV 2)) (dCall (f__law_draw K) (aP (pCons (pV 0) (pCons (pC (.int 26)) pNil))))) [9])))) { (fnEnds (spend a (c + 100) Q) E) with nx := nx', ct := nx, bk := sRet (eP (pCallB tupleD (pCons (pBo 4) pNil))) (fnEnds (spend a (c + 100) Q) E) } [some (.v (.ref a)), some (.v (.int m)), some (.v (.str letters)), some (.v (.lst (words.map D.str))), some (.own (zs.map D.str)), some (.v x), some (.v (.int n)), s7, s8, none, none] (gset G a (some (.jar (c' + 1)))) := by
        refine drw (by omega) (by decide) (by decide) fun t t0 t1 => ?_
        refine ⟨1 + t, rfl, by omega, by omega, ?_⟩
        refine lc_one (z := letters) (by simp; omega) (by omega) (fun x c' Q' hc' hq => ?_) fun ys hl ho => ?_
        · refine drw hc' (by decide) (by decide) fun n n0 n1 => ?_
          obtain ⟨y, hy, o⟩ := letter n0 n1
          exact onO_of hy (hq y o)
        · simp at hl
          obtain ⟨s, hs, hsl, hk⟩ := join_one ho (by omega)
          refine onO_of hs (hn _ _ ⟨s, _, _, _, _, rfl, rfl, wr_of (by omega) (by omega) hk, ?_⟩)
          simp
          omega
      by_cases e1 : n = 1
      · subst e1
        refine onO_of (z := !(zs.map D.str).isEmpty) (pTst_of (pBin_of rfl rfl (ne_nil (pl_strs zs)))) ?_
        by_cases ez : zs = []
        · subst ez
          exact other
        have hne : zs.map D.str ≠ [] := by simpa using ez
        refine brP_t (by simpa using ez) ?_
        have hlast := lst_last hne
        rw [List.getLast_map] at hlast
        generalize hw : zs.getLast ez = w at hlast
        have hw1 : nameS w = true := by rw [← hw]; exact hz _ (List.getLast_mem ez)
        obtain ⟨w0, w8, wk⟩ := wr_signs hw1
        have hlen : lenD [.str w] = some (.int w.length) := if_pos (by omega)
        refine onO_of (pCons_of rfl (pCons_of (pCallB_of (pCons_of (pBin_of rfl rfl hlast) rfl) hlen) rfl)) ?_
        refine drw (by omega) (by omega) (Int.lt_of_le_of_lt w8 (by decide)) fun t t0 t1 => ?_
        obtain ⟨u, hu, eu⟩ := cut_str (z := w) (by omega) none (some t)
        obtain ⟨v, hv, ev⟩ := cut_str (z := w) (by omega) (some (t + 1)) none
        refine onO_of (pSl_of (pBin_of rfl rfl hlast) rfl rfl hu) ?_
        refine drw (by omega) (by decide) (by decide) fun n n0 n1 => ?_
        obtain ⟨y, hy, o⟩ := letter n0 n1
        obtain ⟨y, rfl, y1, yk⟩ := one_wr o
        have lu : u.length = t.toNat := by
          rw [eu, cut_len]
          simp [HT.sIx, show ¬ t < 0 by omega]
          omega
        have lv : v.length = w.length - (t.toNat + 1) := by
          rw [ev, cut_len]
          simp [HT.sIx, show ¬ t + 1 < 0 by omega]
          omega
        refine onO_of hy ?_
        refine onO_of (add_str (by omega)) ?_
        refine onO_of (pSl_of (pBin_of rfl rfl hlast) rfl rfl hv) ?_
        have l1 := (app_signs (s := u) (t := y)).1
        refine onO_of (add_str (by omega)) ?_
        have l2 := (app_signs (s := u ++ y) (t := v)).1
        refine hn _ _ ⟨u ++ y ++ v, _, _, _, _, rfl, rfl, wr_of (by omega) (by omega) fun k hk => ?_, by omega⟩
        rcases (app_signs.2 k).mp hk with hk | hk
        · rcases (app_signs.2 k).mp hk with hk | hk
          · rw [eu] at hk; exact wk k (cut_signs _ _ k hk)
          · exact yk k hk
        · rw [ev] at hk; exact wk k (cut_signs _ _ k hk)
      have h1 : (pTst (pBin eqD (pBo 6) (pC (.int 1)))) [some (.v (.ref a)), some (.v (.int m)), some (.v (.str letters)), some (.v (.lst (words.map D.str))), some (.own (zs.map D.str)), some (.v x), some (.v (.int n)), s7, s8, none, none] (gset G a (some (.jar (c' + 1)))) = some false := by
        show some (n == 1) = _
        rw [int_ne e1]
      exact onO_of (qAnd_f h1) other
    · rintro δ' G'' ⟨s, c'', t5, t6, t8, rfl, rfl, hs, hc''⟩
      refine onO_of (pTst_of (pBin_of rfl rfl (in_lst zs s))) (brP_of (fun hb => ?_) (fun hb => ?_))
      · obtain ⟨z, rr, hf, hzq, hzn⟩ := free_one (zs := zs) spares_nodup (by have : spares.length = 5 := rfl; omega)
        have hp : (pLc (piSeq (pLst (pCons (pC (.str "q")) (pCons (pC (.str "qq")) (pCons (pC (.str "qqq")) (pCons (pC (.str "qqqq")) (pCons (pC (.str "qqqqq")) pNil))))))) (tN 10) (pTst (pBin notInD (pBo 10) (pBo 4))) (pV 10) [10]) [some (.v (.ref a)), some (.v (.int m)), some (.v (.str letters)), some (.v (.lst (words.map D.str))), some (.own (zs.map D.str)), t5, t6, some (.v (.str s)), t8, none, none] (gset G a (some (.jar c''))) = some ((spares.filter (fun y => !decide (y ∈ zs))).map D.str) := by
          refine pLc_of (xs := spares.map D.str) rfl rfl (by decide) ?_
          exact lcP_filT _ _ _ _ fun y hy => ⟨_, rfl, pTst_of (pBin_of rfl rfl (notin_lst zs y)), fun _ => rfl⟩
        rw [hf] at hp
        refine onO_of (pBin_of (pLst_of hp) rfl (lst_nat (x := .str z) (i := 0) (by decide) rfl)) ?_
        refine onO_if (by simp; omega) ?_
        exact hnx _ _ ⟨zs ++ [z], c'', _, _, _, _, by rw [List.map_append]; rfl, rfl, by rw [List.nodup_append]; exact ⟨nd, by simp, by simp; intro y hy e; subst e; exact hzn hy⟩, fun y hy => by
          rcases List.mem_append.mp hy with hy | hy
          · exact hz y hy
          · rw [List.mem_singleton.mp hy]; exact spares_ok z hzq, by simp; omega, by simp; omega⟩
      · have hsn : s ∉ zs := by simpa using hb
        refine onO_if (by simp; omega) ?_
        exact hnx _ _ ⟨zs ++ [s], c'', _, _, _, _, by rw [List.map_append]; rfl, rfl, by rw [List.nodup_append]; exact ⟨nd, by simp, by simp; intro y hy e; subst e; exact hsn hy⟩, fun y hy => by
          rcases List.mem_append.mp hy with hy | hy
          · exact hz y hy
          · rw [List.mem_singleton.mp hy]; exact hs, by simp; omega, by simp; omega⟩
theorem head_at {cs : List Str} {n : Int} (h0 : 0 ≤ n) (h1 : n < ((cs.map D.str).length : Int)) : ∃ h, h ∈ cs ∧ ixD (eC cs) (.int n) = some (.str h) := by
  obtain ⟨x, _, hx, _, e⟩ := lst_map (f := D.str) (xs := cs) h0 (by simpa using h1)
  exact ⟨x, hx, e⟩
theorem p__law_test (ds : List D) (G : DG) (Q : D → DG → Prop) (E : DX → DG → Prop) (h : f__law_test K ds G Q E) : ∃ a n, tb__law_test K (fnEnds (spend a n Q) E) (dstart N__law_test ds) G := by
  unfold f__law_test at h
  obtain ⟨a, cs, c, rfl, ga, l1, l5, hc, q⟩ := h
  refine ⟨a, c + 40, ?_⟩
  show tb__law_test K (fnEnds (spend a (c + 40) Q) E) [some (.v (.ref a)), some (.v (eC cs)), none, none] G
  rw [← gset_self ga]
  refine drw (by omega) (by simp; omega) (by simp; omega) fun n n0 n1 => ?_
  obtain ⟨h, hm, e⟩ := head_at n0 n1
  refine onO_of e ?_
  refine drw (by omega) (by decide) (by decide) fun w w0 w1 => ?_
  refine drw (by omega) (by decide) (by decide) fun t t0 t1 => ?_
  refine brP_of (fun _ => ?_) (fun _ => ?_)
  · exact spent (by omega) (q (.same h (w == 0)) (by simpa [tstOk] using hm))
  · refine c_cell (by omega) fun x hx => ?_
    exact spent (by omega) (q (.is h x (w == 0)) (by simp [tstOk, hm, hx]))
theorem p__law_step (ds : List D) (G : DG) (Q : D → DG → Prop) (E : DX → DG → Prop) (h : f__law_step K ds G Q E) : ∃ a n, tb__law_step K (fnEnds (spend a n Q) E) (dstart N__law_step ds) G := by
  unfold f__law_step at h
  obtain ⟨a, cs, c, rfl, ga, l1, l5, hc, q⟩ := h
  refine ⟨a, c + 50, ?_⟩
  show tb__law_step K (fnEnds (spend a (c + 50) Q) E) [some (.v (.ref a)), some (.v (eC cs)), none] G
  rw [← gset_self ga]
  refine drw (by omega) (by decide) (by decide) fun w w0 w1 => ?_
  have cases9 : w = 0 ∨ w = 1 ∨ w = 2 ∨ w = 3 ∨ w = 4 ∨ w = 5 ∨ w = 6 ∨ w = 7 ∨ w = 8 := by omega
  rcases cases9 with rfl | rfl | rfl | rfl | rfl | rfl | rfl | rfl | rfl
  · refine drw (by omega) (by simp; omega) (by simp; omega) fun n n0 n1 => ?_
    obtain ⟨h, hm, e⟩ := head_at n0 n1
    exact onO_of e (spent (by omega) (q (.put h) (by simpa [stpOk] using hm)))
  · refine drw (by omega) (by simp; omega) (by simp; omega) fun n n0 n1 => ?_
    obtain ⟨h, hm, e⟩ := head_at n0 n1
    exact onO_of e (spent (by omega) (q (.keep h) (by simpa [stpOk] using hm)))
  · refine drw (by omega) (by simp; omega) (by simp; omega) fun n n0 n1 => ?_
    obtain ⟨h, hm, e⟩ := head_at n0 n1
    exact onO_of e (spent (by omega) (q (.say h) (by simpa [stpOk] using hm)))
  · refine drw (by omega) (by simp; omega) (by simp; omega) fun n n0 n1 => ?_
    obtain ⟨h, hm, e⟩ := head_at n0 n1
    exact onO_of e (spent (by omega) (q (.first h) (by simpa [stpOk] using hm)))
  · refine c_cell (by omega) fun x hx => ?_
    exact spent (by omega) (q (.word x) hx)
  · exact spent (by omega) (q .label rfl)
  · exact spent (by omega) (q .next rfl)
  · refine c_test l1 l5 (by omega) fun t ht => ?_
    exact spent (by omega) (q (.nextT t) ht)
  · refine c_test l1 l5 (by omega) fun t ht => ?_
    exact spent (by omega) (q (.skip t) ht)
theorem p__law_chain (ds : List D) (G : DG) (Q : D → DG → Prop) (E : DX → DG → Prop) (h : f__law_chain K ds G Q E) : ∃ a n, tb__law_chain K (fnEnds (spend a n Q) E) (dstart N__law_chain ds) G := by
  unfold f__law_chain at h
  obtain ⟨a, cs, m, c, rfl, ga, l1, l5, m1, m100, hc, q⟩ := h
  refine ⟨a, c + 10000, ?_⟩
  show tb__law_chain K (fnEnds (spend a (c + 10000) Q) E) [some (.v (.ref a)), some (.v (eC cs)), some (.v (.int m)), none, none, none, none] G
  rw [← gset_self ga]
  refine drw (by omega) (by decide) (by decide) fun w w0 w1 => ?_
  dsimp only
  refine seq_mid (M := fun δ' G' => ∃ (k : Nat) (c' : Nat) (s3 : Option SV), δ' = [some (.v (.ref a)), some (.v (eC cs)), some (.v (.int m)), s3, some (.v (.int k)), none, none] ∧ G' = gset G a (some (.jar c')) ∧ 1 ≤ k ∧ k ≤ m ∧ c' ≤ c + 2) (fun nx hnx => ?_) ?_
  · by_cases hw : w < 2
    · refine brP_t (by simpa using hw) ?_
      have : w = 0 ∨ w = 1 := by omega
      rcases this with rfl | rfl
      · exact hnx _ _ ⟨1, _, _, rfl, rfl, by omega, by omega, by omega⟩
      · exact hnx _ _ ⟨m, _, _, rfl, rfl, by omega, by omega, by omega⟩
    · refine brP_f (by simpa using hw) ?_
      refine drw (by omega) (by omega) (Int.lt_of_le_of_lt (show (m : Int) ≤ 100 by omega) (by decide)) fun n n0 n1 => ?_
      obtain ⟨k, rfl⟩ : ∃ k : Nat, n = k := ⟨n.toNat, by omega⟩
      exact hnx _ _ ⟨1 + k, _, _, by rw [show ((1 + k : Nat) : Int) = 1 + (k : Int) by omega]; rfl, rfl, by omega, by omega, by omega⟩
  · rintro δ' G' ⟨k, c', s3, rfl, rfl, k1, km, hc'⟩
    refine onO_of (z := rngD k) (by show r1O (.int k) = _; unfold r1O; simp only [inR_iff.mpr (show -(2 ^ 61) - 1 ≤ (k : Int) ∧ (k : Int) ≤ 2 ^ 61 by omega)]) ?_
    refine for_inv (I := fun r δ G' => ∃ (st : List Stp) (c'' : Nat) (s6 : Option SV), δ = [some (.v (.ref a)), some (.v (eC cs)), some (.v (.int m)), s3, some (.v (.int k)), some (.own (st.map eP')), s6] ∧ G' = gset G a (some (.jar c'')) ∧ (∀ s ∈ st, stpOk cs s = true) ∧ st.length + r.length = k ∧ c'' ≤ c' + 60 * st.length) _ _ _ ⟨[], c', _, rfl, rfl, by simp, by simp [rngD], by simp⟩ ?_ ?_
    · rintro δ G' ⟨st, c'', s6, rfl, rfl, hs, hl, hc''⟩
      simp at hl
      exact spent (by omega) (q st (by omega) (by omega) hs)
    · rintro x r δ G' nx ⟨st, c'', s6, rfl, rfl, hs, hl, hc''⟩ hnx
      simp only [List.length_cons] at hl
      have more : ∀ (c3 : Nat) (s : Stp) (s6 : Option SV), c3 ≤ c'' + 60 → stpOk cs s = true → nx [some (.v (.ref a)), some (.v (eC cs)), some (.v (.int m)), s3, some (.v (.int k)), some (.own (st.map eP' ++ [eP' s])), s6] (gset G a (some (.jar c3))) := fun c3 s s6 h3 h4 => hnx _ _ ⟨st ++ [s], c3, _, by rw [List.map_append]; rfl, rfl, fun y hy => by
        rcases List.mem_append.mp hy with hy | hy
        · exact hs y hy
        · rw [List.mem_singleton.mp hy]; exact h4, by simp; omega, by simp; omega⟩
      have fresh : ∀ (c3 : Nat) (s6 : Option SV) (N : DEnds), c3 ≤ c'' + 1 → N.nx = nx → (zMut 5 gApp (dCons (dCall (f__law_step K) (aP (pCons (pV 0) (pCons (pV 1) pNil)))) dNil)) N [some (.v (.ref a)), some (.v (eC cs)), some (.v (.int m)), s3, some (.v (.int k)), some (.own (st.map eP')), s6] (gset G a (some (.jar c3))) := fun c3 s6 N h3 hN => by
        refine c_step l1 l5 (by omega) fun s hs1 => ?_
        refine onO_if (by simp; omega) ?_
        rw [hN]
        exact more _ s s6 (by omega) hs1
      refine onO_of rfl ?_
      refine onO_of (z := !(st.map eP').isEmpty) (pTst_of (pBin_of rfl rfl (ne_nil (pl_steps st)))) ?_
      by_cases ez : st = []
      · subst ez
        exact fresh _ _ _ (by omega) rfl
      refine brP_t (by simpa using ez) ?_
      refine drw (by omega) (by decide) (by decide) fun n n0 n1 => ?_
      refine brP_of (fun _ => ?_) (fun _ => fresh _ _ _ (by omega) rfl)
      refine drw (by omega) (by have := List.length_pos_iff.mpr ez; simp; omega) (Int.lt_of_le_of_lt (show _ ≤ (100 : Int) by simp; omega) (by decide)) fun t t0 t1 => ?_
      obtain ⟨s, _, hm, e, _⟩ := lst_map (f := eP') (xs := st) t0 (by simpa using t1)
      refine onO_of e ?_
      refine onO_if (by simp; omega) ?_
      exact more _ s _ (by omega) (hs s hm)
theorem sameL_iff {f : D → D → Bool} : ∀ {xs ys : List D}, sameL f xs ys = true ↔ xs.length = ys.length ∧ ∀ (i : Nat) x y, xs[i]? = some x → ys[i]? = some y → f x y = true
  | [], [] => by simp [sameL]
  | [], _ :: _ => by simp [sameL]
  | _ :: _, [] => by simp [sameL]
  | x :: r, y :: s => by
    rw [sameL, Bool.and_eq_true, sameL_iff (xs := r) (ys := s)]
    constructor
    · rintro ⟨h1, h2, h3⟩
      refine ⟨by simp [h2], fun i a b ha hb => ?_⟩
      cases i with
      | zero => simp at ha hb; subst ha hb; exact h1
      | succ i => exact h3 i a b (by simpa using ha) (by simpa using hb)
    · rintro ⟨h1, h2⟩
      exact ⟨h2 0 x y rfl rfl, by simpa using h1, fun i a b ha hb => h2 (i + 1) a b (by simpa using ha) (by simpa using hb)⟩
theorem same_tup {n : Nat} {x : D} {ys : List D} (h : ∀ xs, x ≠ .tup xs) : sameD (n + 1) x (.tup ys) = false := by
  cases n <;> cases x <;> first | rfl | exact absurd rfl (h _)
theorem F_same_some {n : Nat} {ds : List D} {G : DG} {z : D} (h : F__law_same K (n + 1) ds G = some z) : ∃ x y, ds = [x, y] ∧ askL (n + 1) x = true ∧ askD (n + 1) y = true ∧ z = .bl (sameD (n + 1) x y) := by
  match ds, h with
  | [x, y], h =>
    have h : (if askL (n + 1) x = true ∧ askD (n + 1) y = true then some (D.bl (sameD (n + 1) x y)) else none) = some z := h
    split at h
    · rename_i hc
      cases h
      exact ⟨x, y, rfl, hc.1, hc.2, rfl⟩
    · cases h
  | [], h => cases h
  | [_], h => cases h
  | _ :: _ :: _ :: _, h => cases h
theorem p__law_same (n : Nat) (ds : List D) (G : DG) (Q : D → DG → Prop) (E : DX → DG → Prop) (h : pf (F__law_same K (n + 1)) ds G Q E) : tb__law_same K n (fnEnds Q E) (dstart N__law_same ds) G := by
  obtain ⟨z, hz, q⟩ := onO_iff.mp h
  obtain ⟨x, y, rfl, hx, hy, rfl⟩ := F_same_some hz
  show tb__law_same K n (fnEnds Q E) [some (.v x), some (.v y), none] G
  cases y with
  | tup ys =>
    cases n with
    | zero => cases hy
    | succ n =>
      simp only [askD, Bool.and_eq_true, List.all_eq_true, decide_eq_true_eq] at hy
      cases x with
      | tup xs =>
        simp only [askL, Bool.and_eq_true, List.all_eq_true, decide_eq_true_eq] at hx
        refine brP_of (fun hb => ?_) (fun hb => ?_)
        · have hb : ((xs.length : Int) == (ys.length : Int)) = false := by
            have : (!((xs.length : Int) == (ys.length : Int))) = true := hb
            simpa using this
          have e : sameD (n + 2) (.tup xs) (.tup ys) = false := by
            show sameL _ _ _ = false
            rw [← Bool.not_eq_true, sameL_iff]
            rintro ⟨h1, _⟩
            simp [h1] at hb
          rw [e] at q
          exact q
        · have hl : xs.length = ys.length := by
            have : (!((xs.length : Int) == (ys.length : Int))) = false := hb
            simp at this
            omega
          refine onO_of (r1_ok (L := ys.length) (by omega)) ?_
          refine for_inv (I := fun r δ G' => ∃ (k : Nat) (s2 : Option SV), r = (rngD ys.length).drop k ∧ k ≤ ys.length ∧ δ = [some (.v (.tup xs)), some (.v (.tup ys)), s2] ∧ G' = G ∧ ∀ (i : Nat) a b, i < k → xs[i]? = some a → ys[i]? = some b → sameD (n + 1) a b = true) _ _ _ ⟨0, _, rfl, by omega, rfl, rfl, fun i a b hi => by omega⟩ ?_ ?_
          · rintro δ G' ⟨k, s2, hr, hk, rfl, rfl, hs⟩
            have e := rng_nil hr.symm hk
            subst e
            have e : sameD (n + 2) (.tup xs) (.tup ys) = true := by
              show sameL _ _ _ = true
              rw [sameL_iff]
              exact ⟨hl, fun i a b ha hb => hs i a b (by have := (List.getElem?_eq_some_iff.mp hb).1; omega) ha hb⟩
            rw [e] at q
            exact q
          · rintro x r δ G' nx ⟨k, s2, hr, hk, rfl, rfl, hs⟩ hnx
            obtain ⟨hk2, rfl, hr2⟩ := rng_cons hr.symm
            have ea : xs[k]? = some xs[k] := List.getElem?_eq_getElem (by omega)
            have eb : ys[k]? = some ys[k] := List.getElem?_eq_getElem (by omega)
            have hF : ∀ G, F__law_same K (n + 1) [xs[k], ys[k]] G = some (.bl (sameD (n + 1) xs[k] ys[k])) := fun _ => if_pos ⟨hx.1 _ (List.getElem_mem _), hy.1 _ (List.getElem_mem _)⟩
            refine onO_of rfl ?_
            refine onO_of (qn_fn (pCons_of (pBin_of rfl rfl (at_nat k ea)) (pCons_of (pBin_of rfl rfl (at_nat k eb)) rfl)) (hF _)) (brP_of (fun hb => ?_) (fun hb => ?_))
            · have hb : sameD (n + 1) xs[k] ys[k] = false := by simpa using hb
              have e : sameD (n + 2) (.tup xs) (.tup ys) = false := by
                show sameL _ _ _ = false
                rw [← Bool.not_eq_true, sameL_iff]
                rintro ⟨_, h2⟩
                rw [h2 k _ _ ea eb] at hb
                cases hb
              rw [e] at q
              exact q
            · have hb : sameD (n + 1) xs[k] ys[k] = true := by simpa using hb
              refine hnx _ _ ⟨k + 1, _, hr2, by omega, rfl, rfl, fun i a b hi ha hb2 => ?_⟩
              by_cases e : i = k
              · subst e
                rw [ea] at ha; rw [eb] at hb2
                cases ha; cases hb2
                exact hb
              · exact hs i a b (by omega) ha hb2
      | non => rw [same_tup (by intro _ z; cases z)] at q; exact q
      | bl _ => rw [same_tup (by intro _ z; cases z)] at q; exact q
      | int _ => rw [same_tup (by intro _ z; cases z)] at q; exact q
      | str _ => rw [same_tup (by intro _ z; cases z)] at q; exact q
      | _ => cases hx
  | bl b => cases n <;> cases x <;> first | exact q | (cases hx; done)
  | str b => cases n <;> cases x <;> first | exact q | (cases hx; done)
  | _ => cases n <;> cases hy
theorem askL_of : ∀ {n : Nat} {y : D}, askD n y = true → askL n y = true
  | n + 2, .tup xs, h => by
    simp only [askD, askL, Bool.and_eq_true, List.all_eq_true] at h ⊢
    exact ⟨fun x hx => askL_of (h.1 x hx), h.2⟩
  | 0, y, h => by cases y <;> first | rfl | cases h
  | 1, y, h => by cases y <;> first | rfl | cases h
  | n + 2, .non, h => by cases h
  | n + 2, .bl _, h => rfl
  | n + 2, .int _, h => by cases h
  | n + 2, .str _, h => rfl
  | n + 2, .ref _, h => by cases h
  | n + 2, .ty _, h => by cases h
  | n + 2, .lst _, h => by cases h
  | n + 2, .dct _, h => by cases h
  | n + 2, .obj _ _, h => by cases h
theorem same_refl : ∀ {n : Nat} {y : D}, askD n y = true → sameD n y y = true
  | n + 2, .tup xs, h => by
    simp only [askD, Bool.and_eq_true, List.all_eq_true] at h
    show sameL _ _ _ = true
    rw [sameL_iff]
    refine ⟨rfl, fun i x y hx hy => ?_⟩
    rw [hx] at hy
    cases hy
    exact same_refl (h.1 x (List.mem_of_getElem? hx))
  | 0, y, h => by cases y <;> first | (cases h; done) | simp [sameD]
  | 1, y, h => by cases y <;> first | (cases h; done) | simp [sameD]
  | n + 2, .bl _, h => by simp [sameD]
  | n + 2, .str _, h => by simp [sameD]
  | n + 2, .non, h => by cases h
  | n + 2, .int _, h => by cases h
  | n + 2, .ref _, h => by cases h
  | n + 2, .ty _, h => by cases h
  | n + 2, .lst _, h => by cases h
  | n + 2, .dct _, h => by cases h
  | n + 2, .obj _ _, h => by cases h
theorem ask_eC {n : Nat} {cs : List Str} (h : cs.length ≤ 1000000) : askD (n + 2) (eC cs) = true := by
  simp only [askD, eC, List.length_map, h, decide_true, Bool.and_true, List.all_map, List.all_eq_true]
  intro a _
  cases n <;> rfl
theorem ask_step (s : Stp) : askD 4 (eP' s) = true := by
  have key : ∀ t : Tst, askD 3 (eT t) = true := fun t => by cases t <;> rfl
  cases s with
  | nextT t => simp [eP', askD, key]
  | skip t => simp [eP', askD, key]
  | _ => rfl
theorem ask_step3 (s : Stp) : askD 3 (eP' s) = true := by
  have key : ∀ t : Tst, askD 2 (eT t) = true := fun t => by cases t <;> rfl
  cases s with
  | nextT t => simp [eP', askD, key]
  | skip t => simp [eP', askD, key]
  | _ => rfl
theorem ask_eF {st : List Stp} (h : st.length ≤ 1000000) : askD 4 (eF st) = true := by
  simp only [askD, eF, List.length_map, h, decide_true, Bool.and_true, List.all_map, List.all_eq_true]
  intro a _
  exact ask_step3 a
theorem F_same_ok {y : D} {G : DG} (h : askD 4 y = true) : F__law_same K 4 [y, y] G = some (.bl true) := by
  rw [show F__law_same K 4 [y, y] G = some (.bl (sameD 4 y y)) from if_pos ⟨askL_of h, h⟩, same_refl h]
theorem c_same {y : D} {G : DG} {Q : D → DG → Prop} {E : DX → DG → Prop} (h : askD 4 y = true) (q : Q (.bl true) G) : f__law_same K [y, y] G Q E := by
  refine onO_of (show F__law_same K 4 [y, y] G = some (.bl (sameD 4 y y)) from if_pos ⟨askL_of h, h⟩) ?_
  rw [same_refl h]
  exact q
theorem p__law_told (ds : List D) (G : DG) (Q : D → DG → Prop) (E : DX → DG → Prop) (h : f__law_told K ds G Q E) : tb__law_told K (fnEnds Q E) (dstart N__law_told ds) G := by
  unfold f__law_told at h
  obtain ⟨hF, cs, st, t, rfl, ok, t0, t1, q⟩ := h
  obtain ⟨k1, k2, k3, k4⟩ := ok
  have kc := cols_len k1
  show tb__law_told K (fnEnds Q E) [some (.v (eFm K cs st)), some (.v (eC cs)), some (.v (eF st)), some (.v (.int t)), none, none, none, none] G
  refine ⟨rfl, .ref (He.ga K "Form"), .ref (He.ga K "Form"), true, ⟨rfl, hF.1⟩, rfl, hF.2, ?_⟩
  refine onO_of (z := true) rfl ?_
  refine for_inv (I := fun r δ G' => ∃ (k : Nat) (s4 s5 s6 s7 : Option SV), r = (rngD 4).drop k ∧ δ = [some (.v (eFm K cs st)), some (.v (eC cs)), some (.v (eF st)), some (.v (.int t)), s4, s5, s6, s7] ∧ G = G') _ _ _ ⟨0, _, _, _, _, rfl, rfl, rfl⟩ ?_ ?_
  · rintro δ G' ⟨k, s4, s5, s6, s7, hr, rfl, rfl⟩
    exact q
  · rintro x r δ G' nx ⟨k, s4, s5, s6, s7, hr, rfl, rfl⟩ hnx
    obtain ⟨hk, rfl, hr2⟩ := rng_cons hr.symm
    refine onO_of rfl ?_
    dsimp only
    refine seq_mid (M := fun δ' G'' => ∃ (w : Int), δ' = [some (.v (eFm K cs st)), some (.v (eC cs)), some (.v (eF st)), some (.v (.int t)), some (.v (.int k)), some (.v (.int w)), s6, s7] ∧ G = G'' ∧ 0 ≤ w ∧ w < 4) (fun nx' hn => hn _ _ ⟨(t + k) % 4, rfl, rfl, by omega, by omega⟩) ?_
    rintro _ _ ⟨w, rfl, rfl, w0, w1⟩
    refine seq_mid (M := fun δ' G'' => ∃ (w : Int), δ' = [some (.v (eFm K cs st)), some (.v (eC cs)), some (.v (eF st)), some (.v (.int t)), some (.v (.int k)), some (.v (.int w)), s6, s7] ∧ G = G'' ∧ 0 ≤ w ∧ w < 4) (fun nx' hn => ?_) ?_
    · refine brP_of (fun _ => ?_) (fun _ => ?_)
      · exact hn _ _ ⟨3 - w, rfl, rfl, by omega, by omega⟩
      · exact hn _ _ ⟨w, rfl, rfl, w0, w1⟩
    rintro _ _ ⟨w, rfl, rfl, w0, w1⟩
    have : w = 0 ∨ w = 1 ∨ w = 2 ∨ w = 3 := by omega
    rcases this with rfl | rfl | rfl | rfl
    · refine ⟨rfl, c_Form_len ⟨_, rfl, by omega, by omega, ?_⟩⟩
      refine brP_f (show (!((st.length : Int) == ((st.map eP').length : Int))) = false by simp) ?_
      exact hnx _ _ ⟨k + 1, _, _, _, _, hr2, rfl, rfl⟩
    · refine ⟨⟨rfl, rfl⟩, c_Form_steps ?_⟩
      refine onO_of rfl ?_
      refine onO_of (F_same_ok (ask_eF (st := st) (by omega))) ?_
      exact hnx _ _ ⟨k + 1, _, _, _, _, hr2, rfl, rfl⟩
    · refine ⟨⟨rfl, rfl⟩, c_Form_columns ?_⟩
      refine onO_of rfl ?_
      refine onO_of (F_same_ok (ask_eC (n := 2) (cs := cs) (by omega))) ?_
      exact hnx _ _ ⟨k + 1, _, _, _, _, hr2, rfl, rfl⟩
    · refine onO_of (r1_ok (L := (st.map eP').length) (by simp; omega)) ?_
      refine for_inv (I := fun r' δ G'' => ∃ (j : Nat) (s6 s7 : Option SV), r' = (rngD (st.map eP').length).drop j ∧ δ = [some (.v (eFm K cs st)), some (.v (eC cs)), some (.v (eF st)), some (.v (.int t)), some (.v (.int k)), some (.v (.int 3)), s6, s7] ∧ G = G'') _ _ _ ⟨0, _, _, rfl, rfl, rfl⟩ ?_ ?_
      · rintro δ G'' ⟨j, s6, s7, _, rfl, rfl⟩
        exact hnx _ _ ⟨k + 1, _, _, _, _, hr2, rfl, rfl⟩
      · rintro x r' δ G'' nx' ⟨j, s6, s7, hr', rfl, rfl⟩ hnx'
        obtain ⟨hj, rfl, hr3⟩ := rng_cons hr'.symm
        have hj2 : j < st.length := by simpa using hj
        have fin : ∀ (i : Int) (s6 : Option SV) (N : DEnds), 0 ≤ i → i < (st.length : Int) → N.nx = nx' → (zIf (dNotT (zTru (dCall (f__law_same K) (dCons (dIxO (He.ga K "Form") (f_Form___getitem__ K) (eP (pV 0)) (eP (pV 7))) (dCons (eP (pBin ixD (pBo 2) (pBo 7))) dNil)))))
            (sRet (eP (pC (.bl false))))
            sNext) N [some (.v (eFm K cs st)), some (.v (eC cs)), some (.v (eF st)), some (.v (.int t)), some (.v (.int k)), some (.v (.int 3)), some (.v (.int j)), some (.v (.int i))] G := fun i s6 N h0 h1 hN => by
          obtain ⟨s, hs, _, _, e⟩ := lst_map (f := eP') (xs := st) h0 h1
          refine ⟨rfl, c_Form_get h0 hs ?_⟩
          refine onO_of (pBin_of rfl rfl e) ?_
          refine c_same (ask_step s) ?_
          show N.nx _ _
          rw [hN]
          exact hnx' _ _ ⟨j + 1, _, _, hr3, rfl, rfl⟩
        refine onO_of rfl ?_
        by_cases ht : 0 < t % 3
        · refine onO_of (z := .int j) (pIfE_t (show some (decide (0 < t % 3)) = _ by rw [decide_eq_true ht]) rfl) ?_
          exact fin j none _ (by omega) (by omega) rfl
        · refine onO_of (z := .int (((st.map eP').length : Int) - 1 - j)) (pIfE_f (show some (decide (0 < t % 3)) = _ by rw [decide_eq_false ht]) rfl) ?_
          exact fin _ none _ (by simp; omega) (by simp; omega) rfl
end
end FB

set_option Elab.async false
set_option linter.all false
set_option maxRecDepth 100000
set_option maxHeartbeats 4000000
namespace DD
open PySem PySem.Spec L2 PyProof.Rows

/-! ### t[::-1] of a tuple -/
section
variable {prog : Program} {w : World} {A : Around} {E : Value → Shared → Prop} {s : Shared}
theorem fmap_congr {α β : Type} {f g : α → Option β} : ∀ {l : List α}, (∀ x ∈ l, f x = g x) → l.filterMap f = l.filterMap g
  | [], _ => rfl
  | x :: r, h => by
    rw [List.filterMap_cons, List.filterMap_cons, h x (by simp), fmap_congr (l := r) fun y hy => h y (by simp [hy])]
theorem revT_pick (xs : Array Value) : ((List.range xs.size).filterMap fun (m : Nat) => xs[(((xs.size : Int) - 1) + (m : Int) * (-1)).toNat]?).toArray = xs.toList.reverse.toArray := by
  have e : (List.range xs.size).filterMap (fun (m : Nat) => xs[(((xs.size : Int) - 1) + (m : Int) * (-1)).toNat]?) = ((List.range xs.size).map (fun k => xs.size - 1 - k)).filterMap (xs[·]?) := by
    rw [List.filterMap_map]
    refine fmap_congr fun k hk => ?_
    have := List.mem_range.mp hk
    have e : (((xs.size : Int) - 1) + (k : Int) * (-1)).toNat = xs.size - 1 - k := by omega
    simp only [Function.comp, e]
  rw [e, PySem.W.krv_range, List.filterMap_reverse, PySem.W.krv_all]
theorem revT_places (n : Nat) : Builtin.Slice.slicePlaces ((n : Int) - 1) (-1) (-1) = n := by
  unfold Builtin.Slice.slicePlaces
  rw [if_neg (by decide)]
  by_cases h : (n : Int) - 1 > -1
  · rw [if_pos h]
    have : ((n : Int) - 1 - -1 - 1) / (- -1) = (n : Int) - 1 := by rw [show (- -1 : Int) = 1 by decide, Int.ediv_one]; omega
    rw [this]; omega
  · rw [if_neg h]; omega
theorem sliceApplied_rev {sl : Addr} {vl vu vs : Value} {n : Nat} {Q : Int × Int × Nat → Shared → Prop} (hs : s.heap.IsSliceOf sl vl vu vs) (pl : IsPart vl none) (pu : IsPart vu none) (ps : IsPart vs (some (-1)))
    (h : Q ((n : Int) - 1, -1, n) s) : wpAny (model prog w) A (Builtin.Slice.sliceApplied (.ref sl) (pure (n : Int))) Q E s := by
  obtain ⟨os, hos, hcs, hds⟩ := id hs
  unfold Builtin.Slice.sliceApplied Builtin.Slice.sliceFields
  refine wpAny_bind (wpAny_bind (wpAny_field hos hds (x := vl) rfl (wpAny_bind (wpAny_field hos hds (x := vu) rfl (wpAny_bind (wpAny_field hos hds (x := vs) rfl (wpAny_pure ?_)))))))
  refine wpAny_bind (HT.slicePart_ ps ?_)
  show wpAny _ _ (if ((-1 : Int) == 0) = true then _ else _) _ _ s
  rw [if_neg (by decide)]
  refine wpAny_bind (HT.slicePart_ pl (wpAny_bind (HT.slicePart_ pu (wpAny_bind (wpAny_pure ?_)))))
  show wpAny _ _ (pure ((n : Int) - 1, (-1 : Int), Builtin.Slice.slicePlaces ((n : Int) - 1) (-1) (-1))) _ _ s
  rw [revT_places]
  exact wpAny_pure h
theorem getItem_tuple_rev {t sl : Addr} {items : Array Value} {vl vu vs : Value} {Q : Value → Shared → Prop} (ht : IsTup s.heap t items) (hs : s.heap.IsSliceOf sl vl vu vs) (pl : IsPart vl none) (pu : IsPart vu none) (ps : IsPart vs (some (-1)))
    (h : Q (.ref s.heap.objs.size) { s with heap := s.heap.push { cls := .type "tuple", data := .seq items.toList.reverse.toArray } })
    (hsz : items.size ≤ sizeLine) : wpAny (model prog w) A (getItem (.ref t) (.ref sl)) Q E s := by
  have htake : sizeOk (.seq items.toList.reverse.toArray) := by
    show items.toList.reverse.toArray.size ≤ sizeLine
    rw [List.size_toArray, List.length_reverse, Array.length_toList]
    exact hsz
  obtain ⟨os, hos, hcs, hds⟩ := id hs
  have hTs : s.TypeIs (.ref sl) "slice" := ⟨os, hos, hcs⟩
  unfold getItem
  try with_reducible refine wpAny_holding ?_
  first | refine wpAny_bind (wpAny_pure ?_) | skip
  refine wpAny_bind (wpAny_sequenceKey ht.typeIs (by decide) ?_)
  refine wpAny_bind (wpAny_callSpecial?_slot (name := Str.ofString "__getitem__") ht.typeIs PyProof.Rows.slot_tuple_getitem
    (wpAny_call_entry PyProof.Rows.slot_tuple_getitem ht.typeIs entry_tuple_getitem ?_ (args_tuple_getitem _ _)))
  show wpAny _ _ (Builtin.Tuple.tupleItemsOf (.ref t) >>= _) _ _ s
  refine wpAny_bind (tupleItemsOf_ ht ?_)
  refine wpAny_bind (wpAny_typeOf hTs ?_)
  rw [if_pos (by decide)]
  refine wpAny_bind (sliceApplied_rev hs pl pu ps ?_)
  have hno : ¬ ((((items.size : Int) - 1) == 0 && (-1 : Int) == 1 && items.size == items.size) = true) := by
    intro q
    rw [Bool.and_eq_true, Bool.and_eq_true] at q
    exact absurd q.1.2 (by decide)
  show wpAny _ _ (if (((items.size : Int) - 1) == 0 && (-1 : Int) == 1 && items.size == items.size) = true then _ else _) _ _ s
  rw [if_neg hno, revT_pick]
  first
    | exact wpAny_bind (m := Builtin.Tuple.tupleExact _) (wpAny_newObj_type (wpAny_pure ⟨_, rfl, wpAny_pure h⟩) htake)
    | exact wpAny_bind (m := Builtin.Tuple.tupleExact _) (wpAny_newObj_type (wpAny_bind (wpAny_pure (wpAny_pure ⟨_, rfl, wpAny_pure h⟩))) htake)
    | exact wpAny_bind (wpAny_bind (m := Builtin.Tuple.tupleExact _) (wpAny_newObj_type (wpAny_pure (wpAny_pure ⟨_, rfl, wpAny_pure h⟩)) htake))
    | exact wpAny_bind (wpAny_bind (m := Builtin.Tuple.tupleExact _) (wpAny_newObj_type (wpAny_pure ⟨_, rfl, wpAny_pure h⟩) htake))
end
section
variable {X : Cx} {W : WX} {a b : Expr} {da db : DTE} {p : PX}
def tRevT (K : PySem.W.Frag) (te : TE) : TE := fun σ H Q => te σ H fun x H1 => ∃ a xs, x = .ref a ∧ SqT K H1 a xs ∧ ∀ p, H1 p = none → Q (.ref p) (upd H1 p (.tup xs.reverse))
theorem pe_revT {e : Expr} {te : TE} {k : Nat} {p1 p2 p3 pos : Pos} (he : PE X e te) : PE X (.Subscript e (.Slice none none (some (.UnaryOp .USub (.Constant (.int 1) k p1) p2)) p3) pos) (tRevT X.K te) := by
  refine ⟨fun pins s σ H Q I h => ?_⟩
  refine Subscript_ (thn (he.run pins s σ H _ I h) fun v s1 ⟨x, H1, I1, r1, q1⟩ => ?_)
  obtain ⟨a, xs, ex, hx, q⟩ := q1
  subst ex
  cases r1
  have hst : PO X (some (.UnaryOp .USub (.Constant (.int 1) k p1) p2)) (tPart (tUn (rU fun i => .int (-i)) (tC (.int 1)))) := po_some (pe_un un_neg pe_int)
  refine wpAny_Slice (thn (po_none.run pins s1 σ H1 (fun o H2 => o = none ∧ H2 = H1) I1 ⟨rfl, rfl⟩) fun vl s2 ⟨l, H2, I2, pl, el, e2⟩ => ?_)
  subst el e2
  refine thn (po_none.run pins s2 σ H2 (fun o H3 => o = none ∧ H3 = H2) I2 ⟨rfl, rfl⟩) fun vu s3 ⟨u, H3, I3, pu, eu, e3⟩ => ?_
  subst eu e3
  refine thn (hst.run pins s3 σ H3 (fun o H4 => o = some (-1) ∧ H4 = H3) I3 ⟨1, rfl, -1, rfl, rfl, rfl⟩) fun vs s4 ⟨o, H4, I4, ps, eo, e4⟩ => ?_
  subst eo e4
  have I5 : Inv X pins σ H4 { s4 with heap := s4.heap.push { cls := .type "slice", data := .fields #[vl, vu, vs] } } := I4.kept (t' := s4.toks) fun b ob q => Heap.get?_push_of_some _ q
  obtain ⟨its, r, ht, hz⟩ := I5.tuple hx
  have hlen := r.length
  show wpAny (model X.prog X.w) X.A (subscriptTail e (.Slice none none (some (.UnaryOp .USub (.Constant (.int 1) k p1) p2)) p3) (.ref a) (.ref s4.heap.objs.size)) (EP X pins σ Q) X.xe { s4 with heap := s4.heap.push { cls := .type "slice", data := .fields #[vl, vu, vs] } }
  refine tail_any (ops := [.ref a, .ref s4.heap.objs.size]) ht.typeIs (PyProof.Rows.slot_tuple_getitem.lookup) ?_ (by with_unfolding_all rfl)
  refine getItem_tuple_rev ht (Heap.IsSliceOf.new _ vl vu vs) pl pu ps ?_ (by rw [List.size_toArray]; omega)
  refine ⟨.ref _, _, I5.laid (t' := s4.toks) (o := .tup xs.reverse) (fun b ob q => Heap.get?_push_of_some _ q) (Nat.le_refl _) ?_, rfl, q _ (I5.hok.fresh (Nat.le_refl _))⟩
  exact ⟨by rw [List.length_reverse]; exact hz, _, r.reverse, IsTup.new _ _⟩
theorem ImL.reverse {K : PySem.W.Frag} {H : Hp} {M : Gh} {xs : List V} {ds : List D} (r : ImL K H M xs ds) : ImL K H M xs.reverse ds.reverse := by
  have key : ∀ {xs : List V} {ds : List D}, ImL K H M xs ds → ∀ {ys : List V} {es : List D}, ImL K H M ys es → ImL K H M (xs.reverse ++ ys) (ds.reverse ++ es) := by
    intro xs
    induction xs with
    | nil => intro ds r ys es q; cases r; exact q
    | cons x r0 ih =>
      intro ds r ys es q
      cases r with
      | cons p q1 =>
        rw [List.reverse_cons, List.reverse_cons, List.append_assoc, List.append_assoc]
        exact ih q1 (.cons p q)
  have := key r (ys := []) (es := []) .nil
  rwa [List.append_nil, List.append_nil] at this
def revTD : D → Option D
  | .tup xs => some (.tup xs.reverse)
  | _ => none
def dRevT (d : DTE) : DTE := fun δ G Q E => d δ G (fun x G1 => ∃ z, revTD x = some z ∧ Q z G1) E
theorem de_revT {k : Nat} {p1 p2 p3 pos : Pos} (ha : DB X W a da) : DE X W (.Subscript a (.Slice none none (some (.UnaryOp .USub (.Constant (.int 1) k p1) p2)) p3) pos) (dRevT da) := (pe_revT ha).imp fun σ H R ⟨M, δ, G, Q, QE, rs, d, ex, k⟩ => by
  refine ⟨M, δ, G, _, QE, rs, d, ex, fun v dv G1 H1 M1 f1 rs1 bo q => ?_⟩
  obtain ⟨z, hz, qz⟩ := q
  cases dv <;> simp only [revTD, Option.some.injEq, reduceCtorEq] at hz
  subst hz
  obtain ⟨a, xs, rfl, hx, r⟩ := (bo.now rs1).tup
  exact ⟨a, xs, rfl, hx, fun p n => k _ _ G1 _ M1 (f1.trans (Keep.new n).frame) (rs1.new n) (Im.newTup rs1.g.dom n (ImL.reverse r)) qz⟩
def pRevT (p : PX) : PX := fun δ G => bO (p δ G) revTD
theorem xe_revT {k : Nat} {p1 p2 p3 pos : Pos} (ha : DB X W a (eP p)) : DE X W (.Subscript a (.Slice none none (some (.UnaryOp .USub (.Constant (.int 1) k p1) p2)) p3) pos) (eP (pRevT p)) := (de_revT ha).deOf fun δ G Q E h => by
  obtain ⟨z, hz, h⟩ := onO_iff.mp h
  obtain ⟨x, hx, hz⟩ := bO_iff.mp hz
  exact onO_iff.mpr ⟨x, hx, z, hz, h⟩

/-! ### x is True, of a bool or None -/
def isBD : D → D → Option D
  | .bl a, .bl b => some (.bl (a == b))
  | .non, .bl _ => some (.bl false)
  | _, _ => none
theorem op_isB : OpR X (compareOp .Is) (OpD X.K isBD) := by
  intro pins s σ H x y v u Q I rx ry ⟨M, dx, dy, z, dom, tx, ty, hz, q⟩
  cases dx <;> cases dy <;> simp only [isBD, Option.some.injEq, reduceCtorEq] at hz
  · subst hz
    have e1 := tx.sc (w := .non) rfl
    have e2 := ty.sc (w := .bl _) rfl
    subst e1 e2
    cases (show v = Value.none from rx)
    cases (show u = Value.bool _ from ry)
    exact wpAny_is_other rfl (fun z => nomatch z) ⟨.bl false, H, I, rfl, q _ H (Same.refl H) .bl⟩
  · subst hz
    rename_i a b
    have e1 := tx.sc (w := .bl _) rfl
    have e2 := ty.sc (w := .bl _) rfl
    subst e1 e2
    refine op_isBl pins s σ H _ _ v u Q I rx ry ⟨a, b, rfl, rfl, ?_⟩
    have e : (a == b) = decide (a = b) := by cases a <;> cases b <;> rfl
    rw [← e]
    exact q _ H (Same.refl H) .bl
/-! ### a, b, .. = a list -/
def tL (n : Nat) (g : TBs) : TBi := fun x δ => bO (lstO x) fun xs => match lenIs n xs with
  | true => g xs δ
  | false => none
theorem xg_lst {es : List Expr} {k0 : Nat} {r : TBs} {n : Nat} {pos : Pos} (hc : X.calm = true) (h : DGts X es (gsP r))
    (hn : (assignEach es X.env).length = n := by rfl) (hst : (assignEach es X.env).findIdx? (·.1) = none := by rfl) : DGt X (.Tuple es k0 pos) (gP (tL n r)) := (pg_lst (pos := pos) (k := k0) hc h hn hst).imp fun v σ H R ⟨M, δ, G, dv, Q, rs, im, q, k⟩ => by
  obtain ⟨z, hz, q2⟩ := onO_iff.mp q
  obtain ⟨xs, hx, hz⟩ := bO_iff.mp hz
  cases dv <;> simp only [lstO, Option.some.injEq, reduceCtorEq] at hx
  subst hx
  split at hz
  · rename_i hl
    obtain ⟨a, vs, rfl, hs, iml⟩ := (Tm.of im).lst
    exact ⟨a, vs, rfl, hs, by rw [iml.length]; exact lenIs_iff.mp hl, M, δ, G, _, Q, rs, iml, onO_iff.mpr ⟨z, hz, q2⟩, k⟩
  · cases hz
end
end DD

set_option Elab.async false
set_option linter.all false
set_option maxRecDepth 100000
set_option maxHeartbeats 4000000
namespace DD
open PySem PySem.Spec L2 PyProof.Rows

/-! ### x != y, x an instance of a class that has __eq__ alone: object.__ne__ asks it -/
section
variable {prog : Program} {w : World} {A : Around} {E : Value → Shared → Prop} {s : Shared} {K : PySem.W.Frag} {x C L f : Addr} {h₀ : Heap} {m : Str → Option Value} {ox : Obj} {od : Option Obj} {b tb : Value}
structure NeC (K : PySem.W.Frag) (C f : Addr) : Prop where
  ne : PySem.W.findIn K (.ref C) "__ne__" = some (some (.builtin "object.__ne__"))
  mr : PySem.W.mroIn K C (.type "object") = some true
  eq : PySem.W.findIn K (.ref C) "__eq__" = some (some (.ref f))
  fn : PySem.W.isFn K (.ref f) = true
theorem check_obj {M : Model} {rest : List Value} {Q : Unit → Shared → Prop} (X : K.In s.heap) (I : PySem.W.InstAt s.heap x ox C od) (hm : PySem.W.mroIn K C (.type "object") = some true) (ha : argsOk "object.__ne__" ⟨.ref x :: rest, []⟩) (hq : Q () s) :
    wpAny M A (checkBuiltinCall "object.__ne__" ⟨.ref x :: rest, []⟩) Q E s := by
  simp only [checkBuiltinCall, F.cmpKind_ne, F.cmpSplit_ne]
  refine wpAny_bind ?_
  unfold isInstance
  refine wpAny_bind (I.type.here ?_)
  refine (PySem.W.looks_mroIn X hm).here ?_
  rw [if_neg (by decide)]
  cases hsig : Manifest.signature? "object.__ne__" with
  | none => exact wpAny_pure hq
  | some sig =>
    simp only [argsOk, hsig] at ha
    have h2 : Bind.checkArgs "object.__ne__" sig ⟨.ref x :: rest, []⟩ = pure () := ha
    show wpAny M A (Bind.checkArgs "object.__ne__" sig ⟨.ref x :: rest, []⟩) Q E _
    rw [h2]; exact wpAny_pure hq
theorem ne_entry {Q : Fin → Shared → Prop} (X : K.In s.heap) (I : PySem.W.InstAt s.heap x ox C od) (c : NeC K C f) (hu : A.units < cLine)
    (h : wpAny (model prog w) A (call (.ref f) [.ref x, b]) (fun v s' => ∃ k, v = .bool k ∧ Q (.done (.ret (.bool (!k)))) s') E s) :
    wpAny (model prog w) A (Builtin.«object.__ne__» ⟨[.ref x, b], []⟩) Q E s := by
  unfold Builtin.«object.__ne__»
  repeat (first
    | with_reducible refine wpAny_cRoomFor hu ?_
    | (refine wpAny_bind (m := callSpecialIfBound? (.ref x) (Str.ofString "__eq__") [b])
        (PySem.W.ifBound_K X I c.eq c.fn (wpAny_mono h (fun r s' hr => by
          obtain ⟨k, rfl, hq⟩ := hr
          repeat (first | exact hq | exact wpAny_pure hq | exact wpAny_truthy_bool hq | (refine wpAny_bind (m := truthy (.bool _)) (wpAny_truthy_bool ?_)) | wp_step)) fun _ _ e => e)))
    | wp_step)
theorem tryNe {Q : Option Value → Shared → Prop} (X : K.In s.heap) (I : PySem.W.InstAt s.heap x ox C od) (c : NeC K C f) (hu : A.units + 1 < cLine)
    (h : wpAny (model prog w) A.in1 (call (.ref f) [.ref x, b]) (fun v s' => ∃ k, v = .bool k ∧ Q (some (.bool (!k))) s') E s) :
    wpAny (model prog w) A (tryCompare (.ref x) "__ne__" b) Q E s := by
  have hcall : wpAny (model prog w) A (call (.builtin "object.__ne__") [.ref x, b]) (fun v s' => ∃ k, v = .bool k ∧ Q (some (.bool k)) s') E s := by
    refine wpAny_call (codeAny_call_builtin F.cmp_object.ne.plain F.cmpEntry_ne (check_obj X I c.mr (F.cmpArgs_ne _ _) (ne_entry (A := A.in1) X I c hu (wpAny_mono h (fun v s' hv => ?_) fun _ _ e => e))))
    obtain ⟨k, rfl, hq⟩ := hv
    exact ⟨k, rfl, _, rfl, hq⟩
  unfold tryCompare
  refine wpAny_bind (m := callSpecialIfBound? (.ref x) "__ne__" [b]) ?_
  simp only [callSpecialIfBound?, bindSpecialIfBound?]
  refine wpAny_holding (wpAny_bind (wpAny_bind (wpAny_bind (I.type.here ((PySem.W.looks_findIn X c.ne).here ?_)))))
  simp only [F.cmp_object.ne.bind]
  refine wpAny_bind (wpAny_askSetting (wpAny_ite ?_))
  have fin : wpAny (model prog w) A (call (.builtin "object.__ne__") ([.ref x] ++ [b]) >>= fun v => pure (some v)) (fun a s' => wpAny (model prog w) A (match a with
      | some .notImplemented | none => pure none
      | some v => pure (some v)) Q E s') E s := wpAny_bind (wpAny_mono hcall (fun v s' ⟨k, e, q⟩ => by subst e; exact wpAny_pure (wpAny_pure q)) fun _ _ h' => h')
  split
  · exact wpAny_bind (wpAny_pure (wpAny_pure fin))
  · exact wpAny_tryCatch (wpAny_bind (wpAny_pure (wpAny_pure fin)))
/-- x != y, y of a type that is not below x's -/
theorem ne_K {Q : Value → Shared → Prop} (hu : A.units + 1 < cLine) (Fh : Fr h₀ L s.heap m) (X₀ : K.In h₀) (I : PySem.W.InstAt s.heap x ox C od) (hb : PySem.W.Looks (model prog w) s.heap (typeOf b) tb) (hn : PySem.W.notFirst K C tb = true) (c : NeC K C f)
    (h : wpAny (model prog w) A.in1 (call (.ref f) [.ref x, b]) (fun v s' => ∃ k, v = .bool k ∧ Q (.bool (!k)) s') E s) : wpAny (model prog w) A (compareOp .NotEq (.ref x) b) Q E s := by
  have X := X₀.keeps Fh.keep
  have one : wpAny (model prog w) A (tryCompare (.ref x) "__ne__" b) (fun r s' => ∃ v, r = some v ∧ Q v s') E s := tryNe X I c hu (wpAny_mono h (fun v s' ⟨k, e, q⟩ => ⟨k, e, _, rfl, q⟩) fun _ _ e => e)
  unfold compareOp richCompare
  simp only [oneThing_ref, cmpInfo_NotEq]
  refine wpAny_holding (wpAny_bind (wpAny_cRoomFor (Nat.lt_of_succ_lt hu) ?_))
  refine wpAny_bind (I.type.here (wpAny_bind (hb.here ?_)))
  split
  · rename_i q
    have e : PySem.W.subIn K tb (.ref C) = some false := by
      rcases Bool.or_eq_true_iff.mp hn with e | e
      · rw [beq_iff_eq.mp e] at q; simp at q
      · exact beq_iff_eq.mp e
    refine wpAny_bind ((PySem.W.looks_subIn X e).here ?_)
    simp only [Bool.false_eq_true, if_false]
    refine wpAny_bind (wpAny_mono one (fun r s' z => ?_) fun _ _ e => e)
    obtain ⟨v, rfl, hq⟩ := z
    exact wpAny_pure hq
  · refine wpAny_bind (wpAny_pure ?_)
    simp only [Bool.false_eq_true, if_false]
    refine wpAny_bind (wpAny_mono one (fun r s' z => ?_) fun _ _ e => e)
    obtain ⟨v, rfl, hq⟩ := z
    exact wpAny_pure hq
end
def neB (K : PySem.W.Frag) (C f : Addr) : Bool := He.eqO (PySem.W.findIn K (.ref C) "__ne__") (some (some (.builtin "object.__ne__"))) && (decide (PySem.W.mroIn K C (.type "object") = some true) && (He.eqO (PySem.W.findIn K (.ref C) "__eq__") (some (some (.ref f))) && PySem.W.isFn K (.ref f)))
theorem neB_ok {K : PySem.W.Frag} {C f : Addr} (h : neB K C f = true) : NeC K C f := by
  unfold neB at h
  rw [Bool.and_eq_true, Bool.and_eq_true, Bool.and_eq_true] at h
  obtain ⟨h1, h2, h3, h4⟩ := h
  exact ⟨He.eqO_ok h1, of_decide_eq_true h2, He.eqO_ok h3, h4⟩
end DD

set_option Elab.async false
set_option linter.all false
set_option maxRecDepth 100000
set_option maxHeartbeats 4000000
namespace DD
open PySem PySem.Spec L2

/-- x != y, x an instance, y anything of a type that is not below x's; the class has __eq__ alone -/
def dNeO (K : PySem.W.Frag) (C : Addr) (f : Fn) (a b : DTE) : DTE := fun δ G Q E => a δ G (fun x G1 => b δ G1 (fun y G2 => IsC C G2 x ∧ (∃ t, TyD K G2 y t ∧ PySem.W.notFirst K C t = true) ∧ f [x, y] G2 (fun z G3 => ∃ k, z = .bl k ∧ Q (.bl (!k)) G3) E) E) E
section
variable {X : Cx} {W : WX} {k : Nat} {fa C : Addr} {fd : FuncData} {ps : List Str} {f : Fn} {a b : Expr} {da db : DTE} {p pos : Pos}
theorem neO_run (F : FnOk X.prog X.w X.K X.mg X.base (L2.CX X.prog X.w) k fa fd ps (spD X.K f)) (hr : Room (k + 1) X.A) (hb : Binds X.K fd ps []) (tk : Takes X W) (c : NeC X.K C fa)
    {pins : List (Addr × Obj)} {s : Shared} {σ : St} {H : Hp} {x y : V} {v u : Value} {M : Gh} {δ : DSt} {G : DG} {dx dy : D} {Q : D → DG → Prop} {QE : DX → DG → Prop} {R : VK} (I : Inv X pins σ H s) (rx : RelV x v) (ry : RelV y u) (rs : RS X.K H M σ δ G) (im : Im X.K H M x dx) (im2 : Im X.K H M y dy)
    (is : IsC C G dx) (ty : ∃ t, TyD X.K G dy t ∧ PySem.W.notFirst X.K C t = true) (q : f [dx, dy] G (fun z G3 => ∃ k, z = .bl k ∧ Q (.bl (!k)) G3) QE) (ex : ExOk X.K W H M σ δ QE) (kk : ∀ v dv G' H' M', Frame H M H' M' → RS X.K H' M' σ δ G' → Im X.K H' M' v dv → Q dv G' → R v H') :
    wpAny (model X.prog X.w) X.A (compareOp .NotEq v u) (EP X pins σ R) X.xe s := by
  obtain ⟨l, ddx, fs, rfl, hl⟩ := isC_of rs.g (Tm.of im) is
  cases (show v = Value.ref l from rx)
  obtain ⟨od, J⟩ := inst_of I hl
  obtain ⟨m, hF⟩ := I.fr
  obtain ⟨t, ht, hn⟩ := ty
  refine ne_K (tb := t) hr.in1.units0 hF I.ok.mod.kin J (type_of I ry (tyx_of rs.g (Tm.of im2) ht) (fun _ _ => trivial) _) hn c ?_
  refine wpAny_mono (run_sp (A := X.A.in1) (Q := fun v H' => ∃ kb, v = .bl kb ∧ R (.bl (!kb)) H') (us := [.ref l, u]) (vs := [.ref l, y]) F hr.in1 I.env0.in1 hb tk I (.cons rfl (.cons ry .nil)) (spD_of rs (.cons im (.cons im2 .nil)) q ex fun v dv G' H' M' f2 rs2 im2 ⟨kb, e, qk⟩ => by
    subst e
    cases im2
    exact ⟨kb, rfl, kk _ _ G' H' M' f2 rs2 .bl qk⟩)) (fun w s' z => ?_) fun _ _ x => x
  obtain ⟨z', H', I', rz, kb, e, qz⟩ := z
  subst e
  cases (show w = Value.bool kb from rz)
  exact ⟨kb, rfl, .bl (!kb), H', I', rfl, qz⟩
theorem de_neO (F : FnOk X.prog X.w X.K X.mg X.base (L2.CX X.prog X.w) k fa fd ps (spD X.K f)) (hr : Room (k + 1) X.A) (hb : Binds X.K fd ps []) (tk : Takes X W) (c : NeC X.K C fa)
    (ha : DE X W a da) (hbb : DE X W b db) (hm : behindInMarks .NotEq b = false) : DE X W (.Compare a [.NotEq] [b] pos) (dNeO X.K C f da db) := by
  refine ⟨fun pins s σ H R I h => ?_⟩
  obtain ⟨M, δ, G, Q, QE, rs, d, ex, k⟩ := h
  refine wpAny_Compare1 (binT ha hbb (R := fun v w H2 => ∃ dv dw G2 M2, Frame H M H2 M2 ∧ RS X.K H2 M2 σ δ G2 ∧ Im X.K H2 M2 v dv ∧ Im X.K H2 M2 w dw ∧ IsC C G2 dv ∧ (∃ t, TyD X.K G2 dw t ∧ PySem.W.notFirst X.K C t = true) ∧ f [dv, dw] G2 (fun z G3 => ∃ k, z = .bl k ∧ Q (.bl (!k)) G3) QE) I
    ⟨M, δ, G, _, QE, rs, d, ex, fun v dv G1 H1 M1 f1 rs1 im q => ⟨M1, δ, G1, _, QE, rs1, q, ex.mono f1, fun w dw G2 H2 M2 f2 rs2 im2 q2 => ⟨dv, dw, G2, M2, f1.trans f2, rs2, im.mono f2.stay, im2, q2⟩⟩⟩ fun v u s2 x y H2 I2 rx ry ⟨dv, dw, G2, M2, f1, rs1, im, im2, is, ty, q⟩ => ?_) hm
  exact neO_run F hr hb tk c I2 rx ry rs1 im im2 is ty q (ex.mono f1) fun v dv G' H' M' f2 rs2 im2 q2 => k v dv G' H' M' (f1.trans f2) rs2 im2 q2
theorem dt_neO (F : FnOk X.prog X.w X.K X.mg X.base (L2.CX X.prog X.w) k fa fd ps (spD X.K f)) (hr : Room (k + 1) X.A) (hb : Binds X.K fd ps []) (tk : Takes X W) (c : NeC X.K C fa)
    (ha : DE X W a da) (hbb : DE X W b db) (hm : behindInMarks .NotEq b = false) : DT X W (.Compare a [.NotEq] [b] pos) (dTst (dNeO X.K C f da db)) := by
  refine ⟨fun pins s σ H R I h => ?_⟩
  obtain ⟨M, δ, G, Q, QE, rs, d, ex, k⟩ := h
  refine wpAny_isTrue_Compare1 (binT ha hbb (R := fun v w H2 => ∃ dv dw G2 M2, Frame H M H2 M2 ∧ RS X.K H2 M2 σ δ G2 ∧ Im X.K H2 M2 v dv ∧ Im X.K H2 M2 w dw ∧ IsC C G2 dv ∧ (∃ t, TyD X.K G2 dw t ∧ PySem.W.notFirst X.K C t = true) ∧ f [dv, dw] G2 (fun z G3 => ∃ k, z = .bl k ∧ ∃ b, D.bl (!k) = .bl b ∧ Q b G3) QE) I
    ⟨M, δ, G, _, QE, rs, d, ex, fun v dv G1 H1 M1 f1 rs1 im q => ⟨M1, δ, G1, _, QE, rs1, q, ex.mono f1, fun w dw G2 H2 M2 f2 rs2 im2 q2 => ⟨dv, dw, G2, M2, f1.trans f2, rs2, im.mono f2.stay, im2, q2⟩⟩⟩
    (f := fun v u => compareOp .NotEq v u) fun v u s2 x y H2 I2 rx ry ⟨dv, dw, G2, M2, f1, rs1, im, im2, is, ty, q⟩ => ?_) hm
  refine thn (neO_run (Q := fun x G1 => ∃ b, x = .bl b ∧ Q b G1) (R := fun v H' => ∃ b, v = .bl b ∧ R b H') F hr hb tk c I2 rx ry rs1 im im2 is ty q (ex.mono f1) fun v dv G' H' M' f2 rs2 im2 ⟨b, e, q2⟩ => ?_) fun c s3 ⟨z, H3, I3, r3, kk, e, q3⟩ => ?_
  · subst e
    cases im2
    exact ⟨b, rfl, k b G' H' M' (f1.trans f2) rs2 q2⟩
  · subst e
    cases r3
    exact wpAny_truthy_bool ⟨H3, I3, q3⟩
end
/-! x[e], x a list that is reached by its address, e draws -/
def mlsO : Option DO → Option (List D)
  | some (.mls ds) => some ds
  | _ => none
theorem mlsO_iff {o : Option DO} {ds : List D} (h : mlsO o = some ds) : o = some (.mls ds) := by
  unfold mlsO at h
  split at h
  · cases h; rfl
  · cases h
@[reducible] def zIxM (g : D → D → Option D) (i : Nat) (b : DTE) : DTE := fun δ G Q E => onO (refAt δ i) fun a => b δ G (fun y G2 => onO (mlsO (G2 a)) fun ds => onO (g (.lst ds) y) fun z => Q z G2) E
theorem de_ixM {X : Cx} {W : WX} {a b : Expr} {db : DTE} {pos : Pos} {i : Nat} {g : D → D → Option D} (ho : IxR X (OpD X.K g)) (ha : PE X a (tVar i)) (hb : DB X W b db) (hs : PlainIx b) : DE X W (.Subscript a b pos) (zIxM g i db) := (pe_ix ho ha hb hs).imp fun σ H R ⟨M, δ, G, Q, QE, rs, d, ex, k⟩ => by
  obtain ⟨a', ha', d⟩ := onO_iff.mp d
  obtain ⟨x, hx, im⟩ := rs.slot i _ (refAt_iff.mp ha')
  cases im
  refine ⟨_, hx, M, δ, G, _, QE, rs, d, ex, fun y dy G2 H2 M2 f2 rs2 bo2 q2 => ?_⟩
  obtain ⟨ds, hm, q2⟩ := onO_iff.mp q2
  obtain ⟨z, hz, qz⟩ := onO_iff.mp q2
  obtain ⟨_, xs, hl, r⟩ := rs2.g.obj a' _ (mlsO_iff hm)
  exact ⟨M2, .lst ds, dy, z, rs2.g.dom, .inr (.inl ⟨_, _, _, rfl, rfl, hl, r⟩), bo2.now rs2, hz, fun w H3 sm im => k w z _ H3 M2 (f2.trans (Same.keep sm).frame) (rs2.same sm) im qz⟩
end DD

set_option Elab.async false
set_option linter.all false
set_option maxRecDepth 100000
set_option maxHeartbeats 4000000
namespace PG
open PySem PySem.Spec L2 DD

/-! ### forms put together and changed: contracts -/
@[irreducible] def f_Form___add__ (K : PySem.W.Frag) : Fn := fun ds G Q E => ∃ c1 s1 c2 s2, ds = [eFm K c1 s1, eFm K c2 s2] ∧ formOk c1 s1 ∧ formOk c2 s2 ∧
  (c1 ≠ c2 → E ⟨He.ga K "NoColumns", none⟩ G) ∧
  (c1 = c2 → 16 < s1.length + s2.length → E ⟨He.ga K "NoStep", some [("index", .int 16)]⟩ G) ∧
  (c1 = c2 → s1.length + s2.length ≤ 16 → Q (eFm K c1 (s1 ++ s2)) G)
@[irreducible] def f_Form_without (K : PySem.W.Frag) : Fn := fun ds G Q E => ∃ cs st k, ds = [eFm K cs st, k] ∧ formOk cs st ∧ nrm k = true ∧
  ((ixOk k st.length = none ∨ st.length = 1) → E ⟨He.ga K "NoStep", some [("index", k)]⟩ G) ∧
  (∀ i, ixOk k st.length = some i → st.length ≠ 1 → Q (eFm K cs (st.take i ++ st.drop (i + 1))) G)
@[irreducible] def f_Form_with_step (K : PySem.W.Frag) : Fn := fun ds G Q E => ∃ cs st k x, ds = [eFm K cs st, k, x] ∧ formOk cs st ∧ nrm k = true ∧ nrmR x = true ∧
  (ixOk k (st.length + 1) = none → E ⟨He.ga K "NoIndex", some [("index", k)]⟩ G) ∧
  (∀ i, ixOk k (st.length + 1) = some i → (isStep cs x = false ∧ E ⟨He.ga K "NoStep", some [("index", k)]⟩ G) ∨ ∃ s, x = eP' s ∧ stpOk cs s = true ∧
    (st.length = 16 → E ⟨He.ga K "NoStep", some [("index", .int 16)]⟩ G) ∧ (st.length ≠ 16 → Q (eFm K cs (st.take i ++ [s] ++ st.drop i)) G))
section
variable {K : PySem.W.Frag} {ds : List D} {G : DG} {Q : D → DG → Prop} {E : DX → DG → Prop}
theorem len_Form___add__ (h : f_Form___add__ K ds G Q E) : ds.length = 2 := by unfold f_Form___add__ at h; obtain ⟨_, _, _, _, rfl, _⟩ := h; rfl
theorem len_Form_without (h : f_Form_without K ds G Q E) : ds.length = 2 := by unfold f_Form_without at h; obtain ⟨_, _, _, rfl, _⟩ := h; rfl
theorem len_Form_with_step (h : f_Form_with_step K ds G Q E) : ds.length = 3 := by unfold f_Form_with_step at h; obtain ⟨_, _, _, _, rfl, _⟩ := h; rfl
theorem c_Form_add {c1 c2 : List Str} {s1 s2 : List Stp} (o1 : formOk c1 s1) (o2 : formOk c2 s2) (h1 : c1 ≠ c2 → E ⟨He.ga K "NoColumns", none⟩ G) (h2 : c1 = c2 → 16 < s1.length + s2.length → E ⟨He.ga K "NoStep", some [("index", .int 16)]⟩ G) (h3 : c1 = c2 → s1.length + s2.length ≤ 16 → Q (eFm K c1 (s1 ++ s2)) G) : f_Form___add__ K [eFm K c1 s1, eFm K c2 s2] G Q E := by
  unfold f_Form___add__
  exact ⟨_, _, _, _, rfl, o1, o2, h1, h2, h3⟩
theorem c_Form_without {cs : List Str} {st : List Stp} {k : D} (o : formOk cs st) (hk : nrm k = true) (h1 : (ixOk k st.length = none ∨ st.length = 1) → E ⟨He.ga K "NoStep", some [("index", k)]⟩ G) (h2 : ∀ i, ixOk k st.length = some i → st.length ≠ 1 → Q (eFm K cs (st.take i ++ st.drop (i + 1))) G) : f_Form_without K [eFm K cs st, k] G Q E := by
  unfold f_Form_without
  exact ⟨_, _, _, rfl, o, hk, h1, h2⟩
theorem c_Form_with_good {cs : List Str} {st : List Stp} {k : D} {s : Stp} (o : formOk cs st) (hk : nrm k = true) (hs : stpOk cs s = true) (h1 : ixOk k (st.length + 1) = none → E ⟨He.ga K "NoIndex", some [("index", k)]⟩ G)
    (h2 : ∀ i, ixOk k (st.length + 1) = some i → (st.length = 16 → E ⟨He.ga K "NoStep", some [("index", .int 16)]⟩ G) ∧ (st.length ≠ 16 → Q (eFm K cs (st.take i ++ [s] ++ st.drop i)) G)) : f_Form_with_step K [eFm K cs st, k, eP' s] G Q E := by
  unfold f_Form_with_step
  exact ⟨_, _, _, _, rfl, o, hk, nrm_step o.1 hs, h1, fun i hi => .inr ⟨s, rfl, hs, h2 i hi⟩⟩
theorem c_Form_with_bad {cs : List Str} {st : List Stp} {k x : D} (o : formOk cs st) (hk : nrm k = true) (hx : nrmR x = true) (hs : isStep cs x = false) (h1 : ixOk k (st.length + 1) = none → E ⟨He.ga K "NoIndex", some [("index", k)]⟩ G)
    (h2 : ∀ i, ixOk k (st.length + 1) = some i → E ⟨He.ga K "NoStep", some [("index", k)]⟩ G) : f_Form_with_step K [eFm K cs st, k, x] G Q E := by
  unfold f_Form_with_step
  exact ⟨_, _, _, _, rfl, o, hk, hx, h1, fun i hi => .inl ⟨hs, h2 i hi⟩⟩
/-! equal columns -/
theorem beqL_strs (f : D → D → Bool) (hf : ∀ a b : Str, f (.str a) (.str b) = (a == b)) : ∀ xs ys : List Str, beqL f (xs.map D.str) (ys.map D.str) = decide (xs = ys)
  | [], [] => rfl
  | [], _ :: _ => rfl
  | _ :: _, [] => rfl
  | x :: r, y :: q => by
    rw [List.map_cons, List.map_cons, beqL, beqL_strs f hf r q, hf, Bool.eq_iff_iff]
    simp
theorem pl_eC {n : Nat} (cs : List Str) : pl (n + 1) (eC cs) = true := pl_strs cs
theorem eq_cols (a b : List Str) : eqD (eC a) (eC b) = some (.bl (decide (a = b))) := by
  unfold eqD
  rw [if_pos ⟨pl_eC a, pl_eC b⟩]
  exact congrArg (fun z => some (D.bl z)) (beqL_strs _ (fun _ _ => rfl) a b)
theorem ne_cols (a b : List Str) : neD (eC a) (eC b) = some (.bl (!decide (a = b))) := by
  unfold neD
  rw [if_pos ⟨pl_eC a, pl_eC b⟩]
  exact congrArg (fun z => some (D.bl (!z))) (beqL_strs _ (fun _ _ => rfl) a b)
theorem add_steps {a b : List Stp} (h : a.length + b.length ≤ 1000000) : addD (eF a) (eF b) = some (eF (a ++ b)) := by
  show (if (a.map eP').length + (b.map eP').length ≤ 1000000 then some (D.tup (a.map eP' ++ b.map eP')) else none) = _
  rw [if_pos (by simpa using h), ← List.map_append]
  rfl
theorem cut_to {α : Type} (xs : List α) (i : Nat) (h : i ≤ xs.length) : cutD xs none (some (i : Int)) = xs.take i := by
  unfold cutD
  rw [HT.sIx_none, HT.sIx_nat, List.drop_zero, Nat.sub_zero, Nat.min_eq_left h]
theorem cut_from {α : Type} (xs : List α) (i : Nat) (h : i ≤ xs.length) : cutD xs (some (i : Int)) none = xs.drop i := by
  unfold cutD
  rw [HT.sIx_none, HT.sIx_nat, Nat.min_eq_left h]
  exact List.take_of_length_le (by rw [List.length_drop]; exact Nat.le_refl _)
theorem slS_to {st : List Stp} {i : Nat} (h : i ≤ st.length) : slD (eF st) none (some (i : Int)) = some (eF (st.take i)) := by
  show some (D.tup (cutD (st.map eP') none (some (i : Int)))) = _
  rw [cut_to _ _ (by simpa using h), ← List.map_take]; rfl
theorem slS_from {st : List Stp} {i : Nat} (h : i ≤ st.length) : slD (eF st) (some (i : Int)) none = some (eF (st.drop i)) := by
  show some (D.tup (cutD (st.map eP') (some (i : Int)) none)) = _
  rw [cut_from _ _ (by simpa using h), ← List.map_drop]; rfl
theorem ix_val (i : Int) (n : Nat) : ixOk (.int i) n = if 0 ≤ i ∧ i < (n : Int) then some i.toNat else none := rfl
theorem ix_int {i : Int} {n k : Nat} (h : ixOk (.int i) n = some k) : i = (k : Int) ∧ k < n := by
  rw [ix_val] at h
  by_cases h2 : 0 ≤ i ∧ i < (n : Int)
  · rw [if_pos h2] at h
    have := Option.some.inj h
    omega
  · rw [if_neg h2] at h
    exact absurd h (by simp)
theorem ix_some {k : D} {n i : Nat} (h : ixOk k n = some i) : k = .int (i : Nat) ∧ i < n := by
  cases k with
  | int j => have := ix_int h; exact ⟨by rw [this.1], this.2⟩
  | _ => cases h
theorem ix_nat {n i : Nat} (h : i < n) : ixOk (.int (i : Nat)) n = some i := by
  rw [ix_val, if_pos (by omega)]
  simp
/-- what Form makes of good columns and steps, with the wishes of a def -/
theorem add_ok {cs : List Str} {a b : List Stp} (oa : formOk cs a) (ob : formOk cs b) (h : a.length + b.length ≤ 16) : formOk cs (a ++ b) := by
  obtain ⟨h1, h2, h3, h4⟩ := oa
  obtain ⟨_, _, _, h5⟩ := ob
  refine ⟨h1, by rw [List.length_append]; omega, by rw [List.length_append]; omega, fun s hs => ?_⟩
  rcases List.mem_append.mp hs with h | h
  · exact h4 s h
  · exact h5 s h
theorem without_ok {cs : List Str} {st : List Stp} {i : Nat} (o : formOk cs st) (h : i < st.length) (hn : st.length ≠ 1) : formOk cs (st.take i ++ st.drop (i + 1)) := by
  obtain ⟨h1, h2, h3, h4⟩ := o
  refine ⟨h1, by rw [List.length_append, List.length_take, List.length_drop]; omega, by rw [List.length_append, List.length_take, List.length_drop]; omega, fun s hs => ?_⟩
  rcases List.mem_append.mp hs with h | h
  · exact h4 s (List.mem_of_mem_take h)
  · exact h4 s (List.mem_of_mem_drop h)
theorem with_ok {cs : List Str} {st : List Stp} {i : Nat} {x : Stp} (o : formOk cs st) (hx : stpOk cs x = true) (hi : i ≤ st.length) (hn : st.length ≠ 16) : formOk cs (st.take i ++ [x] ++ st.drop i) := by
  obtain ⟨h1, h2, h3, h4⟩ := o
  refine ⟨h1, by simp; omega, by simp; omega, fun s hs => ?_⟩
  rcases List.mem_append.mp hs with h | h
  · rcases List.mem_append.mp h with h | h
    · exact h4 s (List.mem_of_mem_take h)
    · rw [List.mem_singleton.mp h]; exact hx
  · exact h4 s (List.mem_of_mem_drop h)
/-! what good columns are -/
theorem met_len : ∀ (zs acc : List Str), acc.Nodup → (zs.foldl DDs.met1 acc).length ≤ acc.length + zs.length ∧ ((zs.foldl DDs.met1 acc).length = acc.length + zs.length → (acc ++ zs).Nodup)
  | [], acc, h => ⟨by simp, fun _ => by simpa using h⟩
  | z :: r, acc, h => by
    rw [List.foldl_cons]
    by_cases hz : z ∈ acc
    · rw [DDs.met1, if_pos hz]
      have ih := (met_len r acc h).1
      refine ⟨by rw [List.length_cons]; omega, fun e => ?_⟩
      rw [List.length_cons] at e
      omega
    · rw [DDs.met1, if_neg hz]
      have h2 : (acc ++ [z]).Nodup := by
        rw [List.nodup_append]
        exact ⟨h, by simp, by simp; intro y hy e; subst e; exact hz hy⟩
      have ih := met_len r (acc ++ [z]) h2
      refine ⟨by have := ih.1; simp at this ⊢; omega, fun e => ?_⟩
      have := ih.2 (by simp at e ⊢; omega)
      simpa using this
theorem cols_is {cs : List Str} (h : colsOk cs = true) : cs.Nodup ∧ ∀ c ∈ cs, nameS c = true := by
  simp only [colsOk, Bool.and_eq_true, decide_eq_true_eq, List.all_eq_true] at h
  have := (met_len cs [] (by simp)).2 (by simpa [DDs.metAll] using h.2.2)
  exact ⟨by simpa using this, h.2.1⟩
theorem cols_rev {cs : List Str} (h : colsOk cs = true) : colsOk cs.reverse = true := by
  have l := cols_len h
  obtain ⟨h1, h2⟩ := cols_is h
  exact colsOk_of (by simpa using l.1) (by simpa using l.2) (List.pairwise_reverse.mpr (h1.imp fun h => Ne.symm h)) fun c hc => h2 c (by simpa using hc)
theorem cols_tail {cs : List Str} (h : colsOk cs = true) (hl : 1 < cs.length) : colsOk (cs.drop 1) = true := by
  have l := cols_len h
  obtain ⟨h1, h2⟩ := cols_is h
  exact colsOk_of (by simp; omega) (by simp; omega) (h1.sublist (List.drop_sublist 1 cs)) fun c hc => h2 c (List.mem_of_mem_drop hc)
theorem cols_more {cs : List Str} {z : Str} (h : colsOk cs = true) (hl : cs.length < 5) (hz : z ∉ cs) (hn : nameS z = true) : colsOk (cs ++ [z]) = true := by
  have l := cols_len h
  obtain ⟨h1, h2⟩ := cols_is h
  refine colsOk_of (by simp) (by simp; omega) ?_ fun c hc => ?_
  · rw [List.nodup_append]
    exact ⟨h1, by simp, by simp; intro y hy e; subst e; exact hz hy⟩
  · rcases List.mem_append.mp hc with hc | hc
    · exact h2 c hc
    · rw [List.mem_singleton.mp hc]; exact hn
def five : List Str := ["a", "b", "c", "d", "e"]
theorem five_ok : ∀ z ∈ five, nameS z = true := by decide +kernel
theorem five_nodup : five.Nodup := by decide +kernel
theorem rev_eC (cs : List Str) : revTD (eC cs) = some (eC cs.reverse) := by
  show some (D.tup (cs.map D.str).reverse) = _
  rw [← List.map_reverse]; rfl
theorem tail_eC {cs : List Str} (h : 1 ≤ cs.length) : slD (eC cs) (some 1) none = some (eC (cs.drop 1)) := by
  show some (D.tup (cutD (cs.map D.str) (some ((1 : Nat) : Int)) none)) = _
  rw [cut_from _ _ (by simpa using h), ← List.map_drop]; rfl
end
end PG

set_option Elab.async false
set_option linter.all false
set_option maxRecDepth 100000
set_option maxHeartbeats 0
namespace PG
open PySem PySem.Spec L2 DD
abbrev N_Form___add__ : List Str := ["self", "other", "joined"]
def tb_Form___add__ (K : PySem.W.Frag) : DTS := (sSeq (zIf (dTst (dBin neD (dFldB (He.ga K "Form") "heads" (eP (pV 0))) (dFldB (He.ga K "Form") "heads" (eP (pV 1)))))
  (sRaise (He.ga K "NoColumns"))
  sNext)
  (sSeq (sSet 2 (zBinV addD (dFld (He.ga K "Form") "chain" (eP (pV 0))) (dFldB (He.ga K "Form") "chain" (eP (pV 1)))))
  (sSeq (zIf (tP (pTst (pBin gtD (pCallB lenD (pCons (pBo 2) pNil)) (pC (.int 16)))))
  (sRaiseF (He.ga K "NoStep") "index" (eP (pC (.int 16))))
  sNext)
  (sRet (dMakeZ (He.ga K "Form") (f_Form___init__ K) [] (dCons (dFld (He.ga K "Form") "heads" (eP (pV 0))) (dCons (eP (pV 2)) dNil)))))))
abbrev N_Form_without : List Str := ["self", "index"]
def tb_Form_without (K : PySem.W.Frag) : DTS := (sSeq (zIf (zOrT (tP (qNot (pTru (pFn (F_is_whole K) (pCons (pV 1) pNil))))) (zOrT (dNotT (dTst (dChain leD ltD (eP (pC (.int 0))) (eP (pBo 1)) (dCallB lenD (dConsB (dFldB (He.ga K "Form") "chain" (eP (pV 0))) dNil))))) (dTst (dBin eqD (dCallB lenD (dConsB (dFldB (He.ga K "Form") "chain" (eP (pV 0))) dNil)) (eP (pC (.int 1)))))))
  (sRaiseF (He.ga K "NoStep") "index" (eP (pV 1)))
  sNext)
  (sRet (dMakeZ (He.ga K "Form") (f_Form___init__ K) [] (dCons (dFld (He.ga K "Form") "heads" (eP (pV 0))) (dCons (zBinV addD (dSl slD (dFldB (He.ga K "Form") "chain" (eP (pV 0))) oNone (oSome (eP (pV 1)))) (dSl slD (dFldB (He.ga K "Form") "chain" (eP (pV 0))) (oSome (eP (pBin addD (pBo 1) (pC (.int 1))))) oNone)) dNil)))))
abbrev N_Form_with_step : List Str := ["self", "index", "step"]
def tb_Form_with_step (K : PySem.W.Frag) : DTS := (sSeq (zIf (zOrT (tP (qNot (pTru (pFn (F_is_whole K) (pCons (pV 1) pNil))))) (dNotT (dTst (dChain leD leD (eP (pC (.int 0))) (eP (pBo 1)) (dCallB lenD (dConsB (dFldB (He.ga K "Form") "chain" (eP (pV 0))) dNil))))))
  (sRaiseF (He.ga K "NoIndex") "index" (eP (pV 1)))
  sNext)
  (sSeq (zIf (dNotT (zTru (dCall (f_is_step K) (dCons (dFld (He.ga K "Form") "heads" (eP (pV 0))) (dCons (eP (pV 2)) dNil)))))
  (sRaiseF (He.ga K "NoStep") "index" (eP (pV 1)))
  sNext)
  (sSeq (zIf (dTst (dBin eqD (dCallB lenD (dConsB (dFldB (He.ga K "Form") "chain" (eP (pV 0))) dNil)) (eP (pC (.int 16)))))
  (sRaiseF (He.ga K "NoStep") "index" (eP (pC (.int 16))))
  sNext)
  (sRet (dMakeZ (He.ga K "Form") (f_Form___init__ K) [] (dCons (dFld (He.ga K "Form") "heads" (eP (pV 0))) (dCons (zBinV addD (zBinV addD (dSl slD (dFldB (He.ga K "Form") "chain" (eP (pV 0))) oNone (oSome (eP (pV 1)))) (eP (pTup (pCons (pV 2) pNil)))) (dSl slD (dFldB (He.ga K "Form") "chain" (eP (pV 0))) (oSome (eP (pV 1))) oNone)) dNil)))))))
end PG

set_option Elab.async false
set_option linter.all false
set_option maxRecDepth 100000
set_option maxHeartbeats 4000000
namespace PG
open PySem PySem.Spec L2 DD
section
variable {K : PySem.W.Frag}
theorem mkF_run {cs : List Str} {st : List Stp} {G : DG} {Q : D → DG → Prop} {E : DX → DG → Prop} (ok : formOk cs st) (q : Q (eFm K cs st) G) (x : Addr) (hx : G x = none) : f_Form___init__ K (.ref x :: ([eC cs, eF st] ++ [])) (gset G x (some (.ins (He.ga K "Form") []))) (fun v G2 => v = .non ∧ ∃ fs, G2 x = some (.ins (He.ga K "Form") fs) ∧ Q (.obj (He.ga K "Form") (fs.map fun p => (p.1, p.2.d))) (gset G2 x none)) (fun ex G2 => E ex (gset G2 x none)) := mk_Form ok q x hx
theorem p_Form___add__ (ds : List D) (G : DG) (Q : D → DG → Prop) (E : DX → DG → Prop) (h : f_Form___add__ K ds G Q E) : tb_Form___add__ K (fnEnds Q E) (dstart N_Form___add__ ds) G := by
  unfold f_Form___add__ at h
  obtain ⟨c1, s1, c2, s2, rfl, o1, o2, h1, h2, h3⟩ := h
  show tb_Form___add__ K (fnEnds Q E) [some (.v (eFm K c1 s1)), some (.v (eFm K c2 s2)), none] G
  refine ⟨eC c1, ⟨rfl, rfl⟩, eC c2, ⟨rfl, rfl⟩, rfl, _, ne_cols c1 c2, _, rfl, brP_of (fun hb => ?_) (fun hb => ?_)⟩
  · exact h1 (by simpa using hb)
  have e : c1 = c2 := by simpa using hb
  have l1 := o1.2.2.1
  have l2 := o2.2.2.1
  refine ⟨eF s1, ⟨rfl, rfl⟩, eF s2, ⟨rfl, rfl⟩, onO_of (add_steps (by omega)) ?_⟩
  have hg : (pTst (pBin gtD (pCallB lenD (pCons (pBo 2) pNil)) (pC (.int 16)))) [some (.v (eFm K c1 s1)), some (.v (eFm K c2 s2)), some (.v (eF (s1 ++ s2)))] G = some (decide (((s1 ++ s2).map eP').length > (16 : Int))) := pTst_of (pBin_of (pLen_tup (xs := (s1 ++ s2).map eP') rfl) rfl rfl)
  dsimp only [List.set, sSeq]
  refine onO_of hg ?_
  refine brP_of (fun hb => ?_) (fun hb => ?_)
  · simp at hb
    exact h2 e (by omega)
  have hb : s1.length + s2.length ≤ 16 := by simp at hb; omega
  refine ⟨eC c1, ⟨rfl, rfl⟩, ?_⟩
  exact mkF_run (add_ok o1 (e ▸ o2) hb) (h3 e hb)
theorem whole_int (i : Int) : isWhole (.int i) = true := rfl
theorem p_Form_without (ds : List D) (G : DG) (Q : D → DG → Prop) (E : DX → DG → Prop) (h : f_Form_without K ds G Q E) : tb_Form_without K (fnEnds Q E) (dstart N_Form_without ds) G := by
  unfold f_Form_without at h
  obtain ⟨cs, st, k, rfl, o, hn, h1, h2⟩ := h
  show tb_Form_without K (fnEnds Q E) [some (.v (eFm K cs st)), some (.v k)] G
  refine onO_of (qn_fn (b := isWhole k) rfl (F_whole K hn)) ?_
  cases k with
  | int i =>
    refine ⟨rfl, decide (0 ≤ i), rfl, ?_⟩
    by_cases h0 : 0 ≤ i
    · simp only [h0, decide_true, if_true]
      refine ⟨.tup (st.map eP'), ⟨rfl, rfl⟩, rfl, _, rfl, rfl, _, rfl, _, rfl, ?_⟩
      refine brP_of (fun hb => ?_) (fun hb => ?_)
      · refine h1 (.inl ?_)
        have hb : ¬ i < (st.length : Int) := by simpa using hb
        rw [ix_val, if_neg (by omega)]
      · have hb : i < (st.length : Int) := by simpa using hb
        refine ⟨.tup (st.map eP'), ⟨rfl, rfl⟩, rfl, _, rfl, rfl, _, rfl, _, rfl, ?_⟩
        refine brP_of (fun hb2 => ?_) (fun hb2 => ?_)
        · refine h1 (.inr ?_)
          have hb2 : (((st.map eP').length : Int) == 1) = true := hb2
          simp at hb2
          omega
        · have hb2 : (((st.map eP').length : Int) == 1) = false := hb2
          simp at hb2
          have hne : st.length ≠ 1 := by omega
          obtain ⟨j, rfl⟩ : ∃ j : Nat, i = j := ⟨i.toNat, by omega⟩
          have hj : j < st.length := by omega
          refine ⟨eC cs, ⟨rfl, rfl⟩, eF st, ⟨rfl, rfl⟩, (j : Int), rfl, rfl, eF (st.take j), slS_to (by omega), eF st, ⟨rfl, rfl⟩, ((j + 1 : Nat) : Int), rfl, rfl, eF (st.drop (j + 1)), slS_from (by omega), onO_of (add_steps ?_) ?_⟩
          · have := o.2.2.1
            simp only [List.length_take, List.length_drop]; omega
          exact mkF_run (without_ok o hj hne) (h2 j (ix_nat hj) hne)
    · simp only [h0, decide_false, Bool.false_eq_true, if_false]
      refine ⟨false, rfl, h1 (.inl ?_)⟩
      rw [ix_val, if_neg (by omega)]
  | ref a => cases hn
  | ty a => cases hn
  | obj a b => cases hn
  | _ => exact h1 (.inl rfl)
theorem p_Form_with_step (ds : List D) (G : DG) (Q : D → DG → Prop) (E : DX → DG → Prop) (h : f_Form_with_step K ds G Q E) : tb_Form_with_step K (fnEnds Q E) (dstart N_Form_with_step ds) G := by
  unfold f_Form_with_step at h
  obtain ⟨cs, st, k, x, rfl, o, hn, hx, h1, h2⟩ := h
  show tb_Form_with_step K (fnEnds Q E) [some (.v (eFm K cs st)), some (.v k), some (.v x)] G
  refine onO_of (qn_fn (b := isWhole k) rfl (F_whole K hn)) ?_
  cases k with
  | int i =>
    refine ⟨rfl, decide (0 ≤ i), rfl, ?_⟩
    by_cases h0 : 0 ≤ i
    · simp only [h0, decide_true, if_true]
      refine ⟨.tup (st.map eP'), ⟨rfl, rfl⟩, rfl, _, rfl, rfl, _, rfl, _, rfl, ?_⟩
      refine brP_of (fun hb => ?_) (fun hb => ?_)
      · refine h1 ?_
        have hb : ¬ i ≤ (st.length : Int) := by simpa using hb
        rw [ix_val, if_neg (by omega)]
      · have hb : i ≤ (st.length : Int) := by simpa using hb
        obtain ⟨j, rfl⟩ : ∃ j : Nat, i = j := ⟨i.toNat, by omega⟩
        have hj : j < st.length + 1 := by omega
        have q := h2 j (ix_nat hj)
        refine ⟨eC cs, ⟨rfl, rfl⟩, onO_of (z := x) rfl (onO_of (F_step_eC K hx) ?_)⟩
        rcases q with ⟨hs, q⟩ | ⟨s, rfl, hs, q1, q2⟩
        · rw [hs]
          exact q
        · rw [step_ok hs]
          refine ⟨.tup (st.map eP'), ⟨rfl, rfl⟩, rfl, _, rfl, rfl, _, rfl, _, rfl, ?_⟩
          refine brP_of (fun hb2 => ?_) (fun hb2 => ?_)
          · have hb2 : (((st.map eP').length : Int) == 16) = true := hb2
            simp at hb2
            exact q1 (by omega)
          · have hb2 : (((st.map eP').length : Int) == 16) = false := hb2
            simp at hb2
            have hne : st.length ≠ 16 := by omega
            have a1 : addD (eF (st.take j)) (.tup [eP' s]) = some (eF (st.take j ++ [s])) := add_steps (b := [s]) (by have := o.2.2.1; simp; omega)
            have a2 : addD (eF (st.take j ++ [s])) (eF (st.drop j)) = some (eF (st.take j ++ [s] ++ st.drop j)) := add_steps (by have := o.2.2.1; simp; omega)
            refine ⟨eC cs, ⟨rfl, rfl⟩, eF st, ⟨rfl, rfl⟩, (j : Int), rfl, rfl, eF (st.take j), slS_to (by omega), onO_of (z := .tup [eP' s]) rfl (onO_of a1 ?_)⟩
            refine ⟨eF st, ⟨rfl, rfl⟩, (j : Int), rfl, rfl, eF (st.drop j), slS_from (by omega), onO_of a2 ?_⟩
            exact mkF_run (with_ok o hs (by omega) hne) (q2 hne)
    · simp only [h0, decide_false, Bool.false_eq_true, if_false]
      refine ⟨false, rfl, h1 ?_⟩
      rw [ix_val, if_neg (by omega)]
  | ref a => cases hn
  | ty a => cases hn
  | obj a b => cases hn
  | _ => exact h1 rfl
end
end PG

set_option Elab.async false
set_option linter.all false
set_option maxRecDepth 100000
set_option maxHeartbeats 4000000
namespace PG
open PySem PySem.Spec L2 DD FB
/-! ### equal forms -/
theorem beq_test (n : Nat) (s t : Tst) : beq (n + 1) (eT s) (eT t) = decide (s = t) := by
  rw [Bool.eq_iff_iff]
  cases s <;> cases t <;> simp [eT, beq, beqL] <;> (intro hh; exact absurd hh (by decide))
theorem beq_step (n : Nat) (s t : Stp) : beq (n + 2) (eP' s) (eP' t) = decide (s = t) := by
  have h : ∀ a b : Tst, beq (n + 1) (eT a) (eT b) = decide (a = b) := beq_test n
  rw [Bool.eq_iff_iff]
  cases s <;> cases t <;> simp [eP', beq, beqL, h] <;> (intro hh; exact absurd hh (by decide))
theorem beqL_steps (n : Nat) : ∀ a b : List Stp, beqL (beq (n + 2)) (a.map eP') (b.map eP') = decide (a = b)
  | [], [] => rfl
  | [], _ :: _ => rfl
  | _ :: _, [] => rfl
  | x :: r, y :: q => by
    rw [List.map_cons, List.map_cons, beqL, beqL_steps n r q, beq_step, Bool.eq_iff_iff]
    simp
theorem eq_steps (a b : List Stp) : eqD (eF a) (eF b) = some (.bl (decide (a = b))) := by
  unfold eqD
  rw [if_pos ⟨pl_steps (n := 47) a, pl_steps (n := 47) b⟩]
  exact congrArg (fun z => some (D.bl z)) (beqL_steps 47 a b)
/-- a value of another kind than forms -/
def NotForm (K : PySem.W.Frag) (G : DG) (x : D) : Prop := ∃ t, TyD K G x t ∧ PySem.W.kitOne K t (.ref (He.ga K "Form")) = some false
@[irreducible] def f_Form___eq__ (K : PySem.W.Frag) : Fn := fun ds G Q _ => FormK K ∧ ∃ c1 s1 x, ds = [eFm K c1 s1, x] ∧
  ((∃ c2 s2, x = eFm K c2 s2 ∧ Q (.bl (decide (c1 = c2) && decide (s1 = s2))) G) ∨ (NotForm K G x ∧ Q (.bl false) G))
section
variable {K : PySem.W.Frag} {ds : List D} {G : DG} {Q : D → DG → Prop} {E : DX → DG → Prop}
theorem len_Form___eq__ (h : f_Form___eq__ K ds G Q E) : ds.length = 2 := by unfold f_Form___eq__ at h; obtain ⟨_, _, _, _, rfl, _⟩ := h; rfl
theorem c_Form_eq {c1 c2 : List Str} {s1 s2 : List Stp} (hF : FormK K) (q : Q (.bl (decide (c1 = c2) && decide (s1 = s2))) G) : f_Form___eq__ K [eFm K c1 s1, eFm K c2 s2] G Q E := by
  unfold f_Form___eq__
  exact ⟨hF, _, _, _, rfl, .inl ⟨_, _, rfl, q⟩⟩
theorem c_Form_uneq {c1 : List Str} {s1 : List Stp} {x : D} (hF : FormK K) (h : NotForm K G x) (q : Q (.bl false) G) : f_Form___eq__ K [eFm K c1 s1, x] G Q E := by
  unfold f_Form___eq__
  exact ⟨hF, _, _, _, rfl, .inr ⟨h, q⟩⟩
theorem p_Form___eq__ (ds : List D) (G : DG) (Q : D → DG → Prop) (E : DX → DG → Prop) (h : f_Form___eq__ K ds G Q E) : tb_Form___eq__ K (fnEnds Q E) (dstart N_Form___eq__ ds) G := by
  unfold f_Form___eq__ at h
  obtain ⟨hF, c1, s1, x, rfl, h⟩ := h
  show tb_Form___eq__ K (fnEnds Q E) [some (.v (eFm K c1 s1)), some (.v x)] G
  rcases h with ⟨c2, s2, rfl, q⟩ | ⟨⟨t, ht, hk⟩, q⟩
  · refine ⟨rfl, .ref (He.ga K "Form"), .ref (He.ga K "Form"), true, ⟨rfl, hF.1⟩, rfl, hF.2, ?_⟩
    refine onO_of (z := true) rfl ?_
    refine ⟨eC c1, ⟨rfl, rfl⟩, eC c2, ⟨rfl, rfl⟩, rfl, _, eq_cols c1 c2, ?_⟩
    refine onO_of (z := decide (c1 = c2)) rfl ?_
    by_cases e : c1 = c2
    · refine brP_t (by simp [e]) ?_
      refine ⟨eF s1, ⟨rfl, rfl⟩, eF s2, ⟨rfl, rfl⟩, rfl, _, eq_steps s1 s2, ?_⟩
      rw [decide_eq_true e, Bool.true_and] at q
      exact q
    · refine brP_f (by simp [e]) ?_
      rw [decide_eq_false e, Bool.false_and] at q
      exact q
  · refine ⟨rfl, t, .ref (He.ga K "Form"), false, ht, rfl, hk, ?_⟩
    refine onO_of (z := false) rfl ?_
    exact q
end
end PG

set_option Elab.async false
set_option linter.all false
set_option maxRecDepth 100000
set_option maxHeartbeats 4000000
namespace DD
open PySem PySem.Spec L2

/-! ### attributes, reckoned -/
def fvO (C : Addr) (f : Str) (G : DG) (x : D) : Option D := match x with
  | .obj C' fs => if C' = C then fs.lookup f else none
  | .ref a => (match G a with
    | some (.ins C' fs) => if C' = C then (match fs.lookup f with
      | some (.v d) => some d
      | _ => none) else none
    | _ => none)
  | _ => none
def fbO (C : Addr) (f : Str) (G : DG) (x : D) : Option D := match x with
  | .obj C' fs => if C' = C then fs.lookup f else none
  | .ref a => (match G a with
    | some (.ins C' fs) => if C' = C then (match fs.lookup f with
      | some s => some s.d
      | _ => none) else none
    | _ => none)
  | _ => none
def pFld' (C : Addr) (f : Str) (p : PX) : PX := fun δ G => bO (p δ G) (fvO C f G)
def pFldB (C : Addr) (f : Str) (p : PX) : PX := fun δ G => bO (p δ G) (fbO C f G)
theorem fvO_iff {C : Addr} {f : Str} {G : DG} {x d : D} (h : fvO C f G x = some d) : FldV C f G x d := by
  unfold fvO at h
  split at h
  · split at h
    · rename_i e; exact ⟨e, h⟩
    · cases h
  · split at h
    · rename_i C' fs e
      split at h
      · rename_i e2
        subst e2
        split at h
        · rename_i d' e3; cases h; exact ⟨_, e, e3⟩
        · cases h
      · cases h
    · cases h
  · cases h
theorem fbO_iff {C : Addr} {f : Str} {G : DG} {x d : D} (h : fbO C f G x = some d) : FldB C f G x d := by
  unfold fbO at h
  split at h
  · split at h
    · rename_i e; exact ⟨e, h⟩
    · cases h
  · split at h
    · rename_i C' fs e
      split at h
      · rename_i e2
        subst e2
        split at h
        · rename_i d' e3; cases h; exact ⟨_, _, e, e3, rfl⟩
        · cases h
      · cases h
    · cases h
  · cases h
theorem fv_ref {C a : Addr} {f : Str} {G : DG} {fs : List (Str × FV)} {d : D} (g : G a = some (.ins C fs)) (h : fs.lookup f = some (.v d)) : fvO C f G (.ref a) = some d := by
  show (match G a with | some (.ins C' fs) => if C' = C then (match fs.lookup f with | some (.v d) => some d | _ => none) else none | _ => none) = _
  rw [g]
  show (if C = C then (match fs.lookup f with | some (.v d) => some d | _ => none) else none) = _
  rw [if_pos rfl, h]
theorem fb_ref {C a : Addr} {f : Str} {G : DG} {fs : List (Str × FV)} {s : FV} (g : G a = some (.ins C fs)) (h : fs.lookup f = some s) : fbO C f G (.ref a) = some s.d := by
  show (match G a with | some (.ins C' fs) => if C' = C then (match fs.lookup f with | some s => some s.d | _ => none) else none | _ => none) = _
  rw [g]
  show (if C = C then (match fs.lookup f with | some s => some s.d | _ => none) else none) = _
  rw [if_pos rfl, h]
theorem fv_obj {C : Addr} {f : Str} {G : DG} {fs : List (Str × D)} {d : D} (h : fs.lookup f = some d) : fvO C f G (.obj C fs) = some d := by
  show (if C = C then fs.lookup f else none) = _
  rw [if_pos rfl, h]
theorem fb_obj {C : Addr} {f : Str} {G : DG} {fs : List (Str × D)} {d : D} (h : fs.lookup f = some d) : fbO C f G (.obj C fs) = some d := fv_obj (G := G) h
theorem pFld_of {C : Addr} {f : Str} {p : PX} {δ : DSt} {G : DG} {x : D} {z : Option D} (h : p δ G = some x) (k : fvO C f G x = z) : pFld' C f p δ G = z := by unfold pFld'; rw [h]; exact k
theorem pFldB_of {C : Addr} {f : Str} {p : PX} {δ : DSt} {G : DG} {x : D} {z : Option D} (h : p δ G = some x) (k : fbO C f G x = z) : pFldB C f p δ G = z := by unfold pFldB; rw [h]; exact k
section
variable {X : Cx} {W : WX} {e : Expr} {p : PX} {C : Addr} {f : Str}
theorem xe_fld (h : DE X W e (dFld C f (eP p))) : DE X W e (eP (pFld' C f p)) := h.deOf fun δ G Q E h => by
  obtain ⟨z, hz, h⟩ := onO_iff.mp h
  obtain ⟨x, hx, hz⟩ := bO_iff.mp hz
  exact onO_iff.mpr ⟨x, hx, z, fvO_iff hz, h⟩
theorem xb_fld (h : DB X W e (dFldB C f (eP p))) : DB X W e (eP (pFldB C f p)) := h.dbOf fun δ G Q E h => by
  obtain ⟨z, hz, h⟩ := onO_iff.mp h
  obtain ⟨x, hx, hz⟩ := bO_iff.mp hz
  exact onO_iff.mpr ⟨x, hx, z, fbO_iff hz, h⟩
end
/-! ### a fresh list, the one or the other -/
def pIfA (t : PB) (p q : PAs) : PAs := fun δ G => bO (t δ G) fun b => match b with
  | true => p δ G
  | false => q δ G
def dIfF (t : DTT) (a b : DTA) : DTA := fun δ G Q E => t δ G (fun c G1 => brP c (a δ G1 Q E) (b δ G1 Q E)) E
theorem df_ifE {X : Cx} {W : WX} {a b c : Expr} {ca : DTT} {da db : DTA} {pos : Pos} (hc : DT X W c ca) (ha : DF X W a da) (hb : DF X W b db) : DF X W (.IfExp c a b pos) (dIfF ca da db) := (pe_ifExp hc ha hb).imp fun σ H R ⟨M, δ, G, Q, QE, rs, d, ex, k⟩ => by
  refine ⟨M, δ, G, _, QE, rs, d, ex, fun b G' H' M' f rs' q => ?_⟩
  rw [brP_eq] at q
  cases b with
  | true =>
    simp only [if_true] at q ⊢
    exact ⟨M', δ, G', Q, QE, rs', q, ex.mono f, fun p xs ds G2 H2 M2 f2 rs2 n m hp iml q2 => k p xs ds G2 H2 M2 (f.trans f2) rs2 (f.fresh n) m hp iml q2⟩
  | false =>
    simp only [Bool.false_eq_true, if_false] at q ⊢
    exact ⟨M', δ, G', Q, QE, rs', q, ex.mono f, fun p xs ds G2 H2 M2 f2 rs2 n m hp iml q2 => k p xs ds G2 H2 M2 (f.trans f2) rs2 (f.fresh n) m hp iml q2⟩
theorem xf_ifE {X : Cx} {W : WX} {e : Expr} {t : PB} {p q : PAs} (h : DF X W e (dIfF (tP t) (aP p) (aP q))) : DF X W e (aP (pIfA t p q)) := h.dfOf fun δ G Q E h => by
  obtain ⟨z, hz, h⟩ := onO_iff.mp h
  obtain ⟨x, hx, hz⟩ := bO_iff.mp hz
  refine onO_iff.mpr ⟨x, hx, ?_⟩
  cases x with
  | true => exact onO_iff.mpr ⟨z, hz, h⟩
  | false => exact onO_iff.mpr ⟨z, hz, h⟩
/-! ### a def's end: objects may be forgotten, jars told to have drawn more often -/
def Less (G' G : DG) : Prop := ∀ a o, G' a = some o → G a = some o ∨ ∃ c n, G a = some (.jar c) ∧ o = .jar n ∧ c ≤ n
theorem Less.refl (G : DG) : Less G G := fun _ _ h => .inl h
theorem Less.trans {G1 G2 G3 : DG} (h : Less G1 G2) (k : Less G2 G3) : Less G1 G3 := fun a o g0 => by
  rcases h a o g0 with g | ⟨c, n, g, rfl, hc⟩
  · exact k a o g
  · rcases k a _ g with g2 | ⟨c', n', g2, e, hc'⟩
    · exact .inr ⟨c, n, g2, rfl, hc⟩
    · cases e
      exact .inr ⟨c', n, g2, rfl, by omega⟩
theorem Less.new {G0 G : DG} {x : Addr} {u : Option DO} (h : Less G0 G) (n : G0 x = none) : Less G0 (gset G x u) := fun a o g => by
  have ne : a ≠ x := fun e => by rw [e, n] at g; cases g
  rw [gset_ne ne]
  exact h a o g
theorem Less.drop {G0 G : DG} {x : Addr} (h : Less G0 G) : Less (gset G0 x none) G := fun a o g => by
  by_cases e : a = x
  · rw [e, gset_same] at g; cases g
  · rw [gset_ne e] at g; exact h a o g
theorem Less.jar {G0 G : DG} {x : Addr} {c n : Nat} (h : Less G0 G) (g : G x = some (.jar c)) (hc : c ≤ n) : Less (gset G0 x (some (.jar n))) G := fun a o k => by
  by_cases e : a = x
  · subst e; rw [gset_same] at k; cases k; exact .inr ⟨c, n, g, rfl, hc⟩
  · rw [gset_ne e] at k; exact h a o k
theorem Less.set {G0 G : DG} {x : Addr} {u : Option DO} (h : Less G0 G) : Less (gset G0 x u) (gset G x u) := fun a o k => by
  by_cases e : a = x
  · subst e; rw [gset_same] at k ⊢; exact .inl k
  · rw [gset_ne e] at k ⊢; exact h a o k
theorem RG.less {K : PySem.W.Frag} {H : Hp} {M : Gh} {G G' : DG} (r : RG K H M G) (h : Less G' G) : RG K H M G' := ⟨fun b u hb => by
  rcases h b u hb with g | ⟨c, n, g, rfl, hc⟩
  · exact r.obj b u g
  · obtain ⟨ma, i, j, k, ha, ok, hk⟩ := r.obj b _ g
    exact ⟨ma, i, j, k, ha, ok, by omega⟩, r.dom⟩
def wk {α : Type} (Q : α → DG → Prop) : α → DG → Prop := fun v G => ∃ G', Less G' G ∧ Q v G'
theorem wk_of {α : Type} {Q : α → DG → Prop} {v : α} {G G' : DG} (h : Less G' G) (q : Q v G') : wk Q v G := ⟨G', h, q⟩
theorem wk_self {α : Type} {Q : α → DG → Prop} {v : α} {G : DG} (q : Q v G) : wk Q v G := ⟨G, Less.refl G, q⟩
theorem dfnW {P : Program} {w : World} {K : PySem.W.Frag} {mg : Str → Option Value} {base : Heap} {x qual : Str} {st : Stmt} {dvs : List V} {fa : Addr} {fd : FuncData} {N ps : List Str} {k : Nat} {f : Fn} {db : DTS} (F : FunD K x qual (defArgs st) (defBody st) (defScope st) dvs [] fa fd) (S : FnScope N ps (defScope st))
    (len : ∀ ds G Q E, f ds G Q E → ds.length = ps.length)
    (hb : ∀ (cdv : Value) (A : Around) (outer : List Env) (s : Shared) (H : Hp) (E : XK), Room k (A.deeper (PyProof.Rows.envOfC qual (defScope st) s.heap.objs.size fa cdv)) →
      DSs (cxOf (L2.CX P w) P w K mg base N qual (defScope st) fa cdv A outer s H E) (fun cls d _ H' => E cls d H') (defBody st) db)
    (h : ∀ ds G Q QE, f ds G Q QE → db (fnEnds (wk Q) (wk QE)) (dstart N ds) G) : FnOk P w K mg base (L2.CX P w) (k + 1) fa fd ps (spD K f) := by
  have F0 := dfn (f := fun ds G Q QE => ds.length = ps.length ∧ db (fnEnds Q QE) (dstart N ds) G) F S (fun _ _ _ _ h => h.1) hb (fun _ _ _ _ h => h.2)
  refine F0.imp fun vs H Q E ⟨M, ds, G, QD, QE, ns, g, r, q, kq, ke⟩ => ?_
  refine ⟨M, ds, G, wk QD, wk QE, ns, g, r, ⟨len _ _ _ _ q, h _ _ _ _ q⟩, ?_, ?_⟩
  · intro v dv G' H' M' f ns' g' im ⟨G2, hl, q3⟩
    exact kq v dv G2 H' M' f ns' (g'.less hl) im q3
  · intro x G' H' M' cls dd f ns' g' rx ⟨G2, hl, q3⟩
    exact ke x G2 H' M' cls dd f ns' (g'.less hl) rx q3
end DD

set_option Elab.async false
set_option linter.all false
set_option maxRecDepth 100000
set_option maxHeartbeats 4000000
namespace PG
open PySem PySem.Spec L2 DD FB

/-! ### listings: contracts -/
/-- the first row that is none -/
def firstBad (cs : D) : Nat → List D → Option Nat
  | _, [] => none
  | i, r :: rs => if isRow cs r = true then firstBad cs (i + 1) rs else some i
/-- a listing's object -/
def lsO (K : PySem.W.Frag) (cs : D) (l : Addr) (rs : List D) : DO := .ins (He.ga K "Listing") [("heads", .v cs), ("lines", .own l rs)]
def lsV (K : PySem.W.Frag) (cs : D) (rs : List D) : D := .obj (He.ga K "Listing") [("heads", cs), ("lines", .lst rs)]
/-- a listing: an object, or a finished value -/
def IsL (K : PySem.W.Frag) (G : DG) (x cs : D) (rs : List D) : Prop := (∃ a l, x = .ref a ∧ G a = some (lsO K cs l rs)) ∨ x = lsV K cs rs
inductive MkL where
  | cols | row (i : Nat) | ok (rs : List D)
def mkL (cs rows : D) : MkL := if areCols cs = true then (match rows with
    | .tup rs => (match firstBad cs 0 rs with
      | some i => .row i
      | none => .ok rs)
    | _ => .row 0) else .cols
abbrev xNoRow (K : PySem.W.Frag) (x : D) : DX := ⟨He.ga K "NoRow", some [("index", x)]⟩
abbrev xNoIndex (K : PySem.W.Frag) (x : D) : DX := ⟨He.ga K "NoIndex", some [("index", x)]⟩
abbrev xNoColumns (K : PySem.W.Frag) : DX := ⟨He.ga K "NoColumns", none⟩
@[irreducible] def f_Listing___init__ (K : PySem.W.Frag) : Fn := fun ds G Q E => ∃ a cs rows, ds = [.ref a, cs, rows] ∧ G a = some (.ins (He.ga K "Listing") []) ∧ nrmL cs = true ∧ nrmR rows = true ∧
  match mkL cs rows with
  | .cols => E (xNoColumns K) G
  | .row i => E (xNoRow K (.int (i : Nat))) G
  | .ok rs => ∀ l, Q .non (gset G a (some (lsO K cs l rs)))
@[irreducible] def f_Listing_rows (K : PySem.W.Frag) : Fn := fun ds G Q _ => ∃ x cs rs, ds = [x] ∧ IsL K G x cs rs ∧ Q (.lst rs) G
@[irreducible] def f_Listing___len__ (K : PySem.W.Frag) : Fn := fun ds G Q _ => ∃ x cs rs, ds = [x] ∧ IsL K G x cs rs ∧ Q (.int (rs.length : Nat)) G
@[irreducible] def f_Listing_columns (K : PySem.W.Frag) : Fn := fun ds G Q _ => ∃ x cs rs, ds = [x] ∧ IsL K G x cs rs ∧ Q cs G
@[irreducible] def f_Listing_has (K : PySem.W.Frag) : Fn := fun ds G Q _ => ∃ x k cs rs, ds = [x, k] ∧ nrm k = true ∧ IsL K G x cs rs ∧ Q (.bl (ixOk k rs.length).isSome) G
@[irreducible] def f_Listing___getitem__ (K : PySem.W.Frag) : Fn := fun ds G Q E => ∃ x k cs rs, ds = [x, k] ∧ nrm k = true ∧ IsL K G x cs rs ∧
  (ixOk k rs.length = none → E (xNoIndex K k) G) ∧ (∀ i r, ixOk k rs.length = some i → rs[i]? = some r → Q r G)
@[irreducible] def f_Listing___setitem__ (K : PySem.W.Frag) : Fn := fun ds G Q E => ∃ a l k r cs rs, ds = [.ref a, k, r] ∧ nrm k = true ∧ nrmL r = true ∧ G a = some (lsO K (eC cs) l rs) ∧ rs.length ≤ 100000 ∧
  (ixOk k rs.length = none → E (xNoIndex K k) G) ∧ (∀ i, ixOk k rs.length = some i → (isRow (eC cs) r = false → E (xNoRow K k) G) ∧ (isRow (eC cs) r = true → Q .non (gset G a (some (lsO K (eC cs) l (rs.set i r))))))
@[irreducible] def f_Listing_put (K : PySem.W.Frag) : Fn := fun ds G Q E => ∃ a l r cs rs, ds = [.ref a, r] ∧ nrmL r = true ∧ G a = some (lsO K (eC cs) l rs) ∧ rs.length ≤ 100000 ∧
  (isRow (eC cs) r = false → E (xNoRow K (.int (rs.length : Nat))) G) ∧ (isRow (eC cs) r = true → Q .non (gset G a (some (lsO K (eC cs) l (rs ++ [r])))))
@[irreducible] def f_Listing_drop (K : PySem.W.Frag) : Fn := fun ds G Q E => ∃ a l k cs rs, ds = [.ref a, k] ∧ nrm k = true ∧ G a = some (lsO K cs l rs) ∧ rs.length ≤ 100000 ∧
  (ixOk k rs.length = none → E (xNoIndex K k) G) ∧ (∀ i, ixOk k rs.length = some i → Q .non (gset G a (some (lsO K cs l (rs.eraseIdx i)))))
/-- what is known of the class Listing -/
def ListK (K : PySem.W.Frag) : Prop := C8.InsC K (He.ga K "Listing") ∧ PySem.W.kitOne K (.ref (He.ga K "Listing")) (.ref (He.ga K "Listing")) = some true
/-- rows as values -/
def eRs (rs : List (List Str)) : List D := rs.map eC
abbrev lsT (K : PySem.W.Frag) (cs : List Str) (l : Addr) (rs : List (List Str)) : DO := lsO K (eC cs) l (eRs rs)
/-- good rows for columns -/
def rowsOk (n : Nat) (rs : List (List Str)) : Prop := ∀ r ∈ rs, rowOk n r = true
/-- a value of another kind than listings -/
def NotL (K : PySem.W.Frag) (G : DG) (x : D) : Prop := ∃ t, TyD K G x t ∧ PySem.W.kitOne K t (.ref (He.ga K "Listing")) = some false
@[irreducible] def f_Listing___eq__ (K : PySem.W.Frag) : Fn := fun ds G Q _ => ListK K ∧ ∃ x y c1 r1, ds = [x, y] ∧ IsL K G x (eC c1) (eRs r1) ∧
  ((∃ c2 r2, IsL K G y (eC c2) (eRs r2) ∧ Q (.bl (decide (c1 = c2) && decide (r1 = r2))) G) ∨ (NotL K G y ∧ Q (.bl false) G))
@[irreducible] def f_Listing___add__ (K : PySem.W.Frag) : Fn := fun ds G Q E => ∃ x y c1 r1 c2 r2, ds = [x, y] ∧ IsL K G x (eC c1) (eRs r1) ∧ IsL K G y (eC c2) (eRs r2) ∧ colsOk c1 = true ∧ rowsOk c1.length r1 ∧ rowsOk c2.length r2 ∧ r1.length + r2.length ≤ 100000 ∧
  (c1 ≠ c2 → E (xNoColumns K) G) ∧ (c1 = c2 → ∀ a l, G a = none → Q (.ref a) (gset G a (some (lsT K c1 l (r1 ++ r2)))))
@[irreducible] def f_Listing___iadd__ (K : PySem.W.Frag) : Fn := fun ds G Q E => ∃ a l y c1 r1 c2 r2, ds = [.ref a, y] ∧ G a = some (lsT K c1 l r1) ∧ IsL K G y (eC c2) (eRs r2) ∧ r1.length + r2.length ≤ 100000 ∧
  (c1 ≠ c2 → E (xNoColumns K) G) ∧ (c1 = c2 → ∀ l', Q (.ref a) (gset G a (some (lsT K c1 l' (r1 ++ r2)))))
@[irreducible] def f_Listing_twin (K : PySem.W.Frag) : Fn := fun ds G Q _ => ∃ x cs rs, ds = [x] ∧ IsL K G x (eC cs) (eRs rs) ∧ colsOk cs = true ∧ rowsOk cs.length rs ∧ rs.length ≤ 100000 ∧ ∀ a l, G a = none → Q (.ref a) (gset G a (some (lsT K cs l rs)))
section
variable {K : PySem.W.Frag} {ds : List D} {G : DG} {Q : D → DG → Prop} {E : DX → DG → Prop}
theorem len_Listing___init__ (h : f_Listing___init__ K ds G Q E) : ds.length = 3 := by unfold f_Listing___init__ at h; obtain ⟨_, _, _, rfl, _⟩ := h; rfl
theorem len_Listing_rows (h : f_Listing_rows K ds G Q E) : ds.length = 1 := by unfold f_Listing_rows at h; obtain ⟨_, _, _, rfl, _⟩ := h; rfl
theorem len_Listing___len__ (h : f_Listing___len__ K ds G Q E) : ds.length = 1 := by unfold f_Listing___len__ at h; obtain ⟨_, _, _, rfl, _⟩ := h; rfl
theorem len_Listing_columns (h : f_Listing_columns K ds G Q E) : ds.length = 1 := by unfold f_Listing_columns at h; obtain ⟨_, _, _, rfl, _⟩ := h; rfl
theorem len_Listing_has (h : f_Listing_has K ds G Q E) : ds.length = 2 := by unfold f_Listing_has at h; obtain ⟨_, _, _, _, rfl, _⟩ := h; rfl
theorem len_Listing___getitem__ (h : f_Listing___getitem__ K ds G Q E) : ds.length = 2 := by unfold f_Listing___getitem__ at h; obtain ⟨_, _, _, _, rfl, _⟩ := h; rfl
theorem len_Listing___setitem__ (h : f_Listing___setitem__ K ds G Q E) : ds.length = 3 := by unfold f_Listing___setitem__ at h; obtain ⟨_, _, _, _, _, _, rfl, _⟩ := h; rfl
theorem len_Listing_put (h : f_Listing_put K ds G Q E) : ds.length = 2 := by unfold f_Listing_put at h; obtain ⟨_, _, _, _, _, rfl, _⟩ := h; rfl
theorem len_Listing_drop (h : f_Listing_drop K ds G Q E) : ds.length = 2 := by unfold f_Listing_drop at h; obtain ⟨_, _, _, _, _, rfl, _⟩ := h; rfl
theorem len_Listing___eq__ (h : f_Listing___eq__ K ds G Q E) : ds.length = 2 := by unfold f_Listing___eq__ at h; obtain ⟨_, _, _, _, _, rfl, _⟩ := h; rfl
theorem len_Listing___add__ (h : f_Listing___add__ K ds G Q E) : ds.length = 2 := by unfold f_Listing___add__ at h; obtain ⟨_, _, _, _, _, _, rfl, _⟩ := h; rfl
theorem len_Listing___iadd__ (h : f_Listing___iadd__ K ds G Q E) : ds.length = 2 := by unfold f_Listing___iadd__ at h; obtain ⟨_, _, _, _, _, _, _, rfl, _⟩ := h; rfl
theorem len_Listing_twin (h : f_Listing_twin K ds G Q E) : ds.length = 1 := by unfold f_Listing_twin at h; obtain ⟨_, _, _, rfl, _⟩ := h; rfl
/-! what a listing tells -/
variable {x cs : D} {rs : List D}
theorem IsL.of_ref {a l : Addr} (h : G a = some (lsO K cs l rs)) : IsL K G (.ref a) cs rs := .inl ⟨a, l, rfl, h⟩
theorem IsL.of_val : IsL K G (lsV K cs rs) cs rs := .inr rfl
theorem IsL.heads (h : IsL K G x cs rs) : fvO (He.ga K "Listing") "heads" G x = some cs := by
  rcases h with ⟨a, l, rfl, h⟩ | rfl
  · exact fv_ref h rfl
  · exact fv_obj rfl
theorem IsL.headsB (h : IsL K G x cs rs) : fbO (He.ga K "Listing") "heads" G x = some cs := by
  rcases h with ⟨a, l, rfl, h⟩ | rfl
  · exact fb_ref (s := .v cs) h rfl
  · exact fb_obj rfl
theorem IsL.lines (h : IsL K G x cs rs) : fbO (He.ga K "Listing") "lines" G x = some (.lst rs) := by
  rcases h with ⟨a, l, rfl, h⟩ | rfl
  · exact fb_ref (s := .own l rs) h rfl
  · exact fb_obj rfl
theorem IsL.ins {m : Str} (h : IsL K G x cs rs) (hm : ([("heads", ()), ("lines", ())] : List (Str × Unit)).lookup m = none) : IsIns (He.ga K "Listing") m G x := by
  have e : (m == ("heads" : Str)) = false ∧ (m == ("lines" : Str)) = false := by
    simp only [List.lookup] at hm
    split at hm
    · cases hm
    · rename_i h1
      split at hm
      · cases hm
      · rename_i h2; exact ⟨h1, h2⟩
  rcases h with ⟨a, l, rfl, h⟩ | rfl
  · exact ⟨_, h, by simp only [List.lookup, e]⟩
  · exact ⟨rfl, by simp only [List.lookup, e]⟩
theorem IsL.isC (h : IsL K G x cs rs) : IsC (He.ga K "Listing") G x := by
  rcases h with ⟨a, l, rfl, h⟩ | rfl
  · exact ⟨_, h⟩
  · exact rfl
theorem IsL.set {a : Addr} {u : Option DO} (h : IsL K G x cs rs) (hn : G a = none) : IsL K (gset G a u) x cs rs := by
  rcases h with ⟨b, l, rfl, h⟩ | rfl
  · exact .inl ⟨b, l, rfl, by rw [gset_ne (fun e => by rw [e, hn] at h; cases h)]; exact h⟩
  · exact .inr rfl
theorem IsL.ty (hL : ListK K) (h : IsL K G x cs rs) : TyD K G x (.ref (He.ga K "Listing")) := by
  rcases h with ⟨a, l, rfl, h⟩ | rfl
  · exact .inl ⟨_, _, h, rfl, hL.1⟩
  · exact ⟨rfl, hL.1⟩
/-! calls -/
theorem c_Listing_rows (h : IsL K G x cs rs) (q : Q (.lst rs) G) : f_Listing_rows K [x] G Q E := by unfold f_Listing_rows; exact ⟨_, _, _, rfl, h, q⟩
theorem c_Listing_len (h : IsL K G x cs rs) (q : Q (.int (rs.length : Nat)) G) : f_Listing___len__ K [x] G Q E := by unfold f_Listing___len__; exact ⟨_, _, _, rfl, h, q⟩
theorem c_Listing_columns (h : IsL K G x cs rs) (q : Q cs G) : f_Listing_columns K [x] G Q E := by unfold f_Listing_columns; exact ⟨_, _, _, rfl, h, q⟩
theorem c_Listing_has {k : D} (hk : nrm k = true) (h : IsL K G x cs rs) (q : Q (.bl (ixOk k rs.length).isSome) G) : f_Listing_has K [x, k] G Q E := by unfold f_Listing_has; exact ⟨_, _, _, _, rfl, hk, h, q⟩
theorem c_Listing_get {k : D} (hk : nrm k = true) (h : IsL K G x cs rs) (q1 : ixOk k rs.length = none → E (xNoIndex K k) G) (q2 : ∀ i r, ixOk k rs.length = some i → rs[i]? = some r → Q r G) : f_Listing___getitem__ K [x, k] G Q E := by unfold f_Listing___getitem__; exact ⟨_, _, _, _, rfl, hk, h, q1, q2⟩
theorem c_Listing_set {a l : Addr} {k r : D} {cs : List Str} (hk : nrm k = true) (hr : nrmL r = true) (h : G a = some (lsO K (eC cs) l rs)) (hl : rs.length ≤ 100000) (q1 : ixOk k rs.length = none → E (xNoIndex K k) G)
    (q2 : ∀ i, ixOk k rs.length = some i → (isRow (eC cs) r = false → E (xNoRow K k) G) ∧ (isRow (eC cs) r = true → Q .non (gset G a (some (lsO K (eC cs) l (rs.set i r)))))) : f_Listing___setitem__ K [.ref a, k, r] G Q E := by unfold f_Listing___setitem__; exact ⟨_, _, _, _, _, _, rfl, hk, hr, h, hl, q1, q2⟩
theorem c_Listing_put {a l : Addr} {r : D} {cs : List Str} (hr : nrmL r = true) (h : G a = some (lsO K (eC cs) l rs)) (hl : rs.length ≤ 100000) (q1 : isRow (eC cs) r = false → E (xNoRow K (.int (rs.length : Nat))) G)
    (q2 : isRow (eC cs) r = true → Q .non (gset G a (some (lsO K (eC cs) l (rs ++ [r]))))) : f_Listing_put K [.ref a, r] G Q E := by unfold f_Listing_put; exact ⟨_, _, _, _, _, rfl, hr, h, hl, q1, q2⟩
theorem c_Listing_drop {a l : Addr} {k : D} (hk : nrm k = true) (h : G a = some (lsO K cs l rs)) (hl : rs.length ≤ 100000) (q1 : ixOk k rs.length = none → E (xNoIndex K k) G)
    (q2 : ∀ i, ixOk k rs.length = some i → Q .non (gset G a (some (lsO K cs l (rs.eraseIdx i))))) : f_Listing_drop K [.ref a, k] G Q E := by unfold f_Listing_drop; exact ⟨_, _, _, _, _, rfl, hk, h, hl, q1, q2⟩
theorem c_Listing_eq {y : D} {c1 c2 : List Str} {r1 r2 : List (List Str)} (hL : ListK K) (h1 : IsL K G x (eC c1) (eRs r1)) (h2 : IsL K G y (eC c2) (eRs r2)) (q : Q (.bl (decide (c1 = c2) && decide (r1 = r2))) G) : f_Listing___eq__ K [x, y] G Q E := by unfold f_Listing___eq__; exact ⟨hL, _, _, _, _, rfl, h1, .inl ⟨_, _, h2, q⟩⟩
theorem c_Listing_uneq {y : D} {c1 : List Str} {r1 : List (List Str)} (hL : ListK K) (h1 : IsL K G x (eC c1) (eRs r1)) (h2 : NotL K G y) (q : Q (.bl false) G) : f_Listing___eq__ K [x, y] G Q E := by unfold f_Listing___eq__; exact ⟨hL, _, _, _, _, rfl, h1, .inr ⟨h2, q⟩⟩
theorem c_Listing_add {y : D} {c1 c2 : List Str} {r1 r2 : List (List Str)} (h1 : IsL K G x (eC c1) (eRs r1)) (h2 : IsL K G y (eC c2) (eRs r2)) (hc : colsOk c1 = true) (o1 : rowsOk c1.length r1) (o2 : rowsOk c2.length r2) (hl : r1.length + r2.length ≤ 100000)
    (q1 : c1 ≠ c2 → E (xNoColumns K) G) (q2 : c1 = c2 → ∀ a l, G a = none → Q (.ref a) (gset G a (some (lsT K c1 l (r1 ++ r2))))) : f_Listing___add__ K [x, y] G Q E := by unfold f_Listing___add__; exact ⟨_, _, _, _, _, _, rfl, h1, h2, hc, o1, o2, hl, q1, q2⟩
theorem c_Listing_iadd {a l : Addr} {y : D} {c1 c2 : List Str} {r1 r2 : List (List Str)} (h1 : G a = some (lsT K c1 l r1)) (h2 : IsL K G y (eC c2) (eRs r2)) (hl : r1.length + r2.length ≤ 100000)
    (q1 : c1 ≠ c2 → E (xNoColumns K) G) (q2 : c1 = c2 → ∀ l', Q (.ref a) (gset G a (some (lsT K c1 l' (r1 ++ r2))))) : f_Listing___iadd__ K [.ref a, y] G Q E := by unfold f_Listing___iadd__; exact ⟨_, _, _, _, _, _, _, rfl, h1, h2, hl, q1, q2⟩
theorem c_Listing_twin {cs : List Str} {rs : List (List Str)} (h : IsL K G x (eC cs) (eRs rs)) (hc : colsOk cs = true) (ho : rowsOk cs.length rs) (hl : rs.length ≤ 100000) (q : ∀ a l, G a = none → Q (.ref a) (gset G a (some (lsT K cs l rs)))) : f_Listing_twin K [x] G Q E := by unfold f_Listing_twin; exact ⟨_, _, _, rfl, h, hc, ho, hl, q⟩
/-! good rows -/
theorem row_len {n : Nat} {r : List Str} (h : rowOk n r = true) : r.length = n := by simp only [rowOk, Bool.and_eq_true, decide_eq_true_eq] at h; exact h.1
theorem row_cells {n : Nat} {r : List Str} (h : rowOk n r = true) : ∀ c ∈ r, cellS c = true := by simp only [rowOk, Bool.and_eq_true, List.all_eq_true] at h; exact h.2
theorem nrmL_row {n : Nat} {r : List Str} (h : rowOk n r = true) (hn : n ≤ 1000) : nrmL (eC r) = true := nrmL_eC (fun c hc => by have := cell_len (row_cells h c hc); omega) (by rw [row_len h]; omega)
theorem nrmR_rows {n : Nat} {rs : List (List Str)} (h : rowsOk n rs) (hn : n ≤ 1000) (hl : rs.length ≤ 1000000) : nrmR (.tup (eRs rs)) = true := by
  simp only [nrmR, nrm, Bool.true_and, Bool.and_eq_true, decide_eq_true_eq, List.all_eq_true]
  refine ⟨by simpa [eRs] using hl, fun y hy => ?_⟩
  obtain ⟨r, hr, rfl⟩ := List.mem_map.mp hy
  exact nrmL_row (h r hr) hn
theorem firstBad_good {cs : List Str} : ∀ {rs : List (List Str)} {i : Nat}, rowsOk cs.length rs → firstBad (eC cs) i (eRs rs) = none
  | [], _, _ => rfl
  | r :: rs, i, h => by
    show (if isRow (eC cs) (eC r) = true then firstBad (eC cs) (i + 1) (eRs rs) else some i) = none
    rw [isRow_eC, if_pos (h r (by simp))]
    exact firstBad_good fun r' h' => h r' (by simp [h'])
theorem mkL_good {cs : List Str} {rs : List (List Str)} (hc : colsOk cs = true) (h : rowsOk cs.length rs) : mkL (eC cs) (.tup (eRs rs)) = .ok (eRs rs) := by
  unfold mkL
  rw [areCols_eC, if_pos hc]
  show (match firstBad (eC cs) 0 (eRs rs) with | some i => MkL.row i | none => .ok (eRs rs)) = _
  rw [firstBad_good h]
theorem c_Listing_init {a : Addr} {cs : List Str} {rs : List (List Str)} (ga : G a = some (.ins (He.ga K "Listing") [])) (hc : colsOk cs = true) (h : rowsOk cs.length rs) (hl : rs.length ≤ 1000000) (q : ∀ l, Q .non (gset G a (some (lsT K cs l rs)))) : f_Listing___init__ K [.ref a, eC cs, .tup (eRs rs)] G Q E := by
  unfold f_Listing___init__
  have l5 := cols_len hc
  refine ⟨_, _, _, rfl, ga, nrmL_cols hc, nrmR_rows h (by omega) hl, ?_⟩
  rw [mkL_good hc h]
  exact q
/-! equal rows -/
theorem pl_eRs {n : Nat} (rs : List (List Str)) : (eRs rs).all (pl (n + 1)) = true := by
  rw [List.all_eq_true]
  intro x hx
  obtain ⟨r, _, rfl⟩ := List.mem_map.mp hx
  exact pl_eC r
theorem beqL_rows {n : Nat} : ∀ a b : List (List Str), beqL (beq (n + 2)) (eRs a) (eRs b) = decide (a = b)
  | [], [] => rfl
  | [], _ :: _ => rfl
  | _ :: _, [] => rfl
  | x :: r, y :: q => by
    show (beq (n + 2) (eC x) (eC y) && beqL (beq (n + 2)) (eRs r) (eRs q)) = _
    rw [beqL_rows r q]
    have e : beq (n + 2) (eC x) (eC y) = decide (x = y) := beqL_strs _ (fun _ _ => rfl) x y
    rw [e, Bool.eq_iff_iff]
    simp
theorem eq_rows (a b : List (List Str)) : eqD (.lst (eRs a)) (.lst (eRs b)) = some (.bl (decide (a = b))) := by
  unfold eqD
  rw [if_pos ⟨pl_eRs (n := 48) a, pl_eRs (n := 48) b⟩]
  exact congrArg (fun z => some (D.bl z)) (beqL_rows (n := 47) a b)
end
end PG

set_option Elab.async false
set_option linter.all false
set_option maxRecDepth 100000
set_option maxHeartbeats 0
namespace PG
open PySem PySem.Spec L2 DD
abbrev N_is_row : List Str := ["columns", "thing", "cell"]
def tb_is_row (K : PySem.W.Frag) : DTS := (sRet (eP (pAnd (pIsi .tup (pBo 1)) (pAnd (pBin eqD (pCallB lenD (pCons (pBo 1) pNil)) (pCallB lenD (pCons (pBo 0) pNil))) (pCallB allD (pCons (pLst (pLc (piSeq (pV 1)) (tN 2) qYes (pFn (F_is_cell K) (pCons (pV 2) pNil)) [2])) pNil))))))
abbrev N_Listing___init__ : List Str := ["self", "columns", "rows", "index", "row"]
def tb_Listing___init__ (K : PySem.W.Frag) : DTS := (sSeq (zIf (tP (qNot (pTru (pFn (F_are_columns K) (pCons (pV 1) pNil)))))
  (sRaise (He.ga K "NoColumns"))
  sNext)
  (sSeq (zIf (tP (qNot (pTru (pIsi .tup (pBo 2)))))
  (sRaiseF (He.ga K "NoRow") "index" (eP (pC (.int 0))))
  sNext)
  (sSeq (sFor (aP (piEn (pV 2))) (gP (tT 2 (tCons (tN 3) (tCons (tN 4) tNil))))
  (zIf (tP (qNot (pTru (pFn (F_is_row K) (pCons (pV 1) (pCons (pV 4) pNil))))))
  (sRaiseF (He.ga K "NoRow") "index" (eP (pV 3)))
  sNext))
  (sSeq (sFldS (He.ga K "Listing") "heads" (eP (pV 1)) (eP (pV 0)))
  (sFldF (He.ga K "Listing") "lines" (aP (pLstOf (pBo 2))) 0)))))
abbrev N_Listing_has : List Str := ["self", "index"]
def tb_Listing_has (K : PySem.W.Frag) : DTS := (sRet (eP (pAnd (pFn (F_is_whole K) (pCons (pV 1) pNil)) (pChain leD ltD (pC (.int 0)) (pBo 1) (pCallB lenD (pCons (pFldB (He.ga K "Listing") "lines" (pV 0)) pNil))))))
abbrev N_Listing___getitem__ : List Str := ["self", "index"]
def tb_Listing___getitem__ (K : PySem.W.Frag) : DTS := (sSeq (zIf (dNotT (zTru (dMeth (He.ga K "Listing") "has" (f_Listing_has K) (eP (pV 0)) (aP (pCons (pV 1) pNil)))))
  (sRaiseF (He.ga K "NoIndex") "index" (eP (pV 1)))
  sNext)
  (sRet (eP (pBin ixD (pFldB (He.ga K "Listing") "lines" (pV 0)) (pBo 1)))))
abbrev N_Listing___setitem__ : List Str := ["self", "index", "row"]
def tb_Listing___setitem__ (K : PySem.W.Frag) : DTS := (sSeq (zIf (dNotT (zTru (dMeth (He.ga K "Listing") "has" (f_Listing_has K) (eP (pV 0)) (aP (pCons (pV 1) pNil)))))
  (sRaiseF (He.ga K "NoIndex") "index" (eP (pV 1)))
  sNext)
  (sSeq (zIf (tP (qNot (pTru (pFn (F_is_row K) (pCons (pFld' (He.ga K "Listing") "heads" (pV 0)) (pCons (pV 2) pNil))))))
  (sRaiseF (He.ga K "NoRow") "index" (eP (pV 1)))
  sNext)
  (sSetAt (eP (pV 2)) (pFld (He.ga K "Listing") "lines" (eP (pV 0))) (eP (pV 1)))))
abbrev N_Listing___len__ : List Str := ["self"]
def tb_Listing___len__ (K : PySem.W.Frag) : DTS := (sRet (eP (pCallB lenD (pCons (pFldB (He.ga K "Listing") "lines" (pV 0)) pNil))))
abbrev N_Listing_put : List Str := ["self", "row"]
def tb_Listing_put (K : PySem.W.Frag) : DTS := (sSeq (zIf (tP (qNot (pTru (pFn (F_is_row K) (pCons (pFld' (He.ga K "Listing") "heads" (pV 0)) (pCons (pV 1) pNil))))))
  (sRaiseF (He.ga K "NoRow") "index" (eP (pCallB lenD (pCons (pFldB (He.ga K "Listing") "lines" (pV 0)) pNil))))
  sNext)
  (sMut gApp (pFld (He.ga K "Listing") "lines" (eP (pV 0))) (dCons (eP (pV 1)) dNil)))
abbrev N_Listing_drop : List Str := ["self", "index"]
def tb_Listing_drop (K : PySem.W.Frag) : DTS := (sSeq (zIf (dNotT (zTru (dMeth (He.ga K "Listing") "has" (f_Listing_has K) (eP (pV 0)) (aP (pCons (pV 1) pNil)))))
  (sRaiseF (He.ga K "NoIndex") "index" (eP (pV 1)))
  sNext)
  (sDelAt (pFld (He.ga K "Listing") "lines" (eP (pV 0))) (eP (pV 1))))
abbrev N_Listing_columns : List Str := ["self"]
def tb_Listing_columns (K : PySem.W.Frag) : DTS := (sRet (eP (pFld' (He.ga K "Listing") "heads" (pV 0))))
abbrev N_Listing_rows : List Str := ["self"]
def tb_Listing_rows (K : PySem.W.Frag) : DTS := (sRet (eP (pLst (pLstOf (pFldB (He.ga K "Listing") "lines" (pV 0))))))
abbrev N_Listing___eq__ : List Str := ["self", "other"]
def tb_Listing___eq__ (K : PySem.W.Frag) : DTS := (sRet (zAndV (dIsi K (eP (pBo 1)) (eP (pC (.ref (He.ga K "Listing"))))) (zAndV (eP (pBin eqD (pFldB (He.ga K "Listing") "heads" (pV 0)) (pFldB (He.ga K "Listing") "heads" (pV 1)))) (eP (pBin eqD (pFldB (He.ga K "Listing") "lines" (pV 0)) (pFldB (He.ga K "Listing") "lines" (pV 1)))))))
abbrev N_Listing___add__ : List Str := ["self", "other"]
def tb_Listing___add__ (K : PySem.W.Frag) : DTS := (sSeq (zIf (tP (pTst (pBin neD (pFldB (He.ga K "Listing") "heads" (pV 0)) (pFldB (He.ga K "Listing") "heads" (pV 1)))))
  (sRaise (He.ga K "NoColumns"))
  sNext)
  (sRet (dMake (He.ga K "Listing") (f_Listing___init__ K) [] (aP (pCons (pFld' (He.ga K "Listing") "heads" (pV 0)) (pCons (pBin addD (pCallB tupleD (pCons (pFldB (He.ga K "Listing") "lines" (pV 0)) pNil)) (pCallB tupleD (pCons (pFldB (He.ga K "Listing") "lines" (pV 1)) pNil))) pNil))))))
abbrev N_Listing___iadd__ : List Str := ["self", "other"]
def tb_Listing___iadd__ (K : PySem.W.Frag) : DTS := (sSeq (zIf (tP (pTst (pBin neD (pFldB (He.ga K "Listing") "heads" (pV 0)) (pFldB (He.ga K "Listing") "heads" (pV 1)))))
  (sRaise (He.ga K "NoColumns"))
  sNext)
  (sSeq (sFldF (He.ga K "Listing") "lines" (aP (pCat (pFldB (He.ga K "Listing") "lines" (pV 0)) (pFldB (He.ga K "Listing") "lines" (pV 1)))) 0)
  (sRet (eP (pV 0)))))
abbrev N_Listing_twin : List Str := ["self"]
def tb_Listing_twin (K : PySem.W.Frag) : DTS := (sRet (dMake (He.ga K "Listing") (f_Listing___init__ K) [] (aP (pCons (pFld' (He.ga K "Listing") "heads" (pV 0)) (pCons (pCallB tupleD (pCons (pFldB (He.ga K "Listing") "lines" (pV 0)) pNil)) pNil)))))
end PG

set_option Elab.async false
set_option linter.all false
set_option maxRecDepth 100000
set_option maxHeartbeats 4000000
namespace PG
open PySem PySem.Spec L2 DD FB
section
variable {K : PySem.W.Frag}
theorem sFldF_of {C : Addr} {f : Str} {p : PAs} {i : Nat} {N : DEnds} {δ : DSt} {G : DG} {ys : List D} {a : Addr} {fs : List (Str × FV)} (h : p δ G = some ys) (hs : δ[i]? = some (some (.v (.ref a)))) (ga : G a = some (.ins C fs)) (hl : fs.length < 900)
    (q : ∀ l, N.nx δ (gset G a (some (.ins C (putV f (.own l ys) fs))))) : sFldF C f (aP p) i N δ G := onO_of h ⟨a, fs, hs, ga, hl, q⟩
theorem F_row (K : PySem.W.Frag) {cs : List Str} {x : D} {G : DG} (h : nrmL x = true) : F_is_row K [eC cs, x] G = some (.bl (isRow (eC cs) x)) := by simp [F_is_row, eC, h]
theorem cols_tup {cs : D} (h : areCols cs = true) : ∃ zs, cs = eC zs := let ⟨zs, e, _⟩ := areCols_iff h; ⟨zs, e⟩
theorem p_Listing___init__ (ds : List D) (G : DG) (Q : D → DG → Prop) (E : DX → DG → Prop) (h : f_Listing___init__ K ds G Q E) : tb_Listing___init__ K (fnEnds Q E) (dstart N_Listing___init__ ds) G := by
  unfold f_Listing___init__ at h
  obtain ⟨a, cs, st, rfl, ga, hc, hs, q⟩ := h
  show tb_Listing___init__ K (fnEnds Q E) [some (.v (.ref a)), some (.v cs), some (.v st), none, none] G
  refine onO_of (qn_fn (b := areCols cs) rfl (F_cols K hc)) (brP_of (fun hb => ?_) (fun hb => ?_))
  · have hb : areCols cs = false := by simpa using hb
    simp only [mkL, hb, Bool.false_eq_true, if_false] at q
    exact q
  have hb : areCols cs = true := by simpa using hb
  obtain ⟨zs, rfl⟩ := cols_tup hb
  unfold mkL at q
  rw [if_pos hb] at q
  cases st with
  | tup xs =>
    have hns : ∀ y ∈ xs, nrmL y = true := by
      simp only [nrmR, nrm, Bool.true_and, Bool.and_eq_true, List.all_eq_true] at hs
      exact hs.2
    simp only at q
    refine for_inv (I := fun r δ G' => ∃ i ys s3 s4, r = numD i ys ∧ δ = [some (.v (.ref a)), some (.v (eC zs)), some (.v (.tup xs)), s3, s4] ∧ G' = G ∧ (∀ y ∈ ys, nrmL y = true) ∧ firstBad (eC zs) 0 xs = firstBad (eC zs) i ys) _ _ _ ⟨0, xs, _, _, rfl, rfl, rfl, hns, rfl⟩ ?_ ?_
    · rintro δ G' ⟨i, ys, s3, s4, e, rfl, rfl, _, e2⟩
      cases ys with
      | cons _ _ => cases e
      | nil =>
        rw [e2] at q
        refine ⟨a, [], rfl, ga, by decide, ?_⟩
        dsimp only
        refine sFldF_of (ys := xs) rfl rfl gset_same (by show 1 < 900; decide) fun l => ?_
        rw [gset_gset]
        exact q l
    · rintro x r δ G' nx ⟨i, ys, s3, s4, e, rfl, rfl, hn, e2⟩ hnx
      cases ys with
      | nil => cases e
      | cons y yr =>
        cases e
        refine onO_of (z := [some (.v (.ref a)), some (.v (eC zs)), some (.v (.tup xs)), some (.v (.int (i : Nat))), some (.v y)]) rfl ?_
        refine onO_of (qn_fn (l := pCons (pV 1) (pCons (pV 4) pNil)) (b := isRow (eC zs) y) rfl (F_row K (hn y (by simp)))) (brP_of (fun hb2 => ?_) (fun hb2 => ?_))
        · have e3 : firstBad (eC zs) i (y :: yr) = some i := by
            unfold firstBad
            rw [if_neg (by simpa using hb2)]
          rw [e2, e3] at q
          exact q
        · refine hnx _ _ ⟨i + 1, yr, _, _, rfl, rfl, rfl, fun z hz => hn z (by simp [hz]), ?_⟩
          rw [e2]
          conv => lhs; unfold firstBad
          rw [if_pos (by simpa using hb2)]
  | ref b => cases hs
  | ty b => cases hs
  | obj b d => cases hs
  | _ => exact q
theorem p_Listing_rows (ds : List D) (G : DG) (Q : D → DG → Prop) (E : DX → DG → Prop) (h : f_Listing_rows K ds G Q E) : tb_Listing_rows K (fnEnds Q E) (dstart N_Listing_rows ds) G := by
  unfold f_Listing_rows at h
  obtain ⟨x, cs, rs, rfl, hx, q⟩ := h
  exact onO_of (pLst_of (xs := rs) (by unfold pLstOf; rw [pFldB_of rfl hx.lines]; rfl)) q
theorem p_Listing_columns (ds : List D) (G : DG) (Q : D → DG → Prop) (E : DX → DG → Prop) (h : f_Listing_columns K ds G Q E) : tb_Listing_columns K (fnEnds Q E) (dstart N_Listing_columns ds) G := by
  unfold f_Listing_columns at h
  obtain ⟨x, cs, rs, rfl, hx, q⟩ := h
  exact onO_of (pFld_of rfl hx.heads) q
theorem p_Listing___len__ (ds : List D) (G : DG) (Q : D → DG → Prop) (E : DX → DG → Prop) (h : f_Listing___len__ K ds G Q E) : tb_Listing___len__ K (fnEnds Q E) (dstart N_Listing___len__ ds) G := by
  unfold f_Listing___len__ at h
  obtain ⟨x, cs, rs, rfl, hx, q⟩ := h
  exact onO_of (pLen_lst (pFldB_of rfl hx.lines)) q
theorem p_Listing_has (ds : List D) (G : DG) (Q : D → DG → Prop) (E : DX → DG → Prop) (h : f_Listing_has K ds G Q E) : tb_Listing_has K (fnEnds Q E) (dstart N_Listing_has ds) G := by
  unfold f_Listing_has at h
  obtain ⟨x, k, cs, rs, rfl, hk, hx, q⟩ := h
  show tb_Listing_has K (fnEnds Q E) [some (.v x), some (.v k)] G
  have h1 : (pFn (F_is_whole K) (pCons (pV 1) pNil)) [some (.v x), some (.v k)] G = some (.bl (isWhole k)) := pFn_of (xs := [k]) rfl (by simp [F_is_whole, hk])
  cases k with
  | int i =>
    have e : (ixOk (.int i) rs.length).isSome = decide (0 ≤ i ∧ i < (rs.length : Int)) := by
      rw [ix_val]
      by_cases h : 0 ≤ i ∧ i < (rs.length : Int)
      · rw [if_pos h, decide_eq_true h]; rfl
      · rw [if_neg h, decide_eq_false h]; rfl
    rw [e] at q
    have h2 : (pCallB lenD (pCons (pFldB (He.ga K "Listing") "lines" (pV 0)) pNil)) [some (.v x), some (.v (.int i))] G = some (.int rs.length) := pLen_lst (pFldB_of rfl hx.lines)
    refine onO_of (pAnd_of (c := decide (0 ≤ i ∧ i < (rs.length : Int))) h1 fun _ => ?_) q
    by_cases h0 : 0 ≤ i
    · rw [pChain_t (x := .int 0) (y := .int i) (y' := .int rs.length) (z := some (.bl (decide (i < (rs.length : Int))))) rfl rfl (show some (D.bl (decide ((0 : Int) ≤ i))) = _ from by rw [decide_eq_true h0]) h2 rfl]
      simp [h0]
    · rw [pChain_f (x := .int 0) (y := .int i) rfl rfl (show some (D.bl (decide ((0 : Int) ≤ i))) = _ from by rw [decide_eq_false h0])]
      simp [h0]
  | ref b => cases hk
  | ty b => cases hk
  | obj b d => cases hk
  | str s =>
    refine onO_of (pAnd_f h1) ?_
    exact q
  | _ => exact q
theorem has_of {x k cs : D} {rs : List D} {G : DG} {P : Bool → DG → Prop} {E : DX → DG → Prop} (hx : IsL K G x cs rs) (hk : nrm k = true) (q : P (ixOk k rs.length).isSome G) {δ : DSt} (h0 : (pV 0) δ G = some x) (h1 : (pV 1) δ G = some k) :
    zTru (dMeth (He.ga K "Listing") "has" (f_Listing_has K) (eP (pV 0)) (aP (pCons (pV 1) pNil))) δ G P E := by
  refine onO_of h0 ?_
  refine ⟨hx.ins rfl, ?_⟩
  refine onO_of (pCons_of h1 rfl) ?_
  exact c_Listing_has hk hx (onO_of rfl q)
theorem p_Listing___getitem__ (ds : List D) (G : DG) (Q : D → DG → Prop) (E : DX → DG → Prop) (h : f_Listing___getitem__ K ds G Q E) : tb_Listing___getitem__ K (fnEnds Q E) (dstart N_Listing___getitem__ ds) G := by
  unfold f_Listing___getitem__ at h
  obtain ⟨x, k, cs, rs, rfl, hk, hx, q1, q2⟩ := h
  show tb_Listing___getitem__ K (fnEnds Q E) [some (.v x), some (.v k)] G
  refine has_of (δ := [some (.v x), some (.v k)]) hx hk ?_ rfl rfl
  cases e : ixOk k rs.length with
  | none => exact q1 e
  | some i =>
    obtain ⟨ek, hi⟩ := ix_some e
    subst ek
    refine onO_of (pBin_of (pFldB_of rfl hx.lines) rfl (lst_nat (by omega) (show rs[((i : Nat) : Int).toNat]? = some rs[i] from List.getElem?_eq_getElem hi))) ?_
    exact q2 i _ e (List.getElem?_eq_getElem hi)
theorem p_Listing___setitem__ (ds : List D) (G : DG) (Q : D → DG → Prop) (E : DX → DG → Prop) (h : f_Listing___setitem__ K ds G Q E) : tb_Listing___setitem__ K (fnEnds Q E) (dstart N_Listing___setitem__ ds) G := by
  unfold f_Listing___setitem__ at h
  obtain ⟨a, l, k, r, cs, rs, rfl, hk, hr, ga, hl, q1, q2⟩ := h
  show tb_Listing___setitem__ K (fnEnds Q E) [some (.v (.ref a)), some (.v k), some (.v r)] G
  have hx : IsL K G (.ref a) (eC cs) rs := .of_ref ga
  refine has_of (δ := [some (.v (.ref a)), some (.v k), some (.v r)]) hx hk ?_ rfl rfl
  cases e : ixOk k rs.length with
  | none => exact q1 e
  | some i =>
    obtain ⟨q3, q4⟩ := q2 i e
    obtain ⟨ek, hi⟩ := ix_some e
    subst ek
    refine onO_of (qn_fn (l := pCons (pFld' (He.ga K "Listing") "heads" (pV 0)) (pCons (pV 2) pNil)) (b := isRow (eC cs) r) (pCons_of (pFld_of rfl hx.heads) rfl) (F_row K hr)) (brP_of (fun hb => ?_) (fun hb => ?_))
    · exact q3 (by simpa using hb)
    · refine onO_of rfl ?_
      refine ⟨a, _, l, rs, rfl, ga, rfl, ?_⟩
      refine ⟨_, rs, i, rfl, ⟨_, _, ga, rfl, by show (["heads", "lines"] : List Str).Nodup; decide⟩, ?_, ?_⟩
      · unfold ixN
        rw [if_pos (by omega), if_pos (by omega)]
        simp
      · rintro δ' G' ⟨rfl, C, fs, g2, rfl⟩
        rw [ga] at g2
        cases g2
        exact q4 (by simpa using hb)
theorem p_Listing_put (ds : List D) (G : DG) (Q : D → DG → Prop) (E : DX → DG → Prop) (h : f_Listing_put K ds G Q E) : tb_Listing_put K (fnEnds Q E) (dstart N_Listing_put ds) G := by
  unfold f_Listing_put at h
  obtain ⟨a, l, r, cs, rs, rfl, hr, ga, hl, q1, q2⟩ := h
  show tb_Listing_put K (fnEnds Q E) [some (.v (.ref a)), some (.v r)] G
  have hx : IsL K G (.ref a) (eC cs) rs := .of_ref ga
  refine onO_of (qn_fn (l := pCons (pFld' (He.ga K "Listing") "heads" (pV 0)) (pCons (pV 1) pNil)) (b := isRow (eC cs) r) (pCons_of (pFld_of rfl hx.heads) rfl) (F_row K hr)) (brP_of (fun hb => ?_) (fun hb => ?_))
  · exact onO_of (pLen_lst (pFldB_of rfl hx.lines)) (q1 (by simpa using hb))
  · refine onO_of rfl ?_
    refine ⟨a, _, l, rs, rfl, ga, rfl, ?_⟩
    refine ⟨⟨rs, _, _, ga, rfl, by show (["heads", "lines"] : List Str).Nodup; decide⟩, ?_⟩
    refine onO_of rfl ?_
    refine ⟨rs, rs ++ [r], .non, ⟨_, _, ga, rfl, by show (["heads", "lines"] : List Str).Nodup; decide⟩, if_pos (by omega), ?_⟩
    rintro δ' G' ⟨rfl, C, fs, g2, rfl⟩
    rw [ga] at g2
    cases g2
    exact q2 (by simpa using hb)
theorem p_Listing_drop (ds : List D) (G : DG) (Q : D → DG → Prop) (E : DX → DG → Prop) (h : f_Listing_drop K ds G Q E) : tb_Listing_drop K (fnEnds Q E) (dstart N_Listing_drop ds) G := by
  unfold f_Listing_drop at h
  obtain ⟨a, l, k, cs, rs, rfl, hk, ga, hl, q1, q2⟩ := h
  show tb_Listing_drop K (fnEnds Q E) [some (.v (.ref a)), some (.v k)] G
  have hx : IsL K G (.ref a) cs rs := .of_ref ga
  refine has_of (δ := [some (.v (.ref a)), some (.v k)]) hx hk ?_ rfl rfl
  cases e : ixOk k rs.length with
  | none => exact q1 e
  | some i =>
    obtain ⟨ek, hi⟩ := ix_some e
    subst ek
    refine onO_of rfl ?_
    refine ⟨a, _, l, rs, rfl, ga, rfl, ?_⟩
    refine onO_of rfl ?_
    refine ⟨_, rs, rfl, ⟨_, _, ga, rfl, by show (["heads", "lines"] : List Str).Nodup; decide⟩, by omega, by omega, by omega, ?_⟩
    rintro δ' G' ⟨rfl, C, fs, g2, rfl⟩
    rw [ga] at g2
    cases g2
    exact q2 i e
theorem p_Listing___eq__ (ds : List D) (G : DG) (Q : D → DG → Prop) (E : DX → DG → Prop) (h : f_Listing___eq__ K ds G Q E) : tb_Listing___eq__ K (fnEnds Q E) (dstart N_Listing___eq__ ds) G := by
  unfold f_Listing___eq__ at h
  obtain ⟨hL, x, y, c1, r1, rfl, h1, h⟩ := h
  show tb_Listing___eq__ K (fnEnds Q E) [some (.v x), some (.v y)] G
  rcases h with ⟨c2, r2, h2, q⟩ | ⟨⟨t, ht, hk⟩, q⟩
  · refine onO_of rfl ?_
    refine onO_of rfl ?_
    refine ⟨rfl, _, .ref (He.ga K "Listing"), true, h2.ty hL, rfl, hL.2, ?_⟩
    refine onO_of (z := true) rfl ?_
    refine onO_of (pBin_of (pFldB_of rfl h1.headsB) (pFldB_of rfl h2.headsB) (eq_cols c1 c2)) ?_
    refine onO_of (z := decide (c1 = c2)) rfl ?_
    by_cases e : c1 = c2
    · refine brP_t (by simp [e]) ?_
      refine onO_of (pBin_of (pFldB_of rfl h1.lines) (pFldB_of rfl h2.lines) (eq_rows r1 r2)) ?_
      rw [decide_eq_true e, Bool.true_and] at q
      exact q
    · refine brP_f (by simp [e]) ?_
      rw [decide_eq_false e, Bool.false_and] at q
      exact q
  · refine onO_of rfl ?_
    refine onO_of rfl ?_
    refine ⟨rfl, t, .ref (He.ga K "Listing"), false, ht, rfl, hk, ?_⟩
    refine onO_of (z := false) rfl ?_
    exact q
theorem tup_lst (rs : List D) : tupleD [.lst rs] = some (.tup rs) := rfl
theorem p_Listing___add__ (ds : List D) (G : DG) (Q : D → DG → Prop) (E : DX → DG → Prop) (h : f_Listing___add__ K ds G Q E) : tb_Listing___add__ K (fnEnds Q E) (dstart N_Listing___add__ ds) G := by
  unfold f_Listing___add__ at h
  obtain ⟨x, y, c1, r1, c2, r2, rfl, h1, h2, hc, o1, o2, hl, q1, q2⟩ := h
  show tb_Listing___add__ K (fnEnds Q E) [some (.v x), some (.v y)] G
  refine onO_of (pTst_of (pBin_of (pFldB_of rfl h1.headsB) (pFldB_of rfl h2.headsB) (ne_cols c1 c2))) ?_
  by_cases e : c1 = c2
  · refine brP_f (by simp [e]) ?_
    subst e
    have t1 : ∀ {δ : DSt} {i : Nat} {x : D} {r : List (List Str)}, (pV i) δ G = some x → IsL K G x (eC c1) (eRs r) → (pCallB tupleD (pCons (pFldB (He.ga K "Listing") "lines" (pV i)) pNil)) δ G = some (.tup (eRs r)) := fun hi hx => pCallB_of (pCons_of (pFldB_of hi hx.lines) rfl) rfl
    have t2 : addD (.tup (eRs r1)) (.tup (eRs r2)) = some (.tup (eRs (r1 ++ r2))) := by
      show (if (eRs r1).length + (eRs r2).length ≤ 1000000 then some (D.tup (eRs r1 ++ eRs r2)) else none) = _
      rw [if_pos (by simp [eRs]; omega)]
      simp [eRs]
    refine onO_of (pCons_of (pFld_of rfl h1.heads) (pCons_of (pBin_of (t1 rfl h1) (t1 rfl h2) t2) rfl)) ?_
    intro a ha
    refine c_Listing_init gset_same hc (fun r hr => by
      rcases List.mem_append.mp hr with hr | hr
      · exact o1 r hr
      · exact o2 r hr) (by simp; omega) fun l => ?_
    rw [gset_gset]
    exact ⟨rfl, q2 rfl a l ha⟩
  · refine brP_t (by simp [e]) ?_
    exact q1 e
theorem p_Listing___iadd__ (ds : List D) (G : DG) (Q : D → DG → Prop) (E : DX → DG → Prop) (h : f_Listing___iadd__ K ds G Q E) : tb_Listing___iadd__ K (fnEnds Q E) (dstart N_Listing___iadd__ ds) G := by
  unfold f_Listing___iadd__ at h
  obtain ⟨a, l, y, c1, r1, c2, r2, rfl, ga, h2, hl, q1, q2⟩ := h
  show tb_Listing___iadd__ K (fnEnds Q E) [some (.v (.ref a)), some (.v y)] G
  have h1 : IsL K G (.ref a) (eC c1) (eRs r1) := .of_ref ga
  refine onO_of (pTst_of (pBin_of (pFldB_of rfl h1.headsB) (pFldB_of rfl h2.headsB) (ne_cols c1 c2))) ?_
  by_cases e : c1 = c2
  · refine brP_f (by simp [e]) ?_
    have t2 : (pCat (pFldB (He.ga K "Listing") "lines" (pV 0)) (pFldB (He.ga K "Listing") "lines" (pV 1))) [some (.v (.ref a)), some (.v y)] G = some (eRs (r1 ++ r2)) := by
      unfold pCat
      rw [pFldB_of rfl h1.lines, pFldB_of rfl h2.lines]
      show (match lenLe 1000000 (eRs r1 ++ eRs r2) with | true => some (eRs r1 ++ eRs r2) | false => none) = _
      rw [lenLe_iff.mpr (by simp [eRs]; omega)]
      simp [eRs]
    refine onO_of t2 ?_
    refine ⟨a, _, rfl, ga, by show 2 < 900; decide, fun l' => ?_⟩
    exact q2 e l'
  · refine brP_t (by simp [e]) ?_
    exact q1 e
theorem p_Listing_twin (ds : List D) (G : DG) (Q : D → DG → Prop) (E : DX → DG → Prop) (h : f_Listing_twin K ds G Q E) : tb_Listing_twin K (fnEnds Q E) (dstart N_Listing_twin ds) G := by
  unfold f_Listing_twin at h
  obtain ⟨x, cs, rs, rfl, h1, hc, ho, hl, q⟩ := h
  show tb_Listing_twin K (fnEnds Q E) [some (.v x)] G
  refine onO_of (pCons_of (pFld_of rfl h1.heads) (pCons_of (pCallB_of (pCons_of (pFldB_of rfl h1.lines) rfl) (tup_lst _)) rfl)) ?_
  intro a ha
  refine c_Listing_init gset_same hc ho (by omega) fun l => ?_
  rw [gset_gset]
  exact ⟨rfl, q a l ha⟩
theorem p_is_row (ds : List D) (G : DG) (Q : D → DG → Prop) (E : DX → DG → Prop) (h : f_is_row K ds G Q E) : tb_is_row K (fnEnds Q E) (dstart N_is_row ds) G := by
  obtain ⟨z, hz, q⟩ := onO_iff.mp h
  unfold F_is_row at hz
  split at hz
  · rename_i cs x
    split at hz
    · rename_i hn
      cases hz
      show tb_is_row K (fnEnds Q E) [some (.v (.tup cs)), some (.v x), none] G
      cases x with
      | tup xs =>
        have hns : xs.length ≤ 1000000 ∧ ∀ y ∈ xs, nrm y = true := by
          simp only [nrmL, nrm, Bool.true_and, Bool.and_eq_true, List.all_eq_true, decide_eq_true_eq] at hn
          exact hn
        have h1 : (pBin eqD (pCallB lenD (pCons (pBo 1) pNil)) (pCallB lenD (pCons (pBo 0) pNil))) [some (.v (.tup cs)), some (.v (.tup xs)), none] G = some (.bl (decide (xs.length = cs.length))) := by
          refine pBin_of (pLen_tup rfl) (pLen_tup rfl) ?_
          show some (D.bl ((xs.length : Int) == cs.length)) = _
          congr 2
          rw [Bool.eq_iff_iff]
          simp
          omega
        have h2 : (pCallB allD (pCons (pLst (pLc (piSeq (pV 1)) (tN 2) qYes (pFn (F_is_cell K) (pCons (pV 2) pNil)) [2])) pNil)) [some (.v (.tup cs)), some (.v (.tup xs)), none] G = some (.bl (xs.all isCell)) :=
by
          have t3 := pLc_of (it := piSeq (pV 1)) (b := tN 2) (t := qYes) (p := pFn (F_is_cell K) (pCons (pV 2) pNil)) (vs := [2]) (δ := [some (.v (.tup cs)), some (.v (.tup xs)), none]) (G := G) (xs := xs) (ys := xs.map fun x => D.bl (isCell x)) rfl rfl hns.1 (lcP_map _ _ fun y hy => ⟨_, rfl, rfl, pFn_of (xs := [y]) rfl (F_cell K (hns.2 y hy))⟩)
          exact pCallB_of (pCons_of (pLst_of t3) rfl) (all_map _ _)
        refine onO_of (pAnd_t rfl (pAnd_of h1 fun _ => h2)) ?_
        exact q
      | ref a => cases hn
      | ty a => cases hn
      | obj a b => cases hn
      | _ => exact q
    · cases hz
  · cases hz
/-! good deeds -/
variable {G : DG} {Q : D → DG → Prop} {E : DX → DG → Prop} {a l : Addr} {cs : List Str} {rs : List (List Str)} {r : List Str}
theorem map_erase {α β : Type} {f : α → β} : ∀ (xs : List α) (i : Nat), (xs.map f).eraseIdx i = (xs.eraseIdx i).map f
  | [], _ => rfl
  | _ :: _, 0 => rfl
  | x :: r, i + 1 => congrArg (f x :: ·) (map_erase r i)
theorem eRs_app (rs : List (List Str)) (r : List Str) : eRs (rs ++ [r]) = eRs rs ++ [eC r] := by simp [eRs]
theorem eRs_set (rs : List (List Str)) (i : Nat) (r : List Str) : eRs (rs.set i r) = (eRs rs).set i (eC r) := by simp [eRs, List.map_set]
theorem eRs_erase (rs : List (List Str)) (i : Nat) : eRs (rs.eraseIdx i) = (eRs rs).eraseIdx i := (map_erase rs i).symm
theorem eRs_len (rs : List (List Str)) : (eRs rs).length = rs.length := by simp [eRs]
theorem c_put_ok (hc : cs.length ≤ 1000) (ga : G a = some (lsT K cs l rs)) (hr : rowOk cs.length r = true) (hl : rs.length ≤ 100000) (q : Q .non (gset G a (some (lsT K cs l (rs ++ [r]))))) : f_Listing_put K [.ref a, eC r] G Q E :=
  c_Listing_put (nrmL_row hr hc) ga (by rw [eRs_len]; exact hl) (fun h => by rw [isRow_eC, hr] at h; cases h) fun _ => by rw [← eRs_app]; exact q
theorem c_drop_ok {i : Nat} (ga : G a = some (lsT K cs l rs)) (hi : i < rs.length) (hl : rs.length ≤ 100000) (q : Q .non (gset G a (some (lsT K cs l (rs.eraseIdx i))))) : f_Listing_drop K [.ref a, .int (i : Nat)] G Q E :=
  c_Listing_drop rfl ga (by rw [eRs_len]; exact hl) (fun h => by rw [eRs_len, ix_nat hi] at h; cases h) fun j hj => by
    rw [eRs_len, ix_nat hi] at hj
    cases hj
    rw [← eRs_erase]; exact q
theorem c_set_ok {i : Nat} (hc : cs.length ≤ 1000) (ga : G a = some (lsT K cs l rs)) (hr : rowOk cs.length r = true) (hi : i < rs.length) (hl : rs.length ≤ 100000) (q : Q .non (gset G a (some (lsT K cs l (rs.set i r))))) : f_Listing___setitem__ K [.ref a, .int (i : Nat), eC r] G Q E :=
  c_Listing_set rfl (nrmL_row hr hc) ga (by rw [eRs_len]; exact hl) (fun h => by rw [eRs_len, ix_nat hi] at h; cases h) fun j hj => by
    rw [eRs_len, ix_nat hi] at hj
    cases hj
    exact ⟨fun h => (by rw [isRow_eC, hr] at h; cases h), fun _ => by rw [← eRs_set]; exact q⟩
theorem rowsOk_app {n : Nat} (h : rowsOk n rs) (hr : rowOk n r = true) : rowsOk n (rs ++ [r]) := fun y hy => by
  rcases List.mem_append.mp hy with hy | hy
  · exact h y hy
  · rw [List.mem_singleton.mp hy]; exact hr
theorem rowsOk_set {n i : Nat} (h : rowsOk n rs) (hr : rowOk n r = true) : rowsOk n (rs.set i r) := fun y hy => by
  rcases List.mem_or_eq_of_mem_set hy with hy | rfl
  · exact h y hy
  · exact hr
theorem rowsOk_erase {n i : Nat} (h : rowsOk n rs) : rowsOk n (rs.eraseIdx i) := fun y hy => h y (List.mem_of_mem_eraseIdx hy)
end
end PG

set_option Elab.async false
set_option linter.all false
set_option maxRecDepth 100000
set_option maxHeartbeats 4000000
namespace DD
open PySem PySem.Spec L2

/-! ### [.., *x, ..] -/
@[reducible] def dConsS (a : DTE) (r : DTA) : DTA := fun δ G Q E => a δ G (fun x G1 => onO (seqO x) fun xs => r δ G1 (fun ys G2 => Q (xs ++ ys) G2) E) E
def pConsS (p : PX) (r : PAs) : PAs := fun δ G => bO (p δ G) fun x => bO (seqO x) fun xs => bO (r δ G) fun ys => some (xs ++ ys)
section
variable {X : Cx} {W : WX} {a e : Expr} {es : List Expr} {da : DTE} {ta : DTA} {p : Pos} {q : PX} {l : PAs}
theorem da_star (ha : DE X W a da) (hr : DA X W es ta) (hs : starEach (.Starred a p :: es) X.env = (true, eval a X.env) :: starEach es X.env := by rfl) : DA X W (.Starred a p :: es) (dConsS da ta) := (StX.pa_star ha hr hs).imp fun σ H R ⟨M, δ, G, Q, QE, rs, d, ex, k⟩ => by
  refine ⟨M, δ, G, _, QE, rs, d, ex, fun v dv G' H' M' f rs' im q => ?_⟩
  obtain ⟨xs, hx, q⟩ := onO_iff.mp q
  have fin : ∀ (b : Addr) (vs : List V), v = .ref b → ImL X.K H' M' vs xs → (SqT X.K H' b vs ∨ SqL X.K H' b vs) → StX.tStar X.K (fun _ H1 Q1 => Q1 v H1) (rdA X.K W ta) σ H' R := by
    intro b vs e iml hs
    refine ⟨b, vs, e, hs, ?_⟩
    exact ⟨M', δ, G', _, QE, rs', q, ex.mono f, fun ws ds G2 H2 M2 f2 rs2 iml2 q2 => k _ _ G2 H2 M2 (f.trans f2) rs2 (ImL.append (ImL.mono f2.stay iml) iml2) q2⟩
  rcases seqO_iff.mp hx with rfl | rfl
  · obtain ⟨b, vs, e, hs, iml⟩ := (Tm.of im).lst
    exact fin b vs e iml (.inr hs)
  · obtain ⟨b, vs, e, hs, iml⟩ := (Tm.of im).tup
    exact fin b vs e iml (.inl hs)
theorem xa_star (ha : DE X W a (eP q)) (hr : DA X W es (aP l)) (hs : starEach (.Starred a p :: es) X.env = (true, eval a X.env) :: starEach es X.env := by rfl) : DA X W (.Starred a p :: es) (aP (pConsS q l)) := (da_star ha hr hs).daOf fun δ G Q E h => by
  obtain ⟨z, hz, h⟩ := onO_iff.mp h
  obtain ⟨x, hx, hz⟩ := bO_iff.mp hz
  obtain ⟨xs, hxs, hz⟩ := bO_iff.mp hz
  obtain ⟨ys, hys, hz⟩ := bO_iff.mp hz
  cases hz
  exact onO_iff.mpr ⟨x, hx, onO_iff.mpr ⟨xs, hxs, onO_iff.mpr ⟨ys, hys, h⟩⟩⟩
end
/-! ### f-strings of two texts -/
def fmtO : D → Option Str
  | .str y => if y.length ≤ 1000000 then some y else none
  | _ => none
@[reducible] def dFmt (a : DTE) : DTE := fun δ G Q E => a δ G (fun x G1 => onO (fmtO x) fun y => Q (.str y) G1) E
@[reducible] def dJs2 (a b : DTE) : DTE := fun δ G Q E => a δ G (fun x G1 => onO (fmtO x) fun u => b δ G1 (fun y G2 => onO (fmtO y) fun v => Q (.str (u ++ v)) G2) E) E
theorem fmtO_iff {x : D} {y : Str} (h : fmtO x = some y) : x = .str y ∧ y.length ≤ 1000000 := by
  cases x with
  | str z =>
    have h2 : (if z.length ≤ 1000000 then some z else none) = some y := h
    split at h2
    · cases h2; exact ⟨rfl, by assumption⟩
    · cases h2
  | _ => cases h
theorem empty_app (u : Str) : Str.empty ++ u = u := by
  show (⟨Str.empty.cps ++ u.cps⟩ : Str) = u
  simp [Str.empty]
section
variable {X : Cx} {W : WX} {a b : Expr} {da db : DTE} {pos : Pos}
theorem de_fmt (ha : DE X W a da) : DE X W (.FormattedValue a (-1) none pos) (dFmt da) := (pe_fmt ha).imp fun σ H R ⟨M, δ, G, Q, QE, rs, d, ex, k⟩ => by
  refine ⟨M, δ, G, _, QE, rs, d, ex, fun v dv G' H' M' f rs' im q => ?_⟩
  obtain ⟨y, hy, q1⟩ := onO_iff.mp q
  clear q
  obtain ⟨rfl, hl⟩ := fmtO_iff hy
  have ok := (Tm.of im).str
  cases im
  exact .inl ⟨y, rfl, sz_million hl, k _ _ G' H' M' f rs' (.str ok) q1⟩
theorem de_fs2 (ha : DE X W a da) (hb : DE X W b db) : DE X W (.JoinedStr [a, b] pos) (dJs2 da db) := (pe_joined (.cons ha (.cons hb .nil))).imp fun σ H R ⟨M, δ, G, Q, QE, rs, d, ex, k⟩ => by
  refine ⟨M, δ, G, _, QE, rs, d, ex, fun v dv G' H' M' f rs' im q => ?_⟩
  obtain ⟨u, hu, q1⟩ := onO_iff.mp q
  clear q
  obtain ⟨rfl, hl⟩ := fmtO_iff hu
  have ok := (Tm.of im).str
  cases im
  refine ⟨u, rfl, by rw [empty_app]; exact sz_million hl, ?_⟩
  refine ⟨M', δ, G', _, QE, rs', q1, ex.mono f, fun w dw G2 H2 M2 f2 rs2 im2 q2 => ?_⟩
  obtain ⟨v, hv, q3⟩ := onO_iff.mp q2
  clear q2
  obtain ⟨rfl, hl2⟩ := fmtO_iff hv
  have ok2 := (Tm.of im2).str
  cases im2
  refine ⟨v, rfl, ?_, ?_⟩
  · rw [empty_app, sizeLine_eq]
    show (u.cps ++ v.cps).size ≤ _
    rw [Array.size_append]
    have e1 : u.cps.size = u.length := rfl
    have e2 : v.cps.size = v.length := rfl
    omega
  · show R (.str (Str.empty ++ u ++ v)) H2
    rw [empty_app]
    exact k _ _ G2 H2 M2 (f.trans f2) rs2 (.str (strOk_app ok ok2)) q3
end
def pFmt (p : PX) : PX := fun δ G => bO (p δ G) fun x => bO (fmtO x) fun y => some (.str y)
def pJs2 (p q : PX) : PX := fun δ G => bO (p δ G) fun x => bO (fmtO x) fun u => bO (q δ G) fun y => bO (fmtO y) fun v => some (.str (u ++ v))
theorem xe_fmt {X : Cx} {W : WX} {e : Expr} {p : PX} (h : DE X W e (dFmt (eP p))) : DE X W e (eP (pFmt p)) := h.deOf fun δ G Q E h => by
  obtain ⟨z, hz, h⟩ := onO_iff.mp h
  obtain ⟨x, hx, hz⟩ := bO_iff.mp hz
  obtain ⟨y, hy, hz⟩ := bO_iff.mp hz
  cases hz
  exact onO_iff.mpr ⟨x, hx, onO_iff.mpr ⟨y, hy, h⟩⟩
theorem xe_js2 {X : Cx} {W : WX} {e : Expr} {p q : PX} (h : DE X W e (dJs2 (eP p) (eP q))) : DE X W e (eP (pJs2 p q)) := h.deOf fun δ G Q E h => by
  obtain ⟨z, hz, h⟩ := onO_iff.mp h
  obtain ⟨x, hx, hz⟩ := bO_iff.mp hz
  obtain ⟨u, hu, hz⟩ := bO_iff.mp hz
  obtain ⟨y, hy, hz⟩ := bO_iff.mp hz
  obtain ⟨v, hv, hz⟩ := bO_iff.mp hz
  cases hz
  exact onO_iff.mpr ⟨x, hx, onO_iff.mpr ⟨u, hu, onO_iff.mpr ⟨y, hy, onO_iff.mpr ⟨v, hv, h⟩⟩⟩⟩
/-! ### x.split(y) -/
def splitD (x : D) (xs : List D) : Option D := match x, xs with
  | .str a, [.str b] => if (b.length == 0) = false ∧ a.length ≤ 1000000 ∧ b.cps.all (· < 256) = true then some (.lst ((Txt.split a b).map D.str)) else none
  | _, _ => none
end DD

set_option Elab.async false
set_option linter.all false
set_option maxRecDepth 100000
set_option maxHeartbeats 4000000
namespace DD
open PySem PySem.Spec L2

/-! ### methods that only tell, reckoned -/
def insO (C : Addr) (m : Str) (G : DG) (x : D) : Bool := match x with
  | .obj C' fs => decide (C' = C) && (fs.lookup m).isNone
  | .ref a => (match G a with
    | some (.ins C' fs) => decide (C' = C) && (fs.lookup m).isNone
    | _ => false)
  | _ => false
def isO (C : Addr) (G : DG) (x : D) : Bool := match x with
  | .obj C' _ => decide (C' = C)
  | .ref a => (match G a with
    | some (.ins C' _) => decide (C' = C)
    | _ => false)
  | _ => false
theorem insO_iff {C : Addr} {m : Str} {G : DG} {x : D} (h : insO C m G x = true) : IsIns C m G x := by
  unfold insO at h
  split at h
  · simp only [Bool.and_eq_true, decide_eq_true_eq, Option.isNone_iff_eq_none] at h; exact h
  · split at h
    · rename_i e
      simp only [Bool.and_eq_true, decide_eq_true_eq, Option.isNone_iff_eq_none] at h
      obtain ⟨rfl, h⟩ := h
      exact ⟨_, e, h⟩
    · cases h
  · cases h
theorem isO_iff {C : Addr} {G : DG} {x : D} (h : isO C G x = true) : IsC C G x := by
  unfold isO at h
  split at h
  · rename_i C' fs
    exact (show C' = C from of_decide_eq_true h)
  · split at h
    · rename_i e
      have := of_decide_eq_true h
      subst this
      exact ⟨_, e⟩
    · cases h
  · cases h
theorem insO_of {C : Addr} {m : Str} {G : DG} {x : D} (h : IsIns C m G x) : insO C m G x = true := by
  unfold IsIns at h
  split at h
  · simp [insO, h.1, h.2]
  · obtain ⟨fs, g, l⟩ := h; simp [insO, g, l]
  · exact h.elim
theorem isO_of {C : Addr} {G : DG} {x : D} (h : IsC C G x) : isO C G x = true := by
  unfold IsC at h
  split at h
  · rename_i C' fs
    exact decide_eq_true (p := C' = C) h
  · obtain ⟨fs, g⟩ := h; simp [isO, g]
  · exact h.elim
def ckO {α : Type} (b : Bool) (o : Option α) : Option α := match b with
  | true => o
  | false => none
theorem ckO_iff {α : Type} {b : Bool} {o : Option α} {z : α} (h : ckO b o = some z) : b = true ∧ o = some z := by
  cases b with
  | true => exact ⟨rfl, h⟩
  | false => cases h
def pMt (C : Addr) (m : Str) (F : List D → DG → Option D) (o : PX) (l : PAs) : PX := fun δ G => bO (o δ G) fun x => ckO (insO C m G x) (bO (l δ G) fun xs => F (x :: xs) G)
def natO : D → Option D
  | .int n => if 0 ≤ n ∧ n < 2 ^ 63 then some (.int n) else none
  | _ => none
def pLenOb (C : Addr) (F : List D → DG → Option D) (o : PX) : PX := fun δ G => bO (o δ G) fun x => ckO (isO C G x) (bO (F [x] G) natO)
def pIxOb (C : Addr) (F : List D → DG → Option D) (o i : PX) : PX := fun δ G => bO (o δ G) fun x => bO (i δ G) fun y => ckO (isO C G x) (F [x, y] G)
section
variable {X : Cx} {W : WX} {e : Expr} {C : Addr} {m : Str} {F : List D → DG → Option D} {o i : PX} {l : PAs}
theorem xe_mt (h : DE X W e (dMeth C m (pf F) (eP o) (aP l))) : DE X W e (eP (pMt C m F o l)) := h.deOf fun δ G Q E h => by
  obtain ⟨z, hz, h⟩ := onO_iff.mp h
  obtain ⟨x, hx, hz⟩ := bO_iff.mp hz
  obtain ⟨hi, hz⟩ := ckO_iff hz
  obtain ⟨xs, hxs, hz⟩ := bO_iff.mp hz
  exact onO_iff.mpr ⟨x, hx, insO_iff hi, onO_iff.mpr ⟨xs, hxs, onO_iff.mpr ⟨z, hz, h⟩⟩⟩
theorem xe_mt0 (h : DE X W e (dMeth C m (pf F) (eP o) dNil)) : DE X W e (eP (pMt C m F o pNil)) := h.deOf fun δ G Q E h => by
  obtain ⟨z, hz, h⟩ := onO_iff.mp h
  obtain ⟨x, hx, hz⟩ := bO_iff.mp hz
  obtain ⟨hi, hz⟩ := ckO_iff hz
  exact onO_iff.mpr ⟨x, hx, insO_iff hi, onO_iff.mpr ⟨z, hz, h⟩⟩
theorem xe_lenOb (h : DE X W e (dLenO C (pf F) (eP o))) : DE X W e (eP (pLenOb C F o)) := h.deOf fun δ G Q E h => by
  obtain ⟨z, hz, h⟩ := onO_iff.mp h
  obtain ⟨x, hx, hz⟩ := bO_iff.mp hz
  obtain ⟨hi, hz⟩ := ckO_iff hz
  obtain ⟨y, hy, hz⟩ := bO_iff.mp hz
  cases y <;> try (cases hz; done)
  rename_i n
  have hz2 : (if 0 ≤ n ∧ n < 2 ^ 63 then some (D.int n) else none) = some z := hz
  split at hz2
  · rename_i hn
    cases hz2
    exact onO_iff.mpr ⟨x, hx, isO_iff hi, onO_iff.mpr ⟨_, hy, n, rfl, hn.1, hn.2, h⟩⟩
  · cases hz2
theorem xe_ixOb (h : DE X W e (dIxO C (pf F) (eP o) (eP i))) : DE X W e (eP (pIxOb C F o i)) := h.deOf fun δ G Q E h => by
  obtain ⟨z, hz, h⟩ := onO_iff.mp h
  obtain ⟨x, hx, hz⟩ := bO_iff.mp hz
  obtain ⟨y, hy, hz⟩ := bO_iff.mp hz
  obtain ⟨hi, hz⟩ := ckO_iff hz
  exact onO_iff.mpr ⟨x, hx, onO_iff.mpr ⟨y, hy, isO_iff hi, onO_iff.mpr ⟨z, hz, h⟩⟩⟩
end
section
variable {C : Addr} {m : Str} {F : List D → DG → Option D} {o i : PX} {l : PAs} {δ : DSt} {G : DG} {x y : D} {xs : List D} {z : Option D}
theorem pMt_of (h : o δ G = some x) (hi : IsIns C m G x) (hl : l δ G = some xs) (k : F (x :: xs) G = z) : pMt C m F o l δ G = z := by
  unfold pMt
  rw [h, bO_some rfl, insO_of hi]
  show bO (l δ G) _ = _
  rw [hl]; exact k
theorem pLenOb_of {n : Int} (h : o δ G = some x) (hi : IsC C G x) (k : F [x] G = some (.int n)) (h0 : 0 ≤ n) (h1 : n < 2 ^ 63) : pLenOb C F o δ G = some (.int n) := by
  unfold pLenOb
  rw [h, bO_some rfl, isO_of hi]
  show bO (F [x] G) _ = _
  rw [k]
  exact if_pos ⟨h0, h1⟩
theorem pIxOb_of (h : o δ G = some x) (hi : i δ G = some y) (hc : IsC C G x) (k : F [x, y] G = z) : pIxOb C F o i δ G = z := by
  unfold pIxOb
  rw [h, bO_some rfl, hi, bO_some rfl, isO_of hc]
  exact k
end
/-! ### p.extend(a new list) -/
def sExt (p : DTP) (a : DTA) : DTS := fun N δ G => p δ G (fun pl G1 => (∃ ds, pl.rd δ G1 ds) ∧ a δ G1 (fun ys G2 => ∃ ds, pl.rd δ G2 ds ∧ ds.length + ys.length ≤ 1000000 ∧ ∀ δ' G', pl.wr (ds ++ ys) δ G2 δ' G' → N.nx δ' G') (exOf N δ)) (exOf N δ)
theorem ds_ext {X : Cx} {W : WX} {o e : Expr} {p : DTP} {a : DTA} {apos pos pos' : Pos} (ho : DPl X W o p) (he : DF X W e a) (hbase : attributeBase o "extend" X.env (eval o X.env) = eval o X.env := by rfl) (hline : (apos.endLine == pos.line) = true := by rfl) (hs1 : starEach [e] X.env = (false, eval e X.env) :: starEach [] X.env := by rfl)
    (hfew : ((backTo pos (starEach [e] X.env)).all (fun x => !x.1) && (backToKw pos (keywordEach [] X.env)).all (fun x => x.1.isSome) && decide (([e] : List Expr).length + ([] : List Keyword).length + (if ([] : List Keyword).isEmpty then 0 else 1) < 30)) = true := by rfl)
    (hs : swapsWith (.Call (.Attribute o "extend" apos) [e] [] pos) none pos'.line X.env = pure false := by rfl) : DS X W (.Expr (.Call (.Attribute o "extend" apos) [e] [] pos) pos') (sExt p a) :=
  (ps_expr (pe_bm PySem.F.plainAttrs_list PySem.F.slot_list_extend PySem.F.type_list_extend mt_extend ho (pa_cons he pa_nil hs1) hbase hfew hline hs1 rfl) hs).imp fun E σ H ⟨M, δ, G, DD, rs, d, ok⟩ => by
  refine ⟨M, δ, G, _, _, rs, d, ok.exOf, fun pl l G1 H1 M1 f1 rs1 ha ⟨⟨ds, hr⟩, q⟩ => ?_⟩
  obtain ⟨l2, xs, ha2, m, hl, rr⟩ := Pl.has rs1 hr
  cases Pl.inj ha ha2
  refine ⟨.inl ⟨rfl, _, SqL.of hl⟩, M1, δ, G1, _, _, rs1, q, (ok.mono f1).exOf, fun b zs ys G2 H2 M2 f2 rs2 nb mb hb imz ⟨ds2, hr2, hz, q2⟩ => ?_⟩
  obtain ⟨l3, xs2, ha3, m2, hl2, rr2⟩ := Pl.has rs2 hr2
  cases Pl.inj ha ha3
  refine ⟨l, b, xs2, zs, rfl, rfl, hl2, hb, by rw [rr2.length, imz.length, sizeLine_eq]; omega, ?_⟩
  obtain ⟨δ', G', hw⟩ := Pl.wr_ex (ds' := ds2 ++ ys) hr2
  exact ok.nx _ _ G' _ M2 ((f1.trans f2).trans (Frame.at m2 pl.ow_ne)) (Pl.put rs2 hr2 ha (rr2.append imz) hw) (q2 δ' G' hw)
def zExt (i : Nat) (a : DTA) : DTS := fun N δ G => onO (ownAt δ i) fun ds => a δ G (fun ys G2 => brP (lenLe 1000000 (ds ++ ys)) (N.nx (δ.set i (some (.own (ds ++ ys)))) G2) False) (exOf N δ)
theorem zs_ext {X : Cx} {W : WX} {s : Stmt} {i : Nat} {a : DTA} (h : DS X W s (sExt (pVar i) a)) : DS X W s (zExt i a) := h.dsOf fun N δ G q => by
  obtain ⟨ds, hd, q⟩ := onO_iff.mp q
  have hd' := ownAt_iff.mp hd
  refine .inl ⟨ds, hd', ⟨ds, hd'⟩, ?_⟩
  have e : (fun ys G2 => ∃ ds, (Pl.slot i).rd δ G2 ds ∧ ds.length + ys.length ≤ 1000000 ∧ ∀ δ' G', (Pl.slot i).wr (ds ++ ys) δ G2 δ' G' → N.nx δ' G') = (fun ys G2 => brP (lenLe 1000000 (ds ++ ys)) (N.nx (δ.set i (some (.own (ds ++ ys)))) G2) False) := by
    funext ys G2
    apply propext
    rw [brP_eq]
    constructor
    · rintro ⟨ds1, h1, h2, h3⟩
      have e1 : ds1 = ds := by have := (show δ[i]? = some (some (.own ds1)) from h1).symm.trans hd'; cases this; rfl
      subst e1
      rw [if_pos (lenLe_iff.mpr (by simpa using h2))]
      exact h3 _ _ ⟨rfl, rfl⟩
    · intro q
      split at q
      · rename_i hl
        exact ⟨ds, hd', by simpa using lenLe_iff.mp hl, fun δ' G' ⟨e1, e2⟩ => by subst e1 e2; exact q⟩
      · exact q.elim
  rw [e]
  exact q
/-! ### displays with stars -/
def pChk (l : PAs) : PAs := fun δ G => bO (l δ G) fun xs => ckO (lenLe 1000000 xs) (some xs)
theorem pChk_of {l : PAs} {δ : DSt} {G : DG} {xs : List D} (h : l δ G = some xs) (hl : xs.length ≤ 1000000) : pChk l δ G = some xs := by
  unfold pChk
  rw [h, bO_some rfl, lenLe_iff.mpr hl]
  rfl
section
variable {X : Cx} {W : WX} {es : List Expr} {l : PAs} {pos : Pos}
theorem xf_lstS (h : DA X W es (aP l)) : DF X W (.List es pos) (aP (pChk l)) := (df_lst h).dfOf fun δ G Q E h => by
  obtain ⟨z, hz, h⟩ := onO_iff.mp h
  obtain ⟨x, hx, hz⟩ := bO_iff.mp hz
  obtain ⟨hl, hz⟩ := ckO_iff hz
  cases hz
  exact onO_iff.mpr ⟨_, hx, lenLe_iff.mp hl, h⟩
theorem xe_tupS {x1} (h : DA X W es (aP l)) : DE X W (.Tuple es x1 pos) (eP (pTup (pChk l))) := (de_tup h).deOf fun δ G Q E h => by
  obtain ⟨z, hz, h⟩ := onO_iff.mp h
  obtain ⟨y, hy, hz⟩ := bO_iff.mp hz
  obtain ⟨x, hx, hy⟩ := bO_iff.mp hy
  obtain ⟨hl, hy⟩ := ckO_iff hy
  cases hy
  cases hz
  exact onO_iff.mpr ⟨_, hx, lenLe_iff.mp hl, h⟩
theorem pConsS_of {p : PX} {l : PAs} {δ : DSt} {G : DG} {x : D} {xs ys : List D} (h : p δ G = some x) (hx : seqO x = some xs) (hy : l δ G = some ys) : pConsS p l δ G = some (xs ++ ys) := by
  unfold pConsS
  rw [h, bO_some rfl, hx, bO_some rfl, hy]
  rfl
theorem pFmt_of {p : PX} {δ : DSt} {G : DG} {s : Str} (h : p δ G = some (.str s)) (hl : s.length ≤ 1000000) : pFmt p δ G = some (.str s) := by
  unfold pFmt
  rw [h, bO_some rfl]
  show bO (if s.length ≤ 1000000 then some s else none) _ = _
  rw [if_pos hl]
  rfl
theorem pJs2_of {p q : PX} {δ : DSt} {G : DG} {s t : Str} (h : p δ G = some (.str s)) (k : q δ G = some (.str t)) (hl : s.length ≤ 1000000) (kl : t.length ≤ 1000000) : pJs2 p q δ G = some (.str (s ++ t)) := by
  unfold pJs2
  rw [h, bO_some rfl]
  show bO (if s.length ≤ 1000000 then some s else none) _ = _
  rw [if_pos hl, bO_some rfl, k, bO_some rfl]
  show bO (if t.length ≤ 1000000 then some t else none) _ = _
  rw [if_pos kl]
  rfl
end
end DD
namespace PG
open PySem PySem.Spec L2 DD FB
/-! ### forms and listings, told -/
def frmO (K : PySem.W.Frag) (x : D) : Option (D × List D) := match x with
  | .obj C [(a, cs), (b, .tup st)] => if C = He.ga K "Form" ∧ a = "heads" ∧ b = "chain" then some (cs, st) else none
  | _ => none
theorem frmO_iff {K : PySem.W.Frag} {x cs : D} {st : List D} (h : frmO K x = some (cs, st)) : IsF K x cs (.tup st) := by
  unfold frmO at h
  split at h
  · split at h
    · rename_i e
      obtain ⟨rfl, rfl, rfl⟩ := e
      cases h
      exact rfl
    · cases h
  · cases h
theorem frmO_eFm (K : PySem.W.Frag) (cs : List Str) (st : List Stp) : frmO K (eFm K cs st) = some (eC cs, st.map eP') := if_pos ⟨rfl, rfl, rfl⟩
def F_Form_columns (K : PySem.W.Frag) : List D → DG → Option D := fun ds _ => match ds with
  | [x] => bO (frmO K x) fun p => some p.1
  | _ => none
def F_Form_steps (K : PySem.W.Frag) : List D → DG → Option D := fun ds _ => match ds with
  | [x] => bO (frmO K x) fun p => some (.tup p.2)
  | _ => none
def F_Form___len__ (K : PySem.W.Frag) : List D → DG → Option D := fun ds _ => match ds with
  | [x] => bO (frmO K x) fun p => some (.int (p.2.length : Nat))
  | _ => none
def F_Form___getitem__ (K : PySem.W.Frag) : List D → DG → Option D := fun ds _ => match ds with
  | [x, k] => bO (frmO K x) fun p => bO (ixOk k p.2.length) fun i => p.2[i]?
  | _ => none
def lsgO (K : PySem.W.Frag) (G : DG) (x : D) : Option (D × List D) := match x with
  | .obj C [(a, cs), (b, .lst rs)] => if C = He.ga K "Listing" ∧ a = "heads" ∧ b = "lines" then some (cs, rs) else none
  | .ref z => (match G z with
    | some (.ins C [(a, .v cs), (b, .own _ rs)]) => if C = He.ga K "Listing" ∧ a = "heads" ∧ b = "lines" then some (cs, rs) else none
    | _ => none)
  | _ => none
theorem lsgO_iff {K : PySem.W.Frag} {G : DG} {x cs : D} {rs : List D} (h : lsgO K G x = some (cs, rs)) : IsL K G x cs rs := by
  unfold lsgO at h
  split at h
  · split at h
    · rename_i e
      obtain ⟨rfl, rfl, rfl⟩ := e
      cases h
      exact .inr rfl
    · cases h
  · split at h
    · rename_i ge
      split at h
      · rename_i e
        obtain ⟨rfl, rfl, rfl⟩ := e
        cases h
        exact .inl ⟨_, _, rfl, ge⟩
      · cases h
    · cases h
  · cases h
theorem lsgO_of {K : PySem.W.Frag} {G : DG} {x cs : D} {rs : List D} (h : IsL K G x cs rs) : lsgO K G x = some (cs, rs) := by
  rcases h with ⟨a, l, rfl, g⟩ | rfl
  · show (match G a with | some (.ins C [(a, .v cs), (b, .own _ rs)]) => if C = He.ga K "Listing" ∧ a = "heads" ∧ b = "lines" then some (cs, rs) else none | _ => none) = _
    rw [g]
    exact if_pos ⟨rfl, rfl, rfl⟩
  · exact if_pos ⟨rfl, rfl, rfl⟩
def F_Listing_columns (K : PySem.W.Frag) : List D → DG → Option D := fun ds G => match ds with
  | [x] => bO (lsgO K G x) fun p => some p.1
  | _ => none
def F_Listing_rows (K : PySem.W.Frag) : List D → DG → Option D := fun ds G => match ds with
  | [x] => bO (lsgO K G x) fun p => some (.lst p.2)
  | _ => none
def F_Listing___len__ (K : PySem.W.Frag) : List D → DG → Option D := fun ds G => match ds with
  | [x] => bO (lsgO K G x) fun p => some (.int (p.2.length : Nat))
  | _ => none
section
variable {K : PySem.W.Frag} {ds : List D} {G : DG} {Q : D → DG → Prop} {E : DX → DG → Prop}
theorem w_Form_columns (h : pf (F_Form_columns K) ds G Q E) : f_Form_columns K ds G Q E := by
  obtain ⟨z, hz, q⟩ := onO_iff.mp h
  unfold F_Form_columns at hz
  split at hz
  · obtain ⟨⟨cs, st⟩, hp, hz⟩ := bO_iff.mp hz
    cases hz
    unfold f_Form_columns
    exact ⟨_, _, _, rfl, frmO_iff hp, q⟩
  · cases hz
theorem w_Form_steps (h : pf (F_Form_steps K) ds G Q E) : f_Form_steps K ds G Q E := by
  obtain ⟨z, hz, q⟩ := onO_iff.mp h
  unfold F_Form_steps at hz
  split at hz
  · obtain ⟨⟨cs, st⟩, hp, hz⟩ := bO_iff.mp hz
    cases hz
    unfold f_Form_steps
    exact ⟨_, _, _, rfl, frmO_iff hp, q⟩
  · cases hz
theorem w_Form___len__ (h : pf (F_Form___len__ K) ds G Q E) : f_Form___len__ K ds G Q E := by
  obtain ⟨z, hz, q⟩ := onO_iff.mp h
  unfold F_Form___len__ at hz
  split at hz
  · obtain ⟨⟨cs, st⟩, hp, hz⟩ := bO_iff.mp hz
    cases hz
    unfold f_Form___len__
    exact ⟨_, _, _, rfl, frmO_iff hp, q⟩
  · cases hz
theorem w_Form___getitem__ (h : pf (F_Form___getitem__ K) ds G Q E) : f_Form___getitem__ K ds G Q E := by
  obtain ⟨z, hz, q⟩ := onO_iff.mp h
  unfold F_Form___getitem__ at hz
  split at hz
  · obtain ⟨⟨cs, st⟩, hp, hz⟩ := bO_iff.mp hz
    obtain ⟨i, hi, hz⟩ := bO_iff.mp hz
    unfold f_Form___getitem__
    refine ⟨_, _, _, _, rfl, frmO_iff hp, ?_, ?_⟩
    · have := (ix_some hi).1
      subst this
      rfl
    · simp only at hi
      rw [hi]
      exact ⟨z, hz, q⟩
  · cases hz
theorem w_Listing_columns (h : pf (F_Listing_columns K) ds G Q E) : f_Listing_columns K ds G Q E := by
  obtain ⟨z, hz, q⟩ := onO_iff.mp h
  unfold F_Listing_columns at hz
  split at hz
  · obtain ⟨⟨cs, st⟩, hp, hz⟩ := bO_iff.mp hz
    cases hz
    exact c_Listing_columns (lsgO_iff hp) q
  · cases hz
theorem w_Listing_rows (h : pf (F_Listing_rows K) ds G Q E) : f_Listing_rows K ds G Q E := by
  obtain ⟨z, hz, q⟩ := onO_iff.mp h
  unfold F_Listing_rows at hz
  split at hz
  · obtain ⟨⟨cs, st⟩, hp, hz⟩ := bO_iff.mp hz
    cases hz
    exact c_Listing_rows (lsgO_iff hp) q
  · cases hz
theorem w_Listing___len__ (h : pf (F_Listing___len__ K) ds G Q E) : f_Listing___len__ K ds G Q E := by
  obtain ⟨z, hz, q⟩ := onO_iff.mp h
  unfold F_Listing___len__ at hz
  split at hz
  · obtain ⟨⟨cs, st⟩, hp, hz⟩ := bO_iff.mp hz
    cases hz
    exact c_Listing_len (lsgO_iff hp) q
  · cases hz
/-! what they tell -/
variable {o i : PX} {δ : DSt} {cs : List Str} {st : List Stp} {x c : D} {rs : List D}
theorem fm_cols (h : o δ G = some (eFm K cs st)) : pMt (He.ga K "Form") "columns" (F_Form_columns K) o pNil δ G = some (eC cs) := pMt_of h ⟨rfl, rfl⟩ rfl (by show bO (frmO K (eFm K cs st)) _ = _; rw [frmO_eFm]; rfl)
theorem fm_steps (h : o δ G = some (eFm K cs st)) : pMt (He.ga K "Form") "steps" (F_Form_steps K) o pNil δ G = some (eF st) := pMt_of h ⟨rfl, rfl⟩ rfl (by show bO (frmO K (eFm K cs st)) _ = _; rw [frmO_eFm]; rfl)
theorem fm_len (h : o δ G = some (eFm K cs st)) (hl : st.length ≤ 1000000) : pLenOb (He.ga K "Form") (F_Form___len__ K) o δ G = some (.int (st.length : Nat)) := pLenOb_of h rfl (by show bO (frmO K (eFm K cs st)) _ = _; rw [frmO_eFm]; simp [bO]) (by omega) (by omega)
theorem fm_ix {k : Nat} {s : Stp} (h : o δ G = some (eFm K cs st)) (hi : i δ G = some (.int (k : Nat))) (hs : st[k]? = some s) : pIxOb (He.ga K "Form") (F_Form___getitem__ K) o i δ G = some (eP' s) := pIxOb_of h hi rfl (by
  show bO (frmO K (eFm K cs st)) _ = _
  rw [frmO_eFm]
  have hl := (List.getElem?_eq_some_iff.mp hs).1
  show bO (ixOk (.int (k : Nat)) (st.map eP').length) _ = _
  rw [ix_nat (by simpa using hl)]
  show (st.map eP')[k]? = _
  simp [hs])
theorem ls_cols (h : o δ G = some x) (hx : IsL K G x c rs) : pMt (He.ga K "Listing") "columns" (F_Listing_columns K) o pNil δ G = some c := pMt_of h (hx.ins rfl) rfl (by show bO (lsgO K G x) _ = _; rw [lsgO_of hx]; rfl)
theorem ls_rows (h : o δ G = some x) (hx : IsL K G x c rs) : pMt (He.ga K "Listing") "rows" (F_Listing_rows K) o pNil δ G = some (.lst rs) := pMt_of h (hx.ins rfl) rfl (by show bO (lsgO K G x) _ = _; rw [lsgO_of hx]; rfl)
theorem ls_len (h : o δ G = some x) (hx : IsL K G x c rs) (hl : rs.length ≤ 1000000) : pLenOb (He.ga K "Listing") (F_Listing___len__ K) o δ G = some (.int (rs.length : Nat)) := pLenOb_of h hx.isC (by show bO (lsgO K G x) _ = _; rw [lsgO_of hx]; rfl) (by omega) (by omega)
end
end PG

set_option Elab.async false
set_option linter.all false
set_option maxRecDepth 100000
set_option maxHeartbeats 4000000
namespace DD
open PySem PySem.Spec L2
/-! ### values of a plain type, read back -/
open Classical in
noncomputable def dec {α : Type} (e : α → D) (P : α → Prop) (x : D) : Option α := if h : ∃ a, P a ∧ x = e a then some h.choose else none
theorem dec_iff {α : Type} {e : α → D} {P : α → Prop} {x : D} {a : α} (h : dec e P x = some a) : P a ∧ x = e a := by
  unfold dec at h
  split at h
  · rename_i hh
    cases h
    exact hh.choose_spec
  · cases h
theorem dec_of {α : Type} {e : α → D} {P : α → Prop} (inj : ∀ a b, e a = e b → a = b) {a : α} (h : P a) : dec e P (e a) = some a := by
  unfold dec
  have hh : ∃ b, P b ∧ e a = e b := ⟨a, h, rfl⟩
  rw [dif_pos hh]
  exact congrArg some (inj _ _ hh.choose_spec.2).symm
theorem str_assoc (a b c : Str) : (a ++ b) ++ c = a ++ (b ++ c) := by
  show (⟨(a.cps ++ b.cps) ++ c.cps⟩ : Str) = ⟨a.cps ++ (b.cps ++ c.cps)⟩
  rw [Array.append_assoc]
theorem app_len (a b : Str) : (a ++ b).length = a.length + b.length := by
  show (a.cps ++ b.cps).size = a.cps.size + b.cps.size
  exact Array.size_append
theorem join_len (a : Str) : ∀ zs : List Str, (Str.join a zs).length ≤ (zs.map (·.length)).sum + zs.length * a.length
  | [] => by
    show Str.empty.length ≤ _
    exact Nat.zero_le _
  | [z] => by
    show z.length ≤ _
    simp
  | x :: z :: r => by
    have ih := join_len a (z :: r)
    show ((x ++ a) ++ Str.join a (z :: r)).length ≤ _
    rw [app_len, app_len]
    simp only [List.map_cons, List.sum_cons, List.length_cons] at ih ⊢
    have e : (r.length + 1 + 1) * a.length = (r.length + 1) * a.length + a.length := by rw [Nat.succ_mul]
    omega
theorem sum_le {m : Nat} : ∀ zs : List Str, (∀ z ∈ zs, z.length ≤ m) → (zs.map (·.length)).sum ≤ zs.length * m
  | [], _ => by simp
  | z :: r, h => by
    have ih := sum_le r fun y hy => h y (by simp [hy])
    have h0 := h z (by simp)
    simp only [List.map_cons, List.sum_cons, List.length_cons, Nat.succ_mul]
    omega
theorem join_le {a : Str} {m n k : Nat} {zs : List Str} (h : ∀ z ∈ zs, z.length ≤ m) (hn : zs.length ≤ n) (ha : a.length ≤ k) : (Str.join a zs).length ≤ n * (m + k) := by
  have h1 := join_len a zs
  have h2 := sum_le zs h
  have h3 : zs.length * m ≤ n * m := Nat.mul_le_mul_right _ hn
  have h4 : zs.length * a.length ≤ n * k := Nat.mul_le_mul hn ha
  rw [Nat.mul_add]
  omega
theorem join_ok {a : Str} {m n k : Nat} {zs : List Str} (h : ∀ z ∈ zs, z.length ≤ m) (hn : zs.length ≤ n) (ha : a.length ≤ k) (hb : n * (m + k) ≤ 16777216) : joinD (.str a) [.lst (zs.map D.str)] = some (.str (Str.join a zs)) := by
  have h2 := sum_le zs h
  have h3 : zs.length * m ≤ n * m := Nat.mul_le_mul_right _ hn
  have h4 : zs.length * a.length ≤ n * k := Nat.mul_le_mul hn ha
  rw [Nat.mul_add] at hb
  simp only [joinD, PG.strsD_map]
  rw [if_pos (by omega)]
theorem join_okT {a : Str} {m n k : Nat} {zs : List Str} (h : ∀ z ∈ zs, z.length ≤ m) (hn : zs.length ≤ n) (ha : a.length ≤ k) (hb : n * (m + k) ≤ 16777216) : joinD (.str a) [.tup (zs.map D.str)] = some (.str (Str.join a zs)) := by
  have h2 := sum_le zs h
  have h3 : zs.length * m ≤ n * m := Nat.mul_le_mul_right _ hn
  have h4 : zs.length * a.length ≤ n * k := Nat.mul_le_mul hn ha
  rw [Nat.mul_add] at hb
  simp only [joinD, PG.strsD_map]
  rw [if_pos (by omega)]
theorem pStM_of {g : D → List D → Option D} {p q : PX} {δ : DSt} {G : DG} {s : Str} {y : D} {z : Option D} (h : p δ G = some (.str s)) (k : q δ G = some y) (e : g (.str s) [y] = z) : pStM g p q δ G = z := by
  unfold pStM
  rw [h, bO_some rfl]
  show bO (q δ G) _ = _
  rw [k]; exact e
end DD
namespace PG
open PySem PySem.Spec L2 DD FB
/-! ### texts of forms and listings -/
def cellT (x : Str) : Str := if x = "" then "." else x
def testW : Tst → List Str
  | .same c w => ["if", c, if w = true then "same" else "other"]
  | .is c x w => ["if", c, if w = true then "is" else "not", cellT x]
def stepT : Stp → Str
  | .put c => Str.join " " ["put", c]
  | .word x => "word " ++ cellT x
  | .label => "label"
  | .next => "next"
  | .nextT t => Str.join " " ("next" :: testW t)
  | .skip t => Str.join " " ("skip" :: testW t)
  | .keep c => Str.join " " ["keep", c]
  | .say c => Str.join " " ["say", c]
  | .first c => Str.join " " ["first", c]
def formT (cs : List Str) (st : List Stp) : Str := Str.join "; " (Str.join "," cs :: st.map stepT)
def listT (cs : List Str) (rs : List (List Str)) : Str := Str.join "\n" (Str.join "," cs :: rs.map (Str.join ","))
/-- of small texts -/
def smT : Tst → Prop
  | .is c x _ => c.length ≤ 20 ∧ x.length ≤ 20
  | .same c _ => c.length ≤ 20
def smP : Stp → Prop
  | .put c => c.length ≤ 20
  | .word x => x.length ≤ 20
  | .label => True
  | .next => True
  | .nextT t => smT t
  | .skip t => smT t
  | .keep c => c.length ≤ 20
  | .say c => c.length ≤ 20
  | .first c => c.length ≤ 20
theorem sm_test {cs : List Str} {t : Tst} (hc : colsOk cs = true) (h : tstOk cs t = true) : smT t := by
  cases t with
  | is c x w =>
    simp only [tstOk, Bool.and_eq_true, decide_eq_true_eq] at h
    have h1 := nrm_dstr hc h.1
    have h2 := cell_len h.2
    exact ⟨by omega, h2⟩
  | same c w =>
    simp only [tstOk, decide_eq_true_eq] at h
    have h1 := nrm_dstr hc h
    show c.length ≤ 20
    omega
theorem sm_step {cs : List Str} {s : Stp} (hc : colsOk cs = true) (h : stpOk cs s = true) : smP s := by
  cases s with
  | word x => exact cell_len h
  | label => trivial
  | next => trivial
  | nextT t => exact sm_test hc h
  | skip t => exact sm_test hc h
  | _ => all_goals (have h1 := nrm_dstr hc (of_decide_eq_true h); show _ ≤ 20; omega)
theorem inj_T : ∀ a b : Tst, eT a = eT b → a = b := by
  intro a b h
  cases a <;> cases b <;> simp [eT] at h ⊢ <;> first | exact h | exact absurd h (by decide)
theorem inj_P : ∀ a b : Stp, eP' a = eP' b → a = b := by
  intro a b h
  cases a <;> cases b <;> simp [eP'] at h ⊢ <;> first | exact h | exact inj_T _ _ h | exact absurd h (by decide) | exact absurd h.1 (by decide)
theorem map_inj {α β : Type} {f : α → β} (inj : ∀ a b, f a = f b → a = b) : ∀ xs ys : List α, xs.map f = ys.map f → xs = ys
  | [], [], _ => rfl
  | [], _ :: _, h => by cases h
  | _ :: _, [], h => by cases h
  | x :: r, y :: q, h => by
    simp only [List.map_cons, List.cons.injEq] at h
    rw [inj x y h.1, map_inj inj r q h.2]
theorem inj_str : ∀ a b : Str, D.str a = D.str b → a = b := fun a b h => by cases h; rfl
theorem inj_C : ∀ a b : List Str, eC a = eC b → a = b := fun a b h => by
  simp only [eC, D.tup.injEq] at h
  exact map_inj inj_str a b h
theorem inj_F : ∀ a b : List Stp, eF a = eF b → a = b := fun a b h => by
  simp only [eF, D.tup.injEq] at h
  exact map_inj inj_P a b h
theorem inj_Rs : ∀ a b : List (List Str), eRs a = eRs b → a = b := fun a b h => map_inj inj_C a b h
def F_cell_text (K : PySem.W.Frag) : List D → DG → Option D := fun ds _ => match ds with
  | [.str x] => some (.str (cellT x))
  | _ => none
noncomputable def F_words_of_test (K : PySem.W.Frag) : List D → DG → Option D := fun ds _ => match ds with
  | [x] => bO (dec eT smT x) fun t => some (.lst ((testW t).map D.str))
  | _ => none
noncomputable def F_step_text (K : PySem.W.Frag) : List D → DG → Option D := fun ds _ => match ds with
  | [x] => bO (dec eP' smP x) fun s => some (.str (stepT s))
  | _ => none
noncomputable def F_form_text (K : PySem.W.Frag) : List D → DG → Option D := fun ds _ => match ds with
  | [x] => bO (dec (fun p : List Str × List Stp => eFm K p.1 p.2) (fun p => formOk p.1 p.2) x) fun p => some (.str (formT p.1 p.2))
  | _ => none
/-- a listing of good rows -/
def okL (K : PySem.W.Frag) (G : DG) (p : List Str × List (List Str)) (x : D) : Prop := IsL K G x (eC p.1) (eRs p.2) ∧ colsOk p.1 = true ∧ rowsOk p.1.length p.2 ∧ p.2.length ≤ 10000
open Classical in
noncomputable def F_listing_text (K : PySem.W.Frag) : List D → DG → Option D := fun ds G => match ds with
  | [x] => if h : ∃ p, okL K G p x then some (.str (listT h.choose.1 h.choose.2)) else none
  | _ => none
noncomputable abbrev f_cell_text (K : PySem.W.Frag) : Fn := pf (F_cell_text K)
noncomputable abbrev f_words_of_test (K : PySem.W.Frag) : Fn := pf (F_words_of_test K)
noncomputable abbrev f_step_text (K : PySem.W.Frag) : Fn := pf (F_step_text K)
noncomputable abbrev f_form_text (K : PySem.W.Frag) : Fn := pf (F_form_text K)
noncomputable abbrev f_listing_text (K : PySem.W.Frag) : Fn := pf (F_listing_text K)
section
variable {K : PySem.W.Frag} {ds : List D} {G : DG} {Q : D → DG → Prop} {E : DX → DG → Prop}
theorem len1 {F : List D → DG → Option D} (hF : ∀ ds z, F ds G = some z → ds.length = 1) (h : pf F ds G Q E) : ds.length = 1 := by
  obtain ⟨z, hz, q⟩ := onO_iff.mp h
  exact hF _ _ hz
theorem len_cell_text (h : f_cell_text K ds G Q E) : ds.length = 1 := len1 (fun ds z hz => by unfold F_cell_text at hz; split at hz; rfl; cases hz) h
theorem len_words_of_test (h : f_words_of_test K ds G Q E) : ds.length = 1 := len1 (fun ds z hz => by unfold F_words_of_test at hz; split at hz; rfl; cases hz) h
theorem len_step_text (h : f_step_text K ds G Q E) : ds.length = 1 := len1 (fun ds z hz => by unfold F_step_text at hz; split at hz; rfl; cases hz) h
theorem len_form_text (h : f_form_text K ds G Q E) : ds.length = 1 := len1 (fun ds z hz => by unfold F_form_text at hz; split at hz; rfl; cases hz) h
theorem len_listing_text (h : f_listing_text K ds G Q E) : ds.length = 1 := len1 (fun ds z hz => by unfold F_listing_text at hz; split at hz; rfl; cases hz) h
theorem F_words {t : Tst} (h : smT t) : F_words_of_test K [eT t] G = some (.lst ((testW t).map D.str)) := by
  show bO (dec eT smT (eT t)) _ = _
  rw [dec_of inj_T h]; rfl
theorem F_stept {s : Stp} (h : smP s) : F_step_text K [eP' s] G = some (.str (stepT s)) := by
  show bO (dec eP' smP (eP' s)) _ = _
  rw [dec_of inj_P h]; rfl
theorem inj_Fm (K : PySem.W.Frag) : ∀ a b : List Str × List Stp, eFm K a.1 a.2 = eFm K b.1 b.2 → a = b := fun ⟨a1, a2⟩ ⟨b1, b2⟩ h => by
  simp only [eFm, D.obj.injEq, List.cons.injEq, Prod.mk.injEq, true_and, and_true] at h
  rw [inj_C _ _ h.1, inj_F _ _ h.2]
theorem F_formt {cs : List Str} {st : List Stp} (h : formOk cs st) : F_form_text K [eFm K cs st] G = some (.str (formT cs st)) := by
  show bO (dec (fun p : List Str × List Stp => eFm K p.1 p.2) (fun p => formOk p.1 p.2) (eFm K cs st)) _ = _
  have e := dec_of (e := fun p : List Str × List Stp => eFm K p.1 p.2) (P := fun p => formOk p.1 p.2) (inj_Fm K) (a := (cs, st)) h
  rw [e]; rfl
theorem isL_inj {x c1 c2 : D} {r1 r2 : List D} (h1 : IsL K G x c1 r1) (h2 : IsL K G x c2 r2) : c1 = c2 ∧ r1 = r2 := by
  have e1 := h1.heads
  rw [h2.heads] at e1
  have e2 := h1.lines
  rw [h2.lines] at e2
  cases e1
  cases e2
  exact ⟨rfl, rfl⟩
theorem F_listt {x : D} {cs : List Str} {rs : List (List Str)} (hx : IsL K G x (eC cs) (eRs rs)) (hc : colsOk cs = true) (ho : rowsOk cs.length rs) (hl : rs.length ≤ 10000) : F_listing_text K [x] G = some (.str (listT cs rs)) := by
  have hh : ∃ p, okL K G p x := ⟨(cs, rs), hx, hc, ho, hl⟩
  unfold F_listing_text
  simp only
  rw [dif_pos hh]
  obtain ⟨e1, e2⟩ := isL_inj hh.choose_spec.1 hx
  rw [inj_C _ _ e1, inj_Rs _ _ e2]
end
end PG

set_option Elab.async false
set_option linter.all false
set_option maxRecDepth 100000
set_option maxHeartbeats 0
namespace PG
open PySem PySem.Spec L2 DD
abbrev N_cell_text : List Str := ["cell"]
def tb_cell_text (K : PySem.W.Frag) : DTS := (sRet (eP (pIfE (pTst (pBin eqD (pBo 0) (pC (.str "")))) (pC (.str ".")) (pV 0))))
abbrev N_words_of_test : List Str := ["test"]
def tb_words_of_test (K : PySem.W.Frag) : DTS := (sSeq (zIf (tP (pTst (pBin eqD (pBin ixD (pBo 0) (pC (.int 0))) (pC (.str "same")))))
  (sRet (eP (pLst (pCons (pC (.str "if")) (pCons (pBin ixD (pBo 0) (pC (.int 1))) (pCons (pIfE (pTru (pBin ixD (pBo 0) (pC (.int 2)))) (pC (.str "same")) (pC (.str "other"))) pNil))))))
  sNext)
  (sRet (eP (pLst (pCons (pC (.str "if")) (pCons (pBin ixD (pBo 0) (pC (.int 1))) (pCons (pIfE (pTru (pBin ixD (pBo 0) (pC (.int 3)))) (pC (.str "is")) (pC (.str "not"))) (pCons (pFn (F_cell_text K) (pCons (pBin ixD (pBo 0) (pC (.int 2))) pNil)) pNil))))))))
abbrev N_step_text : List Str := ["step"]
def tb_step_text (K : PySem.W.Frag) : DTS := (sSeq (zIf (tP (pTst (pBin eqD (pCallB lenD (pCons (pBo 0) pNil)) (pC (.int 1)))))
  (sRet (eP (pBin ixD (pBo 0) (pC (.int 0)))))
  sNext)
  (sSeq (zIf (tP (pTst (pBin inD (pBin ixD (pBo 0) (pC (.int 0))) (pTup (pCons (pC (.str "next")) (pCons (pC (.str "skip")) pNil))))))
  (sRet (eP (pStM joinD (pC (.str " ")) (pLst (pChk (pCons (pBin ixD (pBo 0) (pC (.int 0))) (pConsS (pFn (F_words_of_test K) (pCons (pBin ixD (pBo 0) (pC (.int 1))) pNil)) pNil)))))))
  sNext)
  (sSeq (zIf (tP (pTst (pBin eqD (pBin ixD (pBo 0) (pC (.int 0))) (pC (.str "word")))))
  (sRet (eP (pJs2 (pC (.str "word ")) (pFmt (pFn (F_cell_text K) (pCons (pBin ixD (pBo 0) (pC (.int 1))) pNil))))))
  sNext)
  (sRet (eP (pStM joinD (pC (.str " ")) (pBo 0)))))))
abbrev N_form_text : List Str := ["form", "step"]
def tb_form_text (K : PySem.W.Frag) : DTS := (sRet (eP (pStM joinD (pC (.str "; ")) (pLst (pChk (pCons (pStM joinD (pC (.str ",")) (pMt (He.ga K "Form") "columns" (F_Form_columns K) (pV 0) pNil)) (pConsS (pLst (pLc (piSeq (pMt (He.ga K "Form") "steps" (F_Form_steps K) (pV 0) pNil)) (tN 1) qYes (pFn (F_step_text K) (pCons (pV 1) pNil)) [1])) pNil)))))))
abbrev N_listing_text : List Str := ["listing", "lines", "row"]
def tb_listing_text (K : PySem.W.Frag) : DTS := (sSeq (sSetF 1 (aP (pCons (pStM joinD (pC (.str ",")) (pMt (He.ga K "Listing") "columns" (F_Listing_columns K) (pV 0) pNil)) pNil)))
  (sSeq (zExt 1 (aP (pLc (piSeq (pMt (He.ga K "Listing") "rows" (F_Listing_rows K) (pV 0) pNil)) (tN 2) qYes (pStM joinD (pC (.str ",")) (pBo 2)) [2])))
  (sRet (eP (pStM joinD (pC (.str "\n")) (pBo 1))))))
end PG

set_option Elab.async false
set_option linter.all false
set_option maxRecDepth 100000
set_option maxHeartbeats 4000000
namespace PG
open PySem PySem.Spec L2 DD FB
section
variable {K : PySem.W.Frag} {G : DG} {Q : D → DG → Prop} {E : DX → DG → Prop}
theorem seq_in {t u : DTS} {N : DEnds} {δ : DSt} {G : DG} (h : t { N with nx := u N } δ G) : sSeq t u N δ G := h
theorem pf1 {F : List D → DG → Option D} {ds : List D} (h : pf F ds G Q E) : ∃ z, F ds G = some z ∧ Q z G := onO_iff.mp h
theorem eq_str (a b : Str) : eqD (.str a) (.str b) = some (.bl (a == b)) := rfl
theorem p_cell_text (ds : List D) (G : DG) (Q : D → DG → Prop) (E : DX → DG → Prop) (h : f_cell_text K ds G Q E) : tb_cell_text K (fnEnds Q E) (dstart N_cell_text ds) G := by
  obtain ⟨z, hz, q⟩ := pf1 h
  unfold F_cell_text at hz
  split at hz
  · rename_i x
    cases hz
    show tb_cell_text K (fnEnds Q E) [some (.v (.str x))] G
    have h1 : (pTst (pBin eqD (pBo 0) (pC (.str "")))) [some (.v (.str x))] G = some (x == "") := rfl
    by_cases e : x = ""
    · refine onO_of (pIfE_t (by rw [h1, e]; rfl) rfl) ?_
      unfold cellT at q
      rw [if_pos e] at q
      exact q
    · refine onO_of (pIfE_f (by rw [h1]; congr 1; simpa using e) rfl) ?_
      unfold cellT at q
      rw [if_neg e] at q
      exact q
  · cases hz
theorem F_cellt (K : PySem.W.Frag) (x : Str) : F_cell_text K [.str x] G = some (.str (cellT x)) := rfl
theorem p_words_of_test (ds : List D) (G : DG) (Q : D → DG → Prop) (E : DX → DG → Prop) (h : f_words_of_test K ds G Q E) : tb_words_of_test K (fnEnds Q E) (dstart N_words_of_test ds) G := by
  obtain ⟨z, hz, q⟩ := pf1 h
  unfold F_words_of_test at hz
  split at hz
  · obtain ⟨t, ht, hz2⟩ := bO_iff.mp hz
    clear hz
    obtain ⟨hs, rfl⟩ := dec_iff ht
    cases hz2
    show tb_words_of_test K (fnEnds Q E) [some (.v (eT t))] G
    cases t with
    | same c w => cases w <;> exact q
    | is c x w => cases w <;> exact q
  · cases hz
theorem cellT_len {x : Str} (h : x.length ≤ 20) : (cellT x).length ≤ 20 := by
  unfold cellT
  split
  · exact show 1 ≤ 20 by decide
  · exact h
theorem testW_len {t : Tst} (h : smT t) : (testW t).length ≤ 4 ∧ ∀ z ∈ testW t, z.length ≤ 20 := by
  cases t with
  | same c w =>
    refine ⟨by simp [testW], fun z hz => ?_⟩
    have hc : c.length ≤ 20 := h
    simp only [testW, List.mem_cons, List.not_mem_nil, or_false] at hz
    rcases hz with rfl | rfl | rfl
    · decide
    · exact hc
    · cases w <;> decide
  | is c x w =>
    refine ⟨by simp [testW], fun z hz => ?_⟩
    obtain ⟨hc, hx⟩ : c.length ≤ 20 ∧ x.length ≤ 20 := h
    simp only [testW, List.mem_cons, List.not_mem_nil, or_false] at hz
    rcases hz with rfl | rfl | rfl | rfl
    · decide
    · exact hc
    · cases w <;> decide
    · exact cellT_len hx
theorem stepT_len {s : Stp} (h : smP s) : (stepT s).length ≤ 200 := by
  have two : ∀ a c : Str, a.length ≤ 20 → c.length ≤ 20 → (Str.join " " [a, c]).length ≤ 200 := fun a c h1 h2 => by
    have := join_le (a := " ") (m := 20) (n := 2) (k := 1) (zs := [a, c]) (by simp [h1, h2]) (by simp) (by decide)
    omega
  have five : ∀ (a : Str) (t : Tst), a.length ≤ 20 → smT t → (Str.join " " (a :: testW t)).length ≤ 200 := fun a t h1 h2 => by
    obtain ⟨h3, h4⟩ := testW_len h2
    have := join_le (a := " ") (m := 20) (n := 5) (k := 1) (zs := a :: testW t) (fun z hz => by
      rcases List.mem_cons.mp hz with rfl | hz
      · exact h1
      · exact h4 z hz) (by simpa using h3) (by decide)
    omega
  cases s with
  | word x =>
    have := cellT_len (x := x) h
    show ("word " ++ cellT x).length ≤ 200
    rw [app_len]
    have e : ("word " : Str).length = 5 := by decide
    omega
  | label => exact show 5 ≤ 200 by decide
  | next => exact show 4 ≤ 200 by decide
  | nextT t => exact five _ t (by decide) h
  | skip t => exact five _ t (by decide) h
  | _ => all_goals exact two _ _ (by decide) h
theorem p_step_text (ds : List D) (G : DG) (Q : D → DG → Prop) (E : DX → DG → Prop) (h : f_step_text K ds G Q E) : tb_step_text K (fnEnds Q E) (dstart N_step_text ds) G := by
  obtain ⟨z, hz, q⟩ := pf1 h
  unfold F_step_text at hz
  split at hz
  · obtain ⟨s, ht, hz2⟩ := bO_iff.mp hz
    clear hz
    obtain ⟨hs, rfl⟩ := dec_iff ht
    cases hz2
    show tb_step_text K (fnEnds Q E) [some (.v (eP' s))] G
    have two : ∀ a c : Str, a.length ≤ 20 → c.length ≤ 20 → joinD (.str " ") [.tup [.str a, .str c]] = some (.str (Str.join " " [a, c])) := fun a c h1 h2 => join_okT (zs := [a, c]) (m := 20) (n := 2) (k := 1) (by simp [h1, h2]) (by simp) (by decide) (by decide)
    have five : ∀ (a : Str) (t : Tst), a.length ≤ 20 → smT t → (pStM joinD (pC (.str " ")) (pLst (pChk (pCons (pBin ixD (pBo 0) (pC (.int 0))) (pConsS (pFn (F_words_of_test K) (pCons (pBin ixD (pBo 0) (pC (.int 1))) pNil)) pNil))))) [some (.v (.tup [.str a, eT t]))] G = some (.str (Str.join " " (a :: testW t))) := fun a t h1 h2 => by
      obtain ⟨h3, h4⟩ := testW_len h2
      refine pStM_of rfl (pLst_of (pChk_of (pCons_of (x := .str a) rfl (pConsS_of (x := .lst ((testW t).map D.str)) (ys := []) (pFn_of (xs := [eT t]) rfl (F_words h2)) rfl rfl)) (by simp; omega))) ?_
      rw [List.append_nil]
      exact join_ok (zs := a :: testW t) (m := 20) (n := 5) (k := 1) (fun z hz => by
        rcases List.mem_cons.mp hz with rfl | hz
        · exact h1
        · exact h4 z hz) (by simpa using h3) (by decide) (by decide)
    cases s with
    | put c => exact onO_of (two "put" c (by decide) hs) q
    | keep c => exact onO_of (two "keep" c (by decide) hs) q
    | say c => exact onO_of (two "say" c (by decide) hs) q
    | first c => exact onO_of (two "first" c (by decide) hs) q
    | label => exact q
    | next => exact q
    | word x =>
      have h1 : (pFmt (pFn (F_cell_text K) (pCons (pBin ixD (pBo 0) (pC (.int 1))) pNil))) [some (.v (.tup [.str "word", .str x]))] G = some (.str (cellT x)) := pFmt_of (pFn_of (xs := [.str x]) rfl rfl) (by have := cellT_len (x := x) hs; omega)
      exact onO_of (pJs2_of (s := "word ") rfl h1 (by decide) (by have := cellT_len (x := x) hs; omega)) q
    | nextT t => exact onO_of (five "next" t (by decide) hs) q
    | skip t => exact onO_of (five "skip" t (by decide) hs) q
  · cases hz
theorem cols_join {cs : List Str} (h : colsOk cs = true) : (Str.join "," cs).length ≤ 45 ∧ joinD (.str ",") [eC cs] = some (.str (Str.join "," cs)) := by
  have l := cols_len h
  have hn := fun c hc => name_len ((cols_is h).2 c hc)
  exact ⟨join_le (m := 8) (n := 5) (k := 1) hn l.2 (by decide), join_okT (m := 8) (n := 5) (k := 1) hn l.2 (by decide) (by decide)⟩
theorem row_join {n : Nat} {r : List Str} (h : rowOk n r = true) (hn : n ≤ 5) : (Str.join "," r).length ≤ 105 ∧ joinD (.str ",") [eC r] = some (.str (Str.join "," r)) := by
  have l := row_len h
  have hc := fun c hc => cell_len (row_cells h c hc)
  exact ⟨join_le (m := 20) (n := 5) (k := 1) hc (by omega) (by decide), join_okT (m := 20) (n := 5) (k := 1) hc (by omega) (by decide) (by decide)⟩
theorem p_form_text (ds : List D) (G : DG) (Q : D → DG → Prop) (E : DX → DG → Prop) (h : f_form_text K ds G Q E) : tb_form_text K (fnEnds Q E) (dstart N_form_text ds) G := by
  obtain ⟨z, hz, q⟩ := pf1 h
  unfold F_form_text at hz
  split at hz
  · obtain ⟨⟨cs, st⟩, ht, hz2⟩ := bO_iff.mp hz
    clear hz
    obtain ⟨hs, rfl⟩ := dec_iff ht
    cases hz2
    show tb_form_text K (fnEnds Q E) [some (.v (eFm K cs st)), none] G
    obtain ⟨hc, h1, h16, hst⟩ := hs
    simp only at hc h1 h16 hst
    obtain ⟨c1, c2⟩ := cols_join hc
    have t1 : (pStM joinD (pC (.str ",")) (pMt (He.ga K "Form") "columns" (F_Form_columns K) (pV 0) pNil)) [some (.v (eFm K cs st)), none] G = some (.str (Str.join "," cs)) := pStM_of rfl (fm_cols rfl) c2
    have t2 : (pLst (pLc (piSeq (pMt (He.ga K "Form") "steps" (F_Form_steps K) (pV 0) pNil)) (tN 1) qYes (pFn (F_step_text K) (pCons (pV 1) pNil)) [1])) [some (.v (eFm K cs st)), none] G = some (.lst ((st.map stepT).map D.str)) := by
      refine pLst_of (pLc_of (xs := st.map eP') (piSeq_of (fm_steps rfl) rfl) rfl (by simp; omega) ?_)
      rw [List.map_map]
      refine lcP_mapT eP' (fun s => D.str (stepT s)) st fun s hs2 => ⟨_, rfl, rfl, ?_⟩
      exact pFn_of (xs := [eP' s]) rfl (F_stept (sm_step hc (hst s hs2)))
    refine onO_of (pStM_of rfl (pLst_of (pChk_of (pCons_of t1 (pConsS_of (ys := []) t2 rfl rfl)) (by simp; omega))) ?_) q
    rw [List.append_nil]
    refine join_ok (zs := Str.join "," cs :: st.map stepT) (m := 200) (n := 17) (k := 2) (fun z hz => ?_) (by simp; omega) (by decide) (by decide)
    rcases List.mem_cons.mp hz with rfl | hz
    · omega
    · obtain ⟨s, hs2, rfl⟩ := List.mem_map.mp hz
      exact stepT_len (sm_step hc (hst s hs2))
  · cases hz
theorem p_listing_text (ds : List D) (G : DG) (Q : D → DG → Prop) (E : DX → DG → Prop) (h : f_listing_text K ds G Q E) : tb_listing_text K (fnEnds Q E) (dstart N_listing_text ds) G := by
  obtain ⟨z, hz, q⟩ := pf1 h
  unfold F_listing_text at hz
  split at hz
  · rename_i x
    split at hz
    · rename_i hh
      cases hz
      obtain ⟨hx, hc, ho, hl⟩ := hh.choose_spec
      generalize hh.choose = p at q hx hc ho hl
      obtain ⟨cs, rs⟩ := p
      simp only at q hx hc ho hl
      show tb_listing_text K (fnEnds Q E) [some (.v x), none, none] G
      obtain ⟨c1, c2⟩ := cols_join hc
      have l5 := (cols_len hc).2
      have t1 : ∀ δ : DSt, (pV 0) δ G = some x → (pStM joinD (pC (.str ",")) (pMt (He.ga K "Listing") "columns" (F_Listing_columns K) (pV 0) pNil)) δ G = some (.str (Str.join "," cs)) := fun δ h => pStM_of rfl (ls_cols h hx) c2
      refine onO_of (pCons_of (t1 _ rfl) rfl) ?_
      dsimp only [List.set]
      have t2 : ∀ s1 : Option SV, (pLc (piSeq (pMt (He.ga K "Listing") "rows" (F_Listing_rows K) (pV 0) pNil)) (tN 2) qYes (pStM joinD (pC (.str ",")) (pBo 2)) [2]) [some (.v x), s1, none] G = some ((rs.map (Str.join ",")).map D.str) := fun s1 => by
        refine pLc_of (xs := eRs rs) (piSeq_of (ls_rows rfl hx) rfl) rfl (by simp [eRs]; omega) ?_
        rw [List.map_map]
        exact lcP_mapT eC (fun r => D.str (Str.join "," r)) rs fun r hr => ⟨_, rfl, rfl, pStM_of rfl rfl (row_join (ho r hr) l5).2⟩
      refine seq_in ?_
      refine onO_of (z := [.str (Str.join "," cs)]) rfl ?_
      refine onO_of (t2 _) ?_
      refine brP_t (lenLe_iff.mpr (by simp; omega)) ?_
      dsimp only [List.set]
      refine onO_of (pStM_of (y := .lst ((Str.join "," cs :: rs.map (Str.join ",")).map D.str)) rfl rfl ?_) q
      refine join_ok (zs := Str.join "," cs :: rs.map (Str.join ",")) (m := 105) (n := 10001) (k := 1) (fun z hz => ?_) (by simp; omega) (by decide) (by decide)
      rcases List.mem_cons.mp hz with rfl | hz
      · omega
      · obtain ⟨r, hr, rfl⟩ := List.mem_map.mp hz
        exact (row_join (ho r hr) l5).1
    · cases hz
  · cases hz
end
end PG

set_option Elab.async false
set_option linter.all false
set_option maxRecDepth 100000
set_option maxHeartbeats 4000000
namespace FB
open PySem PySem.Spec L2 DD PG
/-! ### texts as the laws write them -/
noncomputable def F__law_part (K : PySem.W.Frag) : List D → DG → Option D := fun ds _ => match ds with
  | [x] => bO (dec eP' smP x) fun s => some (.str (stepT s))
  | _ => none
noncomputable def F__law_form_text (K : PySem.W.Frag) : List D → DG → Option D := fun ds _ => match ds with
  | [x, y] => bO (dec eC (fun cs => colsOk cs = true) x) fun cs => bO (dec eF (formOk cs) y) fun st => some (.str (formT cs st))
  | _ => none
noncomputable def F__law_listing_text (K : PySem.W.Frag) : List D → DG → Option D := fun ds G => match ds with
  | [x, y] => bO (dec eC (fun cs => colsOk cs = true) x) fun cs => bO (derD y G) fun y' => bO (dec (fun rs => D.lst (eRs rs)) (fun rs => rowsOk cs.length rs ∧ rs.length ≤ 1000) y') fun rs => some (.str (listT cs rs))
  | _ => none
/-- a list of the very rows that are expected -/
noncomputable def F__law_same_rows (K : PySem.W.Frag) : List D → DG → Option D := fun ds G => match ds with
  | [x, y] => bO (derD y G) fun y' => bO (dec (fun rs => D.lst (eRs rs)) (fun rs => rs.length ≤ 1000 ∧ ∀ r ∈ rs, r.length ≤ 5) y') fun rs => bO (dec (fun rs => D.lst (eRs rs)) (fun r2 => r2 = rs) x) fun _ => some (.bl true)
  | _ => none
noncomputable abbrev f__law_part (K : PySem.W.Frag) : Fn := pf (F__law_part K)
noncomputable abbrev f__law_form_text (K : PySem.W.Frag) : Fn := pf (F__law_form_text K)
noncomputable abbrev f__law_same_rows (K : PySem.W.Frag) : Fn := pf (F__law_same_rows K)
noncomputable abbrev f__law_listing_text (K : PySem.W.Frag) : Fn := pf (F__law_listing_text K)
section
variable {K : PySem.W.Frag} {ds : List D} {G : DG} {Q : D → DG → Prop} {E : DX → DG → Prop}
theorem lenP {n : Nat} {F : List D → DG → Option D} (hF : ∀ ds z, F ds G = some z → ds.length = n) (h : pf F ds G Q E) : ds.length = n := by
  obtain ⟨z, hz, q⟩ := onO_iff.mp h
  exact hF _ _ hz
theorem len__law_part (h : f__law_part K ds G Q E) : ds.length = 1 := lenP (fun ds z hz => by unfold F__law_part at hz; split at hz; rfl; cases hz) h
theorem len__law_form_text (h : f__law_form_text K ds G Q E) : ds.length = 2 := lenP (fun ds z hz => by unfold F__law_form_text at hz; split at hz; rfl; cases hz) h
theorem len__law_listing_text (h : f__law_listing_text K ds G Q E) : ds.length = 2 := lenP (fun ds z hz => by unfold F__law_listing_text at hz; split at hz; rfl; cases hz) h
theorem len__law_same_rows (h : f__law_same_rows K ds G Q E) : ds.length = 2 := lenP (fun ds z hz => by unfold F__law_same_rows at hz; split at hz; rfl; cases hz) h
theorem F_part {s : Stp} (h : smP s) : F__law_part K [eP' s] G = some (.str (stepT s)) := by
  show bO (dec eP' smP (eP' s)) _ = _
  rw [dec_of inj_P h]; rfl
theorem F_ltext {cs : List Str} {st : List Stp} (h : formOk cs st) : F__law_form_text K [eC cs, eF st] G = some (.str (formT cs st)) := by
  show bO (dec eC (fun cs => colsOk cs = true) (eC cs)) _ = _
  rw [dec_of inj_C h.1, bO_some rfl, dec_of inj_F h]; rfl
theorem inj_LR : ∀ a b : List (List Str), D.lst (eRs a) = D.lst (eRs b) → a = b := fun a b h => inj_Rs a b (by simpa using h)
theorem der_lst {ds : List D} : derD (.lst ds) G = some (.lst ds) := rfl
theorem der_ref {b : Addr} {ds : List D} (h : G b = some (.mls ds)) : derD (.ref b) G = some (.lst ds) := by
  show (match G b with | some (.mls ds) => some (D.lst ds) | _ => some (.ref b)) = _
  rw [h]
theorem F_srows {y : D} {rs : List (List Str)} (hy : derD y G = some (.lst (eRs rs))) (hl : rs.length ≤ 1000) (h5 : ∀ r ∈ rs, r.length ≤ 5) : F__law_same_rows K [.lst (eRs rs), y] G = some (.bl true) := by
  show bO (derD y G) _ = _
  rw [hy, bO_some rfl, dec_of inj_LR ⟨hl, h5⟩, bO_some rfl, dec_of (P := fun r2 => r2 = rs) inj_LR rfl]; rfl
theorem F_llistD {y : D} {cs : List Str} {rs : List (List Str)} (hy : derD y G = some (.lst (eRs rs))) (hc : colsOk cs = true) (ho : rowsOk cs.length rs) (hl : rs.length ≤ 1000) : F__law_listing_text K [eC cs, y] G = some (.str (listT cs rs)) := by
  show bO (dec eC (fun cs => colsOk cs = true) (eC cs)) _ = _
  rw [dec_of inj_C hc, bO_some rfl, hy, bO_some rfl, dec_of inj_LR ⟨ho, hl⟩]; rfl
theorem F_llist {cs : List Str} {rs : List (List Str)} (hc : colsOk cs = true) (ho : rowsOk cs.length rs) (hl : rs.length ≤ 1000) : F__law_listing_text K [eC cs, .lst (eRs rs)] G = some (.str (listT cs rs)) := F_llistD rfl hc ho hl
/-! ### pools of cells, rows -/
@[irreducible] def f__law_pool (K : PySem.W.Frag) : Fn := fun ds G Q _ => ∃ (a : Addr) (c : Nat), ds = [.ref a] ∧ G a = some (.jar c) ∧ c + 200 ≤ 2 ^ 62 ∧ ∀ ps : List Str, 1 ≤ ps.length → ps.length ≤ 6 → (∀ x ∈ ps, cellS x = true) → Q (.lst (ps.map D.str)) (gset G a (some (.jar (c + 200))))
@[irreducible] def f__law_rows (K : PySem.W.Frag) : Fn := fun ds G Q _ => ∃ (a : Addr) (cs ps : List Str) (m c : Nat), ds = [.ref a, eC cs, .lst (ps.map D.str), .int m] ∧ G a = some (.jar c) ∧ cs.length ≤ 5 ∧ 1 ≤ ps.length ∧ ps.length ≤ 6 ∧ (∀ x ∈ ps, cellS x = true) ∧ 1 ≤ m ∧ m ≤ 100 ∧ c + 1000 ≤ 2 ^ 62 ∧
  ∀ rs, rowsOk cs.length rs → rs.length ≤ m → Q (.lst (eRs rs)) (gset G a (some (.jar (c + 1000))))
@[irreducible] def f__law_rowsM (K : PySem.W.Frag) : Fn := fun ds G Q _ => ∃ (a : Addr) (cs ps : List Str) (m c : Nat), ds = [.ref a, eC cs, .lst (ps.map D.str), .int m] ∧ G a = some (.jar c) ∧ cs.length ≤ 5 ∧ 1 ≤ ps.length ∧ ps.length ≤ 6 ∧ (∀ x ∈ ps, cellS x = true) ∧ 1 ≤ m ∧ m ≤ 100 ∧ c + 1000 ≤ 2 ^ 62 ∧
  ∀ rs, rowsOk cs.length rs → rs.length ≤ m → ∀ b, G b = none → Q (.ref b) (gset (gset G a (some (.jar (c + 1000)))) b (some (.mls (eRs rs))))
theorem len__law_pool (h : f__law_pool K ds G Q E) : ds.length = 1 := by unfold f__law_pool at h; obtain ⟨_, _, rfl, _⟩ := h; rfl
theorem len__law_rows (h : f__law_rows K ds G Q E) : ds.length = 4 := by unfold f__law_rows at h; obtain ⟨_, _, _, _, _, rfl, _⟩ := h; rfl
theorem len__law_rowsM (h : f__law_rowsM K ds G Q E) : ds.length = 4 := by unfold f__law_rowsM at h; obtain ⟨_, _, _, _, _, rfl, _⟩ := h; rfl
variable {a : Addr} {c : Nat}
theorem c_pool (hc : c + 200 ≤ 2 ^ 62) (q : ∀ ps : List Str, 1 ≤ ps.length → ps.length ≤ 6 → (∀ x ∈ ps, cellS x = true) → Q (.lst (ps.map D.str)) (gset G a (some (.jar (c + 200))))) : f__law_pool K [.ref a] (gset G a (some (.jar c))) Q E := by
  unfold f__law_pool
  exact ⟨a, c, rfl, gset_same, hc, fun ps h1 h2 h3 => by rw [gset_gset]; exact q ps h1 h2 h3⟩
theorem c_rows {cs ps : List Str} {m : Nat} (h5 : cs.length ≤ 5) (p1 : 1 ≤ ps.length) (p6 : ps.length ≤ 6) (hp : ∀ x ∈ ps, cellS x = true) (m1 : 1 ≤ m) (hm : m ≤ 100) (hc : c + 1000 ≤ 2 ^ 62) (q : ∀ rs, rowsOk cs.length rs → rs.length ≤ m → Q (.lst (eRs rs)) (gset G a (some (.jar (c + 1000))))) : f__law_rows K [.ref a, eC cs, .lst (ps.map D.str), .int m] (gset G a (some (.jar c))) Q E := by
  unfold f__law_rows
  exact ⟨a, cs, ps, m, c, rfl, gset_same, h5, p1, p6, hp, m1, hm, hc, fun rs h1 h2 => by rw [gset_gset]; exact q rs h1 h2⟩
theorem c_rowsM {cs ps : List Str} {m : Nat} (h5 : cs.length ≤ 5) (p1 : 1 ≤ ps.length) (p6 : ps.length ≤ 6) (hp : ∀ x ∈ ps, cellS x = true) (m1 : 1 ≤ m) (hm : m ≤ 100) (hc : c + 1000 ≤ 2 ^ 62) (q : ∀ rs, rowsOk cs.length rs → rs.length ≤ m → ∀ b, b ≠ a → G b = none → Q (.ref b) (gset (gset G a (some (.jar (c + 1000)))) b (some (.mls (eRs rs))))) : f__law_rowsM K [.ref a, eC cs, .lst (ps.map D.str), .int m] (gset G a (some (.jar c))) Q E := by
  unfold f__law_rowsM
  refine ⟨a, cs, ps, m, c, rfl, gset_same, h5, p1, p6, hp, m1, hm, hc, fun rs h1 h2 b hb => ?_⟩
  have ne : b ≠ a := fun e => by rw [e, gset_same] at hb; cases hb
  rw [gset_gset]
  exact q rs h1 h2 b ne (by rw [gset_ne ne] at hb; exact hb)
end
end FB

set_option Elab.async false
set_option linter.all false
set_option maxRecDepth 100000
set_option maxHeartbeats 0
namespace FB
open PySem PySem.Spec L2 DD PG
abbrev N__law_part : List Str := ["_law_step_here", "_law_thing"]
def tb__law_part (K : PySem.W.Frag) : DTS := (sSeq (zIf (tP (pTst (pBin eqD (pCallB lenD (pCons (pBo 0) pNil)) (pC (.int 1)))))
  (sRet (eP (pBin ixD (pBo 0) (pC (.int 0)))))
  sNext)
  (sSeq (sSet 1 (eP (pBin ixD (pBo 0) (pC (.int 1)))))
  (sSeq (zIf (tP (pTru (pIsi .tup (pBo 1))))
  (sSeq (zIf (tP (pTst (pBin eqD (pBin ixD (pBo 1) (pC (.int 0))) (pC (.str "same")))))
  (sRet (eP (pBin addD (pBin addD (pBin addD (pBin ixD (pBo 0) (pC (.int 0))) (pC (.str " if "))) (pBin ixD (pBo 1) (pC (.int 1)))) (pIfE (pTru (pBin ixD (pBo 1) (pC (.int 2)))) (pC (.str " same")) (pC (.str " other"))))))
  sNext)
  (sRet (eP (pBin addD (pBin addD (pBin addD (pBin addD (pBin ixD (pBo 0) (pC (.int 0))) (pC (.str " if "))) (pBin ixD (pBo 1) (pC (.int 1)))) (pIfE (pTru (pBin ixD (pBo 1) (pC (.int 3)))) (pC (.str " is ")) (pC (.str " not ")))) (pIfE (pTst (pBin neD (pBin ixD (pBo 1) (pC (.int 2))) (pC (.str "")))) (pBin ixD (pBo 1) (pC (.int 2))) (pC (.str ".")))))))
  sNext)
  (sRet (eP (pBin addD (pBin addD (pBin ixD (pBo 0) (pC (.int 0))) (pC (.str " "))) (pIfE (qAnd (pTst (pBin eqD (pBin ixD (pBo 0) (pC (.int 0))) (pC (.str "word")))) (pTst (pBin eqD (pBo 1) (pC (.str ""))))) (pC (.str ".")) (pV 1))))))))
abbrev N__law_form_text : List Str := ["_law_heads", "_law_chain_here", "_law_step_here"]
def tb__law_form_text (K : PySem.W.Frag) : DTS := (sRet (eP (pStM joinD (pC (.str "; ")) (pLst (pCat (pLst (pCons (pStM joinD (pC (.str ",")) (pBo 0)) pNil)) (pLst (pLc (piSeq (pV 1)) (tN 2) qYes (pFn (F__law_part K) (pCons (pV 2) pNil)) [2])))))))
abbrev N__law_listing_text : List Str := ["_law_heads", "_law_rows_here", "_law_line"]
def tb__law_listing_text (K : PySem.W.Frag) : DTS := (sRet (eP (pStM joinD (pC (.str "\n")) (pLst (pLc (piSeq (pLst (pCat (pLst (pCons (pV 0) pNil)) (pDer (pV 1))))) (tN 2) qYes (pStM joinD (pC (.str ",")) (pBo 2)) [2])))))
abbrev N__law_same_rows : List Str := ["_law_actual", "_law_rows_here", "_law_k"]
def tb__law_same_rows (K : PySem.W.Frag) : DTS := (sSeq (zIf (tP (qOr (qNot (pTru (pIsi .lst (pBo 0)))) (pTst (pBin neD (pCallB lenD (pCons (pBo 0) pNil)) (pCallB lenD (pCons (pDer (pV 1)) pNil))))))
  (sRet (eP (pC (.bl false))))
  sNext)
  (sSeq (sFor (aP (piR1 (pCallB lenD (pCons (pDer (pV 1)) pNil)))) (gP (tN 2))
  (zIf (tP (qNot (pTru (pFn (F__law_same K 4) (pCons (pBin ixD (pBo 0) (pBo 2)) (pCons (pBin ixD (pDer (pV 1)) (pBo 2)) pNil))))))
  (sRet (eP (pC (.bl false))))
  sNext))
  (sRet (eP (pC (.bl true))))))
abbrev N__law_pool : List Str := ["_law_well_here", "_law_k"]
def tb__law_pool (K : PySem.W.Frag) : DTS := (sRet (dFrz (zLc (iRg1 (dCons (zBinV addD (eP (pC (.int 1))) (dCall (f__law_draw K) (aP (pCons (pV 0) (pCons (pC (.int 6)) pNil))))) dNil)) (gP (tN 1)) (tP qYes) (dCall (f__law_cell K) (aP (pCons (pV 0) pNil))) [1])))
end FB

set_option Elab.async false
set_option linter.all false
set_option maxRecDepth 100000
set_option maxHeartbeats 4000000
namespace FB
open PySem PySem.Spec L2 DD PG
section
variable {K : PySem.W.Frag} {G : DG} {Q : D → DG → Prop} {E : DX → DG → Prop}
theorem lit_if : (" if " : Str) = " " ++ ("if" ++ " ") := by decide
theorem lit_same : (" same" : Str) = " " ++ "same" := by decide
theorem lit_other : (" other" : Str) = " " ++ "other" := by decide
theorem lit_is : (" is " : Str) = " " ++ ("is" ++ " ") := by decide
theorem lit_not : (" not " : Str) = " " ++ ("not" ++ " ") := by decide
theorem p__law_part (ds : List D) (G : DG) (Q : D → DG → Prop) (E : DX → DG → Prop) (h : f__law_part K ds G Q E) : tb__law_part K (fnEnds Q E) (dstart N__law_part ds) G := by
  obtain ⟨z, hz, q⟩ := pf1 h
  unfold F__law_part at hz
  split at hz
  · obtain ⟨s, ht, hz2⟩ := bO_iff.mp hz
    clear hz
    obtain ⟨hs, rfl⟩ := dec_iff ht
    cases hz2
    show tb__law_part K (fnEnds Q E) [some (.v (eP' s)), none] G
    have ap : ∀ (p r : PX) (δ : DSt) (a c : Str) , p δ G = some (.str a) → r δ G = some (.str c) → a.length + c.length ≤ 1000 → (pBin addD p r) δ G = some (.str (a ++ c)) := fun p r δ a c h1 h2 h3 => pBin_of h1 h2 (add_str (by omega))
    have e1 : (" " : Str).length = 1 := by decide
    have e4 : (" if " : Str).length = 4 := by decide
    have two : ∀ (a c : Str) (δ : DSt) (p0 p1 : PX), p0 δ G = some (.str a) → p1 δ G = some (.str c) → a.length ≤ 20 → c.length ≤ 20 → (pBin addD (pBin addD p0 (pC (.str " "))) p1) δ G = some (.str (Str.join " " [a, c])) := fun a c δ p0 p1 h0 h1 l0 l1 =>
      ap _ _ δ (a ++ " ") c (ap _ _ δ a " " h0 rfl (by omega)) h1 (by rw [app_len]; omega)
    have same : ∀ (k c : Str) (w : Bool), ((k ++ " if ") ++ c) ++ (if w = true then (" same" : Str) else " other") = Str.join " " (k :: testW (.same c w)) := fun k c w => by
      show _ = k ++ " " ++ ("if" ++ " " ++ (c ++ " " ++ (if w = true then ("same" : Str) else "other")))
      cases w
      · simp only [Bool.false_eq_true, if_false, lit_if, lit_other, str_assoc]
      · simp only [if_true, lit_if, lit_same, str_assoc]
    have isis : ∀ (k c x : Str) (w : Bool), (((k ++ " if ") ++ c) ++ (if w = true then (" is " : Str) else " not ")) ++ cellT x = Str.join " " (k :: testW (.is c x w)) := fun k c x w => by
      show _ = k ++ " " ++ ("if" ++ " " ++ (c ++ " " ++ ((if w = true then ("is" : Str) else "not") ++ " " ++ cellT x)))
      cases w
      · simp only [Bool.false_eq_true, if_false, lit_if, lit_not, str_assoc]
      · simp only [if_true, lit_if, lit_is, str_assoc]
    have sameT : ∀ (k c : Str) (w : Bool), k.length ≤ 20 → c.length ≤ 20 → (pBin addD (pBin addD (pBin addD (pBin ixD (pBo 0) (pC (.int 0))) (pC (.str " if "))) (pBin ixD (pBo 1) (pC (.int 1)))) (pIfE (pTru (pBin ixD (pBo 1) (pC (.int 2)))) (pC (.str " same")) (pC (.str " other")))) [some (.v (.tup [.str k, eT (.same c w)])), some (.v (eT (.same c w)))] G = some (.str (Str.join " " (k :: testW (.same c w)))) := fun k c w hk hc => by
      have a1 := ap (pBin ixD (pBo 0) (pC (.int 0))) (pC (.str " if ")) [some (.v (.tup [.str k, eT (.same c w)])), some (.v (eT (.same c w)))] k " if " rfl rfl (by omega)
      have a2 := ap _ (pBin ixD (pBo 1) (pC (.int 1))) _ _ c a1 rfl (by rw [app_len]; omega)
      have a3 := ap _ (pIfE (pTru (pBin ixD (pBo 1) (pC (.int 2)))) (pC (.str " same")) (pC (.str " other"))) _ _ (if w = true then (" same" : Str) else " other") a2 (by cases w <;> rfl) (by
        have : (if w = true then (" same" : Str) else " other").length ≤ 6 := by cases w <;> decide
        rw [app_len, app_len]; omega)
      rw [same k c w] at a3
      exact a3
    have isT : ∀ (k c x : Str) (w : Bool), k.length ≤ 20 → c.length ≤ 20 → x.length ≤ 20 → (pBin addD (pBin addD (pBin addD (pBin addD (pBin ixD (pBo 0) (pC (.int 0))) (pC (.str " if "))) (pBin ixD (pBo 1) (pC (.int 1)))) (pIfE (pTru (pBin ixD (pBo 1) (pC (.int 3)))) (pC (.str " is ")) (pC (.str " not ")))) (pIfE (pTst (pBin neD (pBin ixD (pBo 1) (pC (.int 2))) (pC (.str "")))) (pBin ixD (pBo 1) (pC (.int 2))) (pC (.str ".")))) [some (.v (.tup [.str k, eT (.is c x w)])), some (.v (eT (.is c x w)))] G = some (.str (Str.join " " (k :: testW (.is c x w)))) := fun k c x w hk hc hx => by
      have a1 := ap (pBin ixD (pBo 0) (pC (.int 0))) (pC (.str " if ")) [some (.v (.tup [.str k, eT (.is c x w)])), some (.v (eT (.is c x w)))] k " if " rfl rfl (by omega)
      have a2 := ap _ (pBin ixD (pBo 1) (pC (.int 1))) _ _ c a1 rfl (by rw [app_len]; omega)
      have hw : (if w = true then (" is " : Str) else " not ").length ≤ 6 := by cases w <;> decide
      have a3 := ap _ (pIfE (pTru (pBin ixD (pBo 1) (pC (.int 3)))) (pC (.str " is ")) (pC (.str " not "))) _ _ (if w = true then (" is " : Str) else " not ") a2 (by cases w <;> rfl) (by rw [app_len, app_len]; omega)
      have h4 : (pIfE (pTst (pBin neD (pBin ixD (pBo 1) (pC (.int 2))) (pC (.str "")))) (pBin ixD (pBo 1) (pC (.int 2))) (pC (.str "."))) [some (.v (.tup [.str k, eT (.is c x w)])), some (.v (eT (.is c x w)))] G = some (.str (cellT x)) := by
        have t0 : (pTst (pBin neD (pBin ixD (pBo 1) (pC (.int 2))) (pC (.str "")))) [some (.v (.tup [.str k, eT (.is c x w)])), some (.v (eT (.is c x w)))] G = some (!(x == "")) := rfl
        unfold cellT
        by_cases e : x = ""
        · rw [if_pos e]
          exact pIfE_f (by rw [t0, e]; rfl) rfl
        · rw [if_neg e]
          exact pIfE_t (by rw [t0]; congr 1; simpa using e) rfl
      have a4 := ap _ _ _ _ _ a3 h4 (by have := cellT_len hx; rw [app_len, app_len, app_len]; omega)
      rw [isis k c x w] at a4
      exact a4
    cases s with
    | put c => exact onO_of (two "put" c [some (.v (eP' (.put c))), some (.v (.str c))] _ _ rfl rfl (by decide) hs) q
    | keep c => exact onO_of (two "keep" c [some (.v (eP' (.keep c))), some (.v (.str c))] _ _ rfl rfl (by decide) hs) q
    | say c => exact onO_of (two "say" c [some (.v (eP' (.say c))), some (.v (.str c))] _ _ rfl rfl (by decide) hs) q
    | first c => exact onO_of (two "first" c [some (.v (eP' (.first c))), some (.v (.str c))] _ _ rfl rfl (by decide) hs) q
    | label => exact q
    | next => exact q
    | word x =>
      have h4 : (pIfE (qAnd (pTst (pBin eqD (pBin ixD (pBo 0) (pC (.int 0))) (pC (.str "word")))) (pTst (pBin eqD (pBo 1) (pC (.str ""))))) (pC (.str ".")) (pV 1)) [some (.v (eP' (.word x))), some (.v (.str x))] G = some (.str (cellT x)) := by
        have t0 : (qAnd (pTst (pBin eqD (pBin ixD (pBo 0) (pC (.int 0))) (pC (.str "word")))) (pTst (pBin eqD (pBo 1) (pC (.str ""))))) [some (.v (eP' (.word x))), some (.v (.str x))] G = some (x == "") := rfl
        unfold cellT
        by_cases e : x = ""
        · rw [if_pos e]
          exact pIfE_t (by rw [t0, e]; rfl) rfl
        · rw [if_neg e]
          exact pIfE_f (by rw [t0]; congr 1; simpa using e) rfl
      exact onO_of (two "word" (cellT x) [some (.v (eP' (.word x))), some (.v (.str x))] _ _ rfl h4 (by decide) (cellT_len hs)) q
    | nextT t =>
      cases t with
      | same c w => exact onO_of (sameT "next" c w (by decide) hs) q
      | is c x w => exact onO_of (isT "next" c x w (by decide) hs.1 hs.2) q
    | skip t =>
      cases t with
      | same c w => exact onO_of (sameT "skip" c w (by decide) hs) q
      | is c x w => exact onO_of (isT "skip" c x w (by decide) hs.1 hs.2) q
  · cases hz
theorem p__law_form_text (ds : List D) (G : DG) (Q : D → DG → Prop) (E : DX → DG → Prop) (h : f__law_form_text K ds G Q E) : tb__law_form_text K (fnEnds Q E) (dstart N__law_form_text ds) G := by
  obtain ⟨z, hz, q⟩ := pf1 h
  unfold F__law_form_text at hz
  split at hz
  · obtain ⟨cs, h1, hz2⟩ := bO_iff.mp hz
    obtain ⟨st, h2, hz3⟩ := bO_iff.mp hz2
    clear hz hz2
    obtain ⟨hc, rfl⟩ := dec_iff h1
    obtain ⟨ok, rfl⟩ := dec_iff h2
    cases hz3
    show tb__law_form_text K (fnEnds Q E) [some (.v (eC cs)), some (.v (eF st)), none] G
    obtain ⟨_, g1, g16, hst⟩ := ok
    obtain ⟨c1, c2⟩ := cols_join hc
    have t2 : (pLst (pLc (piSeq (pV 1)) (tN 2) qYes (pFn (F__law_part K) (pCons (pV 2) pNil)) [2])) [some (.v (eC cs)), some (.v (eF st)), none] G = some (.lst ((st.map stepT).map D.str)) := by
      refine pLst_of (pLc_of (xs := st.map eP') rfl rfl (by simp; omega) ?_)
      rw [List.map_map]
      exact lcP_mapT eP' (fun s => D.str (stepT s)) st fun s hs2 => ⟨_, rfl, rfl, pFn_of (xs := [eP' s]) rfl (F_part (sm_step hc (hst s hs2)))⟩
    have t3 : (pLst (pCons (pStM joinD (pC (.str ",")) (pBo 0)) pNil)) [some (.v (eC cs)), some (.v (eF st)), none] G = some (.lst [.str (Str.join "," cs)]) := pLst_of (pCons_of (xs := []) (pStM_of rfl rfl c2) rfl)
    have t4 : (pCat (pLst (pCons (pStM joinD (pC (.str ",")) (pBo 0)) pNil)) (pLst (pLc (piSeq (pV 1)) (tN 2) qYes (pFn (F__law_part K) (pCons (pV 2) pNil)) [2]))) [some (.v (eC cs)), some (.v (eF st)), none] G = some ((Str.join "," cs :: st.map stepT).map D.str) := by
      unfold pCat
      rw [t3, t2]
      show (match lenLe 1000000 ([.str (Str.join "," cs)] ++ (st.map stepT).map D.str) with | true => some ([D.str (Str.join "," cs)] ++ (st.map stepT).map D.str) | false => none) = _
      rw [lenLe_iff.mpr (by simp; omega)]
      rfl
    refine onO_of (pStM_of rfl (pLst_of t4) ?_) q
    refine join_ok (zs := Str.join "," cs :: st.map stepT) (m := 200) (n := 17) (k := 2) (fun z hz => ?_) (by simp; omega) (by decide) (by decide)
    rcases List.mem_cons.mp hz with rfl | hz
    · omega
    · obtain ⟨s, hs2, rfl⟩ := List.mem_map.mp hz
      exact stepT_len (sm_step hc (hst s hs2))
  · cases hz
theorem p__law_listing_text (ds : List D) (G : DG) (Q : D → DG → Prop) (E : DX → DG → Prop) (h : f__law_listing_text K ds G Q E) : tb__law_listing_text K (fnEnds Q E) (dstart N__law_listing_text ds) G := by
  obtain ⟨z, hz, q⟩ := pf1 h
  unfold F__law_listing_text at hz
  split at hz
  · rename_i x y
    obtain ⟨cs, h1, hz2⟩ := bO_iff.mp hz
    obtain ⟨y', hy, hz4⟩ := bO_iff.mp hz2
    obtain ⟨rs, h2, hz3⟩ := bO_iff.mp hz4
    clear hz hz2 hz4
    obtain ⟨hc, rfl⟩ := dec_iff h1
    obtain ⟨⟨ho, hl⟩, e⟩ := dec_iff h2
    subst e
    cases hz3
    show tb__law_listing_text K (fnEnds Q E) [some (.v (eC cs)), some (.v y), none] G
    obtain ⟨c1, c2⟩ := cols_join hc
    have l5 := (cols_len hc).2
    have hy2 : (pDer (pV 1)) [some (.v (eC cs)), some (.v y), none] G = some (.lst (eRs rs)) := hy
    have t4 : (pCat (pLst (pCons (pV 0) pNil)) (pDer (pV 1))) [some (.v (eC cs)), some (.v y), none] G = some ((cs :: rs).map eC) := by
      unfold pCat
      rw [hy2]
      show (match lenLe 1000000 ([eC cs] ++ eRs rs) with | true => some ([eC cs] ++ eRs rs) | false => none) = _
      rw [lenLe_iff.mpr (by simp [eRs]; omega)]
      rfl
    have t5 : (pLst (pLc (piSeq (pLst (pCat (pLst (pCons (pV 0) pNil)) (pDer (pV 1))))) (tN 2) qYes (pStM joinD (pC (.str ",")) (pBo 2)) [2])) [some (.v (eC cs)), some (.v y), none] G = some (.lst (((cs :: rs).map (Str.join ",")).map D.str)) := by
      refine pLst_of (pLc_of (xs := (cs :: rs).map eC) (piSeq_of (pLst_of t4) rfl) rfl (by simp; omega) ?_)
      rw [List.map_map]
      refine lcP_mapT eC (fun r => D.str (Str.join "," r)) (cs :: rs) fun r hr => ⟨_, rfl, rfl, ?_⟩
      rcases List.mem_cons.mp hr with rfl | hr
      · exact pStM_of rfl rfl c2
      · exact pStM_of rfl rfl (row_join (ho r hr) l5).2
    refine onO_of (pStM_of rfl t5 ?_) q
    refine join_ok (zs := (cs :: rs).map (Str.join ",")) (m := 105) (n := 1001) (k := 1) (fun z hz => ?_) (by simp; omega) (by decide) (by decide)
    obtain ⟨r, hr, rfl⟩ := List.mem_map.mp hz
    rcases List.mem_cons.mp hr with rfl | hr
    · omega
    · exact (row_join (ho r hr) l5).1
  · cases hz
theorem ask_row {r : List Str} (h : r.length ≤ 5) : askD 4 (eC r) = true := ask_eC (by omega)
theorem p__law_same_rows (ds : List D) (G : DG) (Q : D → DG → Prop) (E : DX → DG → Prop) (h : f__law_same_rows K ds G Q E) : tb__law_same_rows K (fnEnds Q E) (dstart N__law_same_rows ds) G := by
  obtain ⟨z, hz, q⟩ := pf1 h
  unfold F__law_same_rows at hz
  split at hz
  · rename_i x y
    obtain ⟨y', hy, hz2⟩ := bO_iff.mp hz
    obtain ⟨rs, h1, hz3⟩ := bO_iff.mp hz2
    obtain ⟨r2, h2, hz4⟩ := bO_iff.mp hz3
    clear hz hz2 hz3
    obtain ⟨⟨hl, h5⟩, rfl⟩ := dec_iff h1
    obtain ⟨e, rfl⟩ := dec_iff h2
    subst e
    cases hz4
    show tb__law_same_rows K (fnEnds Q E) [some (.v (.lst (eRs r2))), some (.v y), none] G
    have hy2 : ∀ s2 : Option SV, (pDer (pV 1)) [some (.v (.lst (eRs r2))), some (.v y), s2] G = some (.lst (eRs r2)) := fun _ => hy
    have hn : ∀ s2 : Option SV, (pCallB lenD (pCons (pDer (pV 1)) pNil)) [some (.v (.lst (eRs r2))), some (.v y), s2] G = some (.int (eRs r2).length) := fun s2 => pLen_lst (hy2 s2)
    refine onO_of (qOr_f rfl (pTst_of (pBin_of (pLen_lst rfl) (hn _) (neD_self rfl)))) ?_
    refine onO_of (piR1_of (hn _) (r1_ok (by simp [eRs]; omega))) ?_
    refine for_inv (I := fun r δ G' => ∃ (j : Nat) (s2 : Option SV), r = (rngD (eRs r2).length).drop j ∧ δ = [some (.v (.lst (eRs r2))), some (.v y), s2] ∧ G' = G) _ _ _ ⟨0, _, rfl, rfl, rfl⟩ ?_ ?_
    · rintro δ G' ⟨j, s2, _, rfl, rfl⟩
      exact q
    · rintro x r δ G' nx ⟨j, s2, hr, rfl, rfl⟩ hnx
      obtain ⟨hj, rfl, hr2⟩ := rng_cons hr.symm
      have hj2 : j < r2.length := by simpa [eRs] using hj
      obtain ⟨row, _, hm, he, _⟩ := lst_map (f := eC) (xs := r2) (i := (j : Int)) (by omega) (by omega)
      refine onO_of rfl ?_
      refine onO_of (qn_fn (l := pCons (pBin ixD (pBo 0) (pBo 2)) (pCons (pBin ixD (pDer (pV 1)) (pBo 2)) pNil)) (b := true) (pCons_of (pBin_of rfl rfl he) (pCons_of (pBin_of (hy2 _) rfl he) rfl)) (F_same_ok (ask_row (h5 row hm)))) ?_
      exact hnx _ _ ⟨j + 1, _, hr2, rfl, rfl⟩
  · cases hz
theorem p__law_pool (ds : List D) (G : DG) (Q : D → DG → Prop) (E : DX → DG → Prop) (h : f__law_pool K ds G Q E) : ∃ a n, tb__law_pool K (fnEnds (spend a n Q) E) (dstart N__law_pool ds) G := by
  unfold f__law_pool at h
  obtain ⟨a, c, rfl, ga, hc, q⟩ := h
  refine ⟨a, c + 200, ?_⟩
  show tb__law_pool K (fnEnds (spend a (c + 200) Q) E) [some (.v (.ref a)), none] G
  rw [← gset_self ga]
  refine drw (by omega) (by decide) (by decide) fun n n0 n1 => ?_
  refine ⟨1 + n, rfl, by omega, by omega, ?_⟩
  refine lc_inv (I := fun r acc G' => ∃ (c' : Nat) (ps : List Str), G' = gset G a (some (.jar c')) ∧ c' + 30 * r.length ≤ c + 191 ∧ acc = ps.map D.str ∧ ps.length + r.length = (1 + n).toNat ∧ ∀ x ∈ ps, cellS x = true) _ _ _ ⟨c + 1, [], rfl, by simp; omega, rfl, by simp, by simp⟩ ?_ ?_
  · rintro acc G' ⟨c', ps, rfl, h1, rfl, h2, h3⟩
    simp only [List.length_nil] at h1 h2
    exact spent (by omega) (q ps (by omega) (by omega) h3)
  · rintro x r acc G' Q' ⟨c', ps, rfl, h1, rfl, h2, h3⟩ hq
    simp only [List.length_cons] at h1 h2
    refine c_cell (by omega) fun y hy => ⟨by simp; omega, hq _ _ ⟨c' + 30, ps ++ [y], rfl, by omega, by simp, by simp; omega, ?_⟩⟩
    intro w hw
    rcases List.mem_append.mp hw with hw | hw
    · exact h3 w hw
    · rw [List.mem_singleton.mp hw]; exact hy
end
end FB

set_option Elab.async false
set_option linter.all false
set_option maxRecDepth 100000
set_option maxHeartbeats 0
namespace FB
open PySem PySem.Spec L2 DD PG
abbrev N__law_rows : List Str := ["_law_well_here", "_law_heads", "_law_pool_here", "_law_most", "_law_way", "_law_size", "_law_turn", "_law_head"]
def tb__law_rows (K : PySem.W.Frag) : DTS := (sSeq (sSet 4 (dCall (f__law_draw K) (aP (pCons (pV 0) (pCons (pC (.int 4)) pNil)))))
  (sSeq (sSet 5 (zIfE (tP (pTst (pBin ltD (pBo 4) (pC (.int 3))))) (eP (pBin ixD (pLst (pCons (pC (.int 0)) (pCons (pC (.int 1)) (pCons (pV 3) pNil)))) (pBo 4))) (dCall (f__law_draw K) (aP (pCons (pV 0) (pCons (pBin addD (pBo 3) (pC (.int 1))) pNil))))))
  (sRet (dFrz (zLc (aP (piR1 (pV 5))) (gP (tN 6)) (tP qYes) (zCallV tupleD (dCons (dFrz (zLc (aP (piSeq (pV 1))) (gP (tN 7)) (tP qYes) (zBinV ixD (eP (pV 2)) (dCall (f__law_draw K) (aP (pCons (pV 0) (pCons (pCallB lenD (pCons (pBo 2) pNil)) pNil))))) [7])) dNil)) [6])))))
end FB

set_option Elab.async false
set_option linter.all false
set_option maxRecDepth 100000
set_option maxHeartbeats 0
namespace FB
open PySem PySem.Spec L2 DD PG
abbrev N__law_rowsM : List Str := ["_law_well_here", "_law_heads", "_law_pool_here", "_law_most", "_law_way", "_law_size", "_law_turn", "_law_head"]
def tb__law_rowsM (K : PySem.W.Frag) : DTS := (sSeq (sSet 4 (dCall (f__law_draw K) (aP (pCons (pV 0) (pCons (pC (.int 4)) pNil)))))
  (sSeq (sSet 5 (zIfE (tP (pTst (pBin ltD (pBo 4) (pC (.int 3))))) (eP (pBin ixD (pLst (pCons (pC (.int 0)) (pCons (pC (.int 1)) (pCons (pV 3) pNil)))) (pBo 4))) (dCall (f__law_draw K) (aP (pCons (pV 0) (pCons (pBin addD (pBo 3) (pC (.int 1))) pNil))))))
  (sRet (dNewM (zLc (aP (piR1 (pV 5))) (gP (tN 6)) (tP qYes) (zCallV tupleD (dCons (dFrz (zLc (aP (piSeq (pV 1))) (gP (tN 7)) (tP qYes) (zBinV ixD (eP (pV 2)) (dCall (f__law_draw K) (aP (pCons (pV 0) (pCons (pCallB lenD (pCons (pBo 2) pNil)) pNil))))) [7])) dNil)) [6])))))
end FB

set_option Elab.async false
set_option linter.all false
set_option maxRecDepth 100000
set_option maxHeartbeats 4000000
namespace FB
open PySem PySem.Spec L2 DD PG
section
variable {K : PySem.W.Frag} {G : DG} {Q : D → DG → Prop} {E : DX → DG → Prop}
/-- a row drawn from a pool -/
abbrev eRow (K : PySem.W.Frag) (w h p x : Nat) : DTE := zCallV tupleD (dCons (dFrz (zLc (aP (piSeq (pV h))) (gP (tN x)) (tP qYes) (zBinV ixD (eP (pV p)) (dCall (f__law_draw K) (aP (pCons (pV w) (pCons (pCallB lenD (pCons (pBo p) pNil)) pNil))))) [x])) dNil)
theorem c_row {w h p x : Nat} {δ : DSt} {a : Addr} {c : Nat} {cs ps : List Str} {E : DX → DG → Prop} (hw : δ[w]? = some (some (.v (.ref a)))) (hh : δ[h]? = some (some (.v (eC cs)))) (hp : δ[p]? = some (some (.v (.lst (ps.map D.str))))) (hx : δ[x]? = some none) (xw : x ≠ w) (xp : x ≠ p)
    (h5 : cs.length ≤ 5) (p1 : 1 ≤ ps.length) (p6 : ps.length ≤ 6) (hps : ∀ x ∈ ps, cellS x = true) (hc : c + 1000 ≤ 2 ^ 63) (q : ∀ r, rowOk cs.length r = true → Q (eC r) (gset G a (some (.jar (c + cs.length))))) : eRow K w h p x δ (gset G a (some (.jar c))) Q E := by
  have hn : noneAt δ [x] = true := by
    unfold noneAt
    rw [hx]
    rfl
  have i1 : (piSeq (pV h)) δ (gset G a (some (.jar c))) = some (cs.map D.str) := by
    unfold piSeq pV
    simp only [hh]
    rfl
  have sw : ∀ u, (δ.set x (some (.v u)))[w]? = some (some (.v (.ref a))) := fun u => by rw [List.getElem?_set_ne xw]; exact hw
  have sp : ∀ u, (δ.set x (some (.v u)))[p]? = some (some (.v (.lst (ps.map D.str)))) := fun u => by rw [List.getElem?_set_ne xp]; exact hp
  refine brP_t hn ?_
  refine onO_of i1 ?_
  refine lc_inv (I := fun r acc G' => ∃ (c' : Nat) (zs : List Str), G' = gset G a (some (.jar c')) ∧ c' + r.length = c + cs.length ∧ acc = zs.map D.str ∧ zs.length + r.length = cs.length ∧ ∀ x ∈ zs, cellS x = true) _ _ _ ⟨c, [], rfl, by simp, rfl, by simp, by simp⟩ ?_ ?_
  · rintro acc G' ⟨c', zs, rfl, h1, rfl, h2, h3⟩
    simp only [List.length_nil, Nat.add_zero] at h1 h2
    rw [h1]
    refine q zs ?_
    simp only [rowOk, Bool.and_eq_true, decide_eq_true_eq, List.all_eq_true]
    exact ⟨h2, h3⟩
  · rintro u r acc G' Q' ⟨c', zs, rfl, h1, rfl, h2, h3⟩ hq
    simp only [List.length_cons] at h1 h2
    have v1 : (pV p) (δ.set x (some (.v u))) (gset G a (some (.jar c'))) = some (.lst (ps.map D.str)) := by unfold pV; rw [sp]
    have v2 : (pBo p) (δ.set x (some (.v u))) (gset G a (some (.jar c'))) = some (.lst (ps.map D.str)) := by unfold pBo; rw [sp]
    have v3 : (pV w) (δ.set x (some (.v u))) (gset G a (some (.jar c'))) = some (.ref a) := by unfold pV; rw [sw]
    show onO ((tN x) u δ) _
    refine onO_of (z := δ.set x (some (.v u))) rfl ?_
    refine onO_of (z := true) rfl ?_
    show onO ((pV p) (δ.set x (some (.v u))) (gset G a (some (.jar c')))) _
    refine onO_of v1 ?_
    refine onO_of (pCons_of v3 (pCons_of (pLen_lst v2) rfl)) ?_
    refine drw (by omega) (by simp; omega) (by simp; omega) fun n n0 n1 => ?_
    obtain ⟨y, _, hy, e, _⟩ := lst_map (f := D.str) (xs := ps) (i := n) n0 (by simpa using n1)
    refine onO_of e ⟨by simp; omega, hq _ _ ⟨c' + 1, zs ++ [y], rfl, by omega, by simp, by simp; omega, ?_⟩⟩
    intro w hw
    rcases List.mem_append.mp hw with hw | hw
    · exact h3 w hw
    · rw [List.mem_singleton.mp hw]; exact hps y hy
theorem rows_core {a : Addr} {cs ps : List Str} {m c : Nat} {N : DEnds} {T : DTS} (hm : m ≤ 100) (hc : c + 1000 ≤ 2 ^ 62)
    (q : ∀ (s4 : Option SV) (n c' : Nat), n ≤ m → c' ≤ c + 2 → T N [some (.v (.ref a)), some (.v (eC cs)), some (.v (.lst (ps.map D.str))), some (.v (.int m)), s4, some (.v (.int n)), none, none] (gset G a (some (.jar c')))) (m1 : 1 ≤ m) :
    (sSeq (sSet 4 (dCall (f__law_draw K) (aP (pCons (pV 0) (pCons (pC (.int 4)) pNil)))))
  (sSeq (sSet 5 (zIfE (tP (pTst (pBin ltD (pBo 4) (pC (.int 3))))) (eP (pBin ixD (pLst (pCons (pC (.int 0)) (pCons (pC (.int 1)) (pCons (pV 3) pNil)))) (pBo 4))) (dCall (f__law_draw K) (aP (pCons (pV 0) (pCons (pBin addD (pBo 3) (pC (.int 1))) pNil)))))) T)) N [some (.v (.ref a)), some (.v (eC cs)), some (.v (.lst (ps.map D.str))), some (.v (.int m)), none, none, none, none] (gset G a (some (.jar c))) := by
  refine drw (by omega) (by decide) (by decide) fun w w0 w1 => ?_
  by_cases e0 : w = 0
  · subst e0
    exact q _ 0 (c + 1) (by omega) (by omega)
  by_cases e1 : w = 1
  · subst e1
    exact q _ 1 (c + 1) m1 (by omega)
  by_cases e2 : w = 2
  · subst e2
    exact q _ m (c + 1) (Nat.le_refl _) (by omega)
  have e3 : w = 3 := by omega
  subst e3
  refine drw (by omega) (by show (0 : Int) < (m : Int) + 1; omega) (by show (m : Int) + 1 < 2 ^ 200; omega) fun n n0 n1 => ?_
  obtain ⟨k, rfl⟩ : ∃ k : Nat, n = k := ⟨n.toNat, by omega⟩
  exact q _ k (c + 1 + 1) (by omega) (by omega)
theorem rows_lc {a : Addr} {cs ps : List Str} {m n c c' : Nat} {s4 : Option SV} {Q' : List D → DG → Prop} (h5 : cs.length ≤ 5) (p1 : 1 ≤ ps.length) (p6 : ps.length ≤ 6) (hps : ∀ x ∈ ps, cellS x = true) (hn : n ≤ 100) (hc : c' ≤ c + 2) (hb : c + 1000 ≤ 2 ^ 62)
    (q : ∀ rs c'', rowsOk cs.length rs → rs.length = n → c'' ≤ c + 1000 → Q' (eRs rs) (gset G a (some (.jar c'')))) :
    zLc (aP (piR1 (pV 5))) (gP (tN 6)) (tP qYes) (eRow K 0 1 2 7) [6] [some (.v (.ref a)), some (.v (eC cs)), some (.v (.lst (ps.map D.str))), some (.v (.int m)), s4, some (.v (.int n)), none, none] (gset G a (some (.jar c'))) Q' E := by
  refine onO_of (piR1_of (x := .int (n : Nat)) rfl (r1_ok (by omega))) ?_
  refine lc_inv (I := fun r acc G' => ∃ (c'' : Nat) (rs : List (List Str)), G' = gset G a (some (.jar c'')) ∧ c'' + 5 * r.length ≤ c + 502 ∧ acc = eRs rs ∧ rs.length + r.length = n ∧ rowsOk cs.length rs) _ _ _ ⟨c', [], rfl, by simp [rngD]; omega, rfl, by simp [rngD], fun r hr => by cases hr⟩ ?_ ?_
  · rintro acc G' ⟨c'', rs, rfl, h1, rfl, h2, h3⟩
    simp only [List.length_nil, Nat.add_zero] at h1 h2
    exact q rs c'' h3 h2 (by omega)
  · rintro u r acc G' Q' ⟨c'', rs, rfl, h1, rfl, h2, h3⟩ hq
    simp only [List.length_cons] at h1 h2
    refine onO_of (z := [some (.v (.ref a)), some (.v (eC cs)), some (.v (.lst (ps.map D.str))), some (.v (.int m)), s4, some (.v (.int n)), some (.v u), none]) rfl ?_
    refine onO_of (z := true) rfl ?_
    refine c_row (w := 0) (h := 1) (p := 2) (x := 7) (a := a) (c := c'') (δ := [some (.v (.ref a)), some (.v (eC cs)), some (.v (.lst (ps.map D.str))), some (.v (.int m)), s4, some (.v (.int n)), some (.v u), none]) rfl rfl rfl rfl (by decide) (by decide) h5 p1 p6 hps (by omega) fun row hrow => ?_
    refine ⟨by simp [eRs]; omega, hq _ _ ⟨c'' + cs.length, rs ++ [row], rfl, by omega, by simp [eRs], by simp; omega, ?_⟩⟩
    intro y hy
    rcases List.mem_append.mp hy with hy | hy
    · exact h3 y hy
    · rw [List.mem_singleton.mp hy]; exact hrow
theorem p__law_rows (ds : List D) (G : DG) (Q : D → DG → Prop) (E : DX → DG → Prop) (h : f__law_rows K ds G Q E) : ∃ a n, tb__law_rows K (fnEnds (spend a n Q) E) (dstart N__law_rows ds) G := by
  unfold f__law_rows at h
  obtain ⟨a, cs, ps, m, c, rfl, ga, h5, p1, p6, hps, m1, hm, hc, q⟩ := h
  refine ⟨a, c + 1000, ?_⟩
  show tb__law_rows K (fnEnds (spend a (c + 1000) Q) E) [some (.v (.ref a)), some (.v (eC cs)), some (.v (.lst (ps.map D.str))), some (.v (.int m)), none, none, none, none] G
  rw [← gset_self ga]
  refine rows_core hm hc (fun s4 n c' hn hc' => ?_) m1
  refine rows_lc (E := E) h5 p1 p6 hps (by omega) hc' hc fun rs c'' h1 h2 h3 => ?_
  exact spent h3 (q rs h1 (by omega))
theorem p__law_rowsM (ds : List D) (G : DG) (Q : D → DG → Prop) (E : DX → DG → Prop) (h : f__law_rowsM K ds G Q E) : tb__law_rowsM K (fnEnds (wk Q) (wk E)) (dstart N__law_rowsM ds) G := by
  unfold f__law_rowsM at h
  obtain ⟨a, cs, ps, m, c, rfl, ga, h5, p1, p6, hps, m1, hm, hc, q⟩ := h
  show tb__law_rowsM K (fnEnds (wk Q) (wk E)) [some (.v (.ref a)), some (.v (eC cs)), some (.v (.lst (ps.map D.str))), some (.v (.int m)), none, none, none, none] G
  rw [← gset_self ga]
  refine rows_core hm hc (fun s4 n c' hn hc' => ?_) m1
  refine rows_lc (E := E) h5 p1 p6 hps (by omega) hc' hc fun rs c'' h1 h2 h3 => ?_
  intro b hb
  have ne : b ≠ a := fun e => by rw [e, gset_same] at hb; cases hb
  refine wk_of ?_ (q rs h1 (by omega) b (by rw [gset_ne ne] at hb; exact hb))
  refine Less.set ?_
  have e : gset G a (some (.jar (c + 1000))) = gset (gset G a (some (.jar c''))) a (some (.jar (c + 1000))) := by rw [gset_gset]
  rw [e]
  exact Less.jar (Less.refl _) gset_same h3
end
end FB

set_option Elab.async false
set_option linter.all false
set_option maxRecDepth 100000
set_option maxHeartbeats 0
namespace Lk50
open PySem PySem.Spec L2 DD PG FB
def top (i : Nat) : Stmt := PySem.Challenge.pw_labelsdown_k50_listing_texts.main.body.getD i (.Pass ⟨0, 0, 0, 0⟩)
abbrev s24 : Stmt := top 23
def q24 : He.DefD := ⟨("_law_well", none), "_law_well", "_law_well", defArgs s24, defBody s24, defScope s24, [], []⟩
abbrev s25 : Stmt := top 24
def q25 : He.DefD := ⟨("_law_draw", none), "_law_draw", "_law_draw", defArgs s25, defBody s25, defScope s25, [], []⟩
abbrev s27 : Stmt := top 26
def q27 : He.DefD := ⟨("_law_cell", none), "_law_cell", "_law_cell", defArgs s27, defBody s27, defScope s27, [], []⟩
abbrev s28 : Stmt := top 27
def q28 : He.DefD := ⟨("_law_pool", none), "_law_pool", "_law_pool", defArgs s28, defBody s28, defScope s28, [], []⟩
abbrev s26 : Stmt := top 25
def q26 : He.DefD := ⟨("_law_names", none), "_law_names", "_law_names", defArgs s26, defBody s26, defScope s26, [], []⟩
abbrev s29 : Stmt := top 28
def q29 : He.DefD := ⟨("_law_rows", none), "_law_rows", "_law_rows", defArgs s29, defBody s29, defScope s29, [], []⟩
abbrev s4 : Stmt := top 13
def q4 : He.DefD := ⟨("is_written", none), "is_written", "is_written", defArgs s4, defBody s4, defScope s4, [], []⟩
abbrev s5 : Stmt := top 14
def q5 : He.DefD := ⟨("is_name", none), "is_name", "is_name", defArgs s5, defBody s5, defScope s5, [], []⟩
abbrev s7 : Stmt := top 16
def q7 : He.DefD := ⟨("are_columns", none), "are_columns", "are_columns", defArgs s7, defBody s7, defScope s7, [], []⟩
abbrev s1 : Stmt := inClass (top 4) 0
def q1 : He.DefD := ⟨("NoRow", some "__init__"), "__init__", "NoRow.__init__", defArgs s1, defBody s1, defScope s1, [], []⟩
abbrev s6 : Stmt := top 15
def q6 : He.DefD := ⟨("is_cell", none), "is_cell", "is_cell", defArgs s6, defBody s6, defScope s6, [], []⟩
abbrev s8 : Stmt := top 17
def q8 : He.DefD := ⟨("is_row", none), "is_row", "is_row", defArgs s8, defBody s8, defScope s8, [], []⟩
abbrev s9 : Stmt := inClass (top 19) 0
def q9 : He.DefD := ⟨("Listing", some "__init__"), "__init__", "Listing.__init__", defArgs s9, defBody s9, defScope s9, [.adr (He.dflAt ("Listing", some "__init__") 0)], []⟩
abbrev s20 : Stmt := inClass (top 19) 11
def q20 : He.DefD := ⟨("Listing", some "columns"), "columns", "Listing.columns", defArgs s20, defBody s20, defScope s20, [], []⟩
abbrev s21 : Stmt := inClass (top 19) 12
def q21 : He.DefD := ⟨("Listing", some "rows"), "rows", "Listing.rows", defArgs s21, defBody s21, defScope s21, [], []⟩
abbrev s23 : Stmt := top 21
def q23 : He.DefD := ⟨("listing_text", none), "listing_text", "listing_text", defArgs s23, defBody s23, defScope s23, [], []⟩
abbrev s30 : Stmt := top 29
def q30 : He.DefD := ⟨("_law_listing_text", none), "_law_listing_text", "_law_listing_text", defArgs s30, defBody s30, defScope s30, [], []⟩
abbrev s31 : Stmt := top 30
def q31 : He.DefD := ⟨("_law_same", none), "_law_same", "_law_same", defArgs s31, defBody s31, defScope s31, [], []⟩
abbrev s32 : Stmt := top 31
def q32 : He.DefD := ⟨("_law_same_rows", none), "_law_same_rows", "_law_same_rows", defArgs s32, defBody s32, defScope s32, [], []⟩
abbrev s34 : Stmt := top 33
def q34 : He.DefD := ⟨("_law_told", none), "_law_told", "_law_told", defArgs s34, defBody s34, defScope s34, [], []⟩
abbrev s18 : Stmt := inClass (top 19) 9
def q18 : He.DefD := ⟨("Listing", some "put"), "put", "Listing.put", defArgs s18, defBody s18, defScope s18, [], []⟩
abbrev s3 : Stmt := top 12
def q3 : He.DefD := ⟨("is_whole", none), "is_whole", "is_whole", defArgs s3, defBody s3, defScope s3, [], []⟩
abbrev s17 : Stmt := inClass (top 19) 8
def q17 : He.DefD := ⟨("Listing", some "has"), "has", "Listing.has", defArgs s17, defBody s17, defScope s17, [], []⟩
abbrev s2 : Stmt := inClass (top 5) 0
def q2 : He.DefD := ⟨("NoIndex", some "__init__"), "__init__", "NoIndex.__init__", defArgs s2, defBody s2, defScope s2, [], []⟩
abbrev s19 : Stmt := inClass (top 19) 10
def q19 : He.DefD := ⟨("Listing", some "drop"), "drop", "Listing.drop", defArgs s19, defBody s19, defScope s19, [], []⟩
abbrev s11 : Stmt := inClass (top 19) 2
def q11 : He.DefD := ⟨("Listing", some "__setitem__"), "__setitem__", "Listing.__setitem__", defArgs s11, defBody s11, defScope s11, [], []⟩
abbrev s33 : Stmt := top 32
def q33 : He.DefD := ⟨("_law_change", none), "_law_change", "_law_change", defArgs s33, defBody s33, defScope s33, [], []⟩
abbrev s35 : Stmt := top 34
def q35 : He.DefD := ⟨("law", none), "law", "law", defArgs s35, defBody s35, defScope s35, [], []⟩
def fn : List He.DefD := [q24, q25, q27, q28, q26, q29, q4, q5, q7, q1, q6, q8, q9, q20, q21, q23, q30, q31, q32, q34, q18, q3, q17, q2, q19, q11, q33, q35]
def fa : List He.Fa := [.free "len", .free "max", .free "range", .glo "_law_well", .glo "_law_draw", .glo "_law_pool", .glo "_law_names", .glo "_law_rows", .mkr "Listing", .free "tuple", .glo "Listing", .glo "_law_told", .glo "_law_change", .meth "Listing" "put", .cls "Listing", .meth "Listing" "drop", .meth "Listing" "__setitem__", .meth "Listing" "has", .noat "NoIndex" "index", .glo "NoIndex", .noat "Listing" "heads", .glo "is_row", .noat "NoRow" "index", .glo "NoRow", .noat "Listing" "lines", .free "isinstance", .glo "is_cell", .free "all", .int "LONGEST_CELL" 20, .str "CELL_CHARACTERS" "abcdefghijklmnopqrstuvwxyz0123456789-", .glo "is_written", .free "str", .glo "is_whole", .free "int", .free "bool", .glo "listing_text", .glo "_law_listing_text", .meth "Listing" "columns", .glo "_law_same", .meth "Listing" "rows", .glo "_law_same_rows", .free "list", .glo "are_columns", .exc "NoColumns", .glo "NoColumns", .free "enumerate", .int "MOST_COLUMNS" 5, .glo "is_name", .free "set", .int "LONGEST_NAME" 8, .str "LETTERS" "abcdefghijklmnopqrstuvwxyz", .glo "_law_cell", .glo "law", .cls "Listing"]
def bx : List DH.Bx := [fun K => PySem.W.noSeq K (He.ga K "Listing"), fun K => DH.oexB K (He.ga K "NoIndex"), fun K => DH.iniB K (He.ga K "NoIndex"), fun K => DH.oexB K (He.ga K "NoRow"), fun K => DH.iniB K (He.ga K "NoRow"), fun K => DH.kitB K (.ref (He.ga K "Listing")) (.ref (He.ga K "Listing")) true, fun K => DH.insB K (He.ga K "Listing")]
abbrev R : PySem.W.OpenRow := PySem.W.OpenLaw.row PySem.Challenge.rw_labelsdown_k50_listing_texts
abbrev hk : PySem.W.Hook := DH.hookX 5 fa fn bx
def ob (s : PySem.W.SharedT) : DH.AlX := DH.obsXG 5 fa fn bx (HandSHeadRun.getT s)
theorem ob_eq (s : PySem.W.SharedT) : ob s = hk.obs s.abs := DH.obsXG_eq (HandSHeadRun.getT_eq s)
def nm0 : List PySem.Str := ["_wall", "LabelError", "NoColumns", "NoRow", "NoIndex", "LETTERS", "CELL_CHARACTERS", "LONGEST_NAME", "LONGEST_CELL", "MOST_COLUMNS", "is_whole", "is_written", "is_name", "is_cell", "are_columns", "is_row", "Listing", "listing_text", "_law_well", "_law_draw", "_law_names", "_law_cell", "_law_pool", "_law_rows", "_law_listing_text", "_law_same", "_law_same_rows", "_law_change", "_law_told"]
def names : List PySem.Str := nm0
theorem run (w : World) : HandSHeadRun.RunEq R (PySem.W.view R.prog [34]) hk ob 4000 names w := by
  intro os
  kernel_rfl
end Lk50

set_option Elab.async false
set_option linter.all false
set_option maxRecDepth 100000
set_option maxHeartbeats 0
namespace Lk50
open PySem PySem.Spec L2 DD PG FB
structure Fx (K : PySem.W.Frag) (mg : Str → Option Value) where
  d__law_well : FuncData
  D__law_well : FunD K "_law_well" "_law_well" (defArgs s24) (defBody s24) (defScope s24) [] [] (He.fAd K ("_law_well", none)) d__law_well
  d__law_draw : FuncData
  D__law_draw : FunD K "_law_draw" "_law_draw" (defArgs s25) (defBody s25) (defScope s25) [] [] (He.fAd K ("_law_draw", none)) d__law_draw
  d__law_cell : FuncData
  D__law_cell : FunD K "_law_cell" "_law_cell" (defArgs s27) (defBody s27) (defScope s27) [] [] (He.fAd K ("_law_cell", none)) d__law_cell
  d__law_pool : FuncData
  D__law_pool : FunD K "_law_pool" "_law_pool" (defArgs s28) (defBody s28) (defScope s28) [] [] (He.fAd K ("_law_pool", none)) d__law_pool
  d__law_names : FuncData
  D__law_names : FunD K "_law_names" "_law_names" (defArgs s26) (defBody s26) (defScope s26) [] [] (He.fAd K ("_law_names", none)) d__law_names
  d__law_rowsM : FuncData
  D__law_rowsM : FunD K "_law_rows" "_law_rows" (defArgs s29) (defBody s29) (defScope s29) [] [] (He.fAd K ("_law_rows", none)) d__law_rowsM
  d_is_written : FuncData
  D_is_written : FunD K "is_written" "is_written" (defArgs s4) (defBody s4) (defScope s4) [] [] (He.fAd K ("is_written", none)) d_is_written
  d_is_name : FuncData
  D_is_name : FunD K "is_name" "is_name" (defArgs s5) (defBody s5) (defScope s5) [] [] (He.fAd K ("is_name", none)) d_is_name
  d_are_columns : FuncData
  D_are_columns : FunD K "are_columns" "are_columns" (defArgs s7) (defBody s7) (defScope s7) [] [] (He.fAd K ("are_columns", none)) d_are_columns
  d_NoRow___init__ : FuncData
  D_NoRow___init__ : FunD K "__init__" "NoRow.__init__" (defArgs s1) (defBody s1) (defScope s1) [] [] (He.fAd K ("NoRow", some "__init__")) d_NoRow___init__
  d_is_cell : FuncData
  D_is_cell : FunD K "is_cell" "is_cell" (defArgs s6) (defBody s6) (defScope s6) [] [] (He.fAd K ("is_cell", none)) d_is_cell
  d_is_row : FuncData
  D_is_row : FunD K "is_row" "is_row" (defArgs s8) (defBody s8) (defScope s8) [] [] (He.fAd K ("is_row", none)) d_is_row
  d_Listing___init__ : FuncData
  D_Listing___init__ : FunD K "__init__" "Listing.__init__" (defArgs s9) (defBody s9) (defScope s9) [V.ref (He.dflAt ("Listing", some "__init__") 0 K)] [] (He.fAd K ("Listing", some "__init__")) d_Listing___init__
  d_Listing_columns : FuncData
  D_Listing_columns : FunD K "columns" "Listing.columns" (defArgs s20) (defBody s20) (defScope s20) [] [] (He.fAd K ("Listing", some "columns")) d_Listing_columns
  d_Listing_rows : FuncData
  D_Listing_rows : FunD K "rows" "Listing.rows" (defArgs s21) (defBody s21) (defScope s21) [] [] (He.fAd K ("Listing", some "rows")) d_Listing_rows
  d_listing_text : FuncData
  D_listing_text : FunD K "listing_text" "listing_text" (defArgs s23) (defBody s23) (defScope s23) [] [] (He.fAd K ("listing_text", none)) d_listing_text
  d__law_listing_text : FuncData
  D__law_listing_text : FunD K "_law_listing_text" "_law_listing_text" (defArgs s30) (defBody s30) (defScope s30) [] [] (He.fAd K ("_law_listing_text", none)) d__law_listing_text
  d__law_same : FuncData
  D__law_same : FunD K "_law_same" "_law_same" (defArgs s31) (defBody s31) (defScope s31) [] [] (He.fAd K ("_law_same", none)) d__law_same
  d__law_same_rows : FuncData
  D__law_same_rows : FunD K "_law_same_rows" "_law_same_rows" (defArgs s32) (defBody s32) (defScope s32) [] [] (He.fAd K ("_law_same_rows", none)) d__law_same_rows
  d__law_told : FuncData
  D__law_told : FunD K "_law_told" "_law_told" (defArgs s34) (defBody s34) (defScope s34) [] [] (He.fAd K ("_law_told", none)) d__law_told
  d_Listing_put : FuncData
  D_Listing_put : FunD K "put" "Listing.put" (defArgs s18) (defBody s18) (defScope s18) [] [] (He.fAd K ("Listing", some "put")) d_Listing_put
  d_is_whole : FuncData
  D_is_whole : FunD K "is_whole" "is_whole" (defArgs s3) (defBody s3) (defScope s3) [] [] (He.fAd K ("is_whole", none)) d_is_whole
  d_Listing_has : FuncData
  D_Listing_has : FunD K "has" "Listing.has" (defArgs s17) (defBody s17) (defScope s17) [] [] (He.fAd K ("Listing", some "has")) d_Listing_has
  d_NoIndex___init__ : FuncData
  D_NoIndex___init__ : FunD K "__init__" "NoIndex.__init__" (defArgs s2) (defBody s2) (defScope s2) [] [] (He.fAd K ("NoIndex", some "__init__")) d_NoIndex___init__
  d_Listing_drop : FuncData
  D_Listing_drop : FunD K "drop" "Listing.drop" (defArgs s19) (defBody s19) (defScope s19) [] [] (He.fAd K ("Listing", some "drop")) d_Listing_drop
  d_Listing___setitem__ : FuncData
  D_Listing___setitem__ : FunD K "__setitem__" "Listing.__setitem__" (defArgs s11) (defBody s11) (defScope s11) [] [] (He.fAd K ("Listing", some "__setitem__")) d_Listing___setitem__
  d__law_change : FuncData
  D__law_change : FunD K "_law_change" "_law_change" (defArgs s33) (defBody s33) (defScope s33) [] [] (He.fAd K ("_law_change", none)) d__law_change
  d_law : FuncData
  D_law : FunD K "law" "law" (defArgs s35) (defBody s35) (defScope s35) [] [] (He.fAd K ("law", none)) d_law
  n_len : mg "len" = none
  n_max : mg "max" = none
  n_range : mg "range" = none
  g__law_well : mg "_law_well" = some (.ref (He.ga K "_law_well"))
  g__law_draw : mg "_law_draw" = some (.ref (He.ga K "_law_draw"))
  g__law_pool : mg "_law_pool" = some (.ref (He.ga K "_law_pool"))
  g__law_names : mg "_law_names" = some (.ref (He.ga K "_law_names"))
  g__law_rows : mg "_law_rows" = some (.ref (He.ga K "_law_rows"))
  mk_Listing : Mk K (He.ga K "Listing") (He.fAd K ("Listing", some "__init__"))
  n_tuple : mg "tuple" = none
  g_Listing : mg "Listing" = some (.ref (He.ga K "Listing"))
  g__law_told : mg "_law_told" = some (.ref (He.ga K "_law_told"))
  g__law_change : mg "_law_change" = some (.ref (He.ga K "_law_change"))
  m_Listing_put : Meth K (He.ga K "Listing") "put" (He.fAd K ("Listing", some "put"))
  c_Listing : Cls K (He.ga K "Listing")
  m_Listing_drop : Meth K (He.ga K "Listing") "drop" (He.fAd K ("Listing", some "drop"))
  s_Listing___setitem__ : PySem.W.findIn K (.ref (He.ga K "Listing")) "__setitem__" = some (some (.ref (He.fAd K ("Listing", some "__setitem__")))) ∧ PySem.W.isFn K (.ref (He.fAd K ("Listing", some "__setitem__"))) = true
  nsq_Listing : PySem.W.noSeq K (He.ga K "Listing") = true
  m_Listing_has : Meth K (He.ga K "Listing") "has" (He.fAd K ("Listing", some "has"))
  o_NoIndex : OexC K (He.ga K "NoIndex") ∧ PySem.W.findIn K (.ref (He.ga K "NoIndex")) "__init__" = some (some (.ref (He.fAd K ("NoIndex", some "__init__")))) ∧ PySem.W.typeIn K (.ref (He.fAd K ("NoIndex", some "__init__"))) = some (.type "function")
  oa_NoIndex : PySem.W.findIn K (.ref (He.ga K "NoIndex")) "index" = some none
  g_NoIndex : mg "NoIndex" = some (.ref (He.ga K "NoIndex"))
  a_Listing_heads : NoAttr K (He.ga K "Listing") "heads"
  g_is_row : mg "is_row" = some (.ref (He.ga K "is_row"))
  o_NoRow : OexC K (He.ga K "NoRow") ∧ PySem.W.findIn K (.ref (He.ga K "NoRow")) "__init__" = some (some (.ref (He.fAd K ("NoRow", some "__init__")))) ∧ PySem.W.typeIn K (.ref (He.fAd K ("NoRow", some "__init__"))) = some (.type "function")
  oa_NoRow : PySem.W.findIn K (.ref (He.ga K "NoRow")) "index" = some none
  g_NoRow : mg "NoRow" = some (.ref (He.ga K "NoRow"))
  a_Listing_lines : NoAttr K (He.ga K "Listing") "lines"
  n_isinstance : mg "isinstance" = none
  g_is_cell : mg "is_cell" = some (.ref (He.ga K "is_cell"))
  n_all : mg "all" = none
  k_LONGEST_CELL : ∃ t, mg "LONGEST_CELL" = some (.int 20 t)
  k_CELL_CHARACTERS : ∃ t, mg "CELL_CHARACTERS" = some (.str "abcdefghijklmnopqrstuvwxyz0123456789-" t)
  g_is_written : mg "is_written" = some (.ref (He.ga K "is_written"))
  n_str : mg "str" = none
  g_is_whole : mg "is_whole" = some (.ref (He.ga K "is_whole"))
  n_int : mg "int" = none
  n_bool : mg "bool" = none
  g_listing_text : mg "listing_text" = some (.ref (He.ga K "listing_text"))
  g__law_listing_text : mg "_law_listing_text" = some (.ref (He.ga K "_law_listing_text"))
  m_Listing_columns : Meth K (He.ga K "Listing") "columns" (He.fAd K ("Listing", some "columns"))
  g__law_same : mg "_law_same" = some (.ref (He.ga K "_law_same"))
  m_Listing_rows : Meth K (He.ga K "Listing") "rows" (He.fAd K ("Listing", some "rows"))
  g__law_same_rows : mg "_law_same_rows" = some (.ref (He.ga K "_law_same_rows"))
  n_list : mg "list" = none
  g_are_columns : mg "are_columns" = some (.ref (He.ga K "are_columns"))
  e_NoColumns : PySem.W.excIn K (He.ga K "NoColumns") He.veBase "ValueError.__new__" = true ∧ PySem.W.keepIn K (.ref (He.ga K "NoColumns")) = true ∧ PySem.W.subIn K (.ref (He.ga K "NoColumns")) (.type "BaseException") = some true ∧ PySem.W.typeIn K (.ref (He.ga K "NoColumns")) = some (.type "type")
  g_NoColumns : mg "NoColumns" = some (.ref (He.ga K "NoColumns"))
  n_enumerate : mg "enumerate" = none
  k_MOST_COLUMNS : ∃ t, mg "MOST_COLUMNS" = some (.int 5 t)
  g_is_name : mg "is_name" = some (.ref (He.ga K "is_name"))
  n_set : mg "set" = none
  k_LONGEST_NAME : ∃ t, mg "LONGEST_NAME" = some (.int 8 t)
  k_LETTERS : ∃ t, mg "LETTERS" = some (.str "abcdefghijklmnopqrstuvwxyz" t)
  g__law_cell : mg "_law_cell" = some (.ref (He.ga K "_law_cell"))
  g_law : mg "law" = some (.ref (He.ga K "law"))
  kit_Listing_Listing : PySem.W.kitOne K (.ref (He.ga K "Listing")) (.ref (He.ga K "Listing")) = some true
  i_Listing : C8.InsC K (He.ga K "Listing")
theorem fx_of {K : PySem.W.Frag} {mg : Str → Option Value} {h : Heap} (X : K.In h) (G : h.Ns mainGlobals mg) (sy : DH.SaysX fa fn bx K) : Nonempty (Fx K mg) := by
  obtain ⟨fd0, FD0⟩ := sy.d.def_ 0 (d := q24) rfl
  obtain ⟨fd1, FD1⟩ := sy.d.def_ 1 (d := q25) rfl
  obtain ⟨fd2, FD2⟩ := sy.d.def_ 2 (d := q27) rfl
  obtain ⟨fd3, FD3⟩ := sy.d.def_ 3 (d := q28) rfl
  obtain ⟨fd4, FD4⟩ := sy.d.def_ 4 (d := q26) rfl
  obtain ⟨fd5, FD5⟩ := sy.d.def_ 5 (d := q29) rfl
  obtain ⟨fd6, FD6⟩ := sy.d.def_ 6 (d := q4) rfl
  obtain ⟨fd7, FD7⟩ := sy.d.def_ 7 (d := q5) rfl
  obtain ⟨fd8, FD8⟩ := sy.d.def_ 8 (d := q7) rfl
  obtain ⟨fd9, FD9⟩ := sy.d.def_ 9 (d := q1) rfl
  obtain ⟨fd10, FD10⟩ := sy.d.def_ 10 (d := q6) rfl
  obtain ⟨fd11, FD11⟩ := sy.d.def_ 11 (d := q8) rfl
  obtain ⟨fd12, FD12⟩ := sy.d.def_ 12 (d := q9) rfl
  obtain ⟨fd13, FD13⟩ := sy.d.def_ 13 (d := q20) rfl
  obtain ⟨fd14, FD14⟩ := sy.d.def_ 14 (d := q21) rfl
  obtain ⟨fd15, FD15⟩ := sy.d.def_ 15 (d := q23) rfl
  obtain ⟨fd16, FD16⟩ := sy.d.def_ 16 (d := q30) rfl
  obtain ⟨fd17, FD17⟩ := sy.d.def_ 17 (d := q31) rfl
  obtain ⟨fd18, FD18⟩ := sy.d.def_ 18 (d := q32) rfl
  obtain ⟨fd19, FD19⟩ := sy.d.def_ 19 (d := q34) rfl
  obtain ⟨fd20, FD20⟩ := sy.d.def_ 20 (d := q18) rfl
  obtain ⟨fd21, FD21⟩ := sy.d.def_ 21 (d := q3) rfl
  obtain ⟨fd22, FD22⟩ := sy.d.def_ 22 (d := q17) rfl
  obtain ⟨fd23, FD23⟩ := sy.d.def_ 23 (d := q2) rfl
  obtain ⟨fd24, FD24⟩ := sy.d.def_ 24 (d := q19) rfl
  obtain ⟨fd25, FD25⟩ := sy.d.def_ 25 (d := q11) rfl
  obtain ⟨fd26, FD26⟩ := sy.d.def_ 26 (d := q33) rfl
  obtain ⟨fd27, FD27⟩ := sy.d.def_ 27 (d := q35) rfl
  exact ⟨{ d__law_well := fd0, D__law_well := FD0, d__law_draw := fd1, D__law_draw := FD1, d__law_cell := fd2, D__law_cell := FD2, d__law_pool := fd3, D__law_pool := FD3, d__law_names := fd4, D__law_names := FD4, d__law_rowsM := fd5, D__law_rowsM := FD5, d_is_written := fd6, D_is_written := FD6, d_is_name := fd7, D_is_name := FD7, d_are_columns := fd8, D_are_columns := FD8, d_NoRow___init__ := fd9, D_NoRow___init__ := FD9, d_is_cell := fd10, D_is_cell := FD10, d_is_row := fd11, D_is_row := FD11, d_Listing___init__ := fd12, D_Listing___init__ := FD12, d_Listing_columns := fd13, D_Listing_columns := FD13, d_Listing_rows := fd14, D_Listing_rows := FD14, d_listing_text := fd15, D_listing_text := FD15, d__law_listing_text := fd16, D__law_listing_text := FD16, d__law_same := fd17, D__law_same := FD17, d__law_same_rows := fd18, D__law_same_rows := FD18, d__law_told := fd19, D__law_told := FD19, d_Listing_put := fd20, D_Listing_put := FD20, d_is_whole := fd21, D_is_whole := FD21, d_Listing_has := fd22, D_Listing_has := FD22, d_NoIndex___init__ := fd23, D_NoIndex___init__ := FD23, d_Listing_drop := fd24, D_Listing_drop := FD24, d_Listing___setitem__ := fd25, D_Listing___setitem__ := FD25, d__law_change := fd26, D__law_change := FD26, d_law := fd27, D_law := FD27, n_len := He.free_ok X G (sy.d.fact 0 (f := .free "len") rfl), n_max := He.free_ok X G (sy.d.fact 1 (f := .free "max") rfl), n_range := He.free_ok X G (sy.d.fact 2 (f := .free "range") rfl), g__law_well := He.glo_ok X G (sy.d.fact 3 (f := .glo "_law_well") rfl), g__law_draw := He.glo_ok X G (sy.d.fact 4 (f := .glo "_law_draw") rfl), g__law_pool := He.glo_ok X G (sy.d.fact 5 (f := .glo "_law_pool") rfl), g__law_names := He.glo_ok X G (sy.d.fact 6 (f := .glo "_law_names") rfl), g__law_rows := He.glo_ok X G (sy.d.fact 7 (f := .glo "_law_rows") rfl), mk_Listing := He.mkr_ok (sy.d.fact 8 (f := .mkr "Listing") rfl), n_tuple := He.free_ok X G (sy.d.fact 9 (f := .free "tuple") rfl), g_Listing := He.glo_ok X G (sy.d.fact 10 (f := .glo "Listing") rfl), g__law_told := He.glo_ok X G (sy.d.fact 11 (f := .glo "_law_told") rfl), g__law_change := He.glo_ok X G (sy.d.fact 12 (f := .glo "_law_change") rfl), m_Listing_put := He.meth_ok (sy.d.fact 13 (f := .meth "Listing" "put") rfl), c_Listing := He.cls_ok (sy.d.fact 14 (f := .cls "Listing") rfl), m_Listing_drop := He.meth_ok (sy.d.fact 15 (f := .meth "Listing" "drop") rfl), s_Listing___setitem__ := (let z := He.meth_ok (sy.d.fact 16 (f := .meth "Listing" "__setitem__") rfl); ⟨z.at_, z.fn⟩), nsq_Listing := (sy.b 0 rfl), m_Listing_has := He.meth_ok (sy.d.fact 17 (f := .meth "Listing" "has") rfl), o_NoIndex := ⟨DH.oexB_ok (sy.b 1 rfl), DH.iniB_ok (sy.b 2 rfl)⟩, oa_NoIndex := He.noat_ok (sy.d.fact 18 (f := .noat "NoIndex" "index") rfl), g_NoIndex := He.glo_ok X G (sy.d.fact 19 (f := .glo "NoIndex") rfl), a_Listing_heads := He.noat_ok (sy.d.fact 20 (f := .noat "Listing" "heads") rfl), g_is_row := He.glo_ok X G (sy.d.fact 21 (f := .glo "is_row") rfl), o_NoRow := ⟨DH.oexB_ok (sy.b 3 rfl), DH.iniB_ok (sy.b 4 rfl)⟩, oa_NoRow := He.noat_ok (sy.d.fact 22 (f := .noat "NoRow" "index") rfl), g_NoRow := He.glo_ok X G (sy.d.fact 23 (f := .glo "NoRow") rfl), a_Listing_lines := He.noat_ok (sy.d.fact 24 (f := .noat "Listing" "lines") rfl), n_isinstance := He.free_ok X G (sy.d.fact 25 (f := .free "isinstance") rfl), g_is_cell := He.glo_ok X G (sy.d.fact 26 (f := .glo "is_cell") rfl), n_all := He.free_ok X G (sy.d.fact 27 (f := .free "all") rfl), k_LONGEST_CELL := He.int_ok X G (sy.d.fact 28 (f := .int "LONGEST_CELL" 20) rfl), k_CELL_CHARACTERS := He.str_ok X G (sy.d.fact 29 (f := .str "CELL_CHARACTERS" "abcdefghijklmnopqrstuvwxyz0123456789-") rfl), g_is_written := He.glo_ok X G (sy.d.fact 30 (f := .glo "is_written") rfl), n_str := He.free_ok X G (sy.d.fact 31 (f := .free "str") rfl), g_is_whole := He.glo_ok X G (sy.d.fact 32 (f := .glo "is_whole") rfl), n_int := He.free_ok X G (sy.d.fact 33 (f := .free "int") rfl), n_bool := He.free_ok X G (sy.d.fact 34 (f := .free "bool") rfl), g_listing_text := He.glo_ok X G (sy.d.fact 35 (f := .glo "listing_text") rfl), g__law_listing_text := He.glo_ok X G (sy.d.fact 36 (f := .glo "_law_listing_text") rfl), m_Listing_columns := He.meth_ok (sy.d.fact 37 (f := .meth "Listing" "columns") rfl), g__law_same := He.glo_ok X G (sy.d.fact 38 (f := .glo "_law_same") rfl), m_Listing_rows := He.meth_ok (sy.d.fact 39 (f := .meth "Listing" "rows") rfl), g__law_same_rows := He.glo_ok X G (sy.d.fact 40 (f := .glo "_law_same_rows") rfl), n_list := He.free_ok X G (sy.d.fact 41 (f := .free "list") rfl), g_are_columns := He.glo_ok X G (sy.d.fact 42 (f := .glo "are_columns") rfl), e_NoColumns := He.exc_ok (sy.d.fact 43 (f := .exc "NoColumns") rfl), g_NoColumns := He.glo_ok X G (sy.d.fact 44 (f := .glo "NoColumns") rfl), n_enumerate := He.free_ok X G (sy.d.fact 45 (f := .free "enumerate") rfl), k_MOST_COLUMNS := He.int_ok X G (sy.d.fact 46 (f := .int "MOST_COLUMNS" 5) rfl), g_is_name := He.glo_ok X G (sy.d.fact 47 (f := .glo "is_name") rfl), n_set := He.free_ok X G (sy.d.fact 48 (f := .free "set") rfl), k_LONGEST_NAME := He.int_ok X G (sy.d.fact 49 (f := .int "LONGEST_NAME" 8) rfl), k_LETTERS := He.str_ok X G (sy.d.fact 50 (f := .str "LETTERS" "abcdefghijklmnopqrstuvwxyz") rfl), g__law_cell := He.glo_ok X G (sy.d.fact 51 (f := .glo "_law_cell") rfl), g_law := He.glo_ok X G (sy.d.fact 52 (f := .glo "law") rfl), kit_Listing_Listing := DH.kitB_ok (sy.b 5 rfl), i_Listing := DH.insB_ok (He.cls_ok (sy.d.fact 53 (f := .cls "Listing") rfl)) (sy.b 6 rfl) }⟩
end Lk50

set_option Elab.async false
set_option linter.all false
set_option maxRecDepth 100000
set_option maxHeartbeats 4000000
set_option exponentiation.threshold 20000
namespace Lk50
open PySem PySem.Spec L2 DD PG FB
@[irreducible] def f__law_told (K : PySem.W.Frag) : Fn := fun ds G Q _ => ∃ (x y : D) (cs : List Str) (rs : List (List Str)), ds = [x, eC cs, y] ∧ IsL K G x (eC cs) (eRs rs) ∧ derD y G = some (.lst (eRs rs)) ∧ colsOk cs = true ∧ rowsOk cs.length rs ∧ rs.length ≤ 1000 ∧ Q (.bl true) G
@[irreducible] def f__law_change (K : PySem.W.Frag) : Fn := fun ds G Q _ => ∃ (a w b l : Addr) (cs ps : List Str) (rs : List (List Str)) (c : Nat), ds = [.ref a, .ref w, eC cs, .lst (ps.map D.str), .ref b] ∧ G a = some (.jar c) ∧ G w = some (lsT K cs l rs) ∧ G b = some (.mls (eRs rs)) ∧ colsOk cs = true ∧ rowsOk cs.length rs ∧ rs.length ≤ 500 ∧
  1 ≤ ps.length ∧ ps.length ≤ 6 ∧ (∀ x ∈ ps, cellS x = true) ∧ c + 1000 ≤ 2 ^ 62 ∧
  ∀ rs' c', rowsOk cs.length rs' → rs'.length ≤ rs.length + 1 → c' ≤ c + 10 → Q (.bl true) (gset (gset (gset G a (some (.jar c'))) w (some (lsT K cs l rs'))) b (some (.mls (eRs rs'))))
def f_law (K : PySem.W.Frag) : Fn := fun ds G Q _ => ∃ ns : List Int, ds = [.lst (ns.map D.int)] ∧ Script ns ∧ ∀ G', Q (.bl true) G'
section
variable {K : PySem.W.Frag} {ds : List D} {G : DG} {Q : D → DG → Prop} {E : DX → DG → Prop}
theorem len_law (h : f_law K ds G Q E) : ds.length = 1 := by obtain ⟨_, rfl, _⟩ := h; rfl
theorem len__law_told (h : f__law_told K ds G Q E) : ds.length = 3 := by unfold f__law_told at h; obtain ⟨_, _, _, _, rfl, _⟩ := h; rfl
theorem len__law_change (h : f__law_change K ds G Q E) : ds.length = 5 := by unfold f__law_change at h; obtain ⟨_, _, _, _, _, _, _, _, rfl, _⟩ := h; rfl
theorem c_toldL {x y : D} {cs : List Str} {rs : List (List Str)} (hx : IsL K G x (eC cs) (eRs rs)) (hy : derD y G = some (.lst (eRs rs))) (hc : colsOk cs = true) (ho : rowsOk cs.length rs) (hl : rs.length ≤ 1000) (q : Q (.bl true) G) : f__law_told K [x, eC cs, y] G Q E := by
  unfold f__law_told; exact ⟨_, _, _, _, rfl, hx, hy, hc, ho, hl, q⟩
theorem c_change {a w b l : Addr} {cs ps : List Str} {rs : List (List Str)} {c : Nat} (ga : G a = some (.jar c)) (gw : G w = some (lsT K cs l rs)) (gb : G b = some (.mls (eRs rs))) (hc : colsOk cs = true) (ho : rowsOk cs.length rs) (hl : rs.length ≤ 500)
    (p1 : 1 ≤ ps.length) (p6 : ps.length ≤ 6) (hp : ∀ x ∈ ps, cellS x = true) (hb : c + 1000 ≤ 2 ^ 62)
    (q : ∀ rs' c', rowsOk cs.length rs' → rs'.length ≤ rs.length + 1 → c' ≤ c + 10 → Q (.bl true) (gset (gset (gset G a (some (.jar c'))) w (some (lsT K cs l rs'))) b (some (.mls (eRs rs'))))) : f__law_change K [.ref a, .ref w, eC cs, .lst (ps.map D.str), .ref b] G Q E := by
  unfold f__law_change; exact ⟨_, _, _, _, _, _, _, _, rfl, ga, gw, gb, hc, ho, hl, p1, p6, hp, hb, q⟩
end
end Lk50

set_option Elab.async false
set_option linter.all false
set_option maxRecDepth 100000
set_option maxHeartbeats 0
namespace Lk50
open PySem PySem.Spec L2 DD PG FB
abbrev N_NoRow___init__ : List Str := ["self", "index"]
abbrev N__law_told : List Str := ["_law_stock", "_law_heads", "_law_rows_here", "_law_turn", "_law_text"]
def tb__law_told (K : PySem.W.Frag) : DTS := (sSeq (sFor (aP (piR1 (pC (.int 2)))) (gP (tN 3))
  (sSeq (sSet 4 (eP (pFn (F_listing_text K) (pCons (pV 0) pNil))))
  (zIf (tP (qOr (qNot (pTru (pIsi .str (pBo 4)))) (pTst (pBin neD (pBo 4) (pFn (F__law_listing_text K) (pCons (pV 1) (pCons (pV 2) pNil)))))))
  (sRet (eP (pC (.bl false))))
  sNext)))
  (sRet (eP (pAnd (pFn (F__law_same K 4) (pCons (pMt (He.ga K "Listing") "columns" (F_Listing_columns K) (pV 0) pNil) (pCons (pV 1) pNil))) (pFn (F__law_same_rows K) (pCons (pMt (He.ga K "Listing") "rows" (F_Listing_rows K) (pV 0) pNil) (pCons (pV 2) pNil)))))))
abbrev N_NoIndex___init__ : List Str := ["self", "index"]
abbrev N__law_change : List Str := ["_law_well_here", "_law_stock", "_law_heads", "_law_pool_here", "_law_rows_here", "_law_way", "_law_row", "_law_spot", "_law_head"]
def tb__law_change (K : PySem.W.Frag) : DTS := (sSeq (sSet 5 (dCall (f__law_draw K) (aP (pCons (pV 0) (pCons (pC (.int 3)) pNil)))))
  (sSeq (sSet 6 (zCallV tupleD (dCons (dFrz (zLc (aP (piSeq (pV 2))) (gP (tN 8)) (tP qYes) (zBinV ixD (eP (pV 3)) (dCall (f__law_draw K) (aP (pCons (pV 0) (pCons (pCallB lenD (pCons (pBo 3) pNil)) pNil))))) [8])) dNil)))
  (sSeq (zIf (tP (qOr (pTst (pBin eqD (pBo 5) (pC (.int 0)))) (pTst (pBin eqD (pDer (pV 4)) (pLst pNil)))))
  (sSeq (sExpr (dMeth (He.ga K "Listing") "put" (f_Listing_put K) (eP (pV 1)) (aP (pCons (pV 6) pNil))))
  (zMutM 4 gApp (dCons (eP (pV 6)) dNil)))
  (sSeq (sSet 7 (dCall (f__law_draw K) (aP (pCons (pV 0) (pCons (pCallB lenD (pCons (pDer (pV 4)) pNil)) pNil)))))
  (zIf (tP (pTst (pBin eqD (pBo 5) (pC (.int 1)))))
  (sSeq (sExpr (dMeth (He.ga K "Listing") "drop" (f_Listing_drop K) (eP (pV 1)) (aP (pCons (pV 7) pNil))))
  (zMutM 4 gPopAt (dCons (eP (pV 7)) dNil)))
  (sSeq (sSetO (He.ga K "Listing") (f_Listing___setitem__ K) (eP (pV 6)) (eP (pV 1)) (eP (pV 7)))
  (sSetAt (eP (pV 6)) (pVar 4) (eP (pV 7)))))))
  (sRet (eP (pC (.bl true)))))))
abbrev N_law : List Str := ["_law_script", "_law_k", "_law_well_here", "_law_changes", "_law_heads", "_law_pool_here", "_law_rows_here", "_law_stock", "_law_turn"]
def tb_law (K : PySem.W.Frag) : DTS := (sSeq (sFor (aP (piR1 (pCallB maxD (pCons (pC (.int 1)) (pCons (pCallB lenD (pCons (pBo 0) pNil)) pNil))))) (gP (tN 1))
  (sSeq (sSet 2 (dCall (f__law_well K) (aP (pCons (pV 0) (pCons (pV 1) pNil)))))
  (sSeq (sSet 3 (dCall (f__law_draw K) (aP (pCons (pV 2) (pCons (pC (.int 5)) pNil)))))
  (sSeq (zPar 4 5 (dCons (dCall (f__law_names K) (dCons (eP (pV 2)) (dCons (zBinV addD (eP (pC (.int 1))) (dCall (f__law_draw K) (aP (pCons (pV 2) (pCons (pC (.int 5)) pNil))))) dNil))) (dCons (dCall (f__law_pool K) (aP (pCons (pV 2) pNil))) dNil)))
  (sSeq (sSet 6 (dCall (f__law_rowsM K) (aP (pCons (pV 2) (pCons (pV 4) (pCons (pV 5) (pCons (pIfE (pTst (pBin ltD (pBo 1) (pC (.int 3)))) (pC (.int 50)) (pC (.int 8))) pNil)))))))
  (sSeq (sSet 7 (dMake (He.ga K "Listing") (f_Listing___init__ K) [] (aP (pCons (pV 4) (pCons (pCallB tupleD (pCons (pDer (pV 6)) pNil)) pNil)))))
  (sSeq (zIf (dNotT (zTru (dCall (f__law_told K) (aP (pCons (pV 7) (pCons (pV 4) (pCons (pV 6) pNil)))))))
  (sRet (eP (pC (.bl false))))
  sNext)
  (sFor (aP (piR1 (pV 3))) (gP (tN 8))
  (zIf (zOrT (dNotT (zTru (dCall (f__law_change K) (aP (pCons (pV 2) (pCons (pV 7) (pCons (pV 4) (pCons (pV 5) (pCons (pV 6) pNil))))))))) (dNotT (zTru (dCall (f__law_told K) (aP (pCons (pV 7) (pCons (pV 4) (pCons (pV 6) pNil))))))))
  (sRet (eP (pC (.bl false))))
  sNext)))))))))
  (sRet (eP (pC (.bl true)))))
end Lk50

set_option Elab.async false
set_option linter.all false
set_option maxRecDepth 100000
set_option maxHeartbeats 4000000
set_option exponentiation.threshold 20000
namespace Lk50
open PySem PySem.Spec L2 DD PG FB
section
variable {K : PySem.W.Frag} {mg : Str → Option Value}
theorem p__law_told (c : Fx K mg) (ds : List D) (G : DG) (Q : D → DG → Prop) (E : DX → DG → Prop) (h : f__law_told K ds G Q E) : tb__law_told K (fnEnds Q E) (dstart N__law_told ds) G := by
  unfold f__law_told at h
  obtain ⟨x, y, cs, rs, rfl, hx, hy, hc, ho, hl, q⟩ := h
  show tb__law_told K (fnEnds Q E) [some (.v x), some (.v (eC cs)), some (.v y), none, none] G
  have l5 := (cols_len hc).2
  refine for_inv (I := fun r δ G' => ∃ s3 s4 : Option SV, δ = [some (.v x), some (.v (eC cs)), some (.v y), s3, s4] ∧ G' = G) _ _ _ ⟨_, _, rfl, rfl⟩ ?_ ?_
  · rintro δ G' ⟨s3, s4, rfl, rfl⟩
    refine onO_of (pAnd_of (b := true) (c := true) (pFn_of (pCons_of (ls_cols rfl hx) (pCons_of (x := eC cs) rfl rfl)) (F_same_ok (ask_eC (by omega)))) fun _ => pFn_of (pCons_of (ls_rows rfl hx) (pCons_of (x := y) rfl rfl)) (F_srows hy (by omega) fun r hr => by rw [row_len (ho r hr)]; exact l5)) ?_
    exact q
  · rintro u r δ G' nx ⟨s3, s4, rfl, rfl⟩ hnx
    refine onO_of rfl ?_
    refine onO_of (pFn_of (xs := [x]) rfl (F_listt hx hc ho (by omega))) ?_
    dsimp only [List.set]
    refine onO_of (qOr_f rfl (pTst_of (pBin_of rfl (pFn_of (xs := [eC cs, y]) rfl (F_llistD hy hc ho hl)) (neD_self rfl)))) ?_
    exact hnx _ _ ⟨_, _, rfl, rfl⟩
theorem p__law_change (c : Fx K mg) (ds : List D) (G : DG) (Q : D → DG → Prop) (E : DX → DG → Prop) (h : f__law_change K ds G Q E) : tb__law_change K (fnEnds Q E) (dstart N__law_change ds) G := by
  unfold f__law_change at h
  obtain ⟨a, w, b, l, cs, ps, rs, n, rfl, ga, gw, gb, hc, ho, hl, p1, p6, hp, hb, q⟩ := h
  have l5 := (cols_len hc).2
  have aw : a ≠ w := fun e => by rw [e, gw] at ga; cases ga
  have ab : a ≠ b := fun e => by rw [e, gb] at ga; cases ga
  have wb : w ≠ b := fun e => by rw [e, gb] at gw; cases gw
  show tb__law_change K (fnEnds Q E) [some (.v (.ref a)), some (.v (.ref w)), some (.v (eC cs)), some (.v (.lst (ps.map D.str))), some (.v (.ref b)), none, none, none, none] G
  rw [← gset_self ga]
  have gw' : ∀ u, (gset G a u) w = some (lsT K cs l rs) := fun u => by rw [gset_ne (Ne.symm aw)]; exact gw
  have gb' : ∀ u, (gset G a u) b = some (.mls (eRs rs)) := fun u => by rw [gset_ne (Ne.symm ab)]; exact gb
  refine drw (by omega) (by decide) (by decide) fun t t0 t1 => ?_
  dsimp only [List.set]
  refine seq_in ?_
  refine c_row (w := 0) (h := 2) (p := 3) (x := 8) (a := a) (c := n + 1) (δ := [some (.v (.ref a)), some (.v (.ref w)), some (.v (eC cs)), some (.v (.lst (ps.map D.str))), some (.v (.ref b)), some (.v (.int t)), none, none, none]) rfl rfl rfl rfl (by decide) (by decide) l5 p1 p6 hp (by omega) fun row hrow => ?_
  dsimp only [List.set]
  generalize hk : n + 1 + cs.length = k
  have fin : ∀ rs' c', rowsOk cs.length rs' → rs'.length ≤ rs.length + 1 → c' ≤ n + 10 → Q (.bl true) (gset (gset (gset G a (some (.jar c'))) w (some (lsT K cs l rs'))) b (some (.mls (eRs rs')))) := q
  have gb2 : ∀ u v, (gset (gset G a u) w v) b = some (.mls (eRs rs)) := fun u v => by rw [gset_ne (Ne.symm wb)]; exact gb' u
  have der : ∀ {δ : DSt} {u : Option DO}, (pV 4) δ (gset G a u) = some (.ref b) → (pDer (pV 4)) δ (gset G a u) = some (.lst (eRs rs)) := fun h => by
    unfold pDer
    rw [h, bO_some rfl]
    exact der_ref (gb' _)
  refine seq_in ?_
  dsimp only
  refine onO_of (qOr_of (b := t == 0) rfl fun _ => pTst_of (pBin_of (der rfl) rfl (eq_rows rs []))) ?_
  refine brP_of (fun hd => ?_) (fun hd => ?_)
  · refine onO_of rfl ?_
    refine ⟨⟨_, gw' _, rfl⟩, ?_⟩
    refine onO_of rfl ?_
    refine c_put_ok (by omega) (gw' _) hrow (by omega) ?_
    dsimp only
    refine onO_of (z := b) rfl ?_
    refine ⟨⟨_, gb2 _ _⟩, _, gb2 _ _, ?_⟩
    refine onO_if (by rw [eRs_len]; omega) ?_
    rw [← eRs_app]
    exact fin _ _ (rowsOk_app ho hrow) (by simp) (by omega)
  · have hne : rs ≠ [] := fun e => by rw [e] at hd; simp at hd
    have hpos : 0 < rs.length := List.length_pos_iff.mpr hne
    refine onO_of (pCons_of rfl (pCons_of (xs := []) (pLen_lst (der rfl)) rfl)) ?_
    refine drw (by omega) (by rw [eRs_len]; omega) (by rw [eRs_len]; omega) fun s s0 s1 => ?_
    rw [eRs_len] at s1
    obtain ⟨i, rfl⟩ : ∃ i : Nat, s = i := ⟨s.toNat, by omega⟩
    have hi : i < rs.length := by omega
    dsimp only [List.set]
    refine brP_of (fun ht => ?_) (fun ht => ?_)
    · refine onO_of rfl ?_
      refine ⟨⟨_, gw' _, rfl⟩, ?_⟩
      refine onO_of rfl ?_
      refine c_drop_ok (gw' _) hi (by omega) ?_
      dsimp only
      refine onO_of (z := b) rfl ?_
      refine ⟨⟨_, gb2 _ _⟩, _, gb2 _ _, ?_⟩
      have hg : gPopAt (eRs rs) [.int (i : Nat)] = some (eRs (rs.eraseIdx i), eC rs[i]) := by
        show (if (0 : Int) ≤ (i : Int) ∧ (i : Int) < 1000000 then ((eRs rs)[(i : Int).toNat]?).map fun y => ((eRs rs).eraseIdx (i : Int).toNat, y) else none) = _
        rw [if_pos ⟨by omega, by omega⟩]
        simp [eRs, hi, map_erase]
      show onO (gPopAt (eRs rs) [D.int (i : Nat)]) _
      rw [hg]
      exact fin _ _ (rowsOk_erase ho) (by rw [List.length_eraseIdx]; split <;> omega) (by omega)
    · refine seq_in ?_
      unfold sSetO
      refine onO_of (z := eC row) rfl ?_
      refine onO_of (z := D.ref w) rfl ?_
      refine onO_of (z := D.int i) rfl ?_
      refine ⟨⟨_, gw' _⟩, ?_⟩
      refine c_set_ok (by omega) (gw' _) hrow hi (by omega) ?_
      dsimp only
      unfold sSetAt
      refine onO_of (z := eC row) rfl ?_
      refine .inr ⟨b, eRs rs, rfl, gb2 _ _, ?_⟩
      refine onO_of (z := D.int i) rfl ?_
      refine ⟨_, eRs rs, i, rfl, gb2 _ _, by unfold ixN; rw [if_pos (by omega), if_pos (by rw [eRs_len]; omega)]; simp, ?_⟩
      rintro δ' G' ⟨rfl, rfl⟩
      rw [← eRs_set]
      exact fin _ _ (rowsOk_set ho hrow) (by simp) (by omega)
theorem p_law (c : Fx K mg) (ds : List D) (G : DG) (Q : D → DG → Prop) (E : DX → DG → Prop) (h : f_law K ds G Q E) : tb_law K (fnEnds Q E) (dstart N_law ds) G := by
  obtain ⟨ns, rfl, hs, q⟩ := h
  show tb_law K (fnEnds Q E) [some (.v (.lst (ns.map D.int))), none, none, none, none, none, none, none, none] G
  obtain ⟨L, hL, L1, L2, _⟩ := cells_ok (m := (ns.map D.int).length)
  have L63 : L ≤ 63 := L2 (by simpa using hs.1)
  refine onO_of (piR1_of (pCallB_of (pCons_of rfl (pCons_of (pLen_lst rfl) rfl)) hL) (r1_ok (by omega))) ?_
  refine for_inv (I := fun r δ G' => ∃ (k : Nat) (s1 s2 s3 s4 s5 s6 s7 s8 : Option SV), r = (rngD L).drop k ∧ δ = [some (.v (.lst (ns.map D.int))), s1, s2, s3, s4, s5, s6, s7, s8]) _ _ _ ⟨0, _, _, _, _, _, _, _, _, rfl, rfl⟩ ?_ ?_
  · rintro δ G' ⟨k, s1, s2, s3, s4, s5, s6, s7, s8, _, rfl⟩
    exact q _
  · rintro x r δ G' nx ⟨k, s1, s2, s3, s4, s5, s6, s7, s8, hr, rfl⟩ hnx
    obtain ⟨hk2, rfl, hr2⟩ := rng_cons hr.symm
    refine c_well hs.2 (by omega) (by omega) fun a ha => ?_
    refine drw (by decide) (by decide) (by decide) fun t t0 t1 => ?_
    refine drw (by decide) (by decide) (by decide) fun m m0 m1 => ?_
    refine c_names (by omega) (by omega) (by decide) fun cs hcs hl => ?_
    have hc := cols_len hcs
    refine c_pool (by decide) fun ps p1 p6 hps => ?_
    refine onO_of rfl ?_
    dsimp only [List.set]
    refine seq_in ?_
    obtain ⟨mm, hm, m1', m50⟩ : ∃ mm : Nat, (pIfE (pTst (pBin ltD (pBo 1) (pC (.int 3)))) (pC (.int 50)) (pC (.int 8))) [some (.v (.lst (ns.map D.int))), some (.v (.int k)), some (.v (.ref a)), some (.v (.int t)), some (.v (eC cs)), some (.v (.lst (ps.map D.str))), s6, s7, s8] (gset G' a (some (.jar (0 + 1 + 1 + 100 + 200)))) = some (.int mm) ∧ 1 ≤ mm ∧ mm ≤ 50 := by
      by_cases h3 : (k : Int) < 3
      · exact ⟨50, pIfE_t (by show some (decide ((k : Int) < 3)) = _; rw [decide_eq_true h3]) rfl, by omega, by omega⟩
      · exact ⟨8, pIfE_f (by show some (decide ((k : Int) < 3)) = _; rw [decide_eq_false h3]) rfl, by omega, by omega⟩
    refine onO_of (pCons_of rfl (pCons_of rfl (pCons_of rfl (pCons_of hm rfl)))) ?_
    refine c_rowsM hc.2 p1 p6 hps m1' (by omega) (by decide) fun rs ho hlen b ba hb => ?_
    dsimp only [List.set]
    refine seq_in ?_
    have gb : (gset (gset G' a (some (.jar (0 + 1 + 1 + 100 + 200 + 1000)))) b (some (.mls (eRs rs)))) b = some (.mls (eRs rs)) := gset_same
    refine onO_of (pCons_of rfl (pCons_of (pCallB_of (pCons_of (by unfold pDer; exact der_ref gb) rfl) (tup_lst _)) rfl)) ?_
    intro w hw
    have wb : w ≠ b := fun e => by rw [e, gb] at hw; cases hw
    have wa : w ≠ a := fun e => by rw [e, gset_ne (Ne.symm ba), gset_same] at hw; cases hw
    refine c_Listing_init gset_same hcs ho (by omega) fun l => ⟨rfl, ?_⟩
    rw [gset_gset]
    dsimp only [List.set]
    refine seq_in ?_
    refine c_toldL (.of_ref gset_same) (der_ref (by rw [gset_ne (Ne.symm wb)]; exact gb)) hcs ho (by omega) ?_
    refine onO_of (α := List D) (z := rngD t) (piR1_of (p := pV 3) (δ := [some (.v (.lst (ns.map D.int))), some (.v (.int k)), some (.v (.ref a)), some (.v (.int t)), some (.v (eC cs)), some (.v (.lst (ps.map D.str))), some (.v (.ref b)), some (.v (.ref w)), s8]) (x := .int t) rfl (show r1O (.int t) = some (rngD t) from by show (match inR t with | true => some (rngD t) | false => none) = _; rw [inR_iff.mpr (by omega)])) ?_
    refine for_inv (I := fun r δ G'' => ∃ (rs : List (List Str)) (c' : Nat) (s8 : Option SV), δ = [some (.v (.lst (ns.map D.int))), some (.v (.int k)), some (.v (.ref a)), some (.v (.int t)), some (.v (eC cs)), some (.v (.lst (ps.map D.str))), some (.v (.ref b)), some (.v (.ref w)), s8] ∧ G'' a = some (.jar c') ∧ c' + 10 * r.length ≤ 5000 ∧ G'' w = some (lsT K cs l rs) ∧ G'' b = some (.mls (eRs rs)) ∧ rowsOk cs.length rs ∧ rs.length + r.length ≤ 100) _ _ _
      ⟨rs, _, _, rfl, by rw [gset_ne (Ne.symm wa), gset_ne (Ne.symm ba), gset_same], by simp [rngD]; omega, gset_same, by rw [gset_ne (Ne.symm wb)]; exact gb, ho, by simp [rngD]; omega⟩ ?_ ?_
    · rintro δ G'' ⟨rs, c', s8, rfl, _⟩
      exact hnx _ _ ⟨k + 1, _, _, _, _, _, _, _, _, hr2, rfl⟩
    · rintro u r δ G'' nx2 ⟨rs, c', s8, rfl, ga, hc', gw, gb, ho, hlr⟩ hnx2
      simp only [List.length_cons] at hc' hlr
      refine onO_of rfl ?_
      refine c_change ga gw gb hcs ho (by omega) p1 p6 hps (by omega) fun rs' c2 ho' hl' hc2 => ?_
      have g1 : (gset (gset (gset G'' a (some (.jar c2))) w (some (lsT K cs l rs'))) b (some (.mls (eRs rs')))) w = some (lsT K cs l rs') := by rw [gset_ne wb, gset_same]
      refine c_toldL (.of_ref g1) (der_ref gset_same) hcs ho' (by omega) ?_
      exact hnx2 _ _ ⟨rs', c2, _, rfl, by rw [gset_ne (Ne.symm ba), gset_ne (Ne.symm wa), gset_same], by omega, g1, gset_same, ho', by omega⟩
theorem law_law (c : Fx K mg) (ns : List Int) (h : Script ns) : f_law K [.lst (ns.map D.int)] (fun _ => none) (fun v _ => v = .bl true) (fun _ _ => False) := ⟨ns, rfl, h, fun _ => rfl⟩
end
end Lk50

set_option Elab.async false
set_option linter.all false
set_option maxRecDepth 100000
set_option maxHeartbeats 0
namespace Lk50
open PySem PySem.Spec L2 DD PG FB
section
variable {P : Program} {w : World} {K : PySem.W.Frag} {mg : Str → Option Value} {base : Heap}
theorem sc__law_well : FnScope N__law_well ["_law_script", "_law_k"] (defScope s24) := ⟨rfl, rfl, rfl, by decide +kernel, rfl, by decide +kernel, by decide +kernel⟩
theorem b__law_well (c : Fx K mg) : Binds K c.d__law_well ["_law_script", "_law_k"] [] := c.D__law_well.bindsN fun _ _ _ _ _ _ us hl => match us, hl with | [_, _], _ => rfl
theorem ok__law_well (c : Fx K mg) : FnOk P w K mg base (L2.CX P w) 1 (He.fAd K ("_law_well", none)) c.d__law_well ["_law_script", "_law_k"] (spD K (f__law_well K)) :=
  dfn (db := tb__law_well K) c.D__law_well sc__law_well (fun _ _ _ _ h => len__law_well h) (fun cdv A outer s H E hr =>
    (dss_cons (ds_set (i := 2) sc__law_well.nd rfl (by first | exact Or.inl rfl | exact Or.inr rfl) (xe_c de_int))
      (dss_cons (zs_if (xt_cmp (DD.op_lt) (xb_var (pv 1)) (DE_b (xe_callB (de_callB call_lenD (by rfl) c.n_len (by decide +kernel) (xab_cons (xb_var (pv 0)) xab_nil)))) (nomark _))
      (dss_one (ds_set (i := 2) sc__law_well.nd rfl (by first | exact Or.inl rfl | exact Or.inr rfl) (xe_callB (de_callTy call_intD (by rfl) c.n_int (by decide +kernel) (xab_cons (DE_b (xe_ix ix_any (xb_var (pv 0)) (xb_var (pv 1)) (fun _ _ => rfl))) xab_nil)))))
      dss_nil)
      (dss_cons (ds_set (i := 3) sc__law_well.nd rfl (by first | exact Or.inl rfl | exact Or.inr rfl) (xe_bin DD.op_rep (DE_b (xe_c de_int)) (xb_var (pv 2))))
      (dss_cons (zs_if (xt_cmp (DD.op_lt) (xb_var (pv 2)) (DE_b (xe_c de_int)) (nomark _))
      (dss_one (ds_set (i := 3) sc__law_well.nd rfl (by first | exact Or.inl rfl | exact Or.inr rfl) (xe_bin DD.op_sub (DE_b (xe_bin DD.op_rep (DE_b (xe_un un_neg' (DE_b (xe_c de_int)))) (xb_var (pv 2)))) (DE_b (xe_c de_int)))))
      dss_nil)
      (dss_one (ds_ret (de_newJ (xf_lst (xa_cons (xe_callB (de_callB (call_maxD rfl) (by rfl) c.n_max (by decide +kernel) (xab_cons (DE_b (xe_c de_int)) (xab_cons (DE_b (xe_bin DD.op_sub (xb_var (pv 3)) (DE_b (xe_bin DD.op_pow (DE_b (xe_c de_int)) (DE_b (xe_c de_int)))))) xab_nil)))) (xa_cons (xe_bin DD.op_add (DE_b (xe_bin DD.op_mod (DE_b (xe_callB (de_callTy call_intD (by rfl) c.n_int (by decide +kernel) (xab_cons (xb_var (pv 3)) xab_nil)))) (DE_b (xe_bin DD.op_add (DE_b (xe_bin DD.op_pow (DE_b (xe_c de_int)) (DE_b (xe_c de_int)))) (DE_b (xe_c de_int)))))) (DE_b (xe_bin DD.op_rep (DE_b (xe_c de_int)) (xb_var (pv 1))))) (xa_cons (xe_c de_int) xa_nil))) (pl_cons (pl_cons (pl_cons pl_nil)))))))))))) (p__law_well)
theorem sc__law_draw : FnScope N__law_draw ["_law_well_here", "_law_many"] (defScope s25) := ⟨rfl, rfl, rfl, by decide +kernel, rfl, by decide +kernel, by decide +kernel⟩
theorem b__law_draw (c : Fx K mg) : Binds K c.d__law_draw ["_law_well_here", "_law_many"] [] := c.D__law_draw.bindsN fun _ _ _ _ _ _ us hl => match us, hl with | [_, _], _ => rfl
theorem ok__law_draw (c : Fx K mg) : FnOk P w K mg base (L2.CX P w) 1 (He.fAd K ("_law_draw", none)) c.d__law_draw ["_law_well_here", "_law_many"] (spD K (f__law_draw K)) := by
  rw [show f__law_draw K = fDraw from fDr_eq]
  exact draw_ok (dfn (db := tb__law_draw K) c.D__law_draw sc__law_draw (fun _ _ _ _ h => len__law_draw h) (fun cdv A outer s H E hr =>
    (dss_cons (zs_if (xt_cmp (DD.op_gt) (DE_b (xe_ix ix_any (xb_der (xe_var (pv 0))) (DE_b (xe_c de_int)) (fun _ _ => rfl))) (DE_b (xe_c de_int)) (nomark _))
      (dss_cons (ds_set (i := 2) sc__law_draw.nd rfl (by first | exact Or.inl rfl | exact Or.inr rfl) (xe_bin DD.op_mod (DE_b (xe_callB (de_callTy call_intD (by rfl) c.n_int (by decide +kernel) (xab_cons (DE_b (xe_ix ix_any (xb_der (xe_var (pv 0))) (DE_b (xe_c de_int)) (fun _ _ => rfl))) xab_nil)))) (xb_var (pv 1))))
      (dss_cons (ds_setAt (xe_bin DD.op_fdiv (DE_b (xe_ix ix_any (xb_der (xe_var (pv 0))) (DE_b (xe_c de_int)) (fun _ _ => rfl))) (xb_var (pv 1))) (dp_var (pv 0)) (xe_c de_int))
      (dss_one (ds_ret (xe_var (pv 2))))))
      dss_nil)
      (dss_cons (ds_set (i := 3) sc__law_draw.nd rfl (by first | exact Or.inl rfl | exact Or.inr rfl) (xe_bin DD.op_add (DE_b (xe_ix ix_any (xb_der (xe_var (pv 0))) (DE_b (xe_c de_int)) (fun _ _ => rfl))) (DE_b (xe_c de_int))))
      (dss_cons (ds_setAt (xe_var (pv 3)) (dp_var (pv 0)) (xe_c de_int))
      (dss_cons (ds_set (i := 4) sc__law_draw.nd rfl (by first | exact Or.inl rfl | exact Or.inr rfl) (xe_bin DD.op_mod (DE_b (xe_callB (de_callTy call_intD (by rfl) c.n_int (by decide +kernel) (xab_cons (DE_b (xe_bin DD.op_add (DE_b (xe_bin DD.op_pow (DE_b (xe_bin DD.op_add (DE_b (xe_ix ix_any (xb_der (xe_var (pv 0))) (DE_b (xe_c de_int)) (fun _ _ => rfl))) (DE_b (xe_bin DD.op_rep (DE_b (xe_c de_int)) (xb_var (pv 3)))))) (DE_b (xe_c de_int)))) (DE_b (xe_bin DD.op_rep (DE_b (xe_c de_int)) (xb_var (pv 3)))))) xab_nil)))) (DE_b (xe_bin DD.op_add (DE_b (xe_bin DD.op_pow (DE_b (xe_c de_int)) (DE_b (xe_c de_int)))) (DE_b (xe_c de_int))))))
      (dss_cons (ds_set (i := 4) sc__law_draw.nd rfl (by first | exact Or.inl rfl | exact Or.inr rfl) (xe_bin DD.op_mod (DE_b (xe_callB (de_callTy call_intD (by rfl) c.n_int (by decide +kernel) (xab_cons (DE_b (xe_bin DD.op_pow (DE_b (xe_bin DD.op_add (xb_var (pv 4)) (DE_b (xe_bin DD.op_rep (DE_b (xe_c de_int)) (xb_var (pv 3)))))) (DE_b (xe_c de_int)))) xab_nil)))) (DE_b (xe_bin DD.op_add (DE_b (xe_bin DD.op_pow (DE_b (xe_c de_int)) (DE_b (xe_c de_int)))) (DE_b (xe_c de_int))))))
      (dss_one (ds_ret (xe_bin DD.op_mod (DE_b (xe_callB (de_callTy call_intD (by rfl) c.n_int (by decide +kernel) (xab_cons (DE_b (xe_bin DD.op_fdiv (xb_var (pv 4)) (DE_b (xe_bin DD.op_pow (DE_b (xe_c de_int)) (DE_b (xe_c de_int)))))) xab_nil)))) (xb_var (pv 1))))))))))) (p__law_draw))
theorem sc__law_cell : FnScope N__law_cell ["_law_well_here"] (defScope s27) := ⟨rfl, rfl, rfl, by decide +kernel, rfl, by decide +kernel, by decide +kernel⟩
theorem b__law_cell (c : Fx K mg) : Binds K c.d__law_cell ["_law_well_here"] [] := c.D__law_cell.bindsN fun _ _ _ _ _ _ us hl => match us, hl with | [_], _ => rfl
theorem ok__law_cell (c : Fx K mg) : FnOk P w K mg base (L2.CX P w) 2 (He.fAd K ("_law_cell", none)) c.d__law_cell ["_law_well_here"] (spD K (f__law_cell K)) :=
  dfnJ (db := tb__law_cell K) c.D__law_cell sc__law_cell (fun _ _ _ _ h => len__law_cell h) (fun cdv A outer s H E hr =>
    (dss_cons (ds_set (i := 1) sc__law_cell.nd rfl (by first | exact Or.inl rfl | exact Or.inr rfl) (xe_c (de_str)))
      (dss_cons (ds_set (i := 2) sc__law_cell.nd rfl (by first | exact Or.inl rfl | exact Or.inr rfl) (xe_frz (xf_lst (xa_cons (xe_c (de_str)) (xa_cons (xe_c (de_str)) (xa_cons (xe_c (de_str)) (xa_cons (xe_c (de_str)) (xa_cons (xe_c (de_str)) (xa_cons (xe_c (de_str)) (xa_cons (xe_c (de_str)) (xa_cons (xe_c (de_str)) (xa_cons (xe_c (de_str)) (xa_cons (xe_c (de_str)) (xa_cons (xe_c (de_str)) (xa_cons (xe_c (de_str)) xa_nil)))))))))))) (pl_cons (pl_cons (pl_cons (pl_cons (pl_cons (pl_cons (pl_cons (pl_cons (pl_cons (pl_cons (pl_cons (pl_cons pl_nil)))))))))))))))
      (dss_cons (ds_set (i := 3) sc__law_cell.nd rfl (by first | exact Or.inl rfl | exact Or.inr rfl) (de_call (ok__law_draw c) (hr.mono (by decide)) (by rfl) c.g__law_draw c.D__law_draw.kp (b__law_draw c) (takes_of rfl rfl rfl rfl) (xa_cons (xe_var (pv 0)) (xa_cons (xe_c de_int) xa_nil))))
      (dss_cons (zs_if (xt_cmp (DD.op_eq hr.units) (xb_var (pv 3)) (DE_b (xe_c de_int)) (nomark _))
      (dss_one (ds_ret (xe_c (de_str))))
      dss_nil)
      (dss_cons (zs_if (xt_cmp (DD.op_eq hr.units) (xb_var (pv 3)) (DE_b (xe_c de_int)) (nomark _))
      (dss_one (ds_ret (z_e (de_ixV ix_any (xe_var (pv 1)) (DE_b (de_call (ok__law_draw c) (hr.mono (by decide)) (by rfl) c.g__law_draw c.D__law_draw.kp (b__law_draw c) (takes_of rfl rfl rfl rfl) (xa_cons (xe_var (pv 0)) (xa_cons (xe_c de_int) xa_nil)))) (fun _ _ => rfl)) zBinV_eq)))
      dss_nil)
      (dss_cons (zs_if (xt_cmp (DD.op_eq hr.units) (xb_var (pv 3)) (DE_b (xe_c de_int)) (nomark _))
      (dss_cons (ds_asg (z_e (de_tup (da_cons (de_call (ok__law_draw c) (hr.mono (by decide)) (by rfl) c.g__law_draw c.D__law_draw.kp (b__law_draw c) (takes_of rfl rfl rfl rfl) (xa_cons (xe_var (pv 0)) (xa_cons (xe_c de_int) xa_nil))) (da_cons (de_call (ok__law_draw c) (hr.mono (by decide)) (by rfl) c.g__law_draw c.D__law_draw.kp (b__law_draw c) (takes_of rfl rfl rfl rfl) (xa_cons (xe_var (pv 0)) (xa_cons (xe_c de_int) xa_nil))) da_nil))) zTup_eq) (xg_tup (dg_tup rfl (xgs_cons (dg_name (i := 4) sc__law_cell.nd rfl (by first | exact Or.inl rfl | exact Or.inr rfl)) (xgs_cons (dg_name (i := 5) sc__law_cell.nd rfl (by first | exact Or.inl rfl | exact Or.inr rfl)) xgs_nil)))))
      (dss_one (ds_ret (xe_join (de_join (DE_b (xe_c (de_str))) (DE_b (xe_frz (xf_lc (df_lcW rfl sc__law_cell.nd (xi_r1 (di_rng1 (by rfl) c.n_range (xa_cons (xe_c de_int) xa_nil))) (blkOk_by (own := [("_law_k", 6)]) (N := N__law_cell) (sc := defScope s27) (by decide +kernel)) (fun _ _ _ _ _ => (dgc_name (vs := [6]) (i := 6) (by decide) sc__law_cell.nd rfl (by first | exact Or.inl rfl | exact Or.inr rfl))) (fun _ _ _ _ _ => xdts_nil) (fun _ _ _ _ _ => (xe_ix ix_any (xb_var (pv 1)) (DE_b (xe_bin DD.op_mod (DE_b (xe_callB (de_callTy call_intD (by rfl) c.n_int (by decide +kernel) (xab_cons (DE_b (xe_bin DD.op_add (xb_var (pv 4)) (DE_b (xe_bin DD.op_rep (xb_var (pv 5)) (xb_var (pv 6)))))) xab_nil)))) (DE_b (xe_c de_int)))) (fun _ _ => rfl))))))))))))
      dss_nil)
      (dss_cons (zs_if (xt_cmp (DD.op_eq hr.units) (xb_var (pv 3)) (DE_b (xe_c de_int)) (nomark _))
      (dss_one (ds_ret (z_e (de_ixV ix_any (xe_var (pv 2)) (DE_b (de_call (ok__law_draw c) (hr.mono (by decide)) (by rfl) c.g__law_draw c.D__law_draw.kp (b__law_draw c) (takes_of rfl rfl rfl rfl) (xa_cons (xe_var (pv 0)) (xa_cons (xe_c de_int) xa_nil)))) (fun _ _ => rfl)) zBinV_eq)))
      dss_nil)
      (dss_one (ds_ret (z_e (de_joinV (xe_c (de_str)) (DE_b (DF_e (zf_lc (df_lcW rfl sc__law_cell.nd (di_rng1 (by rfl) c.n_range (da_cons (de_call (ok__law_draw c) (hr.mono (by decide)) (by rfl) c.g__law_draw c.D__law_draw.kp (b__law_draw c) (takes_of rfl rfl rfl rfl) (xa_cons (xe_var (pv 0)) (xa_cons (xe_c de_int) xa_nil))) da_nil)) (blkOk_by (own := [("_law_k", 6)]) (N := N__law_cell) (sc := defScope s27) (by decide +kernel)) (fun _ _ _ _ _ => (dgc_name (vs := [6]) (i := 6) (by decide) sc__law_cell.nd rfl (by first | exact Or.inl rfl | exact Or.inr rfl))) (fun _ _ _ _ _ => xdts_nil) (fun _ _ _ _ _ => (z_e (de_ixV ix_any (xe_var (pv 1)) (DE_b (de_call (ok__law_draw c) (hr.mono (by decide)) (by rfl) c.g__law_draw c.D__law_draw.kp (b__law_draw c) takes0 (xa_cons (xe_var (pv 0)) (xa_cons (xe_c de_int) xa_nil)))) (fun _ _ => rfl)) zBinV_eq))))))) zJoin_eq))))))))))) (p__law_cell)
theorem sc__law_pool : FnScope N__law_pool ["_law_well_here"] (defScope s28) := ⟨rfl, rfl, rfl, by decide +kernel, rfl, by decide +kernel, by decide +kernel⟩
theorem b__law_pool (c : Fx K mg) : Binds K c.d__law_pool ["_law_well_here"] [] := c.D__law_pool.bindsN fun _ _ _ _ _ _ us hl => match us, hl with | [_], _ => rfl
theorem ok__law_pool (c : Fx K mg) : FnOk P w K mg base (L2.CX P w) 3 (He.fAd K ("_law_pool", none)) c.d__law_pool ["_law_well_here"] (spD K (f__law_pool K)) :=
  dfnJ (db := tb__law_pool K) c.D__law_pool sc__law_pool (fun _ _ _ _ h => len__law_pool h) (fun cdv A outer s H E hr =>
    (dss_one (ds_ret (DF_e (zf_lc (df_lcW rfl sc__law_pool.nd (di_rng1 (by rfl) c.n_range (da_cons (z_e (de_binV DD.op_add (xe_c de_int) (DE_b (de_call (ok__law_draw c) (hr.mono (by decide)) (by rfl) c.g__law_draw c.D__law_draw.kp (b__law_draw c) (takes_of rfl rfl rfl rfl) (xa_cons (xe_var (pv 0)) (xa_cons (xe_c de_int) xa_nil))))) zBinV_eq) da_nil)) (blkOk_by (own := [("_law_k", 1)]) (N := N__law_pool) (sc := defScope s28) (by decide +kernel)) (fun _ _ _ _ _ => (dgc_name (vs := [1]) (i := 1) (by decide) sc__law_pool.nd rfl (by first | exact Or.inl rfl | exact Or.inr rfl))) (fun _ _ _ _ _ => xdts_nil) (fun _ _ _ _ _ => (de_call (ok__law_cell c) (hr.mono (by decide)) (by rfl) c.g__law_cell c.D__law_cell.kp (b__law_cell c) takes0 (xa_cons (xe_var (pv 0)) xa_nil))))))))) (p__law_pool)
theorem sc__law_names : FnScope N__law_names ["_law_well_here", "_law_many"] (defScope s26) := ⟨rfl, rfl, rfl, by decide +kernel, rfl, by decide +kernel, by decide +kernel⟩
theorem b__law_names (c : Fx K mg) : Binds K c.d__law_names ["_law_well_here", "_law_many"] [] := c.D__law_names.bindsN fun _ _ _ _ _ _ us hl => match us, hl with | [_, _], _ => rfl
theorem ok__law_names (c : Fx K mg) : FnOk P w K mg base (L2.CX P w) 2 (He.fAd K ("_law_names", none)) c.d__law_names ["_law_well_here", "_law_many"] (spD K (f__law_names K)) :=
  dfnJ (db := tb__law_names K) c.D__law_names sc__law_names (fun _ _ _ _ h => len__law_names h) (fun cdv A outer s H E hr =>
    (dss_cons (ds_set (i := 2) sc__law_names.nd rfl (by first | exact Or.inl rfl | exact Or.inr rfl) (xe_c (de_str)))
      (dss_cons (ds_set (i := 3) sc__law_names.nd rfl (by first | exact Or.inl rfl | exact Or.inr rfl) (xe_frz (xf_lst (xa_cons (xe_c (de_str)) (xa_cons (xe_c (de_str)) (xa_cons (xe_c (de_str)) (xa_cons (xe_c (de_str)) (xa_cons (xe_c (de_str)) (xa_cons (xe_c (de_str)) (xa_cons (xe_c (de_str)) (xa_cons (xe_c (de_str)) (xa_cons (xe_c (de_str)) (xa_cons (xe_c (de_str)) (xa_cons (xe_c (de_str)) (xa_cons (xe_c (de_str)) (xa_cons (xe_c (de_str)) xa_nil))))))))))))) (pl_cons (pl_cons (pl_cons (pl_cons (pl_cons (pl_cons (pl_cons (pl_cons (pl_cons (pl_cons (pl_cons (pl_cons (pl_cons pl_nil))))))))))))))))
      (dss_cons (ds_setF (i := 4) sc__law_names.nd rfl (by first | exact Or.inl rfl | exact Or.inr rfl) (xf_lst xa_nil pl_nil))
      (dss_cons (ds_for (passes_of rfl) rfl (xi_r1 (di_rng1 (by rfl) c.n_range (xa_cons (xe_var (pv 1)) xa_nil))) (dg_name (i := 5) sc__law_names.nd rfl (by first | exact Or.inl rfl | exact Or.inr rfl))
      (dss_cons (ds_set (i := 6) sc__law_names.nd rfl (by first | exact Or.inl rfl | exact Or.inr rfl) (de_call (ok__law_draw c) (hr.mono (by decide)) (by rfl) c.g__law_draw c.D__law_draw.kp (b__law_draw c) (takes_of rfl rfl rfl rfl) (xa_cons (xe_var (pv 0)) (xa_cons (xe_c de_int) xa_nil))))
      (dss_cons (zs_if (xt_cmp (DD.op_eq hr.units) (xb_var (pv 6)) (DE_b (xe_c de_int)) (nomark _))
      (dss_one (ds_set (i := 7) sc__law_names.nd rfl (by first | exact Or.inl rfl | exact Or.inr rfl) (z_e (de_ixV ix_any (xe_var (pv 3)) (DE_b (de_call (ok__law_draw c) (hr.mono (by decide)) (by rfl) c.g__law_draw c.D__law_draw.kp (b__law_draw c) (takes_of rfl rfl rfl rfl) (xa_cons (xe_var (pv 0)) (xa_cons (xe_c de_int) xa_nil)))) (fun _ _ => rfl)) zBinV_eq)))
      (dss_one (zs_if (dt_w (xw_and (xt_cmp (DD.op_eq hr.units) (xb_var (pv 6)) (DE_b (xe_c de_int)) (nomark _)) (dw_and1 (xt_cmp (DD.op_ne hr.units) (xb_var (pv 4)) (DE_b (xe_frz (xf_lst xa_nil pl_nil))) (nomark _)))))
      (dss_cons (ds_set (i := 8) sc__law_names.nd rfl (by first | exact Or.inl rfl | exact Or.inr rfl) (de_call (ok__law_draw c) (hr.mono (by decide)) (by rfl) c.g__law_draw c.D__law_draw.kp (b__law_draw c) (takes_of rfl rfl rfl rfl) (xa_cons (xe_var (pv 0)) (xa_cons (xe_callB (de_callB call_lenD (by rfl) c.n_len (by decide +kernel) (xab_cons (DE_b (xe_ix ix_any (xb_var (pv 4)) (DE_b (xe_un un_neg' (DE_b (xe_c de_int)))) (fun _ _ => rfl))) xab_nil))) xa_nil))))
      (dss_one (ds_set (i := 7) sc__law_names.nd rfl (by first | exact Or.inl rfl | exact Or.inr rfl) (z_e (de_binV DD.op_add (z_e (de_binV DD.op_add (xe_slice sl_any (DE_b (xe_ix ix_any (xb_var (pv 4)) (DE_b (xe_un un_neg' (DE_b (xe_c de_int)))) (fun _ _ => rfl))) xo_none (xo_some (xe_var (pv 8)))) (DE_b (z_e (de_ixV ix_any (xe_var (pv 2)) (DE_b (de_call (ok__law_draw c) (hr.mono (by decide)) (by rfl) c.g__law_draw c.D__law_draw.kp (b__law_draw c) (takes_of rfl rfl rfl rfl) (xa_cons (xe_var (pv 0)) (xa_cons (xe_c de_int) xa_nil)))) (fun _ _ => rfl)) zBinV_eq))) zBinV_eq) (DE_b (xe_slice sl_any (DE_b (xe_ix ix_any (xb_var (pv 4)) (DE_b (xe_un un_neg' (DE_b (xe_c de_int)))) (fun _ _ => rfl))) (xo_some (xe_bin DD.op_add (xb_var (pv 8)) (DE_b (xe_c de_int)))) xo_none))) zBinV_eq))))
      (dss_one (ds_set (i := 7) sc__law_names.nd rfl (by first | exact Or.inl rfl | exact Or.inr rfl) (z_e (de_joinV (xe_c (de_str)) (DE_b (DF_e (zf_lc (df_lcW rfl sc__law_names.nd (di_rng1 (by rfl) c.n_range (da_cons (z_e (de_binV DD.op_add (xe_c de_int) (DE_b (de_call (ok__law_draw c) (hr.mono (by decide)) (by rfl) c.g__law_draw c.D__law_draw.kp (b__law_draw c) (takes_of rfl rfl rfl rfl) (xa_cons (xe_var (pv 0)) (xa_cons (xe_c de_int) xa_nil))))) zBinV_eq) da_nil)) (blkOk_by (own := [("_law_k", 9)]) (N := N__law_names) (sc := defScope s26) (by decide +kernel)) (fun _ _ _ _ _ => (dgc_name (vs := [9]) (i := 9) (by decide) sc__law_names.nd rfl (by first | exact Or.inl rfl | exact Or.inr rfl))) (fun _ _ _ _ _ => xdts_nil) (fun _ _ _ _ _ => (z_e (de_ixV ix_any (xe_var (pv 2)) (DE_b (de_call (ok__law_draw c) (hr.mono (by decide)) (by rfl) c.g__law_draw c.D__law_draw.kp (b__law_draw c) takes0 (xa_cons (xe_var (pv 0)) (xa_cons (xe_c de_int) xa_nil)))) (fun _ _ => rfl)) zBinV_eq))))))) zJoin_eq))))))
      (dss_cons (zs_if (xt_cmp (DD.op_in (ru hr)) (xb_var (pv 7)) (xb_var (pv 4)) (by rfl))
      (dss_one (ds_set (i := 7) sc__law_names.nd rfl (by first | exact Or.inl rfl | exact Or.inr rfl) (xe_ix ix_any (DE_b (xe_frz (xf_lc (df_lcW rfl sc__law_names.nd (xi_seq (xe_frz (xf_lst (xa_cons (xe_c (de_str)) (xa_cons (xe_c (de_str)) (xa_cons (xe_c (de_str)) (xa_cons (xe_c (de_str)) (xa_cons (xe_c (de_str)) xa_nil))))) (pl_cons (pl_cons (pl_cons (pl_cons (pl_cons pl_nil)))))))) (blkOk_by (own := [("_law_one", 10)]) (N := N__law_names) (sc := defScope s26) (by decide +kernel)) (fun _ _ _ _ _ => (dgc_name (vs := [10]) (i := 10) (by decide) sc__law_names.nd rfl (by first | exact Or.inl rfl | exact Or.inr rfl))) (fun _ _ _ _ _ => dts_one (xt_cmp (DD.op_notin (ru hr)) (xb_var (pv 10)) (xb_var (pv 4)) (by rfl))) (fun _ _ _ _ _ => (xe_var (pv 10))))))) (DE_b (xe_c de_int)) (fun _ _ => rfl))))
      dss_nil)
      (dss_one (zs_mut (ds_append (dp_var (pv 4)) (xe_var (pv 7)))))))))
      (dss_one (ds_ret (xe_callB (de_callTy call_tupleD (by rfl) c.n_tuple (by decide +kernel) (xab_cons (xb_var (pv 4)) xab_nil)))))))))) (p__law_names)
theorem sc__law_rowsM : FnScope N__law_rowsM ["_law_well_here", "_law_heads", "_law_pool_here", "_law_most"] (defScope s29) := ⟨rfl, rfl, rfl, by decide +kernel, rfl, by decide +kernel, by decide +kernel⟩
theorem b__law_rowsM (c : Fx K mg) : Binds K c.d__law_rowsM ["_law_well_here", "_law_heads", "_law_pool_here", "_law_most"] [] := c.D__law_rowsM.bindsN fun _ _ _ _ _ _ us hl => match us, hl with | [_, _, _, _], _ => rfl
theorem ok__law_rowsM (c : Fx K mg) : FnOk P w K mg base (L2.CX P w) 2 (He.fAd K ("_law_rows", none)) c.d__law_rowsM ["_law_well_here", "_law_heads", "_law_pool_here", "_law_most"] (spD K (f__law_rowsM K)) :=
  dfnW (db := tb__law_rowsM K) c.D__law_rowsM sc__law_rowsM (fun _ _ _ _ h => len__law_rowsM h) (fun cdv A outer s H E hr =>
    (dss_cons (ds_set (i := 4) sc__law_rowsM.nd rfl (by first | exact Or.inl rfl | exact Or.inr rfl) (de_call (ok__law_draw c) (hr.mono (by decide)) (by rfl) c.g__law_draw c.D__law_draw.kp (b__law_draw c) (takes_of rfl rfl rfl rfl) (xa_cons (xe_var (pv 0)) (xa_cons (xe_c de_int) xa_nil))))
      (dss_cons (ds_set (i := 5) sc__law_rowsM.nd rfl (by first | exact Or.inl rfl | exact Or.inr rfl) (z_e (de_ifE (xt_cmp (DD.op_lt) (xb_var (pv 4)) (DE_b (xe_c de_int)) (nomark _)) (xe_ix ix_any (DE_b (xe_frz (xf_lst (xa_cons (xe_c de_int) (xa_cons (xe_c de_int) (xa_cons (xe_var (pv 3)) xa_nil))) (pl_cons (pl_cons (pl_cons pl_nil)))))) (xb_var (pv 4)) (fun _ _ => rfl)) (de_call (ok__law_draw c) (hr.mono (by decide)) (by rfl) c.g__law_draw c.D__law_draw.kp (b__law_draw c) (takes_of rfl rfl rfl rfl) (xa_cons (xe_var (pv 0)) (xa_cons (xe_bin DD.op_add (xb_var (pv 3)) (DE_b (xe_c de_int))) xa_nil)))) zIfE_eq))
      (dss_one (ds_ret (de_newM (zf_lc (df_lcW rfl sc__law_rowsM.nd (xi_r1 (di_rng1 (by rfl) c.n_range (xa_cons (xe_var (pv 5)) xa_nil))) (blkOk_by (own := [("_law_turn", 6)]) (N := N__law_rowsM) (sc := defScope s29) (by decide +kernel)) (fun _ _ _ _ _ => (dgc_name (vs := [6]) (i := 6) (by decide) sc__law_rowsM.nd rfl (by first | exact Or.inl rfl | exact Or.inr rfl))) (fun _ _ _ _ _ => xdts_nil) (fun _ _ _ _ _ => (z_e (de_callTy call_tupleD (by rfl) c.n_tuple (by decide +kernel) (DA_ab (da_cons (DF_e (zf_lc (df_lcW rfl sc__law_rowsM.nd (xi_seq (xe_var (pv 1))) (blkOk_by (own := [("_law_head", 7)]) (N := N__law_rowsM) (by rfl)) (fun _ _ _ _ _ => (dgc_name (vs := [7]) (i := 7) (by decide) sc__law_rowsM.nd rfl (by first | exact Or.inl rfl | exact Or.inr rfl))) (fun _ _ _ _ _ => xdts_nil) (fun _ _ _ _ _ => (z_e (de_ixV ix_any (xe_var (pv 2)) (DE_b (de_call (ok__law_draw c) (hr.mono (by decide)) (by rfl) c.g__law_draw c.D__law_draw.kp (b__law_draw c) takes0 (xa_cons (xe_var (pv 0)) (xa_cons (xe_callB (de_callB call_lenD (by rfl) c.n_len (by decide +kernel) (xab_cons (xb_var (pv 2)) xab_nil))) xa_nil)))) (fun _ _ => rfl)) zBinV_eq))))) da_nil))) zCallV_eq)))))))))) (p__law_rowsM)
theorem sc_is_written : FnScope N_is_written ["thing", "characters", "least", "most"] (defScope s4) := ⟨rfl, rfl, rfl, by decide +kernel, rfl, by decide +kernel, by decide +kernel⟩
theorem b_is_written (c : Fx K mg) : Binds K c.d_is_written ["thing", "characters", "least", "most"] [] := c.D_is_written.bindsN fun _ _ _ _ _ _ us hl => match us, hl with | [_, _, _, _], _ => rfl
theorem ok_is_written (c : Fx K mg) : FnOk P w K mg base (L2.CX P w) 1 (He.fAd K ("is_written", none)) c.d_is_written ["thing", "characters", "least", "most"] (spD K (f_is_written K)) :=
  dfn (db := tb_is_written K) c.D_is_written sc_is_written (fun _ _ _ _ h => len_is_written h) (fun cdv A outer s H E hr =>
    (dss_cons (zs_if (dt_w (xw_or (xt_not (xt_tru (DE_b (xe_isi (k := .str) (by intro z; cases z) (de_isi (by rfl) c.n_isinstance (xb_var (pv 0)) (DE_b (de_tyn (by rfl) c.n_str (by decide +kernel)))))))) (dw_or1 (xt_not (xt_chain (dt_chain (DD.op_le) (DD.op_le) (xb_var (pv 2)) (DE_b (xe_callB (de_callB call_lenD (by rfl) c.n_len (by decide +kernel) (xab_cons (xb_var (pv 0)) xab_nil)))) (xb_var (pv 3))))))))
      (dss_one (ds_ret (xe_c de_bl)))
      dss_nil)
      (dss_one (ds_ret (xe_callB (de_callB (call_allD rfl) (by rfl) c.n_all (by decide +kernel) (xab_cons (DE_b (xe_frz (xf_lc (df_lcW rfl sc_is_written.nd (xi_seq (xe_var (pv 0))) (blkOk_by (own := [("sign", 4)]) (N := N_is_written) (sc := defScope s4) (by decide +kernel)) (fun _ _ _ _ _ => (dgc_name (vs := [4]) (i := 4) (by decide) sc_is_written.nd rfl (by first | exact Or.inl rfl | exact Or.inr rfl))) (fun _ _ _ _ _ => xdts_nil) (fun _ _ _ _ _ => (xe_cmp (DD.op_in (ru hr)) (xb_var (pv 4)) (xb_var (pv 1)) (by rfl))))))) xab_nil))))))) (p_is_written)
theorem sc_is_name : FnScope N_is_name ["thing"] (defScope s5) := ⟨rfl, rfl, rfl, by decide +kernel, rfl, by decide +kernel, by decide +kernel⟩
theorem b_is_name (c : Fx K mg) : Binds K c.d_is_name ["thing"] [] := c.D_is_name.bindsN fun _ _ _ _ _ _ us hl => match us, hl with | [_], _ => rfl
theorem ok_is_name (c : Fx K mg) : FnOk P w K mg base (L2.CX P w) 2 (He.fAd K ("is_name", none)) c.d_is_name ["thing"] (spD K (f_is_name K)) :=
  dfn (db := tb_is_name K) c.D_is_name sc_is_name (fun _ _ _ _ h => len_is_name h) (fun cdv A outer s H E hr =>
    (dss_one (ds_ret (xe_call (de_call (ok_is_written c) (hr.mono (by decide)) (by rfl) c.g_is_written c.D_is_written.kp (b_is_written c) (takes_of rfl rfl rfl rfl) (xa_cons (xe_var (pv 0)) (xa_cons (xe_c (de_gstr (by rfl) c.k_LETTERS)) (xa_cons (xe_c de_int) (xa_cons (xe_c (de_gint (by rfl) c.k_LONGEST_NAME)) xa_nil))))))))) (p_is_name)
theorem sc_are_columns : FnScope N_are_columns ["thing"] (defScope s7) := ⟨rfl, rfl, rfl, by decide +kernel, rfl, by decide +kernel, by decide +kernel⟩
theorem b_are_columns (c : Fx K mg) : Binds K c.d_are_columns ["thing"] [] := c.D_are_columns.bindsN fun _ _ _ _ _ _ us hl => match us, hl with | [_], _ => rfl
theorem ok_are_columns (c : Fx K mg) : FnOk P w K mg base (L2.CX P w) 3 (He.fAd K ("are_columns", none)) c.d_are_columns ["thing"] (spD K (f_are_columns K)) :=
  dfn (db := tb_are_columns K) c.D_are_columns sc_are_columns (fun _ _ _ _ h => len_are_columns h) (fun cdv A outer s H E hr =>
    (dss_cons (zs_if (dt_w (xw_or (xt_not (xt_tru (DE_b (xe_isi (k := .tup) (by intro z; cases z) (de_isi (by rfl) c.n_isinstance (xb_var (pv 0)) (DE_b (de_tyn (by rfl) c.n_tuple (by decide +kernel)))))))) (dw_or1 (xt_not (xt_chain (dt_chain (DD.op_le) (DD.op_le) (DE_b (xe_c de_int)) (DE_b (xe_callB (de_callB call_lenD (by rfl) c.n_len (by decide +kernel) (xab_cons (xb_var (pv 0)) xab_nil)))) (DE_b (xe_c (de_gint (by rfl) c.k_MOST_COLUMNS)))))))))
      (dss_one (ds_ret (xe_c de_bl)))
      dss_nil)
      (dss_one (ds_ret (xe_and (xe_callB (de_callB (call_allD rfl) (by rfl) c.n_all (by decide +kernel) (xab_cons (DE_b (xe_frz (xf_lc (df_lcW rfl sc_are_columns.nd (xi_seq (xe_var (pv 0))) (blkOk_by (own := [("name", 1)]) (N := N_are_columns) (sc := defScope s7) (by decide +kernel)) (fun _ _ _ _ _ => (dgc_name (vs := [1]) (i := 1) (by decide) sc_are_columns.nd rfl (by first | exact Or.inl rfl | exact Or.inr rfl))) (fun _ _ _ _ _ => xdts_nil) (fun _ _ _ _ _ => (xe_call (de_call (ok_is_name c) (hr.mono (by decide)) (by rfl) c.g_is_name c.D_is_name.kp (b_is_name c) takes0 (xa_cons (xe_var (pv 1)) xa_nil)))))))) xab_nil))) (de_one (xe_cmp (DD.op_eq hr.units) (DE_b (xe_lenSet (de_lenSet rfl (by rfl) c.n_len (by rfl) c.n_set (xb_var (pv 0))))) (DE_b (xe_callB (de_callB call_lenD (by rfl) c.n_len (by decide +kernel) (xab_cons (xb_var (pv 0)) xab_nil)))) (nomark _)))))))) (p_are_columns)
theorem sc_NoRow___init__ : FnScope N_NoRow___init__ ["self", "index"] (defScope s1) := ⟨rfl, rfl, rfl, by decide +kernel, rfl, by decide +kernel, by decide +kernel⟩
theorem b_NoRow___init__ (c : Fx K mg) : Binds K c.d_NoRow___init__ ["self", "index"] [] := c.D_NoRow___init__.bindsN fun _ _ _ _ _ _ us hl => match us, hl with | [_, _], _ => rfl
theorem ok_NoRow___init__ (c : Fx K mg) : FnOk P w K mg base (L2.CX P w) 1 (He.fAd K ("NoRow", some "__init__")) c.d_NoRow___init__ ["self", "index"] (spLow (He.ga K "NoRow") "index") := low_ok c.D_NoRow___init__ sc_NoRow___init__ c.o_NoRow.1 c.oa_NoRow rfl (fun X h1 h2 => pe_var (i := 0) (x := "self") (by rw [h1]; rfl) (by rw [h2]; first | exact Or.inl rfl | exact Or.inr (Or.inl rfl) | exact Or.inr (Or.inr rfl))) (fun X h1 h2 => pe_var (i := 1) (x := "index") (by rw [h1]; rfl) (by rw [h2]; first | exact Or.inl rfl | exact Or.inr (Or.inl rfl) | exact Or.inr (Or.inr rfl)))
theorem sc_is_cell : FnScope N_is_cell ["thing"] (defScope s6) := ⟨rfl, rfl, rfl, by decide +kernel, rfl, by decide +kernel, by decide +kernel⟩
theorem b_is_cell (c : Fx K mg) : Binds K c.d_is_cell ["thing"] [] := c.D_is_cell.bindsN fun _ _ _ _ _ _ us hl => match us, hl with | [_], _ => rfl
theorem ok_is_cell (c : Fx K mg) : FnOk P w K mg base (L2.CX P w) 2 (He.fAd K ("is_cell", none)) c.d_is_cell ["thing"] (spD K (f_is_cell K)) :=
  dfn (db := tb_is_cell K) c.D_is_cell sc_is_cell (fun _ _ _ _ h => len_is_cell h) (fun cdv A outer s H E hr =>
    (dss_one (ds_ret (xe_call (de_call (ok_is_written c) (hr.mono (by decide)) (by rfl) c.g_is_written c.D_is_written.kp (b_is_written c) (takes_of rfl rfl rfl rfl) (xa_cons (xe_var (pv 0)) (xa_cons (xe_c (de_gstr (by rfl) c.k_CELL_CHARACTERS)) (xa_cons (xe_c de_int) (xa_cons (xe_c (de_gint (by rfl) c.k_LONGEST_CELL)) xa_nil))))))))) (p_is_cell)
theorem sc_is_row : FnScope N_is_row ["columns", "thing"] (defScope s8) := ⟨rfl, rfl, rfl, by decide +kernel, rfl, by decide +kernel, by decide +kernel⟩
theorem b_is_row (c : Fx K mg) : Binds K c.d_is_row ["columns", "thing"] [] := c.D_is_row.bindsN fun _ _ _ _ _ _ us hl => match us, hl with | [_, _], _ => rfl
theorem ok_is_row (c : Fx K mg) : FnOk P w K mg base (L2.CX P w) 3 (He.fAd K ("is_row", none)) c.d_is_row ["columns", "thing"] (spD K (f_is_row K)) :=
  dfn (db := tb_is_row K) c.D_is_row sc_is_row (fun _ _ _ _ h => len_is_row h) (fun cdv A outer s H E hr =>
    (dss_one (ds_ret (xe_and (xe_isi (k := .tup) (by intro z; cases z) (de_isi (by rfl) c.n_isinstance (xb_var (pv 1)) (DE_b (de_tyn (by rfl) c.n_tuple (by decide +kernel))))) (xe_and (xe_cmp (DD.op_eq hr.units) (DE_b (xe_callB (de_callB call_lenD (by rfl) c.n_len (by decide +kernel) (xab_cons (xb_var (pv 1)) xab_nil)))) (DE_b (xe_callB (de_callB call_lenD (by rfl) c.n_len (by decide +kernel) (xab_cons (xb_var (pv 0)) xab_nil)))) (nomark _)) (de_one (xe_callB (de_callB (call_allD rfl) (by rfl) c.n_all (by decide +kernel) (xab_cons (DE_b (xe_frz (xf_lc (df_lcW rfl sc_is_row.nd (xi_seq (xe_var (pv 1))) (blkOk_by (own := [("cell", 2)]) (N := N_is_row) (sc := defScope s8) (by decide +kernel)) (fun _ _ _ _ _ => (dgc_name (vs := [2]) (i := 2) (by decide) sc_is_row.nd rfl (by first | exact Or.inl rfl | exact Or.inr rfl))) (fun _ _ _ _ _ => xdts_nil) (fun _ _ _ _ _ => (xe_call (de_call (ok_is_cell c) (hr.mono (by decide)) (by rfl) c.g_is_cell c.D_is_cell.kp (b_is_cell c) takes0 (xa_cons (xe_var (pv 2)) xa_nil)))))))) xab_nil))))))))) (p_is_row)
theorem sc_Listing___init__ : FnScope N_Listing___init__ ["self", "columns", "rows"] (defScope s9) := ⟨rfl, rfl, rfl, by decide +kernel, rfl, by decide +kernel, by decide +kernel⟩
theorem b_Listing___init__ (c : Fx K mg) : Binds K c.d_Listing___init__ ["self", "columns", "rows"] [] := by
  obtain ⟨ds, hv, hb⟩ := FunD.binds1 (ps := ["self", "columns", "rows"]) c.D_Listing___init__ 3 1 (by simp) rfl (fun _ _ _ _ _ _ _ us its hl hi => match us, hl, its, hi with | [_, _, _], _, [_], _ => ⟨_, rfl, rfl⟩)
  cases hv
  exact hb
theorem ok_Listing___init__ (c : Fx K mg) : FnOk P w K mg base (L2.CX P w) 4 (He.fAd K ("Listing", some "__init__")) c.d_Listing___init__ ["self", "columns", "rows"] (spD K (f_Listing___init__ K)) :=
  dfn (db := tb_Listing___init__ K) c.D_Listing___init__ sc_Listing___init__ (fun _ _ _ _ h => len_Listing___init__ h) (fun cdv A outer s H E hr =>
    (dss_cons (zs_if (xt_not (xt_tru (DE_b (xe_call (de_call (ok_are_columns c) (hr.mono (by decide)) (by rfl) c.g_are_columns c.D_are_columns.kp (b_are_columns c) (takes_of rfl rfl rfl rfl) (xa_cons (xe_var (pv 1)) xa_nil))))))
      (dss_one (ds_raiseT rfl (takes_of rfl rfl rfl rfl) c.e_NoColumns.1 c.g_NoColumns c.e_NoColumns.2.1 c.e_NoColumns.2.2.1 c.e_NoColumns.2.2.2 rfl))
      dss_nil)
      (dss_cons (zs_if (xt_not (xt_tru (DE_b (xe_isi (k := .tup) (by intro z; cases z) (de_isi (by rfl) c.n_isinstance (xb_var (pv 2)) (DE_b (de_tyn (by rfl) c.n_tuple (by decide +kernel))))))))
      (dss_one (ds_raiseX rfl (takes_of rfl rfl rfl rfl) c.o_NoRow.1 c.o_NoRow.2.1 c.o_NoRow.2.2 (ok_NoRow___init__ c) hr (by decide) (b_NoRow___init__ c) (by rfl) c.g_NoRow (xe_c de_int)))
      dss_nil)
      (dss_cons (ds_for (passes_of rfl) rfl (xi_en (di_enum (by rfl) c.n_enumerate (xe_var (pv 2)))) (xg_tup (dg_tup rfl (xgs_cons (dg_name (i := 3) sc_Listing___init__.nd rfl (by first | exact Or.inl rfl | exact Or.inr rfl)) (xgs_cons (dg_name (i := 4) sc_Listing___init__.nd rfl (by first | exact Or.inl rfl | exact Or.inr rfl)) xgs_nil))))
      (dss_one (zs_if (xt_not (xt_tru (DE_b (xe_call (de_call (ok_is_row c) (hr.mono (by decide)) (by rfl) c.g_is_row c.D_is_row.kp (b_is_row c) (takes_of rfl rfl rfl rfl) (xa_cons (xe_var (pv 1)) (xa_cons (xe_var (pv 4)) xa_nil)))))))
      (dss_one (ds_raiseX rfl (takes_of rfl rfl rfl rfl) c.o_NoRow.1 c.o_NoRow.2.1 c.o_NoRow.2.2 (ok_NoRow___init__ c) hr (by decide) (b_NoRow___init__ c) (by rfl) c.g_NoRow (xe_var (pv 3))))
      dss_nil)))
      (dss_cons (ds_fld (xe_var (pv 0)) (xe_var (pv 1)) c.c_Listing c.a_Listing_heads)
      (dss_one (ds_fldF (i := 0) (pv 0) (xf_listOf (df_listOf (by rfl) c.n_list (xb_var (pv 2)))) c.c_Listing c.a_Listing_lines))))))) (p_Listing___init__)
theorem sc_Listing_columns : FnScope N_Listing_columns ["self"] (defScope s20) := ⟨rfl, rfl, rfl, by decide +kernel, rfl, by decide +kernel, by decide +kernel⟩
theorem b_Listing_columns (c : Fx K mg) : Binds K c.d_Listing_columns ["self"] [] := c.D_Listing_columns.bindsN fun _ _ _ _ _ _ us hl => match us, hl with | [_], _ => rfl
theorem ok_Listing_columns (c : Fx K mg) : FnOk P w K mg base (L2.CX P w) 1 (He.fAd K ("Listing", some "columns")) c.d_Listing_columns ["self"] (spD K (f_Listing_columns K)) :=
  dfn (db := tb_Listing_columns K) c.D_Listing_columns sc_Listing_columns (fun _ _ _ _ h => len_Listing_columns h) (fun cdv A outer s H E hr =>
    (dss_one (ds_ret (xe_fld (de_fld (xe_var (pv 0)) c.c_Listing c.a_Listing_heads))))) (p_Listing_columns)
theorem sc_Listing_rows : FnScope N_Listing_rows ["self"] (defScope s21) := ⟨rfl, rfl, rfl, by decide +kernel, rfl, by decide +kernel, by decide +kernel⟩
theorem b_Listing_rows (c : Fx K mg) : Binds K c.d_Listing_rows ["self"] [] := c.D_Listing_rows.bindsN fun _ _ _ _ _ _ us hl => match us, hl with | [_], _ => rfl
theorem ok_Listing_rows (c : Fx K mg) : FnOk P w K mg base (L2.CX P w) 1 (He.fAd K ("Listing", some "rows")) c.d_Listing_rows ["self"] (spD K (f_Listing_rows K)) :=
  dfn (db := tb_Listing_rows K) c.D_Listing_rows sc_Listing_rows (fun _ _ _ _ h => len_Listing_rows h) (fun cdv A outer s H E hr =>
    (dss_one (ds_ret (xe_frz (xf_listOf (df_listOf (by rfl) c.n_list (xb_fld (db_fld (xe_var (pv 0)) c.c_Listing c.a_Listing_lines)))))))) (p_Listing_rows)
theorem sc_listing_text : FnScope N_listing_text ["listing"] (defScope s23) := ⟨rfl, rfl, rfl, by decide +kernel, rfl, by decide +kernel, by decide +kernel⟩
theorem b_listing_text (c : Fx K mg) : Binds K c.d_listing_text ["listing"] [] := c.D_listing_text.bindsN fun _ _ _ _ _ _ us hl => match us, hl with | [_], _ => rfl
theorem ok_listing_text (c : Fx K mg) : FnOk P w K mg base (L2.CX P w) 2 (He.fAd K ("listing_text", none)) c.d_listing_text ["listing"] (spD K (f_listing_text K)) :=
  dfn (db := tb_listing_text K) c.D_listing_text sc_listing_text (fun _ _ _ _ h => len_listing_text h) (fun cdv A outer s H E hr =>
    (dss_cons (ds_setF (i := 1) sc_listing_text.nd rfl (by first | exact Or.inl rfl | exact Or.inr rfl) (xf_lst (xa_cons (xe_join (de_join (DE_b (xe_c (de_str))) (DE_b (xe_mt0 (de_meth0 (xe_var (pv 0)) c.c_Listing c.m_Listing_columns (FnOk.weak (ok_Listing_columns c) (fun _ _ _ _ h => w_Listing_columns h)) (hr.mono (by decide)) (b_Listing_columns c) (takes_of rfl rfl rfl rfl)))))) xa_nil) (pl_cons pl_nil)))
      (dss_cons (zs_ext (ds_ext (dp_var (pv 1)) (xf_lc (df_lcW rfl sc_listing_text.nd (xi_seq (xe_mt0 (de_meth0 (xe_var (pv 0)) c.c_Listing c.m_Listing_rows (FnOk.weak (ok_Listing_rows c) (fun _ _ _ _ h => w_Listing_rows h)) (hr.mono (by decide)) (b_Listing_rows c) (takes_of rfl rfl rfl rfl)))) (blkOk_by (own := [("row", 2)]) (N := N_listing_text) (sc := defScope s23) (by decide +kernel)) (fun _ _ _ _ _ => (dgc_name (vs := [2]) (i := 2) (by decide) sc_listing_text.nd rfl (by first | exact Or.inl rfl | exact Or.inr rfl))) (fun _ _ _ _ _ => xdts_nil) (fun _ _ _ _ _ => (xe_join (de_join (DE_b (xe_c (de_str))) (xb_var (pv 2)))))))))
      (dss_one (ds_ret (xe_join (de_join (DE_b (xe_c (de_str))) (xb_var (pv 1))))))))) (p_listing_text)
theorem sc__law_listing_text : FnScope N__law_listing_text ["_law_heads", "_law_rows_here"] (defScope s30) := ⟨rfl, rfl, rfl, by decide +kernel, rfl, by decide +kernel, by decide +kernel⟩
theorem b__law_listing_text (c : Fx K mg) : Binds K c.d__law_listing_text ["_law_heads", "_law_rows_here"] [] := c.D__law_listing_text.bindsN fun _ _ _ _ _ _ us hl => match us, hl with | [_, _], _ => rfl
theorem ok__law_listing_text (c : Fx K mg) : FnOk P w K mg base (L2.CX P w) 1 (He.fAd K ("_law_listing_text", none)) c.d__law_listing_text ["_law_heads", "_law_rows_here"] (spD K (f__law_listing_text K)) :=
  dfn (db := tb__law_listing_text K) c.D__law_listing_text sc__law_listing_text (fun _ _ _ _ h => len__law_listing_text h) (fun cdv A outer s H E hr =>
    (dss_one (ds_ret (xe_join (de_join (DE_b (xe_c (de_str))) (DE_b (xe_frz (xf_lc (df_lcW rfl sc__law_listing_text.nd (xi_seq (xe_frz (xf_cat (df_cat (DE_b (xe_frz (xf_lst (xa_cons (xe_var (pv 0)) xa_nil) (pl_cons pl_nil)))) (xb_der (xe_var (pv 1))))))) (blkOk_by (own := [("_law_line", 2)]) (N := N__law_listing_text) (sc := defScope s30) (by decide +kernel)) (fun _ _ _ _ _ => (dgc_name (vs := [2]) (i := 2) (by decide) sc__law_listing_text.nd rfl (by first | exact Or.inl rfl | exact Or.inr rfl))) (fun _ _ _ _ _ => xdts_nil) (fun _ _ _ _ _ => (xe_join (de_join (DE_b (xe_c (de_str))) (xb_var (pv 2)))))))))))))) (p__law_listing_text)
theorem sc__law_same : FnScope N__law_same ["_law_actual", "_law_expected"] (defScope s31) := ⟨rfl, rfl, rfl, by decide +kernel, rfl, by decide +kernel, by decide +kernel⟩
theorem b__law_same (c : Fx K mg) : Binds K c.d__law_same ["_law_actual", "_law_expected"] [] := c.D__law_same.bindsN fun _ _ _ _ _ _ us hl => match us, hl with | [_, _], _ => rfl
theorem okr__law_same (c : Fx K mg) : ∀ n : Nat, FnOk P w K mg base (L2.CX P w) (1 + n) (He.fAd K ("_law_same", none)) c.d__law_same ["_law_actual", "_law_expected"] (spD K (pf (F__law_same K n)))
  | 0 => dfn (db := sNever) c.D__law_same sc__law_same (fun _ _ _ _ h => False.elim h) (fun cdv A outer s H E hr => dss_never) (fun _ _ _ _ h => False.elim h)
  | n + 1 => dfn (db := tb__law_same K n) c.D__law_same sc__law_same (fun _ _ _ _ h => len__law_same h) (fun cdv A outer s H E hr =>
    (dss_cons (zs_if (xt_tru (DE_b (xe_isi (k := .tup) (by intro z; cases z) (de_isi (by rfl) c.n_isinstance (xb_var (pv 1)) (DE_b (de_tyn (by rfl) c.n_tuple (by decide +kernel)))))))
      (dss_cons (zs_if (dt_w (xw_or (xt_not (xt_tru (DE_b (xe_isi (k := .tup) (by intro z; cases z) (de_isi (by rfl) c.n_isinstance (xb_var (pv 0)) (DE_b (de_tyn (by rfl) c.n_tuple (by decide +kernel)))))))) (dw_or1 (xt_cmp (DD.op_ne hr.units) (DE_b (xe_callB (de_callB call_lenD (by rfl) c.n_len (by decide +kernel) (xab_cons (xb_var (pv 0)) xab_nil)))) (DE_b (xe_callB (de_callB call_lenD (by rfl) c.n_len (by decide +kernel) (xab_cons (xb_var (pv 1)) xab_nil)))) (nomark _)))))
      (dss_one (ds_ret (xe_c de_bl)))
      dss_nil)
      (dss_cons (ds_for (passes_of rfl) rfl (xi_r1 (di_rng1 (by rfl) c.n_range (xa_cons (xe_callB (de_callB call_lenD (by rfl) c.n_len (by decide +kernel) (xab_cons (xb_var (pv 1)) xab_nil))) xa_nil))) (dg_name (i := 2) sc__law_same.nd rfl (by first | exact Or.inl rfl | exact Or.inr rfl))
      (dss_one (zs_if (xt_not (xt_tru (DE_b (xe_call (de_call (okr__law_same c n) (hr.mono (Nat.le_refl _)) (by rfl) c.g__law_same c.D__law_same.kp (b__law_same c) (takes_of rfl rfl rfl rfl) (xa_cons (xe_ix ix_any (xb_var (pv 0)) (xb_var (pv 2)) (fun _ _ => rfl)) (xa_cons (xe_ix ix_any (xb_var (pv 1)) (xb_var (pv 2)) (fun _ _ => rfl)) xa_nil)))))))
      (dss_one (ds_ret (xe_c de_bl)))
      dss_nil)))
      (dss_one (ds_ret (xe_c de_bl)))))
      dss_nil)
      (dss_cons (zs_if (xt_tru (DE_b (xe_isi (k := .bl) (by intro z; cases z) (de_isi (by rfl) c.n_isinstance (xb_var (pv 1)) (DE_b (de_tyn (by rfl) c.n_bool (by decide +kernel)))))))
      (dss_one (ds_ret (xe_and (xe_isi (k := .bl) (by intro z; cases z) (de_isi (by rfl) c.n_isinstance (xb_var (pv 0)) (DE_b (de_tyn (by rfl) c.n_bool (by decide +kernel))))) (de_one (xe_cmp (DD.op_eq hr.units) (xb_var (pv 0)) (xb_var (pv 1)) (nomark _))))))
      dss_nil)
      (dss_one (ds_ret (xe_and (xe_isi (k := .str) (by intro z; cases z) (de_isi (by rfl) c.n_isinstance (xb_var (pv 0)) (DE_b (de_tyn (by rfl) c.n_str (by decide +kernel))))) (de_one (xe_cmp (DD.op_eq hr.units) (xb_var (pv 0)) (xb_var (pv 1)) (nomark _))))))))) (p__law_same n)
theorem ok__law_same (c : Fx K mg) : FnOk P w K mg base (L2.CX P w) 5 (He.fAd K ("_law_same", none)) c.d__law_same ["_law_actual", "_law_expected"] (spD K (f__law_same K)) := okr__law_same c 4
theorem sc__law_same_rows : FnScope N__law_same_rows ["_law_actual", "_law_rows_here"] (defScope s32) := ⟨rfl, rfl, rfl, by decide +kernel, rfl, by decide +kernel, by decide +kernel⟩
theorem b__law_same_rows (c : Fx K mg) : Binds K c.d__law_same_rows ["_law_actual", "_law_rows_here"] [] := c.D__law_same_rows.bindsN fun _ _ _ _ _ _ us hl => match us, hl with | [_, _], _ => rfl
theorem ok__law_same_rows (c : Fx K mg) : FnOk P w K mg base (L2.CX P w) 6 (He.fAd K ("_law_same_rows", none)) c.d__law_same_rows ["_law_actual", "_law_rows_here"] (spD K (f__law_same_rows K)) :=
  dfn (db := tb__law_same_rows K) c.D__law_same_rows sc__law_same_rows (fun _ _ _ _ h => len__law_same_rows h) (fun cdv A outer s H E hr =>
    (dss_cons (zs_if (dt_w (xw_or (xt_not (xt_tru (DE_b (xe_isi (k := .lst) (by intro z; cases z) (de_isi (by rfl) c.n_isinstance (xb_var (pv 0)) (DE_b (de_tyn (by rfl) c.n_list (by decide +kernel)))))))) (dw_or1 (xt_cmp (DD.op_ne hr.units) (DE_b (xe_callB (de_callB call_lenD (by rfl) c.n_len (by decide +kernel) (xab_cons (xb_var (pv 0)) xab_nil)))) (DE_b (xe_callB (de_callB call_lenD (by rfl) c.n_len (by decide +kernel) (xab_cons (xb_der (xe_var (pv 1))) xab_nil)))) (nomark _)))))
      (dss_one (ds_ret (xe_c de_bl)))
      dss_nil)
      (dss_cons (ds_for (passes_of rfl) rfl (xi_r1 (di_rng1 (by rfl) c.n_range (xa_cons (xe_callB (de_callB call_lenD (by rfl) c.n_len (by decide +kernel) (xab_cons (xb_der (xe_var (pv 1))) xab_nil))) xa_nil))) (dg_name (i := 2) sc__law_same_rows.nd rfl (by first | exact Or.inl rfl | exact Or.inr rfl))
      (dss_one (zs_if (xt_not (xt_tru (DE_b (xe_call (de_call (ok__law_same c) (hr.mono (by decide)) (by rfl) c.g__law_same c.D__law_same.kp (b__law_same c) (takes_of rfl rfl rfl rfl) (xa_cons (xe_ix ix_any (xb_var (pv 0)) (xb_var (pv 2)) (fun _ _ => rfl)) (xa_cons (xe_ix ix_any (xb_der (xe_var (pv 1))) (xb_var (pv 2)) (fun _ _ => rfl)) xa_nil)))))))
      (dss_one (ds_ret (xe_c de_bl)))
      dss_nil)))
      (dss_one (ds_ret (xe_c de_bl)))))) (p__law_same_rows)
theorem sc__law_told : FnScope N__law_told ["_law_stock", "_law_heads", "_law_rows_here"] (defScope s34) := ⟨rfl, rfl, rfl, by decide +kernel, rfl, by decide +kernel, by decide +kernel⟩
theorem b__law_told (c : Fx K mg) : Binds K c.d__law_told ["_law_stock", "_law_heads", "_law_rows_here"] [] := c.D__law_told.bindsN fun _ _ _ _ _ _ us hl => match us, hl with | [_, _, _], _ => rfl
theorem ok__law_told (c : Fx K mg) : FnOk P w K mg base (L2.CX P w) 7 (He.fAd K ("_law_told", none)) c.d__law_told ["_law_stock", "_law_heads", "_law_rows_here"] (spD K (f__law_told K)) :=
  dfn (db := tb__law_told K) c.D__law_told sc__law_told (fun _ _ _ _ h => len__law_told h) (fun cdv A outer s H E hr =>
    (dss_cons (ds_for (passes_of rfl) rfl (xi_r1 (di_rng1 (by rfl) c.n_range (xa_cons (xe_c de_int) xa_nil))) (dg_name (i := 3) sc__law_told.nd rfl (by first | exact Or.inl rfl | exact Or.inr rfl))
      (dss_cons (ds_set (i := 4) sc__law_told.nd rfl (by first | exact Or.inl rfl | exact Or.inr rfl) (xe_call (de_call (ok_listing_text c) (hr.mono (by decide)) (by rfl) c.g_listing_text c.D_listing_text.kp (b_listing_text c) (takes_of rfl rfl rfl rfl) (xa_cons (xe_var (pv 0)) xa_nil))))
      (dss_one (zs_if (dt_w (xw_or (xt_not (xt_tru (DE_b (xe_isi (k := .str) (by intro z; cases z) (de_isi (by rfl) c.n_isinstance (xb_var (pv 4)) (DE_b (de_tyn (by rfl) c.n_str (by decide +kernel)))))))) (dw_or1 (xt_cmp (DD.op_ne hr.units) (xb_var (pv 4)) (DE_b (xe_call (de_call (ok__law_listing_text c) (hr.mono (by decide)) (by rfl) c.g__law_listing_text c.D__law_listing_text.kp (b__law_listing_text c) (takes_of rfl rfl rfl rfl) (xa_cons (xe_var (pv 1)) (xa_cons (xe_var (pv 2)) xa_nil))))) (nomark _)))))
      (dss_one (ds_ret (xe_c de_bl)))
      dss_nil))))
      (dss_one (ds_ret (xe_and (xe_call (de_call (ok__law_same c) (hr.mono (by decide)) (by rfl) c.g__law_same c.D__law_same.kp (b__law_same c) (takes_of rfl rfl rfl rfl) (xa_cons (xe_mt0 (de_meth0 (xe_var (pv 0)) c.c_Listing c.m_Listing_columns (FnOk.weak (ok_Listing_columns c) (fun _ _ _ _ h => w_Listing_columns h)) (hr.mono (by decide)) (b_Listing_columns c) (takes_of rfl rfl rfl rfl))) (xa_cons (xe_var (pv 1)) xa_nil)))) (de_one (xe_call (de_call (ok__law_same_rows c) (hr.mono (by decide)) (by rfl) c.g__law_same_rows c.D__law_same_rows.kp (b__law_same_rows c) (takes_of rfl rfl rfl rfl) (xa_cons (xe_mt0 (de_meth0 (xe_var (pv 0)) c.c_Listing c.m_Listing_rows (FnOk.weak (ok_Listing_rows c) (fun _ _ _ _ h => w_Listing_rows h)) (hr.mono (by decide)) (b_Listing_rows c) (takes_of rfl rfl rfl rfl))) (xa_cons (xe_var (pv 2)) xa_nil)))))))))) (p__law_told c)
theorem sc_Listing_put : FnScope N_Listing_put ["self", "row"] (defScope s18) := ⟨rfl, rfl, rfl, by decide +kernel, rfl, by decide +kernel, by decide +kernel⟩
theorem b_Listing_put (c : Fx K mg) : Binds K c.d_Listing_put ["self", "row"] [] := c.D_Listing_put.bindsN fun _ _ _ _ _ _ us hl => match us, hl with | [_, _], _ => rfl
theorem ok_Listing_put (c : Fx K mg) : FnOk P w K mg base (L2.CX P w) 4 (He.fAd K ("Listing", some "put")) c.d_Listing_put ["self", "row"] (spD K (f_Listing_put K)) :=
  dfn (db := tb_Listing_put K) c.D_Listing_put sc_Listing_put (fun _ _ _ _ h => len_Listing_put h) (fun cdv A outer s H E hr =>
    (dss_cons (zs_if (xt_not (xt_tru (DE_b (xe_call (de_call (ok_is_row c) (hr.mono (by decide)) (by rfl) c.g_is_row c.D_is_row.kp (b_is_row c) (takes_of rfl rfl rfl rfl) (xa_cons (xe_fld (de_fld (xe_var (pv 0)) c.c_Listing c.a_Listing_heads)) (xa_cons (xe_var (pv 1)) xa_nil)))))))
      (dss_one (ds_raiseX rfl (takes_of rfl rfl rfl rfl) c.o_NoRow.1 c.o_NoRow.2.1 c.o_NoRow.2.2 (ok_NoRow___init__ c) hr (by decide) (b_NoRow___init__ c) (by rfl) c.g_NoRow (xe_callB (de_callB call_lenD (by rfl) c.n_len (by decide +kernel) (xab_cons (xb_fld (db_fld (xe_var (pv 0)) c.c_Listing c.a_Listing_lines)) xab_nil)))))
      dss_nil)
      (dss_one (ds_append (dp_fld (xe_var (pv 0)) c.c_Listing c.a_Listing_lines (pe_fld (xe_var (pv 0)) rfl)) (xe_var (pv 1)))))) (p_Listing_put)
theorem sc_is_whole : FnScope N_is_whole ["thing"] (defScope s3) := ⟨rfl, rfl, rfl, by decide +kernel, rfl, by decide +kernel, by decide +kernel⟩
theorem b_is_whole (c : Fx K mg) : Binds K c.d_is_whole ["thing"] [] := c.D_is_whole.bindsN fun _ _ _ _ _ _ us hl => match us, hl with | [_], _ => rfl
theorem ok_is_whole (c : Fx K mg) : FnOk P w K mg base (L2.CX P w) 1 (He.fAd K ("is_whole", none)) c.d_is_whole ["thing"] (spD K (f_is_whole K)) :=
  dfn (db := tb_is_whole K) c.D_is_whole sc_is_whole (fun _ _ _ _ h => len_is_whole h) (fun cdv A outer s H E hr =>
    (dss_one (ds_ret (xe_and (xe_isi (k := .int) (by intro z; cases z) (de_isi (by rfl) c.n_isinstance (xb_var (pv 0)) (DE_b (de_tyn (by rfl) c.n_int (by decide +kernel))))) (de_one (xe_not (xe_isi (k := .bl) (by intro z; cases z) (de_isi (by rfl) c.n_isinstance (xb_var (pv 0)) (DE_b (de_tyn (by rfl) c.n_bool (by decide +kernel))))))))))) (p_is_whole)
theorem sc_Listing_has : FnScope N_Listing_has ["self", "index"] (defScope s17) := ⟨rfl, rfl, rfl, by decide +kernel, rfl, by decide +kernel, by decide +kernel⟩
theorem b_Listing_has (c : Fx K mg) : Binds K c.d_Listing_has ["self", "index"] [] := c.D_Listing_has.bindsN fun _ _ _ _ _ _ us hl => match us, hl with | [_, _], _ => rfl
theorem ok_Listing_has (c : Fx K mg) : FnOk P w K mg base (L2.CX P w) 2 (He.fAd K ("Listing", some "has")) c.d_Listing_has ["self", "index"] (spD K (f_Listing_has K)) :=
  dfn (db := tb_Listing_has K) c.D_Listing_has sc_Listing_has (fun _ _ _ _ h => len_Listing_has h) (fun cdv A outer s H E hr =>
    (dss_one (ds_ret (xe_and (xe_call (de_call (ok_is_whole c) (hr.mono (by decide)) (by rfl) c.g_is_whole c.D_is_whole.kp (b_is_whole c) (takes_of rfl rfl rfl rfl) (xa_cons (xe_var (pv 1)) xa_nil))) (de_one (xe_chain (de_chain (DD.op_le) (DD.op_lt) (DE_b (xe_c de_int)) (xb_var (pv 1)) (DE_b (xe_callB (de_callB call_lenD (by rfl) c.n_len (by decide +kernel) (xab_cons (xb_fld (db_fld (xe_var (pv 0)) c.c_Listing c.a_Listing_lines)) xab_nil))))))))))) (p_Listing_has)
theorem sc_NoIndex___init__ : FnScope N_NoIndex___init__ ["self", "index"] (defScope s2) := ⟨rfl, rfl, rfl, by decide +kernel, rfl, by decide +kernel, by decide +kernel⟩
theorem b_NoIndex___init__ (c : Fx K mg) : Binds K c.d_NoIndex___init__ ["self", "index"] [] := c.D_NoIndex___init__.bindsN fun _ _ _ _ _ _ us hl => match us, hl with | [_, _], _ => rfl
theorem ok_NoIndex___init__ (c : Fx K mg) : FnOk P w K mg base (L2.CX P w) 1 (He.fAd K ("NoIndex", some "__init__")) c.d_NoIndex___init__ ["self", "index"] (spLow (He.ga K "NoIndex") "index") := low_ok c.D_NoIndex___init__ sc_NoIndex___init__ c.o_NoIndex.1 c.oa_NoIndex rfl (fun X h1 h2 => pe_var (i := 0) (x := "self") (by rw [h1]; rfl) (by rw [h2]; first | exact Or.inl rfl | exact Or.inr (Or.inl rfl) | exact Or.inr (Or.inr rfl))) (fun X h1 h2 => pe_var (i := 1) (x := "index") (by rw [h1]; rfl) (by rw [h2]; first | exact Or.inl rfl | exact Or.inr (Or.inl rfl) | exact Or.inr (Or.inr rfl)))
theorem sc_Listing_drop : FnScope N_Listing_drop ["self", "index"] (defScope s19) := ⟨rfl, rfl, rfl, by decide +kernel, rfl, by decide +kernel, by decide +kernel⟩
theorem b_Listing_drop (c : Fx K mg) : Binds K c.d_Listing_drop ["self", "index"] [] := c.D_Listing_drop.bindsN fun _ _ _ _ _ _ us hl => match us, hl with | [_, _], _ => rfl
theorem ok_Listing_drop (c : Fx K mg) : FnOk P w K mg base (L2.CX P w) 3 (He.fAd K ("Listing", some "drop")) c.d_Listing_drop ["self", "index"] (spD K (f_Listing_drop K)) :=
  dfn (db := tb_Listing_drop K) c.D_Listing_drop sc_Listing_drop (fun _ _ _ _ h => len_Listing_drop h) (fun cdv A outer s H E hr =>
    (dss_cons (zs_if (dt_not (z_t (dt_tru (DE_b (de_meth (xe_var (pv 0)) c.c_Listing c.m_Listing_has (ok_Listing_has c) (hr.mono (by decide)) (b_Listing_has c) (takes_of rfl rfl rfl rfl) (xa_cons (xe_var (pv 1)) xa_nil)))) zTru_eq))
      (dss_one (ds_raiseX rfl (takes_of rfl rfl rfl rfl) c.o_NoIndex.1 c.o_NoIndex.2.1 c.o_NoIndex.2.2 (ok_NoIndex___init__ c) hr (by decide) (b_NoIndex___init__ c) (by rfl) c.g_NoIndex (xe_var (pv 1))))
      dss_nil)
      (dss_one (ds_delAt (dp_fld (xe_var (pv 0)) c.c_Listing c.a_Listing_lines (pe_fld (xe_var (pv 0)) rfl)) (xe_var (pv 1)))))) (p_Listing_drop)
theorem sc_Listing___setitem__ : FnScope N_Listing___setitem__ ["self", "index", "row"] (defScope s11) := ⟨rfl, rfl, rfl, by decide +kernel, rfl, by decide +kernel, by decide +kernel⟩
theorem b_Listing___setitem__ (c : Fx K mg) : Binds K c.d_Listing___setitem__ ["self", "index", "row"] [] := c.D_Listing___setitem__.bindsN fun _ _ _ _ _ _ us hl => match us, hl with | [_, _, _], _ => rfl
theorem ok_Listing___setitem__ (c : Fx K mg) : FnOk P w K mg base (L2.CX P w) 4 (He.fAd K ("Listing", some "__setitem__")) c.d_Listing___setitem__ ["self", "index", "row"] (spD K (f_Listing___setitem__ K)) :=
  dfn (db := tb_Listing___setitem__ K) c.D_Listing___setitem__ sc_Listing___setitem__ (fun _ _ _ _ h => len_Listing___setitem__ h) (fun cdv A outer s H E hr =>
    (dss_cons (zs_if (dt_not (z_t (dt_tru (DE_b (de_meth (xe_var (pv 0)) c.c_Listing c.m_Listing_has (ok_Listing_has c) (hr.mono (by decide)) (b_Listing_has c) (takes_of rfl rfl rfl rfl) (xa_cons (xe_var (pv 1)) xa_nil)))) zTru_eq))
      (dss_one (ds_raiseX rfl (takes_of rfl rfl rfl rfl) c.o_NoIndex.1 c.o_NoIndex.2.1 c.o_NoIndex.2.2 (ok_NoIndex___init__ c) hr (by decide) (b_NoIndex___init__ c) (by rfl) c.g_NoIndex (xe_var (pv 1))))
      dss_nil)
      (dss_cons (zs_if (xt_not (xt_tru (DE_b (xe_call (de_call (ok_is_row c) (hr.mono (by decide)) (by rfl) c.g_is_row c.D_is_row.kp (b_is_row c) (takes_of rfl rfl rfl rfl) (xa_cons (xe_fld (de_fld (xe_var (pv 0)) c.c_Listing c.a_Listing_heads)) (xa_cons (xe_var (pv 2)) xa_nil)))))))
      (dss_one (ds_raiseX rfl (takes_of rfl rfl rfl rfl) c.o_NoRow.1 c.o_NoRow.2.1 c.o_NoRow.2.2 (ok_NoRow___init__ c) hr (by decide) (b_NoRow___init__ c) (by rfl) c.g_NoRow (xe_var (pv 1))))
      dss_nil)
      (dss_one (ds_setAt (xe_var (pv 2)) (dp_fld (xe_var (pv 0)) c.c_Listing c.a_Listing_lines (pe_fld (xe_var (pv 0)) rfl)) (xe_var (pv 1))))))) (p_Listing___setitem__)
theorem sc__law_change : FnScope N__law_change ["_law_well_here", "_law_stock", "_law_heads", "_law_pool_here", "_law_rows_here"] (defScope s33) := ⟨rfl, rfl, rfl, by decide +kernel, rfl, by decide +kernel, by decide +kernel⟩
theorem b__law_change (c : Fx K mg) : Binds K c.d__law_change ["_law_well_here", "_law_stock", "_law_heads", "_law_pool_here", "_law_rows_here"] [] := c.D__law_change.bindsN fun _ _ _ _ _ _ us hl => match us, hl with | [_, _, _, _, _], _ => rfl
theorem ok__law_change (c : Fx K mg) : FnOk P w K mg base (L2.CX P w) 5 (He.fAd K ("_law_change", none)) c.d__law_change ["_law_well_here", "_law_stock", "_law_heads", "_law_pool_here", "_law_rows_here"] (spD K (f__law_change K)) :=
  dfn (db := tb__law_change K) c.D__law_change sc__law_change (fun _ _ _ _ h => len__law_change h) (fun cdv A outer s H E hr =>
    (dss_cons (ds_set (i := 5) sc__law_change.nd rfl (by first | exact Or.inl rfl | exact Or.inr rfl) (de_call (ok__law_draw c) (hr.mono (by decide)) (by rfl) c.g__law_draw c.D__law_draw.kp (b__law_draw c) (takes_of rfl rfl rfl rfl) (xa_cons (xe_var (pv 0)) (xa_cons (xe_c de_int) xa_nil))))
      (dss_cons (ds_set (i := 6) sc__law_change.nd rfl (by first | exact Or.inl rfl | exact Or.inr rfl) (z_e (de_callTy call_tupleD (by rfl) c.n_tuple (by decide +kernel) (DA_ab (da_cons (DF_e (zf_lc (df_lcW rfl sc__law_change.nd (xi_seq (xe_var (pv 2))) (blkOk_by (own := [("_law_head", 8)]) (N := N__law_change) (sc := defScope s33) (by decide +kernel)) (fun _ _ _ _ _ => (dgc_name (vs := [8]) (i := 8) (by decide) sc__law_change.nd rfl (by first | exact Or.inl rfl | exact Or.inr rfl))) (fun _ _ _ _ _ => xdts_nil) (fun _ _ _ _ _ => (z_e (de_ixV ix_any (xe_var (pv 3)) (DE_b (de_call (ok__law_draw c) (hr.mono (by decide)) (by rfl) c.g__law_draw c.D__law_draw.kp (b__law_draw c) takes0 (xa_cons (xe_var (pv 0)) (xa_cons (xe_callB (de_callB call_lenD (by rfl) c.n_len (by decide +kernel) (xab_cons (xb_var (pv 3)) xab_nil))) xa_nil)))) (fun _ _ => rfl)) zBinV_eq))))) da_nil))) zCallV_eq))
      (dss_cons (zs_if (dt_w (xw_or (xt_cmp (DD.op_eq hr.units) (xb_var (pv 5)) (DE_b (xe_c de_int)) (nomark _)) (dw_or1 (xt_cmp (DD.op_eq hr.units) (xb_der (xe_var (pv 4))) (DE_b (xe_frz (xf_lst xa_nil pl_nil))) (nomark _)))))
      (dss_cons (ds_expr (de_meth (xe_var (pv 1)) c.c_Listing c.m_Listing_put (ok_Listing_put c) (hr.mono (by decide)) (b_Listing_put c) (takes_of rfl rfl rfl rfl) (xa_cons (xe_var (pv 6)) xa_nil)))
      (dss_one (zs_mutM (ds_append (dp_var (pv 4)) (xe_var (pv 6))))))
      (dss_cons (ds_set (i := 7) sc__law_change.nd rfl (by first | exact Or.inl rfl | exact Or.inr rfl) (de_call (ok__law_draw c) (hr.mono (by decide)) (by rfl) c.g__law_draw c.D__law_draw.kp (b__law_draw c) (takes_of rfl rfl rfl rfl) (xa_cons (xe_var (pv 0)) (xa_cons (xe_callB (de_callB call_lenD (by rfl) c.n_len (by decide +kernel) (xab_cons (xb_der (xe_var (pv 4))) xab_nil))) xa_nil))))
      (dss_one (zs_if (xt_cmp (DD.op_eq hr.units) (xb_var (pv 5)) (DE_b (xe_c de_int)) (nomark _))
      (dss_cons (ds_expr (de_meth (xe_var (pv 1)) c.c_Listing c.m_Listing_drop (ok_Listing_drop c) (hr.mono (by decide)) (b_Listing_drop c) (takes_of rfl rfl rfl rfl) (xa_cons (xe_var (pv 7)) xa_nil)))
      (dss_one (zs_mutM (ds_popAt (dp_var (pv 4)) (xe_var (pv 7))))))
      (dss_cons (ds_setO (ok_Listing___setitem__ c) (hr.mono (by decide)) (b_Listing___setitem__ c) (takes_of rfl rfl rfl rfl) c.nsq_Listing c.s_Listing___setitem__.1 c.s_Listing___setitem__.2 (xe_var (pv 6)) (xe_var (pv 1)) (xe_var (pv 7)))
      (dss_one (ds_setAt (xe_var (pv 6)) (dp_var (pv 4)) (xe_var (pv 7)))))))))
      (dss_one (ds_ret (xe_c de_bl))))))) (p__law_change c)
theorem sc_law : FnScope N_law ["_law_script"] (defScope s35) := ⟨rfl, rfl, rfl, by decide +kernel, rfl, by decide +kernel, by decide +kernel⟩
theorem b_law (c : Fx K mg) : Binds K c.d_law ["_law_script"] [] := c.D_law.bindsN fun _ _ _ _ _ _ us hl => match us, hl with | [_], _ => rfl
theorem ok_law (c : Fx K mg) : FnOk P w K mg base (L2.CX P w) 8 (He.fAd K ("law", none)) c.d_law ["_law_script"] (spD K (f_law K)) :=
  dfn (db := tb_law K) c.D_law sc_law (fun _ _ _ _ h => len_law h) (fun cdv A outer s H E hr =>
    (dss_cons (ds_for (passes_of rfl) rfl (xi_r1 (di_rng1 (by rfl) c.n_range (xa_cons (xe_callB (de_callB (call_maxD rfl) (by rfl) c.n_max (by decide +kernel) (xab_cons (DE_b (xe_c de_int)) (xab_cons (DE_b (xe_callB (de_callB call_lenD (by rfl) c.n_len (by decide +kernel) (xab_cons (xb_var (pv 0)) xab_nil)))) xab_nil)))) xa_nil))) (dg_name (i := 1) sc_law.nd rfl (by first | exact Or.inl rfl | exact Or.inr rfl))
      (dss_cons (ds_set (i := 2) sc_law.nd rfl (by first | exact Or.inl rfl | exact Or.inr rfl) (de_call (ok__law_well c) (hr.mono (by decide)) (by rfl) c.g__law_well c.D__law_well.kp (b__law_well c) (takes_of rfl rfl rfl rfl) (xa_cons (xe_var (pv 0)) (xa_cons (xe_var (pv 1)) xa_nil))))
      (dss_cons (ds_set (i := 3) sc_law.nd rfl (by first | exact Or.inl rfl | exact Or.inr rfl) (de_call (ok__law_draw c) (hr.mono (by decide)) (by rfl) c.g__law_draw c.D__law_draw.kp (b__law_draw c) (takes_of rfl rfl rfl rfl) (xa_cons (xe_var (pv 2)) (xa_cons (xe_c de_int) xa_nil))))
      (dss_cons (zs_par rfl sc_law.nd (i := 4) (j := 5) rfl rfl (by decide) rfl rfl (da_cons (de_call (ok__law_names c) (hr.mono (by decide)) (by rfl) c.g__law_names c.D__law_names.kp (b__law_names c) (takes_of rfl rfl rfl rfl) (da_cons (xe_var (pv 2)) (da_cons (z_e (de_binV DD.op_add (xe_c de_int) (DE_b (de_call (ok__law_draw c) (hr.mono (by decide)) (by rfl) c.g__law_draw c.D__law_draw.kp (b__law_draw c) (takes_of rfl rfl rfl rfl) (xa_cons (xe_var (pv 2)) (xa_cons (xe_c de_int) xa_nil))))) zBinV_eq) da_nil))) (da_cons (de_call (ok__law_pool c) (hr.mono (by decide)) (by rfl) c.g__law_pool c.D__law_pool.kp (b__law_pool c) (takes_of rfl rfl rfl rfl) (xa_cons (xe_var (pv 2)) xa_nil)) da_nil)))
      (dss_cons (ds_set (i := 6) sc_law.nd rfl (by first | exact Or.inl rfl | exact Or.inr rfl) (de_call (ok__law_rowsM c) (hr.mono (by decide)) (by rfl) c.g__law_rows c.D__law_rowsM.kp (b__law_rowsM c) (takes_of rfl rfl rfl rfl) (xa_cons (xe_var (pv 2)) (xa_cons (xe_var (pv 4)) (xa_cons (xe_var (pv 5)) (xa_cons (xe_ifE (xt_cmp (DD.op_lt) (xb_var (pv 1)) (DE_b (xe_c de_int)) (nomark _)) (xe_c de_int) (xe_c de_int)) xa_nil))))))
      (dss_cons (ds_set (i := 7) sc_law.nd rfl (by first | exact Or.inl rfl | exact Or.inr rfl) (de_make c.mk_Listing (ok_Listing___init__ c) (hr.mono (by decide)) (by rfl) c.g_Listing (b_Listing___init__ c) .nil (fun _ _ => .nil) (takes_of rfl rfl rfl rfl) (xa_cons (xe_var (pv 4)) (xa_cons (xe_callB (de_callTy call_tupleD (by rfl) c.n_tuple (by decide +kernel) (xab_cons (xb_der (xe_var (pv 6))) xab_nil))) xa_nil))))
      (dss_cons (zs_if (dt_not (z_t (dt_tru (DE_b (de_call (ok__law_told c) (hr.mono (by decide)) (by rfl) c.g__law_told c.D__law_told.kp (b__law_told c) (takes_of rfl rfl rfl rfl) (xa_cons (xe_var (pv 7)) (xa_cons (xe_var (pv 4)) (xa_cons (xe_var (pv 6)) xa_nil)))))) zTru_eq))
      (dss_one (ds_ret (xe_c de_bl)))
      dss_nil)
      (dss_one (ds_for (passes_of rfl) rfl (xi_r1 (di_rng1 (by rfl) c.n_range (xa_cons (xe_var (pv 3)) xa_nil))) (dg_name (i := 8) sc_law.nd rfl (by first | exact Or.inl rfl | exact Or.inr rfl))
      (dss_one (zs_if (dt_w (z_w (dw_or (dt_not (z_t (dt_tru (DE_b (de_call (ok__law_change c) (hr.mono (by decide)) (by rfl) c.g__law_change c.D__law_change.kp (b__law_change c) (takes_of rfl rfl rfl rfl) (xa_cons (xe_var (pv 2)) (xa_cons (xe_var (pv 7)) (xa_cons (xe_var (pv 4)) (xa_cons (xe_var (pv 5)) (xa_cons (xe_var (pv 6)) xa_nil)))))))) zTru_eq)) (dw_or1 (dt_not (z_t (dt_tru (DE_b (de_call (ok__law_told c) (hr.mono (by decide)) (by rfl) c.g__law_told c.D__law_told.kp (b__law_told c) (takes_of rfl rfl rfl rfl) (xa_cons (xe_var (pv 7)) (xa_cons (xe_var (pv 4)) (xa_cons (xe_var (pv 6)) xa_nil)))))) zTru_eq)))) zOrT_eq))
      (dss_one (ds_ret (xe_c de_bl)))
      dss_nil)))))))))))
      (dss_one (ds_ret (xe_c de_bl))))) (p_law c)
theorem bs_law (c : Fx K mg) (s : Shared) (u : Value) : BindsTo s c.d_law ⟨[u], []⟩ [("_law_script", u)] := FunD.bindsA (ps := ["_law_script"]) c.D_law (fun _ _ _ _ _ _ us hl => match us, hl with | [_], _ => rfl) s [u] rfl
end
end Lk50

set_option Elab.async false
set_option linter.all false
set_option maxRecDepth 100000
set_option maxHeartbeats 0
open PySem PySem.W PySem.Calls PyProof.Rows
theorem PySem.Challenge.cw_labelsdown_k50_listing_texts_holds : PySem.Challenge.rw_labelsdown_k50_listing_texts.Holds := by
  w_on; o_law
  refine HandSHeadRun.head_any (r := OpenLaw.row PySem.Challenge.rw_labelsdown_k50_listing_texts) (q := view (OpenLaw.row PySem.Challenge.rw_labelsdown_k50_listing_texts).prog [34]) (H := Lk50.hk) (ob := Lk50.ob) (M := 4000) (loose := Lk50.names) (d := HandSHeadRun.topDef (OpenLaw.row PySem.Challenge.rw_labelsdown_k50_listing_texts).prog 34) (kwd := []) Lk50.ob_eq
    (by kernel_rfl) (fun s => by kernel_rfl) Lk50.run (by kernel_rfl) (by kernel_rfl) (by kernel_rfl) (by rfl) (by first | assumption | decide +kernel) (by decide +kernel) ⟨rfl, rfl, rfl, rfl, rfl, by decide +kernel⟩ ?hw ?hc
  case hw => w_witness2
  case hc =>
    refine DD.walk_bits (l := PySem.Challenge.rw_labelsdown_k50_listing_texts) (k := 8) (x := "_law_script") rfl (by kernel_rfl) ⟨rfl, by decide, by decide⟩ ?F
    case F =>
      intro w mg fa h Y G hmg0
      obtain ⟨K, KX, c⟩ := Y
      obtain ⟨c⟩ := Lk50.fx_of KX G c
      have hmg : mg ("law" : PySem.Str) = some (.ref fa) := by
        have e : (HandSHeadRun.topDef (OpenLaw.row PySem.Challenge.rw_labelsdown_k50_listing_texts).prog 34).name = ("law" : PySem.Str) := by kernel_rfl
        rw [← e]
        exact hmg0
      have e := hmg.symm.trans c.g_law
      cases e
      exact ⟨K, c.d_law, Lk50.f_law K, KX, Lk50.bs_law c, Lk50.law_law c, fun base _ _ => Lk50.ok_law c⟩
